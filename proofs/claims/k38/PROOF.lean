import PyProof.Rows.All
import Wide.All
import OpenK.AllK
import Wide.FinOn
import PySem.Challenge.RW_whens_k38_plain_mays_and_parts
import HandS.Base
import HandS.Call
import HandS.List
import HandS.Comp
import HandS.Deep
import HandS.Wide
import HandS.TupMul
import HandS.Walk
import HandS.Flow
import HandS.TupAny
import HandS.TupLe
import HandS.Text
import HandS.IsInst
import HandS.Words
import KE.KeyNested
import KE.KDictKeyed
import KE.KDictWalk
import PyProof.ReprReads
import PyProof.EqLayable
import PyProof.ReprRoads
import PyProof.P3In
import PyProof.ReprStr
import HandS.Strs
import HandS.Dict
import HandS.RaiseMore
import KE.KDictPairs
import HandS.Style
import HandS.Conv
import HandS.More
import HandS.Iter
import HandS.Zip
import KE.GoesMore
import HandS.WordsDict
import HandS.MapObj
import KE.KDictZip
import KE.KDictDisplayH
import HandS.SetFor
import HandS.Ends
import HandS.Defaults
import HandS.HeadEnd
import HandS.HeadHook1
import HandS.HeadHook2
import HandS.HeadHook3
import HandS.Head2
import KE.KStateDown
import Lean
import HandS.Head0
import HandS.Head1
set_option Elab.async false
set_option linter.all false
set_option maxRecDepth 100000
set_option maxHeartbeats 0
namespace Ev
open PySem

abbrev D := PyData
def notDict : D → Bool
  | .dict _ => false
  | _ => true
mutual
/-- a key of any depth -/
def nkD : D → Option NestedKey
  | .none => some .none
  | .int i => some (.num i)
  | .str x => some (.text x)
  | .tuple ds => (nkDs ds).map .tup
  | .bool _ => none
  | .list _ => none
  | .dict _ => none
def nkDs : List D → Option (List NestedKey)
  | [] => some []
  | d :: ds => (nkD d).bind fun k => (nkDs ds).map (k :: ·)
end
/-- a dict whose keys are tuples: it bears a mark ahead -/
def isN : List (D × D) → Bool
  | (.bool true, .none) :: _ => true
  | _ => false
/-- a locked dict of texts: it bears another mark -/
def isL : List (D × D) → Bool
  | (.bool false, .none) :: _ => true
  | _ => false
def kEq (a b : D) : Bool := match nkD a, nkD b with
  | some x, some y => NestedKey.beq x y
  | _, _ => false
def keyN (k : D) : Bool := match nkD k with
  | some (.tup ks) => decide ((NestedKey.tup ks).depth ≤ 8)
  | _ => false
def nGet (kvs : List (D × D)) (k : D) : Option D := (kvs.find? fun p => kEq p.1 k).map (·.2)
def nPut (kvs : List (D × D)) (k d : D) : List (D × D) := if kvs.any (fun p => kEq p.1 k) then kvs.map (fun p => if kEq p.1 k then (p.1, d) else p) else kvs ++ [(k, d)]
abbrev nD (kvs : List (D × D)) : D := .dict ((.bool true, .none) :: kvs)
abbrev tL (kvs : List (D × D)) : D := .dict ((.bool false, .none) :: kvs)
/-- an item -/
def nAt (kvs : List (D × D)) (y : D) : Option D := match kvs with
  | (.bool true, .none) :: r => if keyN y then nGet r y else none
  | _ => none
/-- is it in? -/
def nHas (kvs : List (D × D)) (y : D) : Option Bool := match kvs with
  | [] => if keyN y then some false else none
  | (.bool true, .none) :: r => if keyN y then some (nGet r y).isSome else none
  | _ => none
/-- an item is laid -/
def nSet (kvs : List (D × D)) (y d : D) : Option (List (D × D)) := match kvs with
  | [] => if keyN y then some ((.bool true, .none) :: nPut [] y d) else none
  | (.bool true, .none) :: r => if keyN y then some ((.bool true, .none) :: nPut r y d) else none
  | _ => none
/-- how a slot holds its value: shared, owned by this frame, lent by the caller -/
inductive Md where
  | val | own | bor
  deriving DecidableEq
abbrev Slot := Option (Md × D)
abbrev Sg := List Slot
/-- what an expression gives: a shared value, the owned one of a slot, a new unshared one -/
inductive Rv where
  | pur (d : D) | loc (i : Nat) | new (d : D)
/-- the data of a slot that is owned or lent -/
def ownAt (g : Sg) (i : Nat) : Option (Md × D) := match g[i]? with
  | some (some (.val, _)) => none
  | some (some (m, d)) => some (m, d)
  | _ => none
/-- a list that a slot owns -/
def lstAt (g : Sg) (i : Nat) : Option (Md × D) := match ownAt g i with
  | some (m, .list xs) => some (m, .list xs)
  | _ => none
/-- a dict that a slot owns -/
def dctAt (g : Sg) (i : Nat) : Option (Md × List (D × D)) := match g[i]? with
  | some (some (.val, _)) => none
  | some (some (m, .dict kvs)) => some (m, kvs)
  | _ => none
def Rv.data (g : Sg) : Rv → Option D
  | .pur d => some d
  | .new d => some d
  | .loc i => (lstAt g i).map (·.2)
/-- an operand: a new value is shared from here on -/
def Rv.op : Rv → Rv
  | .new d => .pur d
  | r => r
def Rv.pure? : Rv → Option D
  | .pur d => some d
  | .new d => some d
  | .loc _ => none

def datas (g : Sg) : List Rv → Option (List D)
  | [] => some []
  | r :: rs => (r.data g).bind fun d => (datas g rs).map (d :: ·)

inductive BOp where
  | add | sub | mul | fdiv | mod | pow
inductive COp where
  | eq | ne | lt | le | gt | ge | is_ | isnot | in_ | notin
inductive Bl where
  | len | abs | max2 | min2 | maxL | minL | int | str | repr | tuple | list | all | sum | sorted | dict
inductive Mt where
  | index | tindex | join
inductive Mu where
  | append | extend
inductive Pat where
  | nm (i : Nat)
  | tp (ps : List Pat)
inductive Cst where
  | non | bl (b : Bool) | int (i : Int) | str (s : Str)
def Cst.d : Cst → D
  | .non => .none
  | .bl b => .bool b
  | .int i => .int i
  | .str s => .str s
/-- further forms of expressions: a dict shown (text keys; one tuple as its key), d.get(k, x), sorted(set(xs)), xs[::n], s.split(t), s.startswith(t) -/
inductive Xp where
  | dis (ks : List Str) | dis1 | get | sst | stp | split | starts
/-- further ways to change a list -/
inductive Mx where
  | ins | clr
inductive E where
  | var (i : Nat)
  | mv (i : Nat)
  | glo (k : Nat)
  | cst (c : Cst)
  | neg (a : E)
  | not (a : E)
  | bin (o : BOp) (a b : E)
  | cmp (o : COp) (a b : E)
  | chn (o p : COp) (a b c : E)
  | and (a b : E)
  | or (a b : E)
  | ite (c a b : E)
  | tup (es : List E)
  | lst (es : List E)
  | idx (a i : E)
  | kix (k : Nat) (i : E)
  | dget (i : Nat) (k : E)
  | dhas (t : Bool) (i : Nat) (k : E)
  | dlen (i : Nat)
  | tk (c : Nat) (a : E)
  | lrng (one : Bool) (i j : Int)
  | rg1 (t : Bool) (a : E)
  | zpt (a b : E)
  | tix (o a : E)
  | pop (i : Nat) (a : E)
  | slc (a : E) (lo hi : Option E)
  | rev (a : E)
  | call (f : Nat) (es : List E)
  | cd (f : Nat) (es : List E)
  | rd (f : Nat) (es : List E)
  | blt (b : Bl) (es : List E)
  | isi (a : E) (ts : List String)
  | mth (m : Mt) (o : E) (es : List E)
  | rng (es : List E)
  | enu (a : E)
  | zip (a b : E)
  | comp (el : E) (p : Pat) (it : E) (c : Option E) (own : List (Str × Nat))
  | ext (x : Xp) (es : List E)
inductive S where
  | asg (p : Pat) (e : E)
  | own (i : Nat) (e : E)
  | setI (i : Nat) (ix e : E)
  | aug (i : Nat) (o : BOp) (e : E)
  | mut (m : Mu) (i : Nat) (e : E)
  | expr (e : E)
  | ite (c : E) (a b : List S)
  | for_ (p : Pat) (it : E) (b : List S)
  | while_ (c : E) (b : List S)
  | ret (e : E)
  | retN
  | brk
  | cont
  | pass
  | frz (i : Nat)
  | lck (i : Nat)
  | dnew (i : Nat)
  | dset (i : Nat) (k e : E)
  | ddis (i : Nat) (ks : List Str) (es : List E)
  | dupd (i : Nat) (ks : List Str) (es : List E)
  | mux (m : Mx) (i : Nat) (es : List E)
  | nev

def mulOk (i j : Int) : Bool := decide (i.natAbs.log2 + j.natAbs.log2 < 1000000)
def divOk (j : Int) : Bool := decide (j ≠ 0) && decide (j.natAbs.log2 < 9000)
def powOk (i j : Int) : Bool := decide (0 ≤ j) && decide (j ≤ 1000000) && decide (i.natAbs < 2 ^ 64)
/-- a tuple, so many times -/
def repOk (xs : List D) (j : Int) : Bool := decide (0 ≤ j) && decide (j ≤ 1000) && decide (xs.length ≤ 1000)
def dBin : BOp → D → D → Option Rv
  | .add, .int i, .int j => some (.pur (.int (i + j)))
  | .add, .str x, .str y => if x.length + y.length ≤ sizeLine then some (.pur (.str (x ++ y))) else none
  | .add, .tuple xs, .tuple ys => if xs.length + ys.length ≤ sizeLine then some (.pur (.tuple (xs ++ ys))) else none
  | .add, .list xs, .list ys => if xs.length + ys.length ≤ sizeLine then some (.new (.list (xs ++ ys))) else none
  | .sub, .int i, .int j => some (.pur (.int (i - j)))
  | .mul, .int i, .int j => if mulOk i j then some (.pur (.int (i * j))) else none
  | .mul, .tuple xs, .int j => if repOk xs j then some (.pur (.tuple (List.replicate j.toNat xs).flatten)) else none
  | .mul, .list xs, .int j => if repOk xs j then some (.new (.list (List.replicate j.toNat xs).flatten)) else none
  | .fdiv, .int i, .int j => if divOk j then some (.pur (.int (if 0 < j then i / j else i.fdiv j))) else none
  | .mod, .int i, .int j => if j = 0 then none else some (.pur (.int (if 0 < j then i % j else i.fmod j)))
  | .pow, .int i, .int j => if powOk i j then some (.pur (.int (i ^ j.toNat))) else none
  | _, _, _ => none
def seq? : D → Option (List D)
  | .list xs => some xs
  | .tuple xs => some xs
  | .str z => some (z.cps.toList.map fun c => .str ⟨#[c]⟩)
  | .dict kvs => if isN kvs then some (kvs.tail.map (·.1)) else if isL kvs then some (kvs.tail.map (·.1)) else none
  | _ => none
def shp (a : D) : Bool := SeqAt.shaped a
def dEq (a b : D) : Option Bool := match a, b with
  | .str x, .str y => some (x == y)
  | a, b => if shp a && shp b then some (PyData.eqv a b) else none
/-- a dict's value -/
def dGet (kvs : List (D × D)) (z : Str) : Option D := (kvs.find? fun p => match p.1 with
  | .str y => y == z
  | _ => false).map (·.2)
/-- a text of one sign -/
def sign? (z : Str) : Option Nat := match z.cps.toList with
  | [c] => some c
  | _ => none
def dCmp : COp → D → D → Option Bool
  | .eq, a, b => dEq a b
  | .ne, a, b => (dEq a b).map (!·)
  | .lt, .int i, .int j => some (decide (i < j))
  | .lt, .str a, .str b => some (decide (a.cps.toList < b.cps.toList))
  | .le, .int i, .int j => some (decide (i ≤ j))
  | .le, .str a, .str b => some (!decide (b.cps.toList < a.cps.toList))
  | .gt, .str a, .str b => some (decide (b.cps.toList < a.cps.toList))
  | .ge, .str a, .str b => some (!decide (a.cps.toList < b.cps.toList))
  | .gt, .int i, .int j => some (decide (j < i))
  | .ge, .int i, .int j => some (decide (j ≤ i))
  | .is_, a, .none => some (match a with | .none => true | _ => false)
  | .isnot, a, .none => some (match a with | .none => false | _ => true)
  | .is_, .bool a, .bool b => some (decide (a = b))
  | .isnot, .bool a, .bool b => some (!decide (a = b))
  | .in_, a, .list ds => if shp a && shp (.list ds) then some (ds.any fun z => PyData.eqv z a) else none
  | .notin, a, .list ds => if shp a && shp (.list ds) then some (!ds.any fun z => PyData.eqv z a) else none
  | .in_, a, .tuple ds => if shp a && shp (.tuple ds) then some (ds.any fun z => PyData.eqv z a) else none
  | .notin, a, .tuple ds => if shp a && shp (.tuple ds) then some (!ds.any fun z => PyData.eqv z a) else none
  | .in_, .str z, .dict kvs => if isN kvs then none else some (dGet kvs z).isSome
  | .in_, .tuple ks, .dict kvs => nHas kvs (.tuple ks)
  | .notin, .str z, .dict kvs => if isN kvs then none else some (!(dGet kvs z).isSome)
  | .notin, .tuple ks, .dict kvs => (nHas kvs (.tuple ks)).map (!·)
  | .in_, .str z, .str t => (sign? z).map fun c => decide (c ∈ t.cps.toList)
  | .notin, .str z, .str t => (sign? z).map fun c => !decide (c ∈ t.cps.toList)
  | _, _, _ => none
/-- a key is stored -/
def keyIs (z : Str) (p : D × D) : Bool := match p.1 with
  | .str y => decide (y = z)
  | _ => false
def dPut (kvs : List (D × D)) (z : Str) (d : D) : List (D × D) := if kvs.any (keyIs z) then kvs.map (fun p => if keyIs z p then (p.1, d) else p) else kvs ++ [(.str z, d)]
/-- pairs, a text first -/
def prs? : List D → Option (List (Str × D))
  | [] => some []
  | .tuple [.str k, d] :: r => (prs? r).map ((k, d) :: ·)
  | _ => none
/-- pairs, a tuple that is a key first -/
def prN? : List D → Option (List (D × D))
  | [] => some []
  | .tuple [k, d] :: r => if keyN k then (prN? r).map ((k, d) :: ·) else none
  | _ => none
def nMerge (kvs : List (D × D)) (ps : List (D × D)) : List (D × D) := ps.foldl (fun acc p => nPut acc p.1 p.2) kvs
def dMerge (kvs : List (D × D)) (ps : List (Str × D)) : List (D × D) := ps.foldl (fun acc p => dPut acc p.1 p.2) kvs
/-- a dict into a dict -/
def dMergeD (kvs more : List (D × D)) : List (D × D) := more.foldl (fun acc p => match p.1 with
  | .str z => dPut acc z p.2
  | _ => acc) kvs
def dIdx : D → D → Option D
  | .dict kvs, .str z => dGet kvs z
  | .dict kvs, .tuple ks => nAt kvs (.tuple ks)
  | .list xs, .int i => L2.atI xs i
  | .tuple xs, .int i => L2.atI xs i
  | .str z, .int i => if z.length ≤ sizeLine then (L2.atI z.cps.toList i).map fun c => .str ⟨#[c]⟩ else none
  | _, _ => none
def cutD (xs : List D) (lo hi : Option Int) : List D := (xs.drop (HT.sIx xs.length 0 lo)).take (HT.sIx xs.length xs.length hi - HT.sIx xs.length 0 lo)
def dSlc : D → Option Int → Option Int → Option Rv
  | .list xs, lo, hi => some (.new (.list (cutD xs lo hi)))
  | .tuple xs, lo, hi => some (.pur (.tuple (cutD xs lo hi)))
  | .str z, lo, hi => if z.length ≤ sizeLine then some (.pur (.str (L2.cutS z lo hi))) else none
  | _, _, _ => none
def dTru : D → Option Bool
  | .none => some false
  | .bool b => some b
  | .int i => some (i != 0)
  | .str x => if x.length ≤ sizeLine then some ((x.length : Int) != 0) else none
  | .list xs => some (!xs.isEmpty)
  | .tuple xs => some (!xs.isEmpty)
  | .dict _ => none
def dTy : D → String
  | .none => "NoneType"
  | .bool _ => "bool"
  | .int _ => "int"
  | .str _ => "str"
  | .list _ => "list"
  | .tuple _ => "tuple"
  | .dict _ => "dict"
/-- isinstance of a built-in class -/
def dIs (d : D) (t : String) : Bool := dTy d == t || (dTy d == "bool" && t == "int")
def dIsAny (d : D) (ts : List String) : Bool := ts.any fun t => dIs d t
def firstIx (d : D) : List D → Option Nat
  | [] => none
  | z :: zs => if PyData.eqv z d then some 0 else (firstIx d zs).map (· + 1)
def strs? : List D → Option (List Str)
  | [] => some []
  | .str x :: r => (strs? r).map (x :: ·)
  | _ => none
def ints? : List D → Option (List Int)
  | [] => some []
  | .int x :: r => (ints? r).map (x :: ·)
  | _ => none
def maxI : Int → List Int → Int
  | m, [] => m
  | m, x :: r => maxI (if x > m then x else m) r
def minI : Int → List Int → Int
  | m, [] => m
  | m, x :: r => minI (if x < m then x else m) r
def bools? : List D → Option (List Bool)
  | [] => some []
  | .bool x :: r => (bools? r).map (x :: ·)
  | _ => none
def smallI (j : Int) : Bool := decide (-(2 ^ 62) ≤ j) && decide (j < 2 ^ 62)
def rangeL (lo : Int) (n : Nat) : List D := (List.range n).map fun (i : Nat) => .int (lo + (i : Int))
def dRng : List D → Option (List D)
  | [.int j] => if smallI j then some (rangeL 0 j.toNat) else none
  | [.int i, .int j] => if smallI i && smallI j then some (rangeL i (j - i).toNat) else none
  | _ => none
def smallR (i j : Int) : Bool := decide (0 ≤ i) && decide (i ≤ 1000) && decide (0 ≤ j) && decide (j ≤ 1000)
def dEnu : D → Option (List D)
  | .list xs => some ((List.range xs.length).zipWith (fun (i : Nat) x => .tuple [.int (i : Int), x]) xs)
  | _ => none
def dZip : D → D → Option (List D)
  | .list xs, .list ys => some (List.zipWith (fun x y => .tuple [x, y]) xs ys)
  | .tuple xs, .tuple ys => some (List.zipWith (fun x y => .tuple [x, y]) xs ys)
  | .list xs, .tuple ys => some (List.zipWith (fun x y => .tuple [x, y]) xs ys)
  | .tuple xs, .list ys => some (List.zipWith (fun x y => .tuple [x, y]) xs ys)
  | .str z, .tuple ys => some (List.zipWith (fun x y => .tuple [x, y]) (z.cps.toList.map fun c => .str ⟨#[c]⟩) ys)
  | _, _ => none
/-- texts by code points -/
def insS (x : Str) : List Str → List Str
  | [] => [x]
  | y :: r => if Spec.ltCps y.cps.toList x.cps.toList then y :: insS x r else x :: y :: r
def sortS : List Str → List Str
  | [] => []
  | x :: r => insS x (sortS r)
def reprOk (d : D) : Bool := d.showable && !d.hasDict && decide (d.depth ≤ 60) && decide (d.shown.length ≤ sizeLine)
def dBlt : Bl → List D → Option Rv
  | .len, [.str y] => if y.length ≤ sizeLine then some (.pur (.int (y.length : Int))) else none
  | .len, [.list xs] => some (.pur (.int (xs.length : Int)))
  | .len, [.tuple xs] => some (.pur (.int (xs.length : Int)))
  | .abs, [.int i] => some (.pur (.int (if i < 0 then -i else i)))
  | .max2, [.int i, .int j] => some (.pur (.int (if j > i then j else i)))
  | .min2, [.int i, .int j] => some (.pur (.int (if j < i then j else i)))
  | .maxL, [.list xs] => (ints? xs).bind fun is => match is with
    | [] => none
    | x :: r => some (.pur (.int (maxI x r)))
  | .minL, [.list xs] => (ints? xs).bind fun is => match is with
    | [] => none
    | x :: r => some (.pur (.int (minI x r)))
  | .int, [.int i] => some (.pur (.int i))
  | .int, [.bool b] => some (.pur (.int (if b then 1 else 0)))
  | .str, [.int i] => if i.natAbs.log2 < 1920 then some (.pur (.str (toString i : String))) else none
  | .repr, [d] => if reprOk d then some (.pur (.str d.shown)) else none
  | .tuple, [.list xs] => some (.pur (.tuple xs))
  | .tuple, [.tuple xs] => some (.pur (.tuple xs))
  | .list, [.list xs] => some (.new (.list xs))
  | .list, [.tuple xs] => some (.new (.list xs))
  | .all, [.list xs] => (bools? xs).map fun bs => .pur (.bool (bs.all id))
  | .sum, [.list xs] => (ints? xs).map fun is => .pur (.int is.sum)
  | .dict, [.list xs] => match prs? xs with
    | some ps => some (.pur (.dict (dMerge [] ps)))
    | none => (prN? xs).map fun ps => .pur (nD (nMerge [] ps))
  | .dict, [.tuple xs] => (prs? xs).map fun ps => .pur (.dict (dMerge [] ps))
  | .sorted, [.list xs] => (strs? xs).bind fun ss => if ss.length < 64 then some (.new (.list ((sortS ss).map .str))) else none
  | .sorted, [.tuple xs] => (strs? xs).bind fun ss => if ss.length < 64 then some (.new (.list ((sortS ss).map .str))) else none
  | _, _ => none
def dTix : D → D → Option Rv
  | .tuple xs, .str z => match strs? xs with
    | some _ => (firstIx (.str z) xs).map fun j => .pur (.int (j : Nat))
    | none => none
  | _, _ => none
def dMth : Mt → D → List D → Option Rv
  | .index, .list xs, [d] => if shp d && shp (.list xs) then (firstIx d xs).map fun j => .pur (.int (j : Nat)) else none
  | .tindex, .tuple xs, [.str z] => match strs? xs with
    | some _ => (firstIx (.str z) xs).map fun j => .pur (.int (j : Nat))
    | none => none
  | .join, .str a, [.list xs] => (strs? xs).bind fun ys => if (ys.map (·.length)).sum + ys.length * a.length ≤ 16777216 then some (.pur (.str (Txt.join a ys))) else none
  | _, _, _ => none

/-- each n-th -/
def every (n : Nat) (xs : List D) : List D := (List.range ((xs.length + n - 1) / n)).filterMap fun k => xs[k * n]?
/-- xs[::j] -/
def dStep (xs : List D) (j : Int) : Option (List D) := if j = -1 then some xs.reverse else if 1 ≤ j ∧ j ≤ 1000 then some (every j.toNat xs) else none
def insI (x : Int) : List Int → List Int
  | [] => [x]
  | y :: r => if x < y then x :: y :: r else if x = y then y :: r else y :: insI x r
/-- rising, each once -/
def sstI : List Int → List Int
  | [] => []
  | x :: r => insI x (sstI r)
def dedS : List Str → List Str
  | [] => []
  | x :: r => if x ∈ r then dedS r else x :: dedS r
def dGetOr : List (D × D) → D → D → Option D
  | kvs, .str z, d => if isN kvs then none else some ((dGet kvs z).getD d)
  | kvs, .tuple ks, d => match kvs with
    | (.bool true, .none) :: r => if keyN (.tuple ks) then some ((nGet r (.tuple ks)).getD d) else none
    | _ => none
  | _, _, _ => none
def dX : Xp → List D → Option Rv
  | .dis ks, ds => if ks.length = ds.length ∧ ds.length ≤ 15 ∧ ks ≠ [] then some (.new (.dict (dMerge [] (ks.zip ds)))) else none
  | .dis1, [k, d] => match k with
    | .tuple _ => (nSet [] k d).map fun kvs => .new (.dict kvs)
    | _ => none
  | .get, [.dict kvs, y, d] => (dGetOr kvs y d).map .pur
  | .sst, [.list xs] => match ints? xs with
    | some is => if is.length < 64 then some (.new (.list ((sstI is).map .int))) else none
    | none => (strs? xs).bind fun ss => if ss.length ≤ 1000 ∧ (dedS ss).length < 64 then some (.new (.list ((sortS (dedS ss)).map .str))) else none
  | .stp, [.list xs, .int j] => (dStep xs j).map fun ys => .new (.list ys)
  | .stp, [.tuple xs, .int j] => (dStep xs j).map fun ys => .pur (.tuple ys)
  | .split, [.str a, .str b] => if b.length ≠ 0 ∧ a.length + 2 ≤ sizeLine then some (.new (.list ((Txt.split a b).map .str))) else none
  | .starts, [.str a, .str b] => some (.pur (.bool (Txt.startswith a b)))
  | _, _ => none
def dMx : Mx → List D → List D → Option (List D)
  | .ins, xs, [.int i, d] => if xs.length < sizeLine ∧ 0 ≤ i ∧ i < 2 ^ 62 then some (xs.take i.toNat ++ [d] ++ xs.drop i.toNat) else none
  | .clr, _, [] => some []
  | _, _, _ => none

def isBor : Slot → Bool
  | some (.bor, _) => true
  | _ => false
def setV (g : Sg) (i : Nat) (m : Md) (d : D) : Option Sg := match g[i]? with
  | some s => if isBor s then none else some (g.set i (some (m, d)))
  | none => none
mutual
def bindP : Pat → D → Sg → Option Sg
  | .nm i, d, g => setV g i .val d
  | .tp ps, .tuple ds, g => bindPs ps ds g
  | .tp _, _, _ => none
def bindPs : List Pat → List D → Sg → Option Sg
  | [], [], g => some g
  | p :: ps, d :: ds, g => (bindP p d g).bind fun g1 => bindPs ps ds g1
  | _, _, _ => none
end
def wipeG (g : Sg) : List (Str × Nat) → Sg
  | [] => g
  | p :: r => (wipeG g r).set p.2 none
/-- the slots of a block's own names are free ones -/
def freeG (g : Sg) (own : List (Str × Nat)) : Bool := own.all fun p => match g[p.2]? with
  | some none => true
  | some (some (.val, _)) => true
  | _ => false
/-- back from a block: its own names' slots as they were -/
def backG (g g' : Sg) : List (Str × Nat) → Sg
  | [] => g'
  | p :: r => (backG g g' r).set p.2 (g[p.2]?.getD none)
/-- arguments for a call: shared values; owned ones are lent -/
def argOf (g : Sg) : Rv → Option (Md × D)
  | .pur d => some (.val, d)
  | .new d => some (.val, d)
  | .loc i => (ownAt g i).map fun p => (.bor, p.2)
def argsOf (g : Sg) : List Rv → Option (List (Md × D))
  | [] => some []
  | r :: rs => (argOf g r).bind fun a => (argsOf g rs).map (a :: ·)
def locs : List Rv → List Nat
  | [] => []
  | .loc i :: r => i :: locs r
  | _ :: r => locs r
def giveBack (g : Sg) : List Rv → List (Md × D) → Sg
  | .loc i :: rs, (_, d) :: as => match g[i]? with
    | some (some (m, _)) => (giveBack g rs as).set i (some (m, d))
    | _ => giveBack g rs as
  | _ :: rs, _ :: as => giveBack g rs as
  | _, _ => g

/-- what a call gives: its value, its arguments as they are left -/
abbrev Fn := Nat → List (Md × D) → Option (Rv × List (Md × D))
mutual
/-- without lists and dicts -/
def plainD : D → Bool
  | .list _ => false
  | .dict _ => false
  | .tuple ds => plainDs ds
  | _ => true
def plainDs : List D → Bool
  | [] => true
  | d :: ds => plainD d && plainDs ds
end
/-- the value of a call that may have read lists of this frame -/
def plainRv : Rv → Option Rv
  | .pur d => if plainD d then some (.pur d) else none
  | _ => none
def compGo (bind : D → Sg → Option Sg) (c : Sg → Option (Bool × Sg)) (el : Sg → Option (Rv × Sg)) (own : List (Str × Nat)) : List D → List D → Sg → Option (List D × Sg)
  | [], acc, g => some (acc, g)
  | d :: ds, acc, g => (bind d (wipeG g own)).bind fun g1 => (c g1).bind fun bc => if bc.1 then (el bc.2).bind fun rg => (rg.1.pure?).bind fun y => compGo bind c el own ds (acc ++ [y]) (backG g rg.2 own)
      else compGo bind c el own ds acc (backG g bc.2 own)
section
variable (C : Fn) (G : Nat → Option D)
mutual
def evE : E → Sg → Option (Rv × Sg)
  | .var i, g => match g[i]? with
    | some (some (.val, d)) => some (.pur d, g)
    | some (some (_, _)) => some (.loc i, g)
    | _ => none
  | .mv i, g => match g[i]? with
    | some (some (.own, d)) => some (.new d, g.set i none)
    | _ => none
  | .glo k, g => (G k).bind fun d => if notDict d then some (.pur d, g) else none
  | .cst c, g => some (.pur c.d, g)
  | .neg a, g => (evE a g).bind fun ra => match ra.1.data ra.2 with
    | some (.int i) => some (.pur (.int (-i)), ra.2)
    | _ => none
  | .not a, g => (evE a g).bind fun ra => (ra.1.data ra.2).bind fun d => (dTru d).map fun b => (.pur (.bool (!b)), ra.2)
  | .bin o a b, g => (evE a g).bind fun ra => (evE b ra.2).bind fun rb => (ra.1.data rb.2).bind fun x => (rb.1.data rb.2).bind fun y => (dBin o x y).map fun r => (r, rb.2)
  | .cmp o a b, g => (evE a g).bind fun ra => (evE b ra.2).bind fun rb => (ra.1.data rb.2).bind fun x => (rb.1.data rb.2).bind fun y => (dCmp o x y).map fun r => (.pur (.bool r), rb.2)
  | .chn o p a b c, g => (evE a g).bind fun ra => (evE b ra.2).bind fun rb => (ra.1.data rb.2).bind fun x => (rb.1.data rb.2).bind fun y => (dCmp o x y).bind fun r =>
      if r then (evE c rb.2).bind fun rc => (rb.1.data rc.2).bind fun y' => (rc.1.data rc.2).bind fun z => (dCmp p y' z).map fun r' => (.pur (.bool r'), rc.2) else some (.pur (.bool false), rb.2)
  | .and a b, g => (evE a g).bind fun ra => match ra.1.data ra.2 with
    | some (.bool true) => evE b ra.2
    | some (.bool false) => some (.pur (.bool false), ra.2)
    | _ => none
  | .or a b, g => (evE a g).bind fun ra => match ra.1.data ra.2 with
    | some (.bool false) => evE b ra.2
    | some (.bool true) => some (.pur (.bool true), ra.2)
    | _ => none
  | .ite c a b, g => (evE c g).bind fun rc => (rc.1.data rc.2).bind fun d => (dTru d).bind fun t => if t then evE a rc.2 else evE b rc.2
  | .tup es, g => (evEs es g).bind fun rs => if rs.1.length ≤ sizeLine then some (.pur (.tuple rs.1), rs.2) else none
  | .lst es, g => (evEs es g).bind fun rs => if rs.1.length ≤ sizeLine then some (.new (.list rs.1), rs.2) else none
  | .idx a i, g => (evE a g).bind fun ra => (evE i ra.2).bind fun ri => (ra.1.data ri.2).bind fun x => (ri.1.data ri.2).bind fun y => (dIdx x y).map fun d => (.pur d, ri.2)
  | .kix k i, g => (evE i g).bind fun ri => (ri.1.data ri.2).bind fun y => (G k).bind fun x => match x, y with
    | .dict kvs, .str z => (dGet kvs z).map fun d => (.pur d, ri.2)
    | _, _ => none
  | .dget i k, g => (dctAt g i).bind fun _ => (evE k g).bind fun rk => (rk.1.data rk.2).bind fun y => (dctAt rk.2 i).bind fun o => match y with
    | .str z => (dGet o.2 z).map fun d => (.pur d, rk.2)
    | .tuple ks => (nAt o.2 (.tuple ks)).map fun d => (.pur d, rk.2)
    | _ => none
  | .dhas t i k, g => (evE k g).bind fun rk => (rk.1.data rk.2).bind fun y => (dctAt rk.2 i).bind fun o => match y with
    | .str z => if isN o.2 then none else some (.pur (.bool ((dGet o.2 z).isSome == t)), rk.2)
    | .tuple ks => (nHas o.2 (.tuple ks)).map fun b => (.pur (.bool (b == t)), rk.2)
    | _ => none
  | .dlen i, g => (dctAt g i).bind fun o => if isN o.2 then none else some (.pur (.int (o.2.length : Int)), g)
  | .tix o a, g => (evE o g).bind fun ro => (ro.1.pure?).bind fun x => (evE a ro.2).bind fun ra => (ra.1.data ra.2).bind fun d => (dTix x d).map fun r => (r, ra.2)
  | .pop i a, g => (lstAt g i).bind fun _ => (evE a g).bind fun r => (r.1.pure?).bind fun y => (lstAt r.2 i).bind fun o => match o.2, y with
    | .list xs, .int j => if smallI j then (L2.ixN xs.length j).bind fun k => (xs[k]?).map fun d => (.pur d, r.2.set i (some (o.1, .list (xs.eraseIdx k)))) else none
    | _, _ => none
  | .lrng _ i j, g => if smallR i j then some (.new (.list (rangeL i (j - i).toNat)), g) else none
  | .rg1 t a, g => (evE a g).bind fun r => match r.1 with
    | .pur (.int j) => if smallR 0 j then some (if t then .pur (.tuple (rangeL 0 j.toNat)) else .new (.list (rangeL 0 j.toNat)), r.2) else none
    | _ => none
  | .zpt a b, g => (evE a g).bind fun ra => (ra.1.pure?).bind fun x => (evE b ra.2).bind fun rb => (rb.1.pure?).bind fun y => match x, y with
    | .list xs, .list ys => some (.pur (.tuple (List.zipWith (fun x y => .tuple [x, y]) xs ys)), rb.2)
    | _, _ => none
  | .slc a lo hi, g => (evE a g).bind fun ra => (evO lo ra.2).bind fun l => (evO hi l.2).bind fun h => (ra.1.data h.2).bind fun x => (dSlc x l.1 h.1).map fun r => (r, h.2)
  | .rev a, g => (evE a g).bind fun ra => (ra.1.data ra.2).bind fun x => match x with
    | .tuple xs => some (.pur (.tuple xs.reverse), ra.2)
    | .list xs => some (.new (.list xs.reverse), ra.2)
    | _ => none
  | .tk c a, g => (evE a g).bind fun ra => (ra.1.data ra.2).bind fun x => match x with
    | .tuple xs => if c < xs.length then some (.pur (.tuple (xs.take (c + 1)).reverse), ra.2) else none
    | _ => none
  | .call f es, g => (evAs es g).bind fun rs => (argsOf rs.2 rs.1).bind fun as => if (locs rs.1).Nodup then (C f as).map fun q => (q.1, giveBack rs.2 rs.1 q.2) else none
  | .cd f es, g => (evAs es g).bind fun rs => (argsOf rs.2 rs.1).bind fun as => if (locs rs.1).Nodup then (C f ((.bor, .dict []) :: as)).bind fun q => match q.2 with
    | _ :: as' => some (q.1, giveBack rs.2 rs.1 as')
    | [] => none
    else none
  | .rd f es, g => (evAs es g).bind fun rs => (datas rs.2 rs.1).bind fun ds => (C f (ds.map fun d => (.val, d))).bind fun q => (plainRv q.1).map fun r => (r, rs.2)
  | .blt b es, g => (evAs es g).bind fun rs => (datas rs.2 rs.1).bind fun ds => (dBlt b ds).map fun r => (r, rs.2)
  | .isi a ts, g => (evE a g).bind fun ra => (ra.1.data ra.2).map fun d => (.pur (.bool (dIsAny d ts)), ra.2)
  | .mth m o es, g => (evE o g).bind fun ro => (ro.1.data ro.2).bind fun _ => (evAs es ro.2).bind fun rs => (ro.1.data rs.2).bind fun x => (datas rs.2 rs.1).bind fun ds => (dMth m x ds).map fun r => (r, rs.2)
  | .rng es, g => (evEs es g).bind fun rs => (dRng rs.1).map fun l => (.pur (.list l), rs.2)
  | .enu a, g => (evE a g).bind fun r => (r.1.pure?).bind fun d => (dEnu d).map fun l => (.pur (.list l), r.2)
  | .zip a b, g => (evE a g).bind fun ra => (ra.1.pure?).bind fun x => (evE b ra.2).bind fun rb => (rb.1.pure?).bind fun y => (dZip x y).map fun l => (.pur (.list l), rb.2)
  | .comp el p it c own, g => (evE it g).bind fun is => (is.1.pure?).bind fun dd => (seq? dd).bind fun items => if freeG is.2 own then
      (compGo (bindP p) (fun g => match c with
        | none => some (true, g)
        | some c => (evE c g).bind fun rc => (rc.1.data rc.2).bind fun d => (dTru d).map fun t => (t, rc.2)) (evE el) own items [] is.2).bind fun r => if r.1.length ≤ 1000000 then some (.new (.list r.1), r.2) else none
      else none
  | .ext x es, g => (evEs es g).bind fun rs => (dX x rs.1).map fun r => (r, rs.2)
def evEs : List E → Sg → Option (List D × Sg)
  | [], g => some ([], g)
  | e :: es, g => (evE e g).bind fun r => (r.1.pure?).bind fun d => (evEs es r.2).map fun q => (d :: q.1, q.2)
def evAs : List E → Sg → Option (List Rv × Sg)
  | [], g => some ([], g)
  | e :: es, g => (evE e g).bind fun r => (evAs es r.2).map fun q => (r.1.op :: q.1, q.2)
def evO : Option E → Sg → Option (Option Int × Sg)
  | none, g => some (none, g)
  | some e, g => (evE e g).bind fun r => match r.1 with
    | .pur (.int i) => some (some i, r.2)
    | _ => none
end
def evT (e : E) (g : Sg) : Option (Bool × Sg) := (evE C G e g).bind fun r => (r.1.data r.2).bind fun d => (dTru d).map fun t => (t, r.2)

/-- how a statement ends -/
inductive Out where
  | nx (g : Sg) | bk (g : Sg) | ct (g : Sg) | rt (r : Rv) (g : Sg)
def evI (e : E) (g : Sg) : Option (List D × Sg) := (evE C G e g).bind fun r => (r.1.pure?).bind fun d => (seq? d).map fun xs => (xs, r.2)
def forGo (bind : D → Sg → Option Sg) (body : Sg → Option Out) : List D → Sg → Option Out
  | [], g => some (.nx g)
  | d :: ds, g => (bind d g).bind fun g1 => (body g1).bind fun o => match o with
    | .nx g2 => forGo bind body ds g2
    | .ct g2 => forGo bind body ds g2
    | .bk g2 => some (.nx g2)
    | .rt r g2 => some (.rt r g2)
def whileGo (c : Sg → Option (Bool × Sg)) (body : Sg → Option Out) : Nat → Sg → Option Out
  | 0, _ => none
  | n + 1, g => (c g).bind fun bg => if bg.1 then (body bg.2).bind fun o => match o with
      | .nx g2 => whileGo c body n g2
      | .ct g2 => whileGo c body n g2
      | .bk g2 => some (.nx g2)
      | .rt r g2 => some (.rt r g2)
    else some (.nx bg.2)
def dMut : Mu → D → D → Option D
  | .append, .list xs, d => if xs.length < sizeLine then some (.list (xs ++ [d])) else none
  | .extend, .list xs, .list ys => if xs.length + ys.length ≤ sizeLine then some (.list (xs ++ ys)) else none
  | .extend, .list xs, .tuple ys => if xs.length + ys.length ≤ sizeLine then some (.list (xs ++ ys)) else none
  | _, _, _ => none
def dSet : D → D → D → Option D
  | .list xs, .int i, d => (L2.ixN xs.length i).map fun j => .list (xs.set j d)
  | _, _, _ => none
def dAug : BOp → D → D → Option D
  | .add, .int i, .int j => some (.int (i + j))
  | .sub, .int i, .int j => some (.int (i - j))
  | _, _, _ => none
variable (W : Nat)
mutual
def evS : S → Sg → Option Out
  | .asg p e, g => (evE C G e g).bind fun r => (r.1.pure?).bind fun d => (bindP p d r.2).map .nx
  | .own i e, g => (evE C G e g).bind fun r => match r.1 with
    | .new d => (setV r.2 i .own d).map .nx
    | _ => none
  | .setI i ix e, g => (lstAt g i).bind fun _ => (evE C G e g).bind fun r => (r.1.pure?).bind fun d => (evE C G ix r.2).bind fun q => (q.1.pure?).bind fun k => (lstAt q.2 i).bind fun o => (dSet o.2 k d).map fun z => .nx (q.2.set i (some (o.1, z)))
  | .aug i o e, g => match g[i]? with
    | some (some (.val, x)) => (evE C G e g).bind fun r => (r.1.pure?).bind fun d => (dAug o x d).bind fun z => (setV r.2 i .val z).map .nx
    | _ => none
  | .mut m i e, g => (lstAt g i).bind fun _ => (evE C G e g).bind fun r => (r.1.pure?).bind fun d => (lstAt r.2 i).bind fun o => (dMut m o.2 d).map fun z => .nx (r.2.set i (some (o.1, z)))
  | .expr e, g => (evE C G e g).map fun r => .nx r.2
  | .ite c a b, g => (evT C G c g).bind fun t => if t.1 then evSs a t.2 else evSs b t.2
  | .for_ p it b, g => (evI C G it g).bind fun r => forGo (bindP p) (evSs b) r.1 r.2
  | .while_ c b, g => whileGo (evT C G c) (evSs b) W g
  | .ret e, g => (evE C G e g).bind fun r => match r.1 with
    | .loc _ => none
    | v => some (.rt v r.2)
  | .retN, g => some (.rt (.pur .none) g)
  | .brk, g => some (.bk g)
  | .cont, g => some (.ct g)
  | .pass, g => some (.nx g)
  | .frz i, g => match g[i]? with
    | some (some (.own, d)) => some (.nx (g.set i (some (.val, d))))
    | some (some (.val, _)) => some (.nx g)
    | _ => none
  | .lck i, g => match g[i]? with
    | some (some (.own, .dict kvs)) => if isN kvs = false ∧ isL kvs = false then some (.nx (g.set i (some (.val, tL kvs)))) else none
    | some (some (.val, .dict kvs)) => if isL kvs then some (.nx g) else none
    | _ => none
  | .dnew i, g => (setV g i .own (.dict [])).map .nx
  | .dset i k e, g => (dctAt g i).bind fun _ => (evE C G e g).bind fun r => (r.1.pure?).bind fun d => (evE C G k r.2).bind fun q => (q.1.pure?).bind fun kk => (dctAt q.2 i).bind fun o => match kk with
    | .str z => if isN o.2 = false ∧ o.2.length ≤ 100000 then some (.nx (q.2.set i (some (o.1, .dict (dPut o.2 z d))))) else none
    | .tuple ks => if o.2.length ≤ 100000 then (nSet o.2 (.tuple ks) d).map fun kvs => .nx (q.2.set i (some (o.1, .dict kvs))) else none
    | _ => none
  | .ddis i ks es, g => (evEs C G es g).bind fun r => if ks.length = r.1.length ∧ r.1.length ≤ 15 ∧ ks ≠ [] then (setV r.2 i .own (.dict (dMerge [] (ks.zip r.1)))).map .nx else none
  | .dupd i ks es, g => (dctAt g i).bind fun o0 => (evEs C G es g).bind fun r => (dctAt r.2 i).bind fun o => if ks.length = r.1.length ∧ r.1.length ≤ 15 ∧ ks ≠ [] ∧ isN o0.2 = false ∧ isN o.2 = false ∧ o.2.length ≤ 100000 then some (.nx (r.2.set i (some (o.1, .dict (dMergeD o.2 (dMerge [] (ks.zip r.1))))))) else none
  | .mux m i es, g => (lstAt g i).bind fun _ => (evEs C G es g).bind fun r => (lstAt r.2 i).bind fun o => match o.2 with
    | .list xs => (dMx m xs r.1).map fun ys => .nx (r.2.set i (some (o.1, .list ys)))
    | _ => none
  | .nev, _ => none
def evSs : List S → Sg → Option Out
  | [], g => some (.nx g)
  | s :: ss, g => (evS s g).bind fun o => match o with
    | .nx g1 => evSs ss g1
    | o => some o
end
end
/-- a def: which parameters are lent, how many slots, its body -/
structure FD where
  pm : List Bool
  n : Nat
  body : List S
def modesOk : List Bool → List (Md × D) → Bool
  | [], [] => true
  | b :: bs, (m, _) :: as => (if b then decide (m = .bor) else decide (m = .val)) && modesOk bs as
  | _, _ => false
def startG (n : Nat) (as : List (Md × D)) : Sg := as.map some ++ List.replicate (n - as.length) none
/-- the arguments as a body leaves them -/
def leftOf (g : Sg) : Nat → List (Md × D) → Option (List (Md × D))
  | _, [] => some []
  | i, (.val, d) :: as => (leftOf g (i + 1) as).map ((.val, d) :: ·)
  | i, (_, _) :: as => match g[i]? with
    | some (some (.bor, d)) => (leftOf g (i + 1) as).map ((.bor, d) :: ·)
    | _ => none
section
variable (W : Nat) (G : Nat → Option D) (T : List FD)
def endF (as : List (Md × D)) : Out → Option (Rv × List (Md × D))
  | .nx g => (leftOf g 0 as).map fun l => (.pur .none, l)
  | .rt r g => (leftOf g 0 as).map fun l => (r, l)
  | _ => none
/-- at most n calls within one another -/
def callN : Nat → Fn
  | 0, _, _ => none
  | n + 1, f, as => match T[f]? with
    | some d => if modesOk d.pm as && decide (as.length ≤ d.n) then (evSs (callN n) G W d.body (startG d.n as)).bind (endF as) else none
    | none => none
end
end Ev

namespace Ev
set_option autoImplicit false
open PySem PySem.Spec PyProof.Rows L2
abbrev Bs := Addr → Prop
/-- the world that all this is about -/
class TheW where
  w : World
variable [TheW]
/-- an entry of a dict of tuple keys -/
def entN (x : NestedKey × Addr × Value) : DictEntry := ⟨x.1.hash TheW.w, .ref x.2.1, x.2.2⟩
/-- a dict of tuple keys, by its entries -/
def dN (a : Addr) (xs : List (NestedKey × Addr × Value)) (ep : Nat) : HO := .ext fun h => (a == sysModules) = false ∧ xs.length ≤ sizeLine ∧ (xs.map (·.1)).Nodup ∧ ∃ (o : Obj) (es : Array DictEntry), h.get? a = some o ∧ o.ExactDict ∧ o.data = .dict es ep ∧ es.toList = xs.map entN
/-- what a frame may own -/
def ownO : HO → Bool
  | .lst _ => true
  | .dK _ => true
  | .dT _ => true
  | .set _ _ => true
  | .ext _ => true
  | _ => false
/-- the lists of the written part -/
def KL (K : PySem.W.Frag) (a : Addr) (xs : List V) : Prop := ∃ (o : Obj) (its : Array Value) (n : Nat), K.lookup a = some o ∧ o.cls = .type "list" ∧ o.dict = none ∧ o.data = .seq its n ∧ its.size ≤ sizeLine ∧ Vals xs its.toList
/-- a list that is not owned here -/
def SqP (K : PySem.W.Frag) (H : Hp) (B : Bs) (a : Addr) (xs : List V) : Prop := (H a = some (.lst xs) ∧ ¬ B a) ∨ (∃ o, H a = some (.frz o (.lst xs))) ∨ KL K a xs
theorem SqP.sql {K : PySem.W.Frag} {H : Hp} {B : Bs} {a : Addr} {xs : List V} (h : SqP K H B a xs) : SqL K H a xs := by
  rcases h with ⟨h, _⟩ | ⟨o, h⟩ | h
  · exact .inl (.inl h)
  · exact .inl (.inr ⟨o, h⟩)
  · exact .inr h
/-- a tuple whose object is known to have no dict -/
def SqN (K : PySem.W.Frag) (H : Hp) (a : Addr) (xs : List V) : Prop := (∃ o, H a = some (.frz o (.tup xs)) ∧ o.dict = none) ∨
  ∃ (ob : Obj) (ts : Array Value) (m : Nat), K.lookup a = some ob ∧ ob.cls = .type "tuple" ∧ ob.dict = none ∧ ob.data = .seq ts m ∧ ts.size ≤ sizeLine ∧ Vals xs ts.toList
theorem SqN.sqt {K : PySem.W.Frag} {H : Hp} {a : Addr} {xs : List V} (h : SqN K H a xs) : SqT K H a xs := by
  rcases h with ⟨o, h, _⟩ | ⟨ob, ts, m, h1, h2, _, h3⟩
  · exact .inl (.inr ⟨o, h⟩)
  · exact .inr ⟨ob, ts, m, h1, h2, h3⟩
mutual
def RepV (K : PySem.W.Frag) (H : Hp) (B : Bs) : D → V → Prop
  | .none, v => v = .non
  | .bool b, v => v = .bl b
  | .int i, v => v = .int i
  | .str x, v => v = .str x
  | .list ds, v => ∃ a xs, v = .ref a ∧ SqP K H B a xs ∧ RepVs K H B ds xs
  | .tuple ds, v => ∃ a xs, v = .ref a ∧ SqN K H a xs ∧ RepVs K H B ds xs
  | .dict kvs, v => ∃ a o, v = .ref a ∧ (H a = some o ∧ ¬ B a) ∧ ((∃ ks, o = .dK ks ∧ RepKs K H B kvs ks) ∨ (∃ xs ep, o = dN a xs ep ∧ RepNs K H B kvs xs) ∨ ∃ ob ks, o = .frz ob (.dK ks) ∧ RepLs K H B kvs ks)
def RepVs (K : PySem.W.Frag) (H : Hp) (B : Bs) : List D → List V → Prop
  | [], xs => xs = []
  | d :: ds, xs => ∃ v r, xs = v :: r ∧ RepV K H B d v ∧ RepVs K H B ds r
/-- a dict's entries, keys that are texts -/
def RepKs (K : PySem.W.Frag) (H : Hp) (B : Bs) : List (D × D) → List (L2.Key × V) → Prop
  | [], ks => ks = []
  | (k, d) :: r, ks => ∃ z v t, k = .str z ∧ ks = (.inr z, v) :: t ∧ RepV K H B d v ∧ RepKs K H B r t
/-- the entries of a dict of tuple keys, behind its mark -/
def RepNs (K : PySem.W.Frag) (H : Hp) (B : Bs) : List (D × D) → List (NestedKey × Addr × Value) → Prop
  | [], _ => False
  | (k, m) :: r, xs => k = .bool true ∧ m = .none ∧ RepN1 K H B r xs
/-- the entries of a locked dict of texts, behind its mark -/
def RepLs (K : PySem.W.Frag) (H : Hp) (B : Bs) : List (D × D) → List (L2.Key × V) → Prop
  | [], _ => False
  | (k, m) :: r, ks => k = .bool false ∧ m = .none ∧ RepKs K H B r ks
def RepN1 (K : PySem.W.Frag) (H : Hp) (B : Bs) : List (D × D) → List (NestedKey × Addr × Value) → Prop
  | [], xs => xs = []
  | (k, d) :: r, xs => ∃ nk q u v t, nkD k = some (.tup nk) ∧ (NestedKey.tup nk).depth ≤ 8 ∧ xs = (.tup nk, q, u) :: t ∧ RepV K H B k (.ref q) ∧ RelV v u ∧ RepV K H B d v ∧ RepN1 K H B r t
end
/-- what a dict's object holds -/
def DoR (K : PySem.W.Frag) (H : Hp) (B : Bs) (kvs : List (D × D)) (a : Addr) (o : HO) : Prop := (∃ ks, o = .dK ks ∧ RepKs K H B kvs ks) ∨ ∃ xs ep, o = dN a xs ep ∧ RepNs K H B kvs xs
/-- what a dict that is read holds: it may be locked -/
def DoV (K : PySem.W.Frag) (H : Hp) (B : Bs) (kvs : List (D × D)) (a : Addr) (o : HO) : Prop := (∃ ks, o = .dK ks ∧ RepKs K H B kvs ks) ∨ (∃ xs ep, o = dN a xs ep ∧ RepNs K H B kvs xs) ∨ ∃ ob ks, o = .frz ob (.dK ks) ∧ RepLs K H B kvs ks
theorem DoR.v {K : PySem.W.Frag} {H : Hp} {B : Bs} {kvs : List (D × D)} {a : Addr} {o : HO} (h : DoR K H B kvs a o) : DoV K H B kvs a o := by
  rcases h with h | h
  · exact .inl h
  · exact .inr (.inl h)
/-- what was there and is not owned is there and is not owned -/
structure Keep (H : Hp) (B : Bs) (H' : Hp) (B' : Bs) : Prop where
  at_ : ∀ a o, H a = some o → ¬ B a → H' a = some o ∧ ¬ B' a
  trk : ∀ a, B a → ∃ o, H a = some o ∧ ownO o = true
section
variable {K : PySem.W.Frag} {H H' H'' : Hp} {B B' B'' : Bs} {a : Addr} {xs : List V} {v : V} {d : D} {ds : List D}
theorem Keep.fix (k : Keep H B H' B') {o : HO} (h : H a = some o) (ho : ownO o = false) : H' a = some o := by
  refine (k.at_ a o h fun hb => ?_).1
  obtain ⟨u, e, hu⟩ := k.trk a hb
  rw [h] at e
  cases e
  rw [ho] at hu
  cases hu
theorem SqN.ext (k : Keep H B H' B') (h : SqN K H a xs) : SqN K H' a xs := by
  rcases h with ⟨o, h, hd⟩ | h
  · exact .inl ⟨o, k.fix h rfl, hd⟩
  · exact .inr h
theorem SqP.ext (k : Keep H B H' B') (h : SqP K H B a xs) : SqP K H' B' a xs := by
  rcases h with ⟨h, hb⟩ | ⟨o, h⟩ | h
  · exact .inl (k.at_ a _ h hb)
  · exact .inr (.inl ⟨o, k.fix h rfl⟩)
  · exact .inr (.inr h)
mutual
theorem RepV.ext (k : Keep H B H' B') : ∀ (d : D) (v : V), RepV K H B d v → RepV K H' B' d v
  | .none, _, h => h
  | .bool _, _, h => h
  | .int _, _, h => h
  | .str _, _, h => h
  | .list ds, v, h => by
    obtain ⟨a, xs, e, hs, hr⟩ := h
    exact ⟨a, xs, e, hs.ext k, RepVs.ext k ds xs hr⟩
  | .tuple ds, v, h => by
    obtain ⟨a, xs, e, hs, hr⟩ := h
    exact ⟨a, xs, e, hs.ext k, RepVs.ext k ds xs hr⟩
  | .dict kvs, v, h => by
    obtain ⟨a, o, e, ⟨h1, h2⟩, hr⟩ := h
    refine ⟨a, o, e, k.at_ a _ h1 h2, ?_⟩
    rcases hr with ⟨ks, e1, hr⟩ | ⟨xs, ep, e1, hr⟩ | ⟨ob, ks, e1, hr⟩
    · exact .inl ⟨ks, e1, RepKs.ext k kvs ks hr⟩
    · exact .inr (.inl ⟨xs, ep, e1, RepNs.ext k kvs xs hr⟩)
    · exact .inr (.inr ⟨ob, ks, e1, RepLs.ext k kvs ks hr⟩)
theorem RepVs.ext (k : Keep H B H' B') : ∀ (ds : List D) (xs : List V), RepVs K H B ds xs → RepVs K H' B' ds xs
  | [], _, h => h
  | d :: ds, xs, h => by
    obtain ⟨v, r, e, h1, h2⟩ := h
    exact ⟨v, r, e, RepV.ext k d v h1, RepVs.ext k ds r h2⟩
theorem RepKs.ext (k : Keep H B H' B') : ∀ (kvs : List (D × D)) (ks : List (L2.Key × V)), RepKs K H B kvs ks → RepKs K H' B' kvs ks
  | [], _, h => h
  | (kk, d) :: r, ks, h => by
    obtain ⟨z, v, t, ek, e, h1, h2⟩ := h
    exact ⟨z, v, t, ek, e, RepV.ext k d v h1, RepKs.ext k r t h2⟩
theorem RepNs.ext (k : Keep H B H' B') : ∀ (kvs : List (D × D)) (xs : List (NestedKey × Addr × Value)), RepNs K H B kvs xs → RepNs K H' B' kvs xs
  | [], _, h => h
  | (kk, m) :: r, xs, h => by
    obtain ⟨e1, e2, h3⟩ := h
    exact ⟨e1, e2, RepN1.ext k r xs h3⟩
theorem RepLs.ext (k : Keep H B H' B') : ∀ (kvs : List (D × D)) (ks : List (L2.Key × V)), RepLs K H B kvs ks → RepLs K H' B' kvs ks
  | [], _, h => h
  | (kk, m) :: r, ks, h => by
    obtain ⟨e1, e2, h3⟩ := h
    exact ⟨e1, e2, RepKs.ext k r ks h3⟩
theorem RepN1.ext (k : Keep H B H' B') : ∀ (kvs : List (D × D)) (xs : List (NestedKey × Addr × Value)), RepN1 K H B kvs xs → RepN1 K H' B' kvs xs
  | [], _, h => h
  | (kk, d) :: r, xs, h => by
    obtain ⟨nk, q, u, v, t, e1, e2, e3, h1, h2, h3, h4⟩ := h
    exact ⟨nk, q, u, v, t, e1, e2, e3, RepV.ext k kk _ h1, h2, RepV.ext k d v h3, RepN1.ext k r t h4⟩
end
theorem DoR.ext (k : Keep H B H' B') {kvs : List (D × D)} {a : Addr} {o : HO} (h : DoR K H B kvs a o) : DoR K H' B' kvs a o := by
  rcases h with ⟨ks, e1, hr⟩ | ⟨xs, ep, e1, hr⟩
  · exact .inl ⟨ks, e1, RepKs.ext k kvs ks hr⟩
  · exact .inr ⟨xs, ep, e1, RepNs.ext k kvs xs hr⟩
theorem DoR.own {kvs : List (D × D)} {a : Addr} {o : HO} (h : DoR K H B kvs a o) : ownO o = true := by
  rcases h with ⟨ks, rfl, _⟩ | ⟨xs, ep, rfl, _⟩ <;> rfl
theorem RepVs.length : ∀ {ds : List D} {xs : List V}, RepVs K H B ds xs → xs.length = ds.length
  | [], _, h => by
    cases (show _ = [] from h)
    rfl
  | d :: ds, xs, h => by
    obtain ⟨v, r, rfl, _, h2⟩ := h
    rw [List.length_cons, List.length_cons, RepVs.length h2]
theorem RepVs.get : ∀ {ds : List D} {xs : List V} {i : Nat} {d : D}, RepVs K H B ds xs → ds[i]? = some d → ∃ v, xs[i]? = some v ∧ RepV K H B d v
  | [], _, _, _, _, e => by simp at e
  | _ :: _, _, 0, _, h, e => by
    obtain ⟨v, r, rfl, h1, _⟩ := h
    simp at e
    subst e
    exact ⟨v, rfl, h1⟩
  | _ :: _, _, i + 1, d, h, e => by
    obtain ⟨v, r, rfl, _, h2⟩ := h
    obtain ⟨w, e1, h3⟩ := RepVs.get (i := i) (d := d) h2 (by simpa using e)
    exact ⟨w, by simpa using e1, h3⟩
theorem RepVs.get' : ∀ {ds : List D} {xs : List V} {i : Nat} {v : V}, RepVs K H B ds xs → xs[i]? = some v → ∃ d, ds[i]? = some d ∧ RepV K H B d v := fun {ds xs i v} h e => by
  have hi : i < ds.length := by
    rw [← h.length]
    exact (List.getElem?_eq_some_iff.mp e).1
  obtain ⟨w, e1, h1⟩ := h.get (List.getElem?_eq_getElem hi)
  rw [e] at e1
  cases e1
  exact ⟨_, List.getElem?_eq_getElem hi, h1⟩
theorem RepVs.append : ∀ {ds es : List D} {xs ys : List V}, RepVs K H B ds xs → RepVs K H B es ys → RepVs K H B (ds ++ es) (xs ++ ys)
  | [], _, _, _, h, h2 => by
    cases (show _ = [] from h)
    exact h2
  | d :: ds, _, _, _, h, h2 => by
    obtain ⟨v, r, rfl, h1, h3⟩ := h
    exact ⟨v, r ++ _, rfl, h1, RepVs.append h3 h2⟩
theorem RepVs.drop : ∀ {ds : List D} {xs : List V} (n : Nat), RepVs K H B ds xs → RepVs K H B (ds.drop n) (xs.drop n)
  | _, _, 0, h => h
  | [], _, _ + 1, h => by
    cases (show _ = [] from h)
    rfl
  | d :: ds, _, n + 1, h => by
    obtain ⟨v, r, rfl, _, h2⟩ := h
    exact RepVs.drop n h2
theorem RepVs.take : ∀ {ds : List D} {xs : List V} (n : Nat), RepVs K H B ds xs → RepVs K H B (ds.take n) (xs.take n)
  | _, _, 0, _ => rfl
  | [], _, _ + 1, h => by
    cases (show _ = [] from h)
    rfl
  | d :: ds, _, n + 1, h => by
    obtain ⟨v, r, rfl, h1, h2⟩ := h
    exact ⟨v, r.take n, rfl, h1, RepVs.take n h2⟩
theorem RepVs.single (h : RepV K H B d v) : RepVs K H B [d] [v] := ⟨v, [], rfl, h, rfl⟩
theorem RepVs.reverse : ∀ {ds : List D} {xs : List V}, RepVs K H B ds xs → RepVs K H B ds.reverse xs.reverse
  | [], _, h => by
    cases (show _ = [] from h)
    rfl
  | d :: ds, _, h => by
    obtain ⟨v, r, rfl, h1, h2⟩ := h
    rw [List.reverse_cons, List.reverse_cons]
    exact RepVs.append (RepVs.reverse h2) (RepVs.single h1)
theorem RepVs.set : ∀ {ds : List D} {xs : List V} (j : Nat), RepVs K H B ds xs → RepV K H B d v → RepVs K H B (ds.set j d) (xs.set j v)
  | [], _, _, h, _ => by
    cases (show _ = [] from h)
    rfl
  | e :: ds, _, 0, h, hd => by
    obtain ⟨v, r, rfl, _, h2⟩ := h
    exact ⟨_, r, rfl, hd, h2⟩
  | e :: ds, _, j + 1, h, hd => by
    obtain ⟨v, r, rfl, h1, h2⟩ := h
    exact ⟨v, r.set j _, rfl, h1, RepVs.set j h2 hd⟩
mutual
theorem RepV.dp : ∀ {d : D} {v : V}, d.hasDict = false → RepV K H B d v → Dp K H v d
  | .none, _, _, h => by cases (show _ = V.non from h); exact .non
  | .bool b, _, _, h => by cases (show _ = V.bl b from h); exact .bl b
  | .int i, _, _, h => by cases (show _ = V.int i from h); exact .int i
  | .str x, _, _, h => by cases (show _ = V.str x from h); exact .str x
  | .list ds, v, hd, h => by
    obtain ⟨a, xs, rfl, hs, hr⟩ := h
    exact .lst hs.sql (RepVs.dp (ds := ds) hd hr)
  | .tuple ds, v, hd, h => by
    obtain ⟨a, xs, rfl, hs, hr⟩ := h
    exact .tup hs.sqt (RepVs.dp (ds := ds) hd hr)
  | .dict _, _, hd, _ => by cases hd
theorem RepVs.dp : ∀ {ds : List D} {xs : List V}, PyData.hasDictAll ds = false → RepVs K H B ds xs → DpAll K H xs ds
  | [], _, _, h => by cases (show _ = [] from h); exact .nil
  | d :: ds, xs, hd, h => by
    obtain ⟨v, r, rfl, h1, h2⟩ := h
    have hd' : (PyData.hasDict d || PyData.hasDictAll ds) = false := hd
    obtain ⟨e1, e2⟩ := Bool.or_eq_false_iff.mp hd'
    exact .cons (RepV.dp e1 h1) (RepVs.dp e2 h2)
end
/-- an owned value, its parts shared -/
def RepO (K : PySem.W.Frag) (H : Hp) (B : Bs) : D → V → Prop
  | .list ds, v => ∃ a xs, v = .ref a ∧ B a ∧ H a = some (.lst xs) ∧ RepVs K H B ds xs
  | .dict kvs, v => ∃ a o, v = .ref a ∧ B a ∧ H a = some o ∧ DoR K H B kvs a o
  | _, _ => False
/-- a value that can be read now -/
def RepR (K : PySem.W.Frag) (H : Hp) (B : Bs) : D → V → Prop
  | .list ds, v => ∃ a xs, v = .ref a ∧ SqL K H a xs ∧ RepVs K H B ds xs
  | .dict kvs, v => ∃ a o, v = .ref a ∧ H a = some o ∧ DoV K H B kvs a o
  | d, v => RepV K H B d v
theorem RepV.r : ∀ {d : D} {v : V}, RepV K H B d v → RepR K H B d v
  | .none, _, h => h
  | .bool _, _, h => h
  | .int _, _, h => h
  | .str _, _, h => h
  | .list ds, v, h => by
    obtain ⟨a, xs, e, hs, hr⟩ := h
    exact ⟨a, xs, e, hs.sql, hr⟩
  | .tuple _, _, h => h
  | .dict _, _, h => by
    obtain ⟨a, o, e, hs, hr⟩ := h
    exact ⟨a, o, e, hs.1, hr⟩
theorem RepO.r : ∀ {d : D} {v : V}, RepO K H B d v → RepR K H B d v
  | .none, _, h => h.elim
  | .bool _, _, h => h.elim
  | .int _, _, h => h.elim
  | .str _, _, h => h.elim
  | .list ds, v, h => by
    obtain ⟨a, xs, e, _, hs, hr⟩ := h
    exact ⟨a, xs, e, .inl (.inl hs), hr⟩
  | .tuple _, _, h => h.elim
  | .dict kvs, v, h => by
    obtain ⟨a, o, e, _, hs, hr⟩ := h
    exact ⟨a, o, e, hs, hr.v⟩
theorem RepO.ref {d : D} (h : RepO K H B d v) : ∃ a o, v = .ref a ∧ B a ∧ H a = some o ∧ ownO o = true := by
  cases d with
  | list ds =>
    obtain ⟨a, xs, e, hb, hs, _⟩ := h
    exact ⟨a, _, e, hb, hs, rfl⟩
  | dict kvs =>
    obtain ⟨a, o, e, hb, hs, hr⟩ := h
    exact ⟨a, o, e, hb, hs, hr.own⟩
  | none => exact h.elim
  | bool _ => exact h.elim
  | int _ => exact h.elim
  | str _ => exact h.elim
  | tuple _ => exact h.elim
/-- what a slot owns: a list or a dict -/
abbrev RepW (K : PySem.W.Frag) (H : Hp) (B : Bs) (d : D) (v : V) : Prop := RepO K H B d v
theorem RepO.dct {kvs : List (D × D)} (h : RepO K H B (.dict kvs) v) : ∃ a o, v = .ref a ∧ B a ∧ H a = some o ∧ DoR K H B kvs a o := h
theorem RepR.dp : ∀ {d : D} {v : V}, d.hasDict = false → RepR K H B d v → Dp K H v d
  | .none, _, hd, h => RepV.dp (B := B) hd h
  | .bool b, _, hd, h => RepV.dp (B := B) (d := .bool b) hd h
  | .int i, _, hd, h => RepV.dp (B := B) (d := .int i) hd h
  | .str x, _, hd, h => RepV.dp (B := B) (d := .str x) hd h
  | .list ds, v, hd, h => by
    obtain ⟨a, xs, rfl, hs, hr⟩ := h
    exact .lst hs (RepVs.dp (ds := ds) hd hr)
  | .tuple ds, v, hd, h => RepV.dp (B := B) (d := .tuple ds) hd h
  | .dict _, _, hd, _ => by cases hd
/-- an owned value stays while its own object does -/
theorem RepO.ext {d : D} (k : Keep H B H' B') (h : RepO K H B d v) (hk : ∀ a o, v = .ref a → H a = some o → H' a = some o ∧ B' a) : RepO K H' B' d v := by
  cases d with
  | list ds =>
    obtain ⟨a, xs, e, hb, hs, hr⟩ := h
    obtain ⟨h1, h2⟩ := hk a _ e hs
    exact ⟨a, xs, e, h2, h1, hr.ext k⟩
  | dict kvs =>
    obtain ⟨a, o, e, hb, hs, hr⟩ := h
    obtain ⟨h1, h2⟩ := hk a _ e hs
    exact ⟨a, o, e, h2, h1, hr.ext k⟩
  | none => exact h.elim
  | bool _ => exact h.elim
  | int _ => exact h.elim
  | str _ => exact h.elim
  | tuple _ => exact h.elim
end

/-- the objects that the slots own -/
def Own (σ : L2.St) (g : Sg) (a : Addr) : Prop := ∃ (i : Nat) (m : Md) (d : D), g[i]? = some (some (m, d)) ∧ m ≠ Md.val ∧ σ[i]? = some (some (V.ref a))
structure RE (K : PySem.W.Frag) (H : Hp) (B : Bs) (σ : L2.St) (g : Sg) : Prop where
  len : g.length = σ.length
  val : ∀ (i : Nat) (d : D), g[i]? = some (some (Md.val, d)) → ∃ v, σ[i]? = some (some v) ∧ RepV K H B d v
  own : ∀ (i : Nat) (m : Md) (d : D), g[i]? = some (some (m, d)) → m ≠ Md.val → ∃ v, σ[i]? = some (some v) ∧ RepW K H B d v
  dist : ∀ (i j : Nat) (m n : Md) (d e : D) (a : Addr), g[i]? = some (some (m, d)) → m ≠ Md.val → g[j]? = some (some (n, e)) → n ≠ Md.val → σ[i]? = some (some (V.ref a)) → σ[j]? = some (some (V.ref a)) → i = j
  trk : ∀ a, B a → ∃ o, H a = some o ∧ ownO o = true
theorem RE.ownB {K : PySem.W.Frag} {H : Hp} {B : Bs} {σ : L2.St} {g : Sg} (h : RE K H B σ g) {a : Addr} (o : Own σ g a) : B a := by
  obtain ⟨i, m, d, e, hm, hs⟩ := o
  obtain ⟨v, e2, r⟩ := h.own i m d e hm
  obtain ⟨b, u, e3, hb, _⟩ := r.ref
  rw [hs] at e2
  cases e2
  cases e3
  exact hb
/-- a step of the frame -/
structure Stp (K : PySem.W.Frag) (σ : L2.St) (g : Sg) (H : Hp) (B : Bs) (σ' : L2.St) (g' : Sg) (H' : Hp) (B' : Bs) : Prop where
  re : RE K H' B' σ' g'
  trk : ∀ a, B a → ∃ o, H a = some o ∧ ownO o = true
  ownB : ∀ a, Own σ g a → B a
  keep : ∀ (a : Addr) (o : HO), H a = some o → ¬ Own σ g a → H' a = some o
  own : ∀ a, B a → ¬ Own σ g a → B' a
  new : ∀ a, B' a → B a ∨ H a = none
  osub : ∀ a, Own σ' g' a → Own σ g a ∨ H a = none
  grow : ∀ a, H a ≠ none → H' a ≠ none
  bfix : ∀ (i : Nat) (d : D), g[i]? = some (some (Md.bor, d)) → σ'[i]? = σ[i]? ∧ ∃ d' : D, g'[i]? = some (some (Md.bor, d'))
section
variable {K : PySem.W.Frag} {σ σ' σ'' : L2.St} {g g' g'' : Sg} {H H' H'' : Hp} {B B' B'' : Bs} {a : Addr} {xs : List V} {v : V} {d : D} {ds : List D} {r : Rv}
theorem Stp.refl (h : RE K H B σ g) : Stp K σ g H B σ g H B :=
  ⟨h, h.trk, fun _ o => h.ownB o, fun _ _ e _ => e, fun _ b _ => b, fun _ b => .inl b, fun _ o => .inl o, fun _ n => n, fun _ d e => ⟨rfl, d, e⟩⟩
theorem Stp.kp (s : Stp K σ g H B σ' g' H' B') : Keep H B H' B' :=
  ⟨fun a o e nb => ⟨s.keep a o e fun z => nb (s.ownB a z), fun z => (s.new a z).elim nb fun q => by rw [e] at q; cases q⟩, s.trk⟩
theorem Stp.trans (s : Stp K σ g H B σ' g' H' B') (t : Stp K σ' g' H' B' σ'' g'' H'' B'') : Stp K σ g H B σ'' g'' H'' B'' where
  re := t.re
  trk := s.trk
  ownB := s.ownB
  keep := fun a o e n => t.keep a o (s.keep a o e n) fun z => (s.osub a z).elim n fun q => by rw [e] at q; cases q
  own := fun a b n => t.own a (s.own a b n) fun z => (s.osub a z).elim n fun q => by
    obtain ⟨o, e, _⟩ := s.trk a b
    rw [e] at q; cases q
  new := fun a b => (t.new a b).elim (s.new a) fun q => by
    by_cases h : H a = none
    · exact .inr h
    · exact absurd q (s.grow a h)
  osub := fun a o => (t.osub a o).elim (s.osub a) fun q => by
    by_cases h : H a = none
    · exact .inr h
    · exact absurd q (s.grow a h)
  grow := fun a n => t.grow a (s.grow a n)
  bfix := fun i d e => by
    obtain ⟨e1, d1, e2⟩ := s.bfix i d e
    obtain ⟨e3, d2, e4⟩ := t.bfix i d1 e2
    exact ⟨e3.trans e1, d2, e4⟩
/-- what an expression gives, in the heap -/
def RvR (K : PySem.W.Frag) (σ : L2.St) (g : Sg) (B : Bs) (g' : Sg) (H' : Hp) (B' : Bs) : Rv → V → Prop
  | .pur d, v => RepV K H' B' d v
  | .loc i, v => σ[i]? = some (some v) ∧ ∃ m d, g'[i]? = some (some (m, d)) ∧ m ≠ Md.val
  | .new d, v => RepO K H' B' d v ∧ ∀ a, v = .ref a → ¬ Own σ g' a ∧ (B a → Own σ g a)
theorem ownAt_some {i : Nat} {p : Md × D} (h : ownAt g i = some p) : g[i]? = some (some p) ∧ p.1 ≠ Md.val := by
  obtain ⟨m, d⟩ := p
  unfold ownAt at h
  cases e : g[i]? with
  | none =>
    rw [e] at h
    cases h
  | some s =>
    rw [e] at h
    cases s with
    | none => cases h
    | some q =>
      obtain ⟨n, f⟩ := q
      cases n with
      | val => cases h
      | own =>
        cases h
        exact ⟨rfl, nofun⟩
      | bor =>
        cases h
        exact ⟨rfl, nofun⟩
theorem ownAt_of {i : Nat} {m : Md} {d : D} (h : g[i]? = some (some (m, d))) (hm : m ≠ Md.val) : ownAt g i = some (m, d) := by
  unfold ownAt
  rw [h]
  cases m with
  | val => exact absurd rfl hm
  | own => rfl
  | bor => rfl
theorem lstAt_some {i : Nat} {p : Md × D} (h : lstAt g i = some p) : ∃ ds, p.2 = .list ds ∧ g[i]? = some (some p) ∧ p.1 ≠ Md.val := by
  unfold lstAt at h
  cases e : ownAt g i with
  | none =>
    rw [e] at h
    cases h
  | some q =>
    rw [e] at h
    obtain ⟨m, d⟩ := q
    cases d <;> first | (cases h; done) | skip
    rename_i ds
    cases h
    obtain ⟨e1, e2⟩ := ownAt_some e
    exact ⟨ds, rfl, e1, e2⟩
theorem RvR.data (h : RvR K σ g B g' H' B' r v) (re : RE K H' B' σ g') (e : r.data g' = some d) : RepR K H' B' d v := by
  cases r with
  | pur f =>
    cases (show some f = some d from e)
    exact RepV.r h
  | new f =>
    cases (show some f = some d from e)
    exact h.1.r
  | loc i =>
    obtain ⟨⟨m, f⟩, e1, e2⟩ := Option.map_eq_some_iff.mp (show (lstAt g' i).map (·.2) = some d from e)
    obtain ⟨_, _, e3, hm⟩ := lstAt_some e1
    obtain ⟨w, e4, q⟩ := re.own i m f e3 hm
    rw [h.1] at e4
    cases e4
    cases (show f = d from e2)
    exact q.r
/-- an operand, later -/
theorem RvR.later (h : RvR K σ g B g' H' B' r v) (re : RE K H' B' σ g') (s : Stp K σ g' H' B' σ g'' H'' B'') (e : r.data g'' = some d) : RepR K H'' B'' d v := by
  cases r with
  | pur f =>
    cases (show some f = some d from e)
    exact RepV.r (RepV.ext s.kp _ _ h)
  | new f =>
    cases (show some f = some d from e)
    refine (h.1.ext s.kp fun a o ea eo => ?_).r
    obtain ⟨n1, _⟩ := h.2 a ea
    obtain ⟨b, u, e2, hb, _⟩ := h.1.ref
    rw [ea] at e2
    cases e2
    exact ⟨s.keep a o eo n1, s.own a hb n1⟩
  | loc i =>
    obtain ⟨⟨m, f⟩, e1, e2⟩ := Option.map_eq_some_iff.mp (show (lstAt g'' i).map (·.2) = some d from e)
    obtain ⟨_, _, e3, hm⟩ := lstAt_some e1
    obtain ⟨w, e4, q⟩ := s.re.own i m f e3 hm
    rw [h.1] at e4
    cases e4
    cases (show f = d from e2)
    exact q.r
/-- the owned objects, but one -/
def but (B : Bs) (v : V) : Bs := fun a => B a ∧ v ≠ .ref a
theorem but_keep (trk : ∀ a, B a → ∃ o, H a = some o ∧ ownO o = true) : Keep H B H (but B v) := ⟨fun _ _ e nb => ⟨e, fun z => nb z.1⟩, trk⟩
/-- a new value is shared from here on -/
theorem RvR.pure (h : RvR K σ g B g' H' B' r v) (s : Stp K σ g H B σ g' H' B') (e : r.pure? = some d) : ∃ B2, Stp K σ g H B σ g' H' B2 ∧ RepV K H' B2 d v := by
  cases r with
  | pur f =>
    cases (show some f = some d from e)
    exact ⟨B', s, h⟩
  | loc i => cases (show none = some d from e)
  | new f =>
    cases (show some f = some d from e)
    have k : Keep H' B' H' (but B' v) := but_keep s.re.trk
    refine ⟨but B' v, ⟨⟨s.re.len, fun i f e => ?_, fun i m f e hm => ?_, s.re.dist, fun a b => s.re.trk a b.1⟩, s.trk, s.ownB, s.keep, fun a b n => ⟨s.own a b n, fun z => n ((h.2 a z).2 b)⟩, fun a b => s.new a b.1, s.osub, s.grow, s.bfix⟩, ?_⟩
    · obtain ⟨w, e1, q⟩ := s.re.val i f e
      exact ⟨w, e1, (q.ext k)⟩
    · obtain ⟨w, e1, q⟩ := s.re.own i m f e hm
      refine ⟨w, e1, q.ext k fun a o ea eo => ⟨eo, ?_⟩⟩
      obtain ⟨b, u, e2, hb, _⟩ := q.ref
      rw [ea] at e2
      cases e2
      refine ⟨hb, fun z => (h.2 a z).1 ⟨i, m, f, e, hm, ?_⟩⟩
      rw [e1, ea]
    · cases d with
      | list ds =>
        obtain ⟨a, xs, ea, hb, hs, hr⟩ := h.1
        exact ⟨a, xs, ea, .inl ⟨hs, fun z => z.2 ea⟩, hr.ext k⟩
      | none => exact h.1.elim
      | bool _ => exact h.1.elim
      | int _ => exact h.1.elim
      | str _ => exact h.1.elim
      | tuple _ => exact h.1.elim
      | dict kvs =>
        obtain ⟨a, o, ea, hb, hs, hr⟩ := h.1
        exact ⟨a, o, ea, ⟨hs, fun z => z.2 ea⟩, (hr.ext k).v⟩
/-- a new object that is shared -/
theorem RE.alloc (h : RE K H B σ g) {p : Addr} {o : HO} (hp : H p = none) : RE K (upd H p o) B σ g := by
  have k : Keep H B (upd H p o) B := ⟨fun a u e nb => ⟨by rw [upd_ne (ne_of_none e hp)]; exact e, nb⟩, h.trk⟩
  refine ⟨h.len, fun i f e => ?_, fun i m f e hm => ?_, h.dist, fun a b => ?_⟩
  · obtain ⟨w, e1, q⟩ := h.val i f e
    exact ⟨w, e1, (q.ext k)⟩
  · obtain ⟨w, e1, q⟩ := h.own i m f e hm
    refine ⟨w, e1, q.ext k fun a u ea eo => ⟨by rw [upd_ne (ne_of_none eo hp)]; exact eo, ?_⟩⟩
    obtain ⟨b, u, e2, hb, _⟩ := q.ref
    rw [ea] at e2
    cases e2
    exact hb
  · obtain ⟨u, e, hu⟩ := h.trk a b
    exact ⟨u, by rw [upd_ne (ne_of_none e hp)]; exact e, hu⟩
theorem Stp.alloc (s : Stp K σ g H B σ' g' H' B') {p : Addr} {o : HO} (hp : H' p = none) : Stp K σ g H B σ' g' (upd H' p o) B' where
  re := s.re.alloc hp
  trk := s.trk
  ownB := s.ownB
  keep := fun a u e n => by rw [upd_ne (ne_of_none (s.keep a u e n) hp)]; exact s.keep a u e n
  own := s.own
  new := s.new
  osub := s.osub
  grow := fun a n => by
    by_cases e : a = p
    · subst e; rw [upd_same]; exact fun z => nomatch z
    · rw [upd_ne e]; exact s.grow a n
  bfix := s.bfix
/-- one more owned object -/
def plus (B : Bs) (p : Addr) : Bs := fun a => B a ∨ a = p
theorem Stp.allocNew (s : Stp K σ g H B σ' g' H' B') {p : Addr} {o : HO} (hp : H' p = none) (ho : ownO o = true) : Stp K σ g H B σ' g' (upd H' p o) (plus B' p) := by
  have t := s.alloc (p := p) (o := o) hp
  have k : Keep H' B' (upd H' p o) (plus B' p) := ⟨fun a u e nb => ⟨by rw [upd_ne (ne_of_none e hp)]; exact e, fun z => z.elim nb (ne_of_none e hp)⟩, s.re.trk⟩
  refine ⟨⟨s.re.len, fun i f e => ?_, fun i m f e hm => ?_, s.re.dist, fun a b => ?_⟩, s.trk, s.ownB, t.keep, fun a b n => .inl (s.own a b n), fun a b => b.elim (s.new a) fun e => ?_, s.osub, t.grow, s.bfix⟩
  · obtain ⟨w, e1, q⟩ := s.re.val i f e
    exact ⟨w, e1, (q.ext k)⟩
  · obtain ⟨w, e1, q⟩ := s.re.own i m f e hm
    refine ⟨w, e1, q.ext k fun a u ea eo => ⟨by rw [upd_ne (ne_of_none eo hp)]; exact eo, .inl ?_⟩⟩
    obtain ⟨b, u, e2, hb, _⟩ := q.ref
    rw [ea] at e2
    cases e2
    exact hb
  · rcases b with b | e
    · obtain ⟨u, e, hu⟩ := s.re.trk a b
      exact ⟨u, by rw [upd_ne (ne_of_none e hp)]; exact e, hu⟩
    · subst e
      exact ⟨o, upd_same, ho⟩
  · subst e
    by_cases h : H a = none
    · exact .inr h
    · exact absurd hp (s.grow a h)
theorem keep_alloc (trk : ∀ a, B a → ∃ o, H a = some o ∧ ownO o = true) {p : Addr} {o : HO} (hp : H p = none) : Keep H B (upd H p o) B := ⟨fun a u e nb => ⟨by rw [upd_ne (ne_of_none e hp)]; exact e, nb⟩, trk⟩
theorem keep_allocNew (trk : ∀ a, B a → ∃ o, H a = some o ∧ ownO o = true) {p : Addr} {o : HO} (hp : H p = none) : Keep H B (upd H p o) (plus B p) :=
  ⟨fun a u e nb => ⟨by rw [upd_ne (ne_of_none e hp)]; exact e, fun z => z.elim nb (ne_of_none e hp)⟩, trk⟩
/-- a new list is laid: its place in the heap -/
theorem Stp.newList (s : Stp K σ g H B σ g' H' B') {p : Addr} (hp : H' p = none) (hr : RepVs K H' B' ds xs) : Stp K σ g H B σ g' (upd H' p (.lst xs)) (plus B' p) ∧ RvR K σ g B g' (upd H' p (.lst xs)) (plus B' p) (.new (.list ds)) (.ref p) := by
  refine ⟨s.allocNew hp rfl, ⟨p, xs, rfl, .inr rfl, upd_same, hr.ext (keep_allocNew s.re.trk hp)⟩, fun a ea => ?_⟩
  cases ea
  have n1 : ¬ Own σ g' p := fun z => by
    obtain ⟨o, e, _⟩ := s.re.trk p (s.re.ownB z)
    rw [hp] at e; cases e
  refine ⟨n1, fun b => ?_⟩
  obtain ⟨o, e, _⟩ := s.trk p b
  exact absurd hp (s.grow p (by rw [e]; exact fun z => nomatch z))
theorem Stp.newTup (s : Stp K σ g H B σ g' H' B') {p : Addr} {o : Obj} (hp : H' p = none) (ho : o.dict = none) (hr : RepVs K H' B' ds xs) : Stp K σ g H B σ g' (upd H' p (.frz o (.tup xs))) B' ∧ RvR K σ g B g' (upd H' p (.frz o (.tup xs))) B' (.pur (.tuple ds)) (.ref p) :=
  ⟨s.alloc hp, p, xs, rfl, .inl ⟨o, upd_same, ho⟩, hr.ext (keep_alloc s.re.trk hp)⟩
/-- what the new object of a tuple is -/
abbrev tupO (ts : List Value) : Obj := { cls := .type "tuple", data := .seq ts.toArray }
theorem ok_tupN {P : Program} {w : World} {h : Heap} {p : Addr} {ts : List Value} (e : h.get? p = some (tupO ts)) (r : Vals xs ts) (hz : xs.length ≤ sizeLine) : ObjOk P w H h p (.frz (tupO ts) (.tup xs)) :=
  ⟨e, hz, ts, r, tupO ts, e, rfl, _, rfl⟩
/-- a new dict is laid, shared -/
theorem Stp.newDct (s : Stp K σ g H B σ g' H' B') {p : Addr} {kvs : List (D × D)} {o : HO} (hp : H' p = none) (hr : DoR K H' B' kvs p o) : Stp K σ g H B σ g' (upd H' p o) B' ∧ RvR K σ g B g' (upd H' p o) B' (.pur (.dict kvs)) (.ref p) := by
  refine ⟨s.alloc hp, p, o, rfl, ⟨upd_same, fun z => ?_⟩, (hr.ext (keep_alloc s.re.trk hp)).v⟩
  obtain ⟨o, e, _⟩ := s.re.trk p z
  rw [hp] at e
  cases e
theorem shp_noDict {d : D} (h : shp d = true) : d.hasDict = false := PyData.hasDict_of_canLay d (SeqAt.canLay_of_shaped h)
theorem RepNs.cons {kvs : List (D × D)} {xs : List (NestedKey × Addr × Value)} (h : RepNs K H B kvs xs) : ∃ r, kvs = (.bool true, .none) :: r ∧ RepN1 K H B r xs := by
  cases kvs with
  | nil => exact h.elim
  | cons p r =>
    obtain ⟨k, m⟩ := p
    obtain ⟨rfl, rfl, h⟩ := h
    exact ⟨r, rfl, h⟩
theorem RepNs.isN {kvs : List (D × D)} {xs : List (NestedKey × Addr × Value)} (h : RepNs K H B kvs xs) : Ev.isN kvs = true := by
  obtain ⟨r, rfl, _⟩ := h.cons
  rfl
theorem ks_isN {kvs : List (D × D)} {ks : List (L2.Key × V)} (h : RepKs K H B kvs ks) : isN kvs = false := by
  cases kvs with
  | nil => rfl
  | cons p r =>
    obtain ⟨k, d⟩ := p
    obtain ⟨z, v, t, rfl, _⟩ := h
    rfl
theorem dctAt_all {i : Nat} {o : Md × List (D × D)} (h : dctAt g i = some o) : g[i]? = some (some (o.1, .dict o.2)) ∧ o.1 ≠ Md.val := by
  obtain ⟨m, kvs⟩ := o
  unfold dctAt at h
  cases e : g[i]? with
  | none =>
    rw [e] at h
    cases h
  | some s =>
    rw [e] at h
    cases s with
    | none => cases h
    | some q =>
      obtain ⟨n, f⟩ := q
      cases n with
      | val => cases h
      | own =>
        cases f <;> first
          | (cases h; done)
          | (cases h; exact ⟨rfl, nofun⟩)
      | bor =>
        cases f <;> first
          | (cases h; done)
          | (cases h; exact ⟨rfl, nofun⟩)
/-- a dict of either kind -/
theorem dct_w {i : Nat} {o : Md × List (D × D)} (re : RE K H B σ g) (h : dctAt g i = some o) : ∃ a ob, g[i]? = some (some (o.1, .dict o.2)) ∧ o.1 ≠ Md.val ∧ σ[i]? = some (some (V.ref a)) ∧ H a = some ob ∧ DoR K H B o.2 a ob := by
  obtain ⟨e, hm⟩ := dctAt_all h
  obtain ⟨v, e1, hr⟩ := re.own i o.1 (.dict o.2) e hm
  obtain ⟨a, ob, rfl, _, h1, h2⟩ := hr.dct
  exact ⟨a, ob, e, hm, e1, h1, h2⟩
theorem DoR.k {a : Addr} {ob : HO} {kvs : List (D × D)} (h : DoR K H B kvs a ob) (hn : isN kvs = false) : ∃ ks, ob = .dK ks ∧ RepKs K H B kvs ks := by
  rcases h with h | ⟨xs, ep, rfl, h2⟩
  · exact h
  · rw [RepNs.isN h2] at hn
    cases hn
theorem dct_v {i : Nat} {o : Md × List (D × D)} (re : RE K H B σ g) (h : dctAt g i = some o) (hn : isN o.2 = false) : ∃ a ks, g[i]? = some (some (o.1, .dict o.2)) ∧ o.1 ≠ Md.val ∧ σ[i]? = some (some (V.ref a)) ∧ H a = some (.dK ks) ∧ RepKs K H B o.2 ks := by
  obtain ⟨a, ob, e, hm, e1, h1, h2⟩ := dct_w re h
  obtain ⟨ks, e5, h3⟩ := h2.k hn
  subst e5
  exact ⟨a, ks, e, hm, e1, h1, h3⟩
theorem n1_get (z : Str) : ∀ {kvs : List (D × D)} {xs : List (NestedKey × Addr × Value)}, RepN1 K H B kvs xs → dGet kvs z = none
  | [], _, _ => rfl
  | (k, d) :: r, xs, h => by
    obtain ⟨nk, q, u, v, t, e1, _, _, _, _, _, h4⟩ := h
    have ih := n1_get z h4
    have hk : ∀ y, k ≠ .str y := fun y e => by
      subst e
      cases e1
    unfold dGet at ih ⊢
    rw [List.find?_cons]
    cases k with
    | str y => exact absurd rfl (hk y)
    | none => exact ih
    | bool _ => exact ih
    | int _ => exact ih
    | list _ => exact ih
    | tuple _ => exact ih
    | dict _ => exact ih
/-- a text that is a key: the dict is one of texts -/
theorem DoR.kz {a : Addr} {ob : HO} {kvs : List (D × D)} {z : Str} {d : D} (h : DoR K H B kvs a ob) (hn : dGet kvs z = some d) : ∃ ks, ob = .dK ks ∧ RepKs K H B kvs ks := by
  rcases h with h | ⟨xs, ep, rfl, h2⟩
  · exact h
  · obtain ⟨r, rfl, h3⟩ := h2.cons
    have e : dGet r z = some d := hn
    rw [n1_get z h3] at e
    cases e
theorem RepLs.cons {kvs : List (D × D)} {ks : List (L2.Key × V)} (h : RepLs K H B kvs ks) : ∃ r, kvs = (.bool false, .none) :: r ∧ RepKs K H B r ks := by
  cases kvs with
  | nil => exact h.elim
  | cons p r =>
    obtain ⟨k, m⟩ := p
    obtain ⟨rfl, rfl, h3⟩ := h
    exact ⟨r, rfl, h3⟩
/-- the keys are texts -/
theorem ks_cons {p : D × D} {r : List (D × D)} {ks : List (L2.Key × V)} (h : RepKs K H B (p :: r) ks) : ∃ z d v t, p = (.str z, d) ∧ ks = (.inr z, v) :: t ∧ RepV K H B d v ∧ RepKs K H B r t := by
  obtain ⟨k, d⟩ := p
  obtain ⟨z, v, t, rfl, e, h1, h2⟩ := h
  exact ⟨z, d, v, t, rfl, e, h1, h2⟩
theorem ks_len : ∀ {kvs : List (D × D)} {ks : List (L2.Key × V)}, RepKs K H B kvs ks → ks.length = kvs.length
  | [], _, h => by
    cases (show _ = [] from h)
    rfl
  | p :: r, ks, h => by
    obtain ⟨z, d, v, t, rfl, rfl, _, h2⟩ := ks_cons h
    rw [List.length_cons, List.length_cons, ks_len h2]
theorem ks_get {z : Str} : ∀ {kvs : List (D × D)} {ks : List (L2.Key × V)}, RepKs K H B kvs ks → (dGet kvs z = none ∧ L2.valV ks (.inr z) = none) ∨ ∃ d v, dGet kvs z = some d ∧ L2.valV ks (.inr z) = some v ∧ RepV K H B d v
  | [], _, h => by
    cases (show _ = [] from h)
    exact .inl ⟨rfl, rfl⟩
  | p :: r, ks, h => by
    obtain ⟨y, d, v, t, rfl, rfl, h1, h2⟩ := ks_cons h
    by_cases e : y = z
    · subst e
      refine .inr ⟨d, v, ?_, L2.valV_pos rfl, h1⟩
      unfold dGet
      rw [List.find?_cons_of_pos (by exact beq_self_eq_true y)]
      rfl
    · have e1 : dGet ((.str y, d) :: r) z = dGet r z := by
        unfold dGet
        rw [List.find?_cons_of_neg (by
          show ¬ ((y == z) = true)
          rw [beq_iff_eq]
          exact e)]
      have e2 : L2.valV ((.inr y, v) :: t) (.inr z) = L2.valV t (.inr z) := L2.valV_neg (fun q => e (by injection q))
      rw [e1, e2]
      exact ks_get h2
theorem ks_any {z : Str} : ∀ {kvs : List (D × D)} {ks : List (L2.Key × V)}, RepKs K H B kvs ks → (ks.any fun kv => decide (kv.1 = .inr z)) = kvs.any (keyIs z)
  | [], _, h => by
    cases (show _ = [] from h)
    rfl
  | p :: r, ks, h => by
    obtain ⟨y, d, v, t, rfl, rfl, h1, h2⟩ := ks_cons h
    rw [List.any_cons, List.any_cons, ks_any h2]
    congr 1
    show decide ((Sum.inr y : L2.Key) = .inr z) = decide (y = z)
    rw [Bool.eq_iff_iff, decide_eq_true_iff, decide_eq_true_iff]
    exact ⟨fun q => by injection q, fun q => by rw [q]⟩
theorem ks_map {z : Str} (hd : RepV K H B d v) : ∀ {kvs : List (D × D)} {ks : List (L2.Key × V)}, RepKs K H B kvs ks → RepKs K H B (kvs.map fun p => if keyIs z p then (p.1, d) else p) (ks.map fun kv => if kv.1 = .inr z then (kv.1, v) else kv)
  | [], _, h => by
    cases (show _ = [] from h)
    rfl
  | p :: r, ks, h => by
    obtain ⟨y, e, w, t, rfl, rfl, h1, h2⟩ := ks_cons h
    have ih := ks_map (z := z) hd h2
    rw [List.map_cons, List.map_cons]
    by_cases q : y = z
    · subst q
      have k1 : keyIs y (.str y, e) = true := decide_eq_true rfl
      rw [if_pos k1, if_pos rfl]
      exact ⟨_, v, _, rfl, rfl, hd, ih⟩
    · have k1 : ¬ (keyIs z (.str y, e) = true) := fun x => q (of_decide_eq_true x)
      rw [if_neg k1, if_neg (fun x => q (by injection x))]
      exact ⟨_, w, _, rfl, rfl, h1, ih⟩
theorem ks_app {z : Str} (hd : RepV K H B d v) : ∀ {kvs : List (D × D)} {ks : List (L2.Key × V)}, RepKs K H B kvs ks → RepKs K H B (kvs ++ [(.str z, d)]) (ks ++ [(.inr z, v)])
  | [], _, h => by
    cases (show _ = [] from h)
    exact ⟨_, v, [], rfl, rfl, hd, rfl⟩
  | p :: r, ks, h => by
    obtain ⟨y, e, w, t, rfl, rfl, h1, h2⟩ := ks_cons h
    exact ⟨_, w, _, rfl, rfl, h1, ks_app hd h2⟩
theorem ks_put {z : Str} {kvs : List (D × D)} {ks : List (L2.Key × V)} (h : RepKs K H B kvs ks) (hd : RepV K H B d v) : RepKs K H B (dPut kvs z d) (L2.putK ks (.inr z) v) := by
  unfold dPut L2.putK
  rw [ks_any h]
  split
  · exact ks_map hd h
  · exact ks_app hd h
end
end Ev

namespace Ev
set_option autoImplicit false
open PySem PySem.Spec PyProof.Rows L2
variable [TheW]
/-- what an operation gives: a value, or a new tuple or list -/
def Res (K : PySem.W.Frag) (H : Hp) (B : Bs) (rv : Rv) (v : V) (H' : Hp) : Prop :=
  (H' = H ∧ ∃ d, rv = .pur d ∧ RepV K H B d v) ∨
  (∃ (p : Addr) (o : Obj) (xs : List V) (ds : List D), H p = none ∧ o.dict = none ∧ v = V.ref p ∧ H' = upd H p (.frz o (.tup xs)) ∧ rv = .pur (.tuple ds) ∧ RepVs K H B ds xs) ∨
  (∃ (p : Addr) (xs : List V) (ds : List D), H p = none ∧ v = V.ref p ∧ H' = upd H p (.lst xs) ∧ rv = .new (.list ds) ∧ RepVs K H B ds xs) ∨
  (∃ (p : Addr) (o : HO) (kvs : List (D × D)), H p = none ∧ v = V.ref p ∧ H' = upd H p o ∧ rv = .pur (.dict kvs) ∧ DoR K H B kvs p o)
section
variable {K : PySem.W.Frag} {σ : L2.St} {g g' : Sg} {H H' H2 : Hp} {B B' : Bs} {v x y : V} {d e : D} {r rv : Rv}
theorem Res.step (h : Res K H' B' rv v H2) (s : Stp K σ g H B σ g' H' B') : ∃ B2, Stp K σ g H B σ g' H2 B2 ∧ RvR K σ g B g' H2 B2 rv v := by
  rcases h with ⟨rfl, d, rfl, hr⟩ | ⟨p, o, xs, ds, hp, ho, rfl, rfl, rfl, hr⟩ | ⟨p, xs, ds, hp, rfl, rfl, rfl, hr⟩ | ⟨p, o, kvs, hp, rfl, rfl, rfl, hr⟩
  · exact ⟨B', s, hr⟩
  · exact ⟨B', (s.newTup hp ho hr).1, (s.newTup hp ho hr).2⟩
  · exact ⟨plus B' p, (s.newList hp hr).1, (s.newList hp hr).2⟩
  · exact ⟨B', (s.newDct hp hr).1, (s.newDct hp hr).2⟩
theorem Res.pure (h : RepV K H B d v) : Res K H B (.pur d) v H := .inl ⟨rfl, d, rfl, h⟩
theorem Res.tup {p : Addr} {o : Obj} {xs : List V} {ds : List D} (hp : H p = none) (ho : o.dict = none) (h : RepVs K H B ds xs) : Res K H B (.pur (.tuple ds)) (.ref p) (upd H p (.frz o (.tup xs))) := .inr (.inl ⟨p, o, xs, ds, hp, ho, rfl, rfl, rfl, h⟩)
theorem Res.lst {p : Addr} {xs : List V} {ds : List D} (hp : H p = none) (h : RepVs K H B ds xs) : Res K H B (.new (.list ds)) (.ref p) (upd H p (.lst xs)) := .inr (.inr (.inl ⟨p, xs, ds, hp, rfl, rfl, rfl, h⟩))
theorem Res.dct {p : Addr} {ks : List (L2.Key × V)} {kvs : List (D × D)} (hp : H p = none) (h : RepKs K H B kvs ks) : Res K H B (.pur (.dict kvs)) (.ref p) (upd H p (.dK ks)) := .inr (.inr (.inr ⟨p, _, kvs, hp, rfl, rfl, rfl, .inl ⟨ks, rfl, h⟩⟩))
theorem Res.dctN {p : Addr} {xs : List (NestedKey × Addr × Value)} {ep : Nat} {kvs : List (D × D)} (hp : H p = none) (h : RepN1 K H B kvs xs) : Res K H B (.pur (nD kvs)) (.ref p) (upd H p (dN p xs ep)) := .inr (.inr (.inr ⟨p, _, _, hp, rfl, rfl, rfl, .inr ⟨xs, ep, rfl, rfl, rfl, h⟩⟩))
theorem rI_dct {kvs : List (D × D)} (h : RepR K H B (.dict kvs) x) : ∃ a o, x = .ref a ∧ H a = some o ∧ DoV K H B kvs a o := h
/-- two readable values, an operation on them -/
def rOp2 (K : PySem.W.Frag) (f : D → D → Option Rv) : R2 := fun x y H Q => ∃ (B : Bs) (d e : D) (rv : Rv), RepR K H B d x ∧ RepR K H B e y ∧ f d e = some rv ∧ ∀ v H', Res K H B rv v H' → Q v H'
def fB (f : D → D → Option Bool) : D → D → Option Rv := fun d e => (f d e).map fun b => .pur (.bool b)
theorem rI_none (h : RepR K H B .none x) : x = .non := h
theorem rI_bl {b : Bool} (h : RepR K H B (.bool b) x) : x = .bl b := h
theorem rI_int {i : Int} (h : RepR K H B (.int i) x) : x = .int i := h
theorem rI_str {z : Str} (h : RepR K H B (.str z) x) : x = .str z := h
theorem rI_lst {ds : List D} (h : RepR K H B (.list ds) x) : ∃ a xs, x = .ref a ∧ SqL K H a xs ∧ RepVs K H B ds xs := h
theorem rI_tup {ds : List D} (h : RepR K H B (.tuple ds) x) : ∃ a xs, x = .ref a ∧ SqN K H a xs ∧ RepVs K H B ds xs := h
end
theorem rep_rep {K : PySem.W.Frag} {H : Hp} {B : Bs} {ds : List D} {xs : List V} : ∀ n : Nat, RepVs K H B ds xs → RepVs K H B (List.replicate n ds).flatten (List.replicate n xs).flatten
  | 0, _ => rfl
  | n + 1, h => by
    rw [List.replicate_succ, List.replicate_succ, List.flatten_cons, List.flatten_cons]
    exact h.append (rep_rep n h)
theorem atI_rep {K : PySem.W.Frag} {H : Hp} {B : Bs} {ds : List D} {xs : List V} {i : Int} {d : D} (h : RepVs K H B ds xs) (e : atI ds i = some d) : ∃ v, atI xs i = some v ∧ RepV K H B d v := by
  obtain ⟨j, hj, ej⟩ := Option.bind_eq_some_iff.mp e
  obtain ⟨v, ev, hv⟩ := h.get ej
  exact ⟨v, Option.bind_eq_some_iff.mpr ⟨j, by rw [h.length]; exact hj, ev⟩, hv⟩
theorem cut_rep {K : PySem.W.Frag} {H : Hp} {B : Bs} {ds : List D} {xs : List V} (lo hi : Option Int) (h : RepVs K H B ds xs) : RepVs K H B (cutD ds lo hi) (cutV xs lo hi) := by
  unfold cutD cutV
  rw [h.length]
  exact (h.drop _).take _
section
variable {X : Cx}
theorem mul_ok {i j : Int} (h : mulOk i j = true) : CMulW i j := (of_decide_eq_true h : i.natAbs.log2 + j.natAbs.log2 < 1000000)
/-- two lists of any origin -/
theorem cat_lists {pins : List (Addr × Obj)} {s : Shared} {σ : L2.St} {H : Hp} {Q : VK} {a b : Addr} {xs ys : List V} (I : Inv X pins σ H s) (h1 : SqL X.K H a xs) (h2 : SqL X.K H b ys) (hz : xs.length + ys.length ≤ sizeLine)
    (q : ∀ p, H p = none → Q (.ref p) (upd H p (.lst (xs ++ ys)))) : wpAny (model X.prog X.w) X.A (binaryOp .Add (.ref a) (.ref b)) (EP X pins σ Q) X.xe s := by
  obtain ⟨us, r1, p1, _⟩ := I.list h1
  obtain ⟨ws, r2, p2, _⟩ := I.list h2
  obtain ⟨⟨c1, d1, t1, l1⟩, n1, g1, k1, _, e1⟩ := p1
  obtain ⟨⟨c2, d2, t2, l2⟩, n2, g2, k2, _, e2⟩ := p2
  simp only at k1 e1 k2 e2
  subst k1 e1 k2 e2
  have hl : us.toArray.size + ws.toArray.size ≤ sizeLine := by
    rw [List.size_toArray, List.size_toArray, ← r1.length, ← r2.length]
    exact hz
  refine concat_meets ⟨_, g1, rfl⟩ ⟨_, g2, rfl⟩ noFill_list_add seq_list_add PySem.F.slot_list_add PySem.F.entry_list_add (PySem.F.args_list_add_2 _ _) (list_addW a b us.toArray ws.toArray n1 n2 d1 d2 l1 l2 hl) ⟨g1, g2, ?_⟩
  have ea : us.toArray ++ ws.toArray = (us ++ ws).toArray := by simp
  rw [ea]
  exact ⟨.ref _, _, I.lnew (t' := s.toks) (r1.append r2) (by rw [List.length_append]; exact hz), rfl, q _ I.fresh⟩
/-- two tuples of any origin -/
theorem cat_tups {pins : List (Addr × Obj)} {s : Shared} {σ : L2.St} {H : Hp} {Q : VK} {a b : Addr} {xs ys : List V} (I : Inv X pins σ H s) (h1 : SqT X.K H a xs) (h2 : SqT X.K H b ys) (hz : xs.length + ys.length ≤ sizeLine)
    (q0 : xs = [] → Q (.ref b) H) (q1 : ys = [] → Q (.ref a) H) (q : ∀ p o, H p = none → o.dict = none → Q (.ref p) (upd H p (.frz o (.tup (xs ++ ys))))) : wpAny (model X.prog X.w) X.A (binaryOp .Add (.ref a) (.ref b)) (EP X pins σ Q) X.xe s := by
  obtain ⟨us, v1, t1, _⟩ := I.tuple h1
  obtain ⟨ws, v2, t2, _⟩ := I.tuple h2
  have l1 := v1.length
  have l2 := v2.length
  have nil : ∀ {zs : List V} {cs : List Value}, Vals zs cs → cs = [] → zs = [] := fun {zs cs} v e => by
    subst e
    cases v
    rfl
  by_cases h : xs = []
  · have e : us = [] := by
      subst h
      cases v1
      rfl
    subst e
    exact cat_tup0 t1 t2 ⟨.ref b, H, I, rfl, q0 h⟩
  · refine HT.cat_tup t1 t2 (fun e => h (nil v1 e)) (fun e => ⟨.ref a, H, I, rfl, q1 (nil v2 e)⟩) (fun _ => ?_) (by omega)
    exact ⟨.ref s.heap.objs.size, _, I.laid (t' := s.toks) (o := .frz (tupO (us ++ ws)) (.tup (xs ++ ys))) (fun c u z => Heap.get?_push_of_some _ z) (Nat.le_refl _) (ok_tupN (Heap.get?_push_size _ rfl) (v1.append v2) (by rw [List.length_append]; exact hz)), rfl, q _ _ I.fresh rfl⟩
/-- a tuple so many times -/
theorem rep_tups {pins : List (Addr × Obj)} {s : Shared} {σ : L2.St} {H : Hp} {Q : VK} {a : Addr} {j : Int} {t : Tok} {xs : List V} (I : Inv X pins σ H s) (h1 : SqT X.K H a xs) (ne : xs ≠ []) (j1 : 2 ≤ j) (j2 : j ≤ 1000) (hz : xs.length ≤ 1000)
    (q : ∀ p o, H p = none → o.dict = none → Q (.ref p) (upd H p (.frz o (.tup (List.replicate j.toNat xs).flatten)))) : wpAny (model X.prog X.w) X.A (binaryOp .Mult (.ref a) (.int j t)) (EP X pins σ Q) X.xe s := by
  obtain ⟨us, v1, ⟨⟨c1, d1, t1, l1⟩, g1, e1, m1, k1⟩, _⟩ := I.tuple h1
  cases e1
  cases k1
  have n1 : us.length = xs.length := v1.length.symm
  have n2 : us ≠ [] := fun e => ne (List.eq_nil_of_length_eq_zero (by rw [← n1, e]; rfl))
  have n3 : us.toArray.isEmpty = false := by
    cases us with
    | nil => exact absurd rfl n2
    | cons _ _ => rfl
  have n4 : us.toArray.size = xs.length := by rw [List.size_toArray, n1]
  have up : j.toNat * xs.length ≤ 1000 * 1000 := Nat.mul_le_mul (by omega) hz
  have up2 : ((us.toArray.size : Nat) : Int) * j ≤ 1000000 := by
    rw [n4]
    have : ((xs.length : Nat) : Int) * j ≤ 1000 * j := Int.mul_le_mul_of_nonneg_right (by omega) (by omega)
    omega
  have up3 : (List.replicate j.toNat us).flatten.length ≤ sizeLine := by
    rw [PyProof.Rows.lm_len_rep_flat, n1, sizeLine_eq]
    omega
  have b0 : (decide (j < -(2 ^ 63)) || decide (j ≥ 2 ^ 63)) = false := by
    rw [decide_eq_false (show ¬ j < -(2 ^ 63) by omega), decide_eq_false (show ¬ j ≥ 2 ^ 63 by omega)]
    rfl
  have b1 : (us.toArray.isEmpty || j == 1) = false := by
    rw [n3]
    exact beq_eq_false_iff_ne.mpr (show j ≠ 1 by omega)
  have b2 : (decide (j ≤ 0) || us.toArray.isEmpty) = false := by
    rw [n3, decide_eq_false (show ¬ j ≤ 0 by omega)]
    rfl
  have b4 : Builtin.Tuple.tupleTooMany (((us.toArray.size : Nat) : Int) * j) = false := by
    show decide _ = false
    rw [sizeLine_eq]
    exact decide_eq_false (by omega)
  refine wpAny_binaryOp_repeat_ref (T := "tuple") (U := "int") (by decide) ⟨_, g1, rfl⟩ (fun z => typeIs_int z j t) noFill_tuple_mul F.fills_int_mul F.slot_int_rmul repeat_tuple F.slot_int_index.lookup ?_
  refine call_meets F.slot_int_rmul (typeIs_int s j t) F.entry_int_rmul (F.args_int_rmul_2 _ _) (int_rmul_tuple j t a us.toArray m1 d1 l1) ⟨g1, rfl, ⟨_, g1, rfl⟩, ?_⟩
  refine call_meets F.slot_tuple_mul ⟨_, g1, rfl⟩ F.entry_tuple_mul (F.args_tuple_mul_2 _ _) (tuple_mulW a us.toArray m1 d1 l1 j t b0 b1 b2 (by omega) b4 (by rw [size_rep, List.size_toArray]; exact up3)) ⟨g1, ?_⟩
  rw [size_rep]
  exact ⟨.ref s.heap.objs.size, _, I.laid (t' := s.toks) (o := .frz (tupO (List.replicate j.toNat us).flatten) (.tup (List.replicate j.toNat xs).flatten)) (fun c u z => Heap.get?_push_of_some _ z) (Nat.le_refl _) (ok_tupN (Heap.get?_push_size _ rfl) (v1.rep j.toNat) (by rw [PyProof.Rows.lm_len_rep_flat, sizeLine_eq]; omega)), rfl, q _ _ I.fresh rfl⟩
theorem tuple_none (l : Addr) (n : Nat) (dd : Option Addr) (sl : Array (Option Value)) (x : Int) (u : Tok) (c0 : (decide (x < -(2 ^ 63)) || decide (x ≥ 2 ^ 63)) = false) :
    Meets (Builtin.«tuple.__mul__» ⟨[.ref l, .int x u], []⟩) (fun _ R s => s.heap.get? l = some { cls := .type "tuple", dict := dd, data := .seq #[] n, slots := sl } ∧ R (.ok (.ret (Value.ref l))) s) :=
  .of_wp fun prog w A R s h => by
    obtain ⟨hp, g, d, tk, os⟩ := s
    obtain ⟨hl, h⟩ := h
    have f1 := AutoSeq1.idx_int
    wp_walk using wpAny_loadPart' hl
    refine wpAny_ite_false (decide_eq_false (by rw [c0]; exact Bool.false_ne_true)) ?_
    wp_walk using wpAny_loadPart' hl
    exact ⟨_, rfl, h⟩
theorem list_mulW (l : Addr) (items : Array Value) (n : Nat) (dd : Option Addr) (sl : Array (Option Value)) (x : Int) (u : Tok) (hc0 : ¬(!Builtin.List.listFitsIndex x) = true) (hc1 : ¬items.size * x.toNat > (2 ^ 63 - 1) / 8) (hc2 : ¬Builtin.List.listTooLong (items.size * x.toNat) = true) :
    Meets (Builtin.«list.__mul__» ⟨[.ref l, .int x u], []⟩) (fun _ R s => s.heap.get? l = some { cls := .type "list", dict := dd, data := .seq items n, slots := sl } ∧ R (.ok (.ret (Value.ref s.heap.objs.size))) { s with heap := s.heap.push { cls := Value.type "list", data := Data.seq (List.foldl (fun x1 x2 => x1 ++ x2) #[] (List.replicate (if items.isEmpty = true then 0 else x.toNat) items)) }, toks := s.toks }) :=
  .of_wp fun prog w A R s h => by
    obtain ⟨hp, g, d, tk, os⟩ := s; obtain ⟨hl, h⟩ := h
    have hsz := AutoListH.joined_fits hc2
    have f1 := AutoSeq1.idx_int
    wp_walk using wpAny_loadPart' hl; refine wpAny_ite_false (decide_eq_false (Nat.not_lt.mpr hsz)) ?_; wp_walk; exact ⟨_, rfl, h⟩
theorem int_rmul_listW (a : Int) (t : Tok) (l : Addr) (items : Array Value) (n : Nat) (dd : Option Addr) (sl : Array (Option Value)) :
    Meets (Builtin.«int.__rmul__» ⟨[.int a t, .ref l], []⟩) (fun _ R s => s.heap.get? l = some { cls := .type "list", dict := dd, data := .seq items n, slots := sl } ∧ R (.ok (.ret Value.notImplemented)) s) :=
  .of_wp fun prog w A R s h => by obtain ⟨hp, g, d, tk, os⟩ := s; obtain ⟨hl, h⟩ := h; wp_walk using wpAny_loadPart' hl; exact ⟨_, rfl, h⟩
/-- a list so many times -/
theorem rep_lists {pins : List (Addr × Obj)} {s : Shared} {σ : L2.St} {H : Hp} {Q : VK} {a : Addr} {k : Int} {t : Tok} {xs : List V} (I : Inv X pins σ H s) (h1 : SqL X.K H a xs) (j1 : 0 ≤ k) (j2 : k ≤ 1000) (hz : xs.length ≤ 1000)
    (q : ∀ p, H p = none → Q (.ref p) (upd H p (.lst (List.replicate k.toNat xs).flatten))) : wpAny (model X.prog X.w) X.A (binaryOp .Mult (.ref a) (.int k t)) (EP X pins σ Q) X.xe s := by
  obtain ⟨its, r, p1, _⟩ := I.list h1
  obtain ⟨⟨c1, d1, t1, l1⟩, n1, g1, k1, _, e1⟩ := p1
  simp only at k1 e1
  subst k1 e1
  have hl : its.length = xs.length := r.length.symm
  have up : xs.length * k.toNat ≤ 1000 * 1000 := Nat.mul_le_mul hz (by omega)
  have hlen : its.toArray.size * k.toNat ≤ sizeLine := by
    rw [List.size_toArray, hl, sizeLine_eq]
    omega
  have hcap : ¬ its.toArray.size * k.toNat > (2 ^ 63 - 1) / 8 := by
    have : (sizeLine : Nat) ≤ (2 ^ 63 - 1) / 8 := by decide
    omega
  have hfit : ¬ (!Builtin.List.listFitsIndex k) = true := by
    rw [fitsIndex_both (by omega) (by omega)]
    exact Bool.false_ne_true
  have hlong : ¬ Builtin.List.listTooLong (its.toArray.size * k.toNat) = true := by
    rw [notLongL hlen]
    exact Bool.false_ne_true
  have hnew : List.foldl (fun x1 x2 => x1 ++ x2) #[] (List.replicate (if its.toArray.isEmpty = true then 0 else k.toNat) its.toArray) = (List.replicate k.toNat its).flatten.toArray := by
    have f0 : ∀ m : Nat, List.foldl (fun x1 x2 => x1 ++ x2) #[] (List.replicate m its.toArray) = (List.replicate m its).flatten.toArray := fun m => by
      have := foldl_rep its m []
      rw [List.nil_append] at this
      exact this
    rw [f0]
    cases its with
    | nil => simp
    | cons a r' => rw [if_neg (by simp)]
  refine wpAny_binaryOp_repeat_ref (T := "list") (U := "int") (by decide) ⟨_, g1, rfl⟩ (fun s' => typeIs_int s' k t) noFill_list_mul F.fills_int_mul F.slot_int_rmul repeat_list F.slot_int_index.lookup
    (call_meets F.slot_int_rmul (typeIs_int s k t) F.entry_int_rmul (F.args_int_rmul_2 _ _) (int_rmul_listW k t a its.toArray n1 d1 l1)
      ⟨g1, rfl, ⟨_, g1, rfl⟩, call_meets F.slot_list_mul ⟨_, g1, rfl⟩ F.entry_list_mul (F.args_list_mul_2 _ _) (list_mulW a its.toArray n1 d1 l1 k t hfit hcap hlong) ⟨g1, ?_⟩⟩)
  rw [hnew]
  exact ⟨.ref _, _, I.lnew (t' := s.toks) (r.rep k.toNat) (by rw [PyProof.Rows.lm_len_rep_flat, sizeLine_eq]; rw [Nat.mul_comm] at up; omega), rfl, q _ I.fresh⟩
theorem tuple_one (l : Addr) (items : Array Value) (n : Nat) (dd : Option Addr) (sl : Array (Option Value)) (u : Tok) :
    Meets (Builtin.«tuple.__mul__» ⟨[.ref l, .int 1 u], []⟩) (fun _ R s => s.heap.get? l = some { cls := .type "tuple", dict := dd, data := .seq items n, slots := sl } ∧ R (.ok (.ret (Value.ref l))) s) :=
  .of_wp fun prog w A R s h => by
    obtain ⟨hp, g, d, tk, os⟩ := s
    obtain ⟨hl, h⟩ := h
    have f1 := AutoSeq1.idx_int
    wp_walk using wpAny_loadPart' hl
    exact ⟨_, rfl, h⟩
theorem tuple_zero (l : Addr) (items : Array Value) (n : Nat) (dd : Option Addr) (sl : Array (Option Value)) (u : Tok) (hn : items.isEmpty = false) :
    Meets (Builtin.«tuple.__mul__» ⟨[.ref l, .int 0 u], []⟩) (fun _ R s => s.heap.get? l = some { cls := .type "tuple", dict := dd, data := .seq items n, slots := sl } ∧ R (.ok (.ret (Value.ref s.heap.objs.size))) { s with heap := s.heap.push { cls := Value.type "tuple", data := Data.seq #[] }, toks := s.toks }) :=
  .of_wp fun prog w A R s h => by
    obtain ⟨hp, g, d, tk, os⟩ := s
    obtain ⟨hl, h⟩ := h
    have f1 := AutoSeq1.idx_int
    wp_walk using wpAny_loadPart' hl
    first
      | exact ⟨_, rfl, h⟩
      | (refine wpAny_ite_false (decide_eq_false (by simp [hn])) ?_
         wp_walk using wpAny_loadPart' hl
         exact ⟨_, rfl, h⟩)
/-- an empty tuple, so many times -/
theorem rep_none {pins : List (Addr × Obj)} {s : Shared} {σ : L2.St} {H : Hp} {Q : VK} {a : Addr} {j : Int} {t : Tok} (I : Inv X pins σ H s) (h1 : SqT X.K H a []) (j1 : 0 ≤ j) (j2 : j ≤ 1000)
    (q : Q (.ref a) H) : wpAny (model X.prog X.w) X.A (binaryOp .Mult (.ref a) (.int j t)) (EP X pins σ Q) X.xe s := by
  obtain ⟨us, v1, ⟨⟨c1, d1, t1, l1⟩, g1, e1, m1, k1⟩, _⟩ := I.tuple h1
  cases e1
  cases k1
  cases v1
  have b0 : (decide (j < -(2 ^ 63)) || decide (j ≥ 2 ^ 63)) = false := by
    rw [decide_eq_false (show ¬ j < -(2 ^ 63) by omega), decide_eq_false (show ¬ j ≥ 2 ^ 63 by omega)]
    rfl
  have m := tuple_none a m1 d1 l1 j t b0
  refine wpAny_binaryOp_repeat_ref (T := "tuple") (U := "int") (by decide) ⟨_, g1, rfl⟩ (fun z => typeIs_int z j t) noFill_tuple_mul F.fills_int_mul F.slot_int_rmul repeat_tuple F.slot_int_index.lookup ?_
  refine call_meets F.slot_int_rmul (typeIs_int s j t) F.entry_int_rmul (F.args_int_rmul_2 _ _) (int_rmul_tuple j t a #[] m1 d1 l1) ⟨g1, rfl, ⟨_, g1, rfl⟩, ?_⟩
  refine call_meets F.slot_tuple_mul ⟨_, g1, rfl⟩ F.entry_tuple_mul (F.args_tuple_mul_2 _ _) m ⟨g1, ?_⟩
  exact ⟨.ref a, H, I, rfl, q⟩
/-- a tuple once, never -/
theorem rep_once {pins : List (Addr × Obj)} {s : Shared} {σ : L2.St} {H : Hp} {Q : VK} {a : Addr} {t : Tok} {xs : List V} (I : Inv X pins σ H s) (h1 : SqT X.K H a xs)
    (q : Q (.ref a) H) : wpAny (model X.prog X.w) X.A (binaryOp .Mult (.ref a) (.int 1 t)) (EP X pins σ Q) X.xe s := by
  obtain ⟨us, v1, ⟨⟨c1, d1, t1, l1⟩, g1, e1, m1, k1⟩, _⟩ := I.tuple h1
  cases e1
  cases k1
  refine wpAny_binaryOp_repeat_ref (T := "tuple") (U := "int") (by decide) ⟨_, g1, rfl⟩ (fun z => typeIs_int z 1 t) noFill_tuple_mul F.fills_int_mul F.slot_int_rmul repeat_tuple F.slot_int_index.lookup ?_
  refine call_meets F.slot_int_rmul (typeIs_int s 1 t) F.entry_int_rmul (F.args_int_rmul_2 _ _) (int_rmul_tuple 1 t a us.toArray m1 d1 l1) ⟨g1, rfl, ⟨_, g1, rfl⟩, ?_⟩
  refine call_meets F.slot_tuple_mul ⟨_, g1, rfl⟩ F.entry_tuple_mul (F.args_tuple_mul_2 _ _) (tuple_one a us.toArray m1 d1 l1 t) ⟨g1, ?_⟩
  exact ⟨.ref a, H, I, rfl, q⟩
theorem rep_never {pins : List (Addr × Obj)} {s : Shared} {σ : L2.St} {H : Hp} {Q : VK} {a : Addr} {t : Tok} {xs : List V} (I : Inv X pins σ H s) (h1 : SqT X.K H a xs) (ne : xs ≠ [])
    (q : ∀ p o, H p = none → o.dict = none → Q (.ref p) (upd H p (.frz o (.tup [])))) : wpAny (model X.prog X.w) X.A (binaryOp .Mult (.ref a) (.int 0 t)) (EP X pins σ Q) X.xe s := by
  obtain ⟨us, v1, ⟨⟨c1, d1, t1, l1⟩, g1, e1, m1, k1⟩, _⟩ := I.tuple h1
  cases e1
  cases k1
  have n3 : us.toArray.isEmpty = false := by
    cases us with
    | nil =>
      cases v1
      exact absurd rfl ne
    | cons _ _ => rfl
  refine wpAny_binaryOp_repeat_ref (T := "tuple") (U := "int") (by decide) ⟨_, g1, rfl⟩ (fun z => typeIs_int z 0 t) noFill_tuple_mul F.fills_int_mul F.slot_int_rmul repeat_tuple F.slot_int_index.lookup ?_
  refine call_meets F.slot_int_rmul (typeIs_int s 0 t) F.entry_int_rmul (F.args_int_rmul_2 _ _) (int_rmul_tuple 0 t a us.toArray m1 d1 l1) ⟨g1, rfl, ⟨_, g1, rfl⟩, ?_⟩
  refine call_meets F.slot_tuple_mul ⟨_, g1, rfl⟩ F.entry_tuple_mul (F.args_tuple_mul_2 _ _) (tuple_zero a us.toArray m1 d1 l1 t n3) ⟨g1, ?_⟩
  exact ⟨.ref s.heap.objs.size, _, I.laid (t' := s.toks) (o := .frz (tupO []) (.tup [])) (fun c u z => Heap.get?_push_of_some _ z) (Nat.le_refl _) (ok_tupN (Heap.get?_push_size _ rfl) .nil (by decide)), rfl, q _ _ I.fresh rfl⟩
theorem opB (hu : X.A.units + 64 < cLine) : ∀ o : BOp, OpR X (binaryOp (match o with | .add => .Add | .sub => .Sub | .mul => .Mult | .fdiv => .FloorDiv | .mod => .Mod | .pow => .Pow)) (rOp2 X.K (dBin o))
  | .add => by
    intro pins s σ H x y v u Q I rx ry h
    obtain ⟨B, d, e, rv, hd, he, hf, q⟩ := h
    cases d <;> cases e <;> simp only [dBin, reduceCtorEq] at hf
    · cases rI_int hd
      cases rI_int he
      cases hf
      exact op_add pins s σ H _ _ v u Q I rx ry ⟨_, _, rfl, rfl, q _ _ (Res.pure rfl)⟩
    · cases rI_str hd
      cases rI_str he
      split at hf <;> cases hf
      exact op_add_str pins s σ H _ _ v u Q I rx ry ⟨_, _, rfl, rfl, ‹_›, q _ _ (Res.pure rfl)⟩
    · obtain ⟨a, xs, rfl, h1, h2⟩ := rI_lst hd
      obtain ⟨b, ys, rfl, h3, h4⟩ := rI_lst he
      split at hf <;> cases hf
      cases rx
      cases ry
      exact cat_lists I h1 h3 (by rw [h2.length, h4.length]; assumption) fun p hp => q _ _ (Res.lst hp (h2.append h4))
    · obtain ⟨a, xs, rfl, h1, h2⟩ := rI_tup hd
      obtain ⟨b, ys, rfl, h3, h4⟩ := rI_tup he
      split at hf <;> cases hf
      cases rx
      cases ry
      refine cat_tups I h1.sqt h3.sqt ?_ (fun e => ?_) (fun e => ?_) fun p o hp ho => q _ _ (Res.tup hp ho (h2.append h4))
      · rw [h2.length, h4.length]
        assumption
      · subst e
        cases (show _ = ([] : List D) from by
          have := h2.length
          exact List.eq_nil_of_length_eq_zero this.symm)
        exact q _ _ (Res.pure ⟨b, ys, rfl, h3, h4⟩)
      · subst e
        have z := List.eq_nil_of_length_eq_zero h4.length.symm
        subst z
        rw [List.append_nil] at q
        exact q _ _ (Res.pure ⟨a, xs, rfl, h1, h2⟩)
  | .sub => by
    intro pins s σ H x y v u Q I rx ry h
    obtain ⟨B, d, e, rv, hd, he, hf, q⟩ := h
    cases d <;> cases e <;> simp only [dBin, reduceCtorEq] at hf
    cases rI_int hd
    cases rI_int he
    cases hf
    exact op_sub pins s σ H _ _ v u Q I rx ry ⟨_, _, rfl, rfl, q _ _ (Res.pure rfl)⟩
  | .mul => by
    intro pins s σ H x y v u Q I rx ry h
    obtain ⟨B, d, e, rv, hd, he, hf, q⟩ := h
    cases d <;> cases e <;> simp only [dBin, reduceCtorEq] at hf
    · cases rI_int hd
      cases rI_int he
      split at hf <;> cases hf
      exact op_mulW pins s σ H _ _ v u Q I rx ry ⟨_, _, rfl, rfl, mul_ok ‹_›, q _ _ (Res.pure rfl)⟩
    · rename_i ds j
      obtain ⟨a, xs, rfl, h1, h2⟩ := rI_lst hd
      cases rI_int he
      split at hf <;> cases hf
      rename_i hk
      unfold repOk at hk
      simp only [Bool.and_eq_true, decide_eq_true_eq] at hk
      obtain ⟨⟨k2, k3⟩, k4⟩ := hk
      have hl := h2.length
      cases rx
      obtain ⟨t, rfl⟩ := ry
      exact rep_lists I h1 k2 k3 (by omega) fun p hp => q _ _ (Res.lst hp (rep_rep _ h2))
    · rename_i ds j
      obtain ⟨a, xs, rfl, h1, h2⟩ := rI_tup hd
      cases rI_int he
      split at hf <;> cases hf
      rename_i hk
      unfold repOk at hk
      simp only [Bool.and_eq_true, decide_eq_true_eq, Bool.not_eq_true', List.isEmpty_eq_false_iff] at hk
      obtain ⟨⟨k2, k3⟩, k4⟩ := hk
      have hl := h2.length
      cases rx
      obtain ⟨t, rfl⟩ := ry
      by_cases hz : xs = []
      · subst hz
        have hd : ds = [] := List.length_eq_zero_iff.mp hl.symm
        subst hd
        refine rep_none I h1.sqt k2 k3 ?_
        have e : (List.replicate j.toNat ([] : List D)).flatten = [] := by simp
        rw [e] at q
        exact q _ _ (Res.pure ⟨a, [], rfl, h1, rfl⟩)
      by_cases j1 : j = 1
      · subst j1
        refine rep_once I h1.sqt ?_
        have e : (List.replicate (Int.toNat 1) ds).flatten = ds := by simp
        rw [e] at q
        exact q _ _ (Res.pure ⟨a, xs, rfl, h1, h2⟩)
      by_cases j0 : j = 0
      · subst j0
        refine rep_never I h1.sqt hz fun p o hp ho => ?_
        have e : (List.replicate (Int.toNat 0) ds).flatten = [] := by simp
        rw [e] at q
        exact q _ _ (Res.tup hp ho rfl)
      exact rep_tups I h1.sqt hz (by omega) k3 (by omega) fun p o hp ho => q _ _ (Res.tup hp ho (rep_rep _ h2))
  | .fdiv => by
    intro pins s σ H x y v u Q I rx ry h
    obtain ⟨B, d, e, rv, hd, he, hf, q⟩ := h
    cases d <;> cases e <;> simp only [dBin, reduceCtorEq] at hf
    rename_i i j
    cases rI_int hd
    cases rI_int he
    split at hf <;> cases hf
    rename_i hk
    unfold divOk at hk
    simp only [Bool.and_eq_true, decide_eq_true_eq] at hk
    by_cases h0 : 0 < j
    · exact op_fdivW pins s σ H _ _ v u Q I rx ry ⟨_, _, rfl, rfl, ⟨h0, hk.2⟩, by have := q _ _ (Res.pure (v := .int (i / j)) (by rw [if_pos h0]; rfl)); exact this⟩
    · have hop : OpR X (binaryOp .FloorDiv) (rI (fun _ j => j ≠ 0 ∧ j.natAbs.log2 < 9000) fun i j => .int (i.fdiv j)) := opI fun _ _ _ _ _ _ _ hc q => floordiv_int hc.1 q (.inl (PyProof.noPylong_of_log2 hc.2))
      exact hop pins s σ H _ _ v u Q I rx ry ⟨_, _, rfl, rfl, hk, by have := q _ _ (Res.pure (v := .int (i.fdiv j)) (by rw [if_neg h0]; rfl)); exact this⟩
  | .mod => by
    intro pins s σ H x y v u Q I rx ry h
    obtain ⟨B, d, e, rv, hd, he, hf, q⟩ := h
    cases d <;> cases e <;> simp only [dBin, reduceCtorEq] at hf
    rename_i i j
    cases rI_int hd
    cases rI_int he
    split at hf <;> cases hf
    by_cases h0 : 0 < j
    · exact op_mod pins s σ H _ _ v u Q I rx ry ⟨_, _, rfl, rfl, h0, by have := q _ _ (Res.pure (v := .int (i % j)) (by rw [if_pos h0]; rfl)); exact this⟩
    · exact op_modN pins s σ H _ _ v u Q I rx ry ⟨_, _, rfl, rfl, ‹_›, by have := q _ _ (Res.pure (v := .int (i.fmod j)) (by rw [if_neg h0]; rfl)); exact this⟩
  | .pow => by
    intro pins s σ H x y v u Q I rx ry h
    obtain ⟨B, d, e, rv, hd, he, hf, q⟩ := h
    cases d <;> cases e <;> simp only [dBin, reduceCtorEq] at hf
    cases rI_int hd
    cases rI_int he
    split at hf <;> cases hf
    rename_i hk
    unfold powOk at hk
    simp only [Bool.and_eq_true, decide_eq_true_eq] at hk
    exact op_pow pins s σ H _ _ v u Q I rx ry ⟨_, _, rfl, rfl, ⟨hk.1.1, hk.1.2, hk.2⟩, q _ _ (Res.pure rfl)⟩
end
end Ev

namespace Ev
set_option autoImplicit false
open PySem PySem.Spec PyProof.Rows L2
variable [TheW]
section
variable {X : Cx} {pins : List (Addr × Obj)} {σ : L2.St} {H : Hp} {s : Shared} {B : Bs} {a b : Addr} {xs : List (NestedKey × Addr × Value)} {kvs : List (D × D)} {ep : Nat}
mutual
theorem nk_is (I : Inv X pins σ H s) : ∀ (d : D) (k : NestedKey) (v : V) (u : Value), nkD d = some k → RepV X.K H B d v → RelV v u → NestedIs s.heap k u
  | .none, k, v, u, hk, h, r => by
    cases hk
    cases (show v = V.non from h)
    cases (show u = Value.none from r)
    exact .none
  | .int i, k, v, u, hk, h, r => by
    cases hk
    cases (show v = V.int i from h)
    obtain ⟨t, rfl⟩ := (show ∃ t, u = Value.int i t from r)
    exact .int _ _
  | .str z, k, v, u, hk, h, r => by
    cases hk
    cases (show v = V.str z from h)
    obtain ⟨t, rfl⟩ := (show ∃ t, u = Value.str z t from r)
    exact .text _ _
  | .tuple ds, k, v, u, hk, h, r => by
    obtain ⟨ks, e1, e2⟩ := Option.map_eq_some_iff.mp (show (nkDs ds).map NestedKey.tup = some k from hk)
    subst e2
    obtain ⟨a, xs, rfl, hs, hr⟩ := h
    cases (show u = Value.ref a from r)
    obtain ⟨us, rv, ⟨c, g1, e3, m, k1⟩, _⟩ := I.tuple hs.sqt
    exact .tup g1 e3 k1 (nks_is I ds ks xs us e1 hr rv)
  | .bool _, k, v, u, hk, h, r => by cases hk
  | .list _, k, v, u, hk, h, r => by cases hk
  | .dict _, k, v, u, hk, h, r => by cases hk
theorem nks_is (I : Inv X pins σ H s) : ∀ (ds : List D) (ks : List NestedKey) (vs : List V) (us : List Value), nkDs ds = some ks → RepVs X.K H B ds vs → Vals vs us → NestedAll s.heap ks us
  | [], ks, vs, us, hk, h, r => by
    cases hk
    cases (show vs = [] from h)
    cases r
    exact .nil
  | d :: ds, ks, vs, us, hk, h, r => by
    obtain ⟨k, e1, e2⟩ := Option.bind_eq_some_iff.mp (show (nkD d).bind (fun k => (nkDs ds).map (k :: ·)) = some ks from hk)
    obtain ⟨ks', e3, e4⟩ := Option.map_eq_some_iff.mp e2
    subst e4
    obtain ⟨v, t, rfl, h1, h2⟩ := h
    cases r with
    | cons r1 r2 => exact .cons (nk_is I d k v _ e1 h1 r1) (nks_is I ds ks' t _ e3 h2 r2)
end
theorem n1_is (I : Inv X pins σ H s) : ∀ {kvs : List (D × D)} {xs : List (NestedKey × Addr × Value)}, RepN1 X.K H B kvs xs → ∀ x ∈ xs, NestedIs s.heap x.1 (.ref x.2.1) ∧ x.1.depth ≤ 8
  | [], xs, h, x, hx => by
    cases (show xs = [] from h)
    cases hx
  | (k, d) :: r, xs, h, x, hx => by
    obtain ⟨nk, q, u, v, t, e1, e2, rfl, h1, _, _, h4⟩ := h
    rcases List.mem_cons.mp hx with rfl | hx
    · exact ⟨nk_is I k _ _ _ e1 h1 rfl, e2⟩
    · exact n1_is I h4 x hx
theorem n1_len : ∀ {kvs : List (D × D)} {xs : List (NestedKey × Addr × Value)}, RepN1 X.K H B kvs xs → xs.length = kvs.length
  | [], xs, h => by
    cases (show xs = [] from h)
    rfl
  | (k, d) :: r, xs, h => by
    obtain ⟨nk, q, u, v, t, _, _, rfl, _, _, _, h4⟩ := h
    rw [List.length_cons, List.length_cons, n1_len h4]
/-- the object -/
theorem dn_at (hw : X.w = TheW.w) (I : Inv X pins σ H s) (e : H a = some (dN a xs ep)) (hr : RepN1 X.K H B kvs xs) : s.heap.DictOfH (nestedKind X.prog X.w) a xs ∧ (a == sysModules) = false ∧ xs.length ≤ sizeLine := by
  obtain ⟨⟨h1, h2, h3, o, es, h4, h5, h6, h7⟩, _, _⟩ := I.hok a _ e
  refine ⟨⟨o, es, ep, h4, h5, h6, ?_, fun x hx => n1_is I hr x hx, h3⟩, h1, h2⟩
  rw [h7]
  refine List.map_congr_left fun x _ => ?_
  show entN x = ⟨x.1.hash X.w, _, _⟩
  rw [hw]
  rfl
theorem dn_new {P : Program} {w : World} {h' : Heap} {H' : Hp} (hw : w = TheW.w) (hd : (a == sysModules) = false) (hl : xs.length ≤ sizeLine) (h : h'.DictOfH (nestedKind P w) a xs) : ∃ ep, ObjOk P w H' h' a (dN a xs ep) := by
  obtain ⟨o, es, ep, h4, h5, h6, h7, _, h8⟩ := h
  refine ⟨ep, ⟨hd, hl, h8, o, es, h4, h5, h6, ?_⟩, ⟨o, h4⟩, fun h1 h2 p k => ?_⟩
  · rw [h7]
    refine List.map_congr_left fun x _ => ?_
    show (⟨x.1.hash w, _, _⟩ : DictEntry) = entN x
    rw [hw]
    rfl
  · obtain ⟨g1, g2, g3, o', es', g4, g5⟩ := p
    exact ⟨g1, g2, g3, o', es', k _ g4, g5⟩
theorem key_some {y : D} (h : keyN y = true) : ∃ ks, nkD y = some (.tup ks) ∧ (NestedKey.tup ks).depth ≤ 8 := by
  unfold keyN at h
  split at h
  · exact ⟨_, ‹_›, of_decide_eq_true h⟩
  · cases h
theorem kEq_at {k y : D} {m n : NestedKey} (h1 : nkD k = some m) (h2 : nkD y = some n) : kEq k y = decide (m = n) := by
  unfold kEq
  rw [h1, h2, NestedKey.decide_eq]
theorem n1_val {y : D} {n : NestedKey} (hy : nkD y = some n) : ∀ {kvs : List (D × D)} {xs : List (NestedKey × Addr × Value)}, RepN1 X.K H B kvs xs →
    (nGet kvs y = none ∧ atKey xs n = none) ∨ ∃ d p v, nGet kvs y = some d ∧ atKey xs n = some p ∧ RelV v p.2 ∧ RepV X.K H B d v
  | [], xs, h => by
    cases (show xs = [] from h)
    exact .inl ⟨rfl, rfl⟩
  | (k, d) :: r, xs, h => by
    obtain ⟨nk, q, u, v, t, e1, e2, rfl, h1, h2, h3, h4⟩ := h
    have ke := kEq_at e1 hy
    unfold nGet atKey
    rw [List.find?_cons, List.find?_cons]
    dsimp only
    rw [ke]
    by_cases hn : NestedKey.tup nk = n
    · rw [decide_eq_true hn]
      exact .inr ⟨d, (q, u), v, rfl, rfl, h2, h3⟩
    · rw [decide_eq_false hn]
      exact n1_val hy h4
theorem n1_put {y d : D} {ks : List NestedKey} {v : V} {u : Value} (hy : nkD y = some (.tup ks)) (hd : (NestedKey.tup ks).depth ≤ 8) (hb : RepV X.K H B y (.ref b)) (hv : RelV v u) (hr : RepV X.K H B d v) {kvs : List (D × D)} {xs : List (NestedKey × Addr × Value)} (h : RepN1 X.K H B kvs xs) :
    RepN1 X.K H B (nPut kvs y d) (storedH xs (.tup ks) b u) := by
  have one : ∀ {kvs : List (D × D)} {xs : List (NestedKey × Addr × Value)}, RepN1 X.K H B kvs xs → RepN1 X.K H B (kvs.map (fun p => if kEq p.1 y then (p.1, d) else p)) (xs.map (putAt (.tup ks) u)) := by
    intro kvs
    induction kvs with
    | nil =>
      intro xs h
      cases (show xs = [] from h)
      rfl
    | cons p r ih =>
      intro xs h
      obtain ⟨k, d0⟩ := p
      obtain ⟨nk, q, u0, v0, t, e1, e2, rfl, h1, h2, h3, h4⟩ := h
      have ke := kEq_at e1 hy
      rw [List.map_cons, List.map_cons]
      dsimp only
      unfold putAt
      rw [ke]
      by_cases hn : NestedKey.tup nk = NestedKey.tup ks
      · rw [decide_eq_true hn, if_pos rfl, if_pos hn]
        exact ⟨nk, q, u, v, _, e1, e2, rfl, h1, hv, hr, ih h4⟩
      · rw [decide_eq_false hn, if_neg Bool.false_ne_true, if_neg hn]
        exact ⟨nk, q, u0, v0, _, e1, e2, rfl, h1, h2, h3, ih h4⟩
  have two : ∀ {kvs : List (D × D)} {xs : List (NestedKey × Addr × Value)}, RepN1 X.K H B kvs xs → RepN1 X.K H B (kvs ++ [(y, d)]) (xs ++ [(.tup ks, b, u)]) := by
    intro kvs
    induction kvs with
    | nil =>
      intro xs h
      cases (show xs = [] from h)
      exact ⟨ks, b, u, v, [], hy, hd, rfl, hb, hv, hr, rfl⟩
    | cons p r ih =>
      intro xs h
      obtain ⟨k, d0⟩ := p
      obtain ⟨nk, q, u0, v0, t, e1, e2, rfl, h1, h2, h3, h4⟩ := h
      exact ⟨nk, q, u0, v0, _, e1, e2, rfl, h1, h2, h3, ih h4⟩
  have any : ∀ {kvs : List (D × D)}, kvs.any (fun p => kEq p.1 y) = (nGet kvs y).isSome := by
    intro kvs
    induction kvs with
    | nil => rfl
    | cons p r ih =>
      unfold nGet at ih ⊢
      rw [List.any_cons, List.find?_cons, ih]
      cases kEq p.1 y <;> rfl
  unfold nPut storedH
  rw [any]
  rcases n1_val hy h with ⟨n1, n2⟩ | ⟨d', p, v', n1, n2, _⟩
  · rw [n1, n2]
    exact two h
  · rw [n1, n2]
    exact one h
theorem room_n {A : Around} (hu : A.units + 64 < cLine) : (nestedKind X.prog X.w).room A.in1 := by
  show A.units + 1 + 8 < cLine
  omega
/-- an item -/
def GetIs (X : Cx) (H : Hp) (a : Addr) (y v : V) : Prop := ∀ (pins : List (Addr × Obj)) (σ : L2.St) (s : Shared) (u : Value) (E : Value → Shared → Prop) (Q : Value → Shared → Prop), Inv X pins σ H s → RelV y u → (∀ w' s', Inv X pins σ H s' → RelV v w' → Q w' s') →
  s.TypeIs (.ref a) "dict" ∧ wpAny (model X.prog X.w) X.A (getItem (.ref a) u) Q E s
def HasIs (X : Cx) (H : Hp) (a : Addr) (y : V) (r : Bool) : Prop := ∀ (pins : List (Addr × Obj)) (σ : L2.St) (s : Shared) (u : Value) (E : Value → Shared → Prop) (Q : Value → Shared → Prop), Inv X pins σ H s → RelV y u →
  ((∀ s', Inv X pins σ H s' → Q (.bool r) s') → wpAny (model X.prog X.w) X.A (compareOp .In u (.ref a)) Q E s) ∧ ((∀ s', Inv X pins σ H s' → Q (.bool (!r)) s') → wpAny (model X.prog X.w) X.A (compareOp .NotIn u (.ref a)) Q E s)
def PutIs (X : Cx) (H : Hp) (a : Addr) (y v : V) (P : Hp → Prop) : Prop := ∀ (pins : List (Addr × Obj)) (σ : L2.St) (s : Shared) (u r : Value) (E : Value → Shared → Prop) (Q : Unit → Shared → Prop), Inv X pins σ H s → RelV y u → RelV v r → (∀ s' H', P H' → Inv X pins σ H' s' → Q () s') →
  wpAny (model X.prog X.w) X.A (setItem (.ref a) u r) Q E s
theorem get_k (hu : X.A.units + 64 < cLine) {ks : List (L2.Key × V)} {z : L2.Key} {v : V} (e : Rd H a (.dK ks)) (l : valV ks z = some v) : GetIs X H a (kV z) v := fun pins σ s u E Q I ry q =>
  ⟨dict_typeIs I (.inl ⟨ks, z, e, rfl, l.symm⟩), d_getItem (by omega) I (.inl ⟨ks, z, e, rfl, l.symm⟩) ry q⟩
theorem get_n (hu : X.A.units + 64 < cLine) (hw : X.w = TheW.w) {y d : D} {x : V} (e : H a = some (dN a xs ep)) (hr : RepN1 X.K H B kvs xs) (hy : keyN y = true) (hx : RepV X.K H B y x) (hg : nGet kvs y = some d) : ∃ v, RepV X.K H B d v ∧ GetIs X H a x v := by
  obtain ⟨ks, k1, k2⟩ := key_some hy
  rcases n1_val k1 hr with ⟨n1, _⟩ | ⟨d', p, v, n1, n2, n3, n4⟩
  · rw [n1] at hg
    cases hg
  rw [n1] at hg
  cases hg
  refine ⟨v, n4, fun pins σ s u E Q I ry q => ?_⟩
  obtain ⟨m1, m2, m3⟩ := dn_at hw I e hr
  have hk := nk_is I y _ _ _ k1 hx ry
  cases hk with
  | tup g1 g2 g3 g4 =>
    refine ⟨m1.typeIs, wpAny_getItem_heap (knd := nestedKind X.prog X.w) (room_n hu) ⟨.tup g1 g2 g3 g4, k2⟩ m1 n2 (q _ _ (I.tok _) n3)⟩
theorem has_k (hu : X.A.units + 64 < cLine) {ks : List (L2.Key × V)} {z : L2.Key} (e : Rd H a (.dK ks)) : HasIs X H a (kV z) (valV ks z).isSome := fun pins σ s u E Q I ry =>
  ⟨fun q => d_in (by omega) I (.inl ⟨ks, z, e, rfl, rfl⟩) ry q, fun q => d_notIn (by omega) I (.inl ⟨ks, z, e, rfl, rfl⟩) ry q⟩
theorem has_n (hu : X.A.units + 64 < cLine) (hw : X.w = TheW.w) {y : D} {x : V} (e : H a = some (dN a xs ep)) (hr : RepN1 X.K H B kvs xs) (hy : keyN y = true) (hx : RepV X.K H B y x) : HasIs X H a x (nGet kvs y).isSome := by
  obtain ⟨ks, k1, k2⟩ := key_some hy
  intro pins σ s u E Q I ry
  obtain ⟨m1, m2, m3⟩ := dn_at hw I e hr
  have hk := nk_is I y _ _ _ k1 hx ry
  have hs : (nGet kvs y).isSome = (atKey xs (.tup ks)).isSome := by
    rcases n1_val k1 hr with ⟨n1, n2⟩ | ⟨d', p, v, n1, n2, _⟩ <;> rw [n1, n2] <;> rfl
  cases hk with
  | tup g1 g2 g3 g4 =>
    refine ⟨fun q => wpAny_in_heap (knd := nestedKind X.prog X.w) (room_n hu) ⟨.tup g1 g2 g3 g4, k2⟩ m2 m1 ?_, fun q => wpAny_notIn_heap (knd := nestedKind X.prog X.w) (room_n hu) ⟨.tup g1 g2 g3 g4, k2⟩ m2 m1 ?_⟩
    · rw [← hs]
      exact q _ (I.tok _)
    · rw [← hs]
      exact q _ (I.tok _)
/-- an empty dict of texts is an empty dict of tuples -/
theorem dk_nil (I : Inv X pins σ H s) (e : H a = some (.dK [])) : s.heap.DictOfH (nestedKind X.prog X.w) a [] ∧ (a == sysModules) = false := by
  obtain ⟨_, hd, vs, rel, dd⟩ := dk_of I.hok e
  cases rel
  obtain ⟨o, es, ep, h1, h2, h3, h4, h5, _⟩ := dd
  refine ⟨⟨o, es, ep, h1, h2, h3, ?_, (fun x (hx : x ∈ []) => nomatch hx), List.nodup_nil⟩, hd⟩
  rw [List.map_nil]
  exact List.eq_nil_of_length_eq_zero h5.length
theorem has_nil (hu : X.A.units + 64 < cLine) {y : D} {x : V} (e : H a = some (.dK [])) (hy : keyN y = true) (hx : RepV X.K H B y x) : HasIs X H a x false := by
  obtain ⟨ks, k1, k2⟩ := key_some hy
  intro pins σ s u E Q I ry
  obtain ⟨m1, m2⟩ := dk_nil I e
  have hk := nk_is I y _ _ _ k1 hx ry
  cases hk with
  | tup g1 g2 g3 g4 =>
    exact ⟨fun q => wpAny_in_heap (knd := nestedKind X.prog X.w) (room_n hu) ⟨.tup g1 g2 g3 g4, k2⟩ m2 m1 (q _ (I.tok _)), fun q => wpAny_notIn_heap (knd := nestedKind X.prog X.w) (room_n hu) ⟨.tup g1 g2 g3 g4, k2⟩ m2 m1 (q _ (I.tok _))⟩
theorem put_k (hu : X.A.units + 64 < cLine) {ks : List (L2.Key × V)} {z : L2.Key} {v : V} (e : H a = some (.dK ks)) (hl : ks.length < sizeLine) : PutIs X H a (kV z) v fun H' => H' = upd H a (.dK (putK ks z v)) := fun pins σ s u r E Q I ry rv q =>
  d_setItem (by omega) I (.inl ⟨ks, z, e, rfl, hl, rfl⟩) ry rv fun s' I' => q s' _ rfl I'
theorem put_h (hu : X.A.units + 64 < cLine) (hw : X.w = TheW.w) {y d : D} {x v : V} (mu : Mut (H a)) (hy : keyN y = true) (hx : RepV X.K H B y x) (hv : RepV X.K H B d v) (hr : RepN1 X.K H B kvs xs) (hl : kvs.length ≤ 100000)
    (at_ : ∀ (pins : List (Addr × Obj)) (σ : L2.St) (s : Shared), Inv X pins σ H s → s.heap.DictOfH (nestedKind X.prog X.w) a xs ∧ (a == sysModules) = false) : PutIs X H a x v fun H' => ∃ xs' ep', H' = upd H a (dN a xs' ep') ∧ RepN1 X.K H B (nPut kvs y d) xs' := by
  obtain ⟨ks, k1, k2⟩ := key_some hy
  intro pins σ s u r E Q I ry rv q
  obtain ⟨m1, m2⟩ := at_ pins σ s I
  have hn := n1_len hr
  have hk := nk_is I y _ _ _ k1 hx ry
  have sz := sizeLine_eq
  cases hk with
  | @tup b o vs n _ g1 g2 g3 g4 =>
    refine wpAny_setItem_heap (knd := nestedKind X.prog X.w) (hsz := by omega) (room_n hu) ⟨.tup g1 g2 g3 g4, k2⟩ m1 fun h' dd hs => ?_
    have hx' : RepV X.K H B y (.ref b) := by
      have : x = .ref b := by
        obtain ⟨ds, rfl⟩ : ∃ ds, y = .tuple ds := by
          cases y <;> first | exact ⟨_, rfl⟩ | cases k1
        obtain ⟨a', _, rfl, _, _⟩ := hx
        cases (show Value.ref b = Value.ref a' from ry)
        rfl
      rw [← this]
      exact hx
    have hl' : (storedH xs (NestedKey.tup ks) b r).length ≤ sizeLine := by
      unfold storedH
      split
      · rw [List.length_map]
        omega
      · rw [List.length_append, List.length_singleton]
        omega
    obtain ⟨ep', ok⟩ := dn_new (H' := upd H a (dN a (storedH xs (NestedKey.tup ks) b r) 0)) hw m2 hl' dd
    have he : ∃ q, h'.get? a = some q := let ⟨q, _, _, hq, _⟩ := dd; ⟨q, hq⟩
    exact q _ _ ⟨_, ep', rfl, n1_put k1 k2 hx' rv hv hr⟩ (d_write I mu hs he ok)
theorem put_n (hu : X.A.units + 64 < cLine) (hw : X.w = TheW.w) {y d : D} {x v : V} (e : H a = some (dN a xs ep)) (hy : keyN y = true) (hx : RepV X.K H B y x) (hv : RepV X.K H B d v) (hr : RepN1 X.K H B kvs xs) (hl : kvs.length ≤ 100000) :
    PutIs X H a x v fun H' => ∃ xs' ep', H' = upd H a (dN a xs' ep') ∧ RepN1 X.K H B (nPut kvs y d) xs' :=
  put_h hu hw (by rw [e]; exact True.intro) hy hx hv hr hl fun pins σ s I => let ⟨m1, m2, _⟩ := dn_at hw I e hr; ⟨m1, m2⟩
theorem put_nil (hu : X.A.units + 64 < cLine) (hw : X.w = TheW.w) {y d : D} {x v : V} (e : H a = some (.dK [])) (hy : keyN y = true) (hx : RepV X.K H B y x) (hv : RepV X.K H B d v) :
    PutIs X H a x v fun H' => ∃ xs' ep', H' = upd H a (dN a xs' ep') ∧ RepN1 X.K H B (nPut [] y d) xs' :=
  put_h hu hw (by rw [e]; exact True.intro) hy hx hv (kvs := []) (xs := []) rfl (by decide) fun pins σ s I => dk_nil I e
end
section
variable {X : Cx} {H : Hp} {B : Bs} {a : Addr} {ob : HO} {kvs : List (D × D)}
theorem nAt_all {y d : D} (h : nAt kvs y = some d) : ∃ r, kvs = (.bool true, .none) :: r ∧ keyN y = true ∧ nGet r y = some d := by
  unfold nAt at h
  split at h
  · split at h
    · exact ⟨_, rfl, ‹_›, h⟩
    · cases h
  · cases h
theorem DoR.n {r : List (D × D)} (h : DoR X.K H B ((.bool true, .none) :: r) a ob) : ∃ xs ep, ob = dN a xs ep ∧ RepN1 X.K H B r xs := by
  rcases h with ⟨ks, rfl, h2⟩ | ⟨xs, ep, rfl, h2⟩
  · cases (ks_isN h2 : isN ((.bool true, .none) :: r) = false)
  · obtain ⟨r', e, h3⟩ := h2.cons
    cases e
    exact ⟨xs, ep, rfl, h3⟩
theorem DoV.n {r : List (D × D)} (h : DoV X.K H B ((.bool true, .none) :: r) a ob) : ∃ xs ep, ob = dN a xs ep ∧ RepN1 X.K H B r xs := by
  rcases h with h | h | ⟨_, ks, _, h2⟩
  · exact DoR.n (.inl h)
  · exact DoR.n (.inr h)
  · cases (h2.1 : (PyData.bool true : D) = .bool false)
theorem do_get (hu : X.A.units + 64 < cLine) (hw : X.w = TheW.w) {y d : D} {x : V} (e : H a = some ob) (h : DoV X.K H B kvs a ob) (hx : RepV X.K H B y x) (hg : nAt kvs y = some d) : ∃ v, RepV X.K H B d v ∧ GetIs X H a x v := by
  obtain ⟨r, rfl, hy, h1⟩ := nAt_all hg
  obtain ⟨xs, ep, rfl, h2⟩ := h.n
  exact get_n hu hw e h2 hy hx h1
/-- a dict of texts, locked or not, as it is read -/
theorem DoV.rd (e : H a = some ob) (h : DoV X.K H B kvs a ob) (hn : isN kvs = false) : ∃ ks r, Rd H a (.dK ks) ∧ RepKs X.K H B r ks ∧ ∀ z, dGet kvs z = dGet r z := by
  rcases h with ⟨ks, rfl, h2⟩ | ⟨xs, ep, rfl, h2⟩ | ⟨o, ks, rfl, h2⟩
  · exact ⟨ks, kvs, .inl e, h2, fun _ => rfl⟩
  · rw [RepNs.isN h2] at hn
    cases hn
  · obtain ⟨r, rfl, h3⟩ := h2.cons
    exact ⟨ks, r, .inr ⟨o, e⟩, h3, fun _ => rfl⟩
theorem DoV.noN {z : Str} {d : D} (h : DoV X.K H B kvs a ob) (hg : dGet kvs z = some d) : isN kvs = false := by
  rcases h with ⟨ks, rfl, h2⟩ | ⟨xs, ep, rfl, h2⟩ | ⟨o, ks, rfl, h2⟩
  · exact ks_isN h2
  · obtain ⟨r, rfl, h3⟩ := h2.cons
    have e : dGet r z = some d := hg
    rw [n1_get z h3] at e
    cases e
  · obtain ⟨r, rfl, h3⟩ := h2.cons
    rfl
theorem do_getz (hu : X.A.units + 64 < cLine) {z : Str} {d : D} (e : H a = some ob) (h : DoV X.K H B kvs a ob) (hg : dGet kvs z = some d) : ∃ v, RepV X.K H B d v ∧ GetIs X H a (.str z) v := by
  obtain ⟨ks, r, e2, h2, h3⟩ := h.rd e (h.noN hg)
  rw [h3] at hg
  rcases ks_get (z := z) h2 with ⟨n1, _⟩ | ⟨d', w, n1, n2, n3⟩
  · rw [n1] at hg
    cases hg
  · rw [n1] at hg
    cases hg
    exact ⟨w, n3, get_k (z := .inr z) hu e2 n2⟩
theorem do_has (hu : X.A.units + 64 < cLine) (hw : X.w = TheW.w) {y : D} {t : Bool} {x : V} (e : H a = some ob) (h : DoV X.K H B kvs a ob) (hx : RepV X.K H B y x) (hg : nHas kvs y = some t) : HasIs X H a x t := by
  unfold nHas at hg
  split at hg
  · split at hg <;> cases hg
    rcases h with ⟨ks, rfl, h2⟩ | ⟨xs, ep, rfl, h2⟩ | ⟨o, ks, rfl, h2⟩
    · cases (show ks = [] from h2)
      exact has_nil hu e ‹_› hx
    · exact h2.elim
    · exact h2.elim
  · split at hg <;> cases hg
    obtain ⟨xs, ep, rfl, h2⟩ := h.n
    exact has_n hu hw e h2 ‹_› hx
  · cases hg
theorem do_hasz (hu : X.A.units + 64 < cLine) {z : Str} (e : H a = some ob) (h : DoV X.K H B kvs a ob) (hn : isN kvs = false) : HasIs X H a (.str z) (dGet kvs z).isSome := by
  obtain ⟨ks, r, e2, h2, h3⟩ := h.rd e hn
  rw [h3]
  have := has_k (X := X) (z := .inr z) hu e2
  rcases ks_get (z := z) h2 with ⟨n1, n2⟩ | ⟨d', w, n1, n2, n3⟩
  · rw [n2] at this
    rw [n1]
    exact this
  · rw [n2] at this
    rw [n1]
    exact this
theorem do_put (hu : X.A.units + 64 < cLine) (hw : X.w = TheW.w) {y d : D} {kvs' : List (D × D)} {x v : V} (e : H a = some ob) (h : DoR X.K H B kvs a ob) (hx : RepV X.K H B y x) (hv : RepV X.K H B d v) (hl : kvs.length ≤ 100000) (hg : nSet kvs y d = some kvs') :
    PutIs X H a x v fun H' => ∃ ob', H' = upd H a ob' ∧ DoR X.K H B kvs' a ob' := by
  unfold nSet at hg
  split at hg
  · split at hg <;> cases hg
    rcases h with ⟨ks, rfl, h2⟩ | ⟨xs, ep, rfl, h2⟩
    · cases (show ks = [] from h2)
      intro pins σ s u r E Q I ry rv q
      exact put_nil hu hw e ‹_› hx hv pins σ s u r E Q I ry rv fun s' H' ⟨xs', ep', e1, e2⟩ I' => q s' H' ⟨_, e1, .inr ⟨xs', ep', rfl, rfl, rfl, e2⟩⟩ I'
    · exact h2.elim
  · rename_i r0
    split at hg <;> cases hg
    obtain ⟨xs, ep, rfl, h2⟩ := h.n
    intro pins σ s u r E Q I ry rv q
    exact put_n hu hw e ‹_› hx hv h2 (by rw [List.length_cons] at hl; omega) pins σ s u r E Q I ry rv fun s' H' ⟨xs', ep', e1, e2⟩ I' => q s' H' ⟨_, e1, .inr ⟨xs', ep', rfl, rfl, rfl, e2⟩⟩ I'
  · cases hg
theorem do_putz (hu : X.A.units + 64 < cLine) {z : Str} {d : D} {v : V} (e : H a = some ob) (h : DoR X.K H B kvs a ob) (hv : RepV X.K H B d v) (hl : kvs.length ≤ 100000) (hn : isN kvs = false) :
    PutIs X H a (.str z) v fun H' => ∃ ob', H' = upd H a ob' ∧ DoR X.K H B (dPut kvs z d) a ob' := by
  obtain ⟨ks, rfl, h2⟩ := h.k hn
  intro pins σ s u r E Q I ry rv q
  exact put_k (z := .inr z) hu e (by rw [ks_len h2, sizeLine_eq]; omega) pins σ s u r E Q I ry rv fun s' H' e1 I' => q s' H' ⟨_, e1, .inl ⟨_, rfl, ks_put h2 hv⟩⟩ I'
variable {o i e value : Expr} {pos pos' : Pos} {td ty tv : TE}
def tGetIs (X : Cx) (td ty : TE) : TE := fun σ H Q => td σ H fun x H1 => ty σ H1 fun y H2 => ∃ a v, x = .ref a ∧ GetIs X H2 a y v ∧ Q v H2
theorem pe_getIs (ho : PE X o td) (hi : PE X i ty) (hs : NoSl i) : PE X (.Subscript o i pos) (tGetIs X td ty) := by
  refine ⟨fun pins s σ H Q I h => ?_⟩
  refine subD_of PySem.F.slot_dict_getitem.lookup hs (thn (ho.run pins s σ H _ I h) fun u s1 ⟨x, H1, I1, rx, q1⟩ => thn (hi.run pins s1 σ H1 _ I1 q1) fun iv s2 ⟨y, H2, I2, ry, a, v, ex, g, q2⟩ => ?_)
  subst ex
  obtain rfl : u = Value.ref a := rx
  exact g _ _ _ _ _ _ I2 ry fun w' s3 I3 rw' => ⟨v, H2, I3, rw', q2⟩
def tInIs (X : Cx) (t : Bool) (ty td : TE) : TE := fun σ H Q => ty σ H fun y H1 => td σ H1 fun x H2 => ∃ a o, x = .ref a ∧ HasIs X H2 a y o ∧ Q (.bl (o == t)) H2
theorem pc_inIs (hi : PE X i ty) (ho : PE X o td) : PC X .In i o (tInIs X true ty td) := by
  refine ⟨fun pins s σ H Q I h => ?_⟩
  refine thn (hi.run pins s σ H _ I h) fun iv s1 ⟨y, H1, I1, ry, q1⟩ => thn (ho.run pins s1 σ H1 _ I1 q1) fun u s2 ⟨x, H2, I2, rx, a, ov, ex, g, q2⟩ => ?_
  subst ex
  obtain rfl : u = Value.ref a := rx
  rw [show (ov == true) = ov by cases ov <;> rfl] at q2
  exact (g _ _ _ _ _ _ I2 ry).1 fun s3 I3 => ⟨.bl ov, H2, I3, rfl, q2⟩
theorem pc_ninIs (hi : PE X i ty) (ho : PE X o td) : PC X .NotIn i o (tInIs X false ty td) := by
  refine ⟨fun pins s σ H Q I h => ?_⟩
  refine thn (hi.run pins s σ H _ I h) fun iv s1 ⟨y, H1, I1, ry, q1⟩ => thn (ho.run pins s1 σ H1 _ I1 q1) fun u s2 ⟨x, H2, I2, rx, a, ov, ex, g, q2⟩ => ?_
  subst ex
  obtain rfl : u = Value.ref a := rx
  rw [show (ov == false) = !ov by cases ov <;> rfl] at q2
  exact (g _ _ _ _ _ _ I2 ry).2 fun s3 I3 => ⟨.bl (!ov), H2, I3, rfl, q2⟩
def sPutIs (X : Cx) (td ty tv : TE) : TS := fun D σ H => tv σ H fun v H1 => td σ H1 fun x H2 => ty σ H2 fun y H3 => ∃ a P, x = .ref a ∧ PutIs X H3 a y v P ∧ ∀ H4, P H4 → D.nx σ H4
theorem ps_putIs (ho : PE X o td) (hi : PE X i ty) (hv : PE X value tv) (hs : swapsWith value (some (.Subscript o i pos')) pos.line X.env = pure false) :
    PS X (.Assign [.Subscript o i pos'] value pos) (sPutIs X td ty tv) := by
  refine ⟨fun pins s σ H D I h => ?_⟩
  refine wpAny_Assign_Subscript (thn (hv.run pins s σ H _ I h) fun r s1 ⟨v, H1, I1, rv, q1⟩ => thn (ho.run pins s1 σ H1 _ I1 q1) fun u s2 ⟨x, H2, I2, rx, q2⟩ => thn (hi.run pins s2 σ H2 _ I2 q2) fun iv s3 ⟨y, H3, I3, ry, a, P, ex, g, q3⟩ => ?_) hs
  subst ex
  obtain rfl : u = Value.ref a := rx
  exact g _ _ _ _ _ _ _ I3 ry rv fun s4 H4 p I4 => ⟨σ, H4, I4, q3 _ p⟩
end
section
variable {P : Program} {w : World} {K : PySem.W.Frag} {tg : Expr} {d : Addr} {xs : List (NestedKey × Addr × Value)} {ep : Nat}
def Itn (d : Addr) (xs : List (NestedKey × Addr × Value)) (ep : Nat) : It :=
  ⟨fun i H => H d = some (dN d xs ep) ∧ i < xs.length, fun i H x H' => H' = H ∧ ∃ k q u, xs[i]? = some (k, q, u) ∧ x = .ref q, fun i H => H d = some (dN d xs ep) ∧ xs.length ≤ i⟩
theorem dn_raw {X : Cx} {pins : List (Addr × Obj)} {σ : L2.St} {H : Hp} {s : Shared} (I : Inv X pins σ H s) (e : H d = some (dN d xs ep)) : (d == sysModules) = false ∧ ∃ (o : Obj) (es : Array DictEntry), s.heap.get? d = some o ∧ o.ExactDict ∧ o.data = .dict es ep ∧ es.size = xs.length ∧ ∀ (i : Nat) k q u, xs[i]? = some (k, q, u) → ∃ en : DictEntry, es[i]? = some en ∧ en.key = .ref q := by
  obtain ⟨⟨h1, h2, h3, o, es, h4, h5, h6, h7⟩, _, _⟩ := I.hok d _ e
  refine ⟨h1, o, es, h4, h5, h6, ?_, fun i k q u hx => ?_⟩
  · have := congrArg List.length h7
    rw [List.length_map, Array.length_toList] at this
    exact this
  · refine ⟨entN (k, q, u), ?_, rfl⟩
    rw [← Array.getElem?_toList, h7, List.getElem?_map, hx]
    rfl
theorem turn_n (it : Addr) : Turn P w K tg (Itn d xs ep) [it] it (fun i h => h.IsKeyIter it d i xs.length ep) where
  mem := by simp
  obj := fun i h st b hb => by
    have e : b = it := by simpa using hb
    subst e
    obtain ⟨oi, e, c, dd⟩ := st
    exact ⟨oi, e, fun v z => by rw [dd] at z; cases z⟩
  keep := fun i h h' st k => st.at fun oi e => k it (by simp) oi e
  item := by
    intro X hP hw hK hc i pins s σ H E I hf st hg
    subst hP hw hK
    obtain ⟨hd, hi⟩ := hg
    obtain ⟨f0, f1, f2, f3, f4, f5⟩ := hf it (by simp)
    obtain ⟨hs, o, es, hgd, hx, hdt, hsz, ent⟩ := dn_raw I hd
    obtain ⟨⟨k, q, u⟩, hkv⟩ : ∃ p, xs[i]? = some p := ⟨xs[i], List.getElem?_eq_getElem hi⟩
    obtain ⟨en, hen, hkey⟩ := ent i k q u hkv
    refine next_key_item st hgd hdt hsz hen fun h' st' sb => ?_
    have I1 : Inv X pins σ H { s with heap := h' } := I.turned (t' := s.toks) (fun b ob hb e => (sb.2 b hb).trans e) f0 f1 f3 f4 f5
    obtain ⟨oi, e, c, dd⟩ := id st'
    exact ⟨en.key, rfl, go_of (s := { s with heap := h' }) e c dd (by decide) ⟨.ref q, H, I1, hkey, ⟨rfl, k, q, u, hkv, rfl⟩, st', fun b hb => (hf b hb).1⟩⟩
  done := by
    intro X hP hw hK hc i pins s σ H E I hf st hg
    subst hP hw hK
    obtain ⟨hd, hi⟩ := hg
    obtain ⟨f0, f1, f2, f3, f4, f5⟩ := hf it (by simp)
    obtain ⟨hs, o, es, hgd, hx, hdt, hsz, ent⟩ := dn_raw I hd
    exact next_key_end (I.ok.hd hc) st hgd hdt hsz hi fun h' eb => ⟨rfl, I.turned (t' := s.toks) (fun b ob hb e => eb b ob hb e) f0 f1 f3 f4 f5⟩
  self := fun A i s Q E st h => by
    refine wpAny_pyIter_slot st.typeIs F.slot_dict_keyiterator_iter (wpAny_call_entry F.slot_dict_keyiterator_iter st.typeIs F.entry_dict_keyiterator_iter ?_ (F.args_dict_keyiterator_iter_1 _))
    show wpAny _ _ (ret (.ref it)) _ _ s
    exact wpAny_pure ⟨_, rfl, "dict_keyiterator", _, st.typeIs, F.slot_dict_keyiterator_next.lookup, h⟩
def iN (td : TE) : TI := fun σ H R => td σ H fun x H1 => ∃ d xs ep, x = .ref d ∧ H1 d = some (dN d xs ep) ∧ R (Itn d xs ep) H1
theorem pi_n {X : Cx} {e : Expr} {td : TE} (he : PE X e td) : PI X tg e (iN td) := by
  refine ⟨fun pins s σ H R I h => ?_⟩
  refine thn (he.run pins s σ H _ I h) fun u s1 ⟨x, H1, I1, rx, d, xs, ep, ex, hd, q⟩ => ?_
  subst ex
  obtain rfl : u = Value.ref d := rx
  obtain ⟨hs, o, es, hgd, hx, hdt, hsz, ent⟩ := dn_raw I1 hd
  refine iter_keys hs hgd hx hdt (pi_one (tk := s1.toks) I1 _ (turn_n _) ⟨_, Heap.get?_push_size _ rfl, rfl, ?_⟩ q)
  rw [hsz] <;> rfl
theorem walk_n : Walk (Itn d xs ep) xs.length (fun H => H d = some (dN d xs ep)) (fun i H x H' => H' = H ∧ ∃ k q u, xs[i]? = some (k, q, u) ∧ x = .ref q) :=
  ⟨fun i _ hi q => ⟨q, hi⟩, fun _ q => ⟨q, Nat.le_refl _⟩, fun _ _ _ _ _ _ y => y⟩
theorem n1_key {K : PySem.W.Frag} {H : Hp} {B : Bs} {k : NestedKey} {q : Addr} {u : Value} : ∀ {kvs : List (D × D)} {xs : List (NestedKey × Addr × Value)} {i : Nat} {d : D}, RepN1 K H B kvs xs → xs[i]? = some (k, q, u) → (kvs.map (·.1))[i]? = some d → RepV K H B d (.ref q)
  | [], _, _, _, _, _, h => by simp at h
  | (kk, dd) :: r, xs, i, d, h, h1, h2 => by
    obtain ⟨nk, q', u', v, t, e1, e2, rfl, r1, _, _, r4⟩ := h
    cases i with
    | zero =>
      simp only [List.getElem?_cons_zero, Option.some.injEq] at h1
      rw [List.map_cons, List.getElem?_cons_zero, Option.some.injEq] at h2
      cases h1
      subst h2
      exact r1
    | succ i =>
      simp only [List.getElem?_cons_succ] at h1
      rw [List.map_cons, List.getElem?_cons_succ] at h2
      exact n1_key r4 h1 h2
end
end Ev

namespace Ev
set_option autoImplicit false
open PySem PySem.Spec PyProof.Rows L2
section
variable {prog : Program} {w : World} {A : Around} {E : Value → Shared → Prop} {s : Shared}
theorem collect_tup {l : Addr} {vs : List Value} {Q : List Value → Shared → Prop} (hl : IsTup s.heap l vs.toArray) (hsz : vs.length ≤ sizeLine)
    (h : Q vs { s with heap := (s.heap.push (seqObj "list" #[] 0)).update s.heap.objs.size (Obj.mapSeq (· ++ vs.toArray)) }) :
    wpAny (model prog w) A (collect (.ref l)) Q E s := by
  obtain ⟨o, ho, hc, n, hd⟩ := id hl
  unfold collect
  refine wpAny_bind (wpAny_runValue (codeAny_builtin entry_proto_collect' ?_))
  show wpAny _ _ (do again (.builtin "list.__iadd__" ⟨[← newList [], .ref l], []⟩)) _ _ s
  refine wpAny_bind (wpAny_newList (wpAny_pure ⟨Code.quiet_builtin _ (by decide +kernel), codeAny_builtin entry_list_iadd' ?_⟩))
  show wpAny _ _ (Builtin.List.listExtendWith (.ref s.heap.objs.size) (.ref l) (.ref s.heap.objs.size)) _ _ { s with heap := s.heap.push (seqObj "list" #[] 0) }
  unfold Builtin.List.listExtendWith
  have ho' : (s.heap.push (seqObj "list" #[] 0)).get? l = some o := Heap.get?_push_of_some _ ho
  refine wpAny_bind (wpAny_typeOf (T := "tuple") ⟨o, ho', hc⟩ ?_)
  have ht : (Value.type "tuple" == Value.type "tuple") = true := by rfl
  rw [if_pos (by rw [ht]; simp)]
  refine wpAny_bind (listItems_at ho' hd ?_)
  refine wpAny_bind (listItems_at (xs := #[]) (n := 0) (Heap.get?_push_size _ rfl) rfl ?_)
  rw [if_neg (by simp)]
  refine wpAny_bind (listUpdate_at (xs := #[]) (n := 0) (Heap.get?_push_size _ rfl) rfl ?_ (Nat.zero_le _) (by show (#[] ++ vs.toArray).size ≤ sizeLine + 1; simp only [Array.size_append, List.size_toArray, List.length_nil]; omega))
  refine wpAny_pure ?_
  show wpAny (model prog w) A (do
      let o ← load s.heap.objs.size
      match o.data with
      | .seq xs _ => pure xs.toList
      | _ => unsupported "internal:collect") Q E { s with heap := (s.heap.push (seqObj "list" #[] 0)).update s.heap.objs.size (Obj.mapSeq (· ++ vs.toArray)) }
  refine wpAny_bind (wpAny_load (get?_update_seq (Heap.get?_push_size _ rfl) _) ?_)
  show wpAny _ _ (pure ((#[] : Array Value) ++ vs.toArray).toList) Q E _
  rw [show ((#[] : Array Value) ++ vs.toArray).toList = vs by simp]
  exact wpAny_pure h
theorem sorted_tup {l : Addr} {vs : List Value} {ss : List Str} {Q : Value → Shared → Prop} (hl : IsTup s.heap l vs.toArray) (hS : StrsAre vs ss) (h64 : vs.length < 64)
    (h : ∀ (out : Array Value) (ss' : List Str), StrsAre out.toList ss' → ss'.Perm ss → sortedS ss' = true → Q (.ref (s.heap.objs.size + 1)) { s with heap := sortedAll s.heap vs out }) :
    wpAny (model prog w) A (call (.builtin "sorted") [.ref l]) Q E s := by
  refine Calls.call_function_entry kind_sorted plain_sorted entry_sorted (args_sorted1 _) ?_
  unfold Builtin.«sorted»
  refine wpAny_bind (m := checkCount "sorted" 1 1 _) (wpAny_pure ?_)
  refine wpAny_bind (collect_tup hl (small64 h64) ?_)
  refine wpAny_bind (wpAny_newList ?_)
  have hsz : ((s.heap.push (seqObj "list" #[] 0)).update s.heap.objs.size (Obj.mapSeq (· ++ vs.toArray))).objs.size = s.heap.objs.size + 1 := by
    rw [Heap.size_update, size_push']
  have hoL : (((s.heap.push (seqObj "list" #[] 0)).update s.heap.objs.size (Obj.mapSeq (· ++ vs.toArray))).push (seqObj "list" vs.toArray 0)).get? (s.heap.objs.size + 1) = some (seqObj "list" vs.toArray 0) := by
    rw [← hsz]; exact Heap.get?_push_size _ rfl
  show wpAny _ _ _ _ _ { s with heap := ((s.heap.push (seqObj "list" #[] 0)).update s.heap.objs.size (Obj.mapSeq (· ++ vs.toArray))).push (seqObj "list" vs.toArray 0) }
  rw [hsz]
  refine wpAny_bind (wpAny_holding (wpAny_call_entry slot_list_sort ⟨_, hoL, rfl⟩ entry_list_sort (list_sort_treeK strKind_oneLt hoL hS.keysOf (fun v₁ v₂ rest e => keyKind_strs (by rw [← e]; exact hS)) h64 fun st' hp hs => ⟨_, rfl, ?_⟩) (args_list_sort _)))
  obtain ⟨ss', h1, h2, h3⟩ := sorted_out_str hS hp hs
  exact wpAny_pure ⟨_, rfl, h _ ss' h1 h2 h3⟩
end
section
variable {X : Cx}
def rSortedTS (K : PySem.W.Frag) : List V → Hp → VK → Prop := fun vs H Q => ∃ (a : Addr) (xs : List Str), vs = [V.ref a] ∧ SqT K H a (xs.map V.str) ∧ xs.length < 64 ∧
  ∀ (ys : List Str) (p : Addr), ys.Perm xs → sortedS ys = true → H p = none → Q (.ref p) (upd H p (.lst (ys.map V.str)))
theorem cr_sortedTS : CallR X (.builtin "sorted") (rSortedTS X.K) := by
  intro pins s σ H vs us Q I r h
  obtain ⟨a, xs, rfl, hs, h64, q⟩ := h
  obtain ⟨its, rv, hl, _⟩ := I.tuple hs
  rw [Vals.ref1 r]
  have hlen0 := rv.length
  rw [List.length_map] at hlen0
  refine sorted_tup hl rv.strs (by rw [← hlen0]; exact h64) fun out ys h1 h2 h3 => ?_
  obtain ⟨ep, he'⟩ := PyProof.Rows.sortedAll_at s.heap its out
  have hlen : (ys.map V.str).length ≤ sizeLine := by rw [List.length_map, h2.length_eq]; exact small64 h64
  exact ⟨.ref _, upd H (s.heap.objs.size + 1) (.lst (ys.map V.str)), I.laid (t' := s.toks) (fun _ _ => PyProof.Rows.sortedAll_old) (Nat.le_succ _) ⟨hlen, out.toList, ep, vals_of_strs h1, he'⟩, rfl, q ys _ h2 h3 (I.hok.fresh (Nat.le_succ _))⟩
end
end Ev

namespace Ev
set_option autoImplicit false
open PySem PySem.Spec PyProof.Rows L2
variable [TheW]
def cOp : COp → CmpOp
  | .eq => .Eq
  | .ne => .NotEq
  | .lt => .Lt
  | .le => .LtE
  | .gt => .Gt
  | .ge => .GtE
  | .is_ => .Is
  | .isnot => .IsNot
  | .in_ => .In
  | .notin => .NotIn
section
variable {X : Cx}
theorem isNon_iff {K : PySem.W.Frag} {H : Hp} {B : Bs} {d : D} {x : V} (h : RepR K H B d x) : decide (x = V.non) = (match d with | .none => true | _ => false) := by
  cases d with
  | none => cases rI_none h; rfl
  | bool b => cases rI_bl h; rfl
  | int i => cases rI_int h; rfl
  | str z => cases rI_str h; rfl
  | list ds => obtain ⟨a, xs, rfl, _⟩ := rI_lst h; rfl
  | tuple ds => obtain ⟨a, xs, rfl, _⟩ := rI_tup h; rfl
  | dict _ => obtain ⟨a, xs, rfl, _⟩ := rI_dct h; rfl
theorem isNon_iff' {K : PySem.W.Frag} {H : Hp} {B : Bs} {d : D} {x : V} (h : RepR K H B d x) : (!decide (x = V.non)) = (match d with | .none => false | _ => true) := by
  rw [isNon_iff h]
  cases d <;> rfl
theorem sign_eq {z : Str} {c : Nat} (h : sign? z = some c) : z = ⟨#[c]⟩ := by
  unfold sign? at h
  split at h
  · rename_i c' e
    cases h
    cases z
    rename_i cps
    have : cps = #[c] := by
      rw [← Array.toList_inj]
      exact e
    rw [this]
  · cases h
theorem opC (hu : X.A.units + 65 < cLine) (hw : X.w = TheW.w) : ∀ o : COp, OpR X (compareOp (cOp o)) (rOp2 X.K (fB (dCmp o))) := by
  intro o pins s σ H x y v u Q I rx ry h
  obtain ⟨B, d, e, rv, hd, he, hf, q⟩ := h
  obtain ⟨b, hb, rfl⟩ := Option.map_eq_some_iff.mp hf
  have q1 : Q (.bl b) H := q _ _ (Res.pure rfl)
  have hu1 : X.A.units + 64 < cLine := by omega
  cases o with
  | eq =>
    have hb : dEq d e = some b := hb
    unfold dEq at hb
    split at hb
    · cases rI_str hd
      cases rI_str he
      cases hb
      refine op_eq pins s σ H _ _ v u Q I rx ry ⟨rfl, ?_⟩
      rw [dec_str]
      exact q1
    · split at hb <;> cases hb
      rename_i hs
      obtain ⟨h1, h2⟩ := Bool.and_eq_true_iff.mp hs
      exact op_eqD hu1 pins s σ H x y v u Q I rx ry ⟨_, _, hd.dp (shp_noDict h1), he.dp (shp_noDict h2), h1, h2, q1⟩
  | ne =>
    obtain ⟨b', hb2, rfl⟩ := Option.map_eq_some_iff.mp (show (dEq d e).map (!·) = some b from hb)
    clear hb
    unfold dEq at hb2
    split at hb2
    · cases rI_str hd
      cases rI_str he
      cases hb2
      refine op_ne pins s σ H _ _ v u Q I rx ry ⟨rfl, ?_⟩
      rw [dec_str]
      exact q1
    · split at hb2 <;> cases hb2
      rename_i hs
      obtain ⟨h1, h2⟩ := Bool.and_eq_true_iff.mp hs
      exact op_neD hu1 pins s σ H x y v u Q I rx ry ⟨_, _, hd.dp (shp_noDict h1), he.dp (shp_noDict h2), h1, h2, q1⟩
  | lt =>
    cases d <;> cases e <;> simp only [dCmp, reduceCtorEq] at hb
    · cases rI_int hd
      cases rI_int he
      cases hb
      exact op_lt pins s σ H _ _ v u Q I rx ry ⟨_, _, rfl, rfl, q1⟩
    · cases rI_str hd
      cases rI_str he
      cases hb
      exact op_lt_str pins s σ H _ _ v u Q I rx ry ⟨_, _, rfl, rfl, q1⟩
  | le =>
    cases d <;> cases e <;> simp only [dCmp, reduceCtorEq] at hb
    · cases rI_int hd
      cases rI_int he
      cases hb
      exact op_le pins s σ H _ _ v u Q I rx ry ⟨_, _, rfl, rfl, q1⟩
    · cases rI_str hd
      cases rI_str he
      cases hb
      exact op_le_str pins s σ H _ _ v u Q I rx ry ⟨_, _, rfl, rfl, q1⟩
  | gt =>
    cases d <;> cases e <;> simp only [dCmp, reduceCtorEq] at hb
    · cases rI_int hd
      cases rI_int he
      cases hb
      exact op_gt pins s σ H _ _ v u Q I rx ry ⟨_, _, rfl, rfl, q1⟩
    · cases rI_str hd
      cases rI_str he
      cases hb
      exact op_gt_str pins s σ H _ _ v u Q I rx ry ⟨_, _, rfl, rfl, q1⟩
  | ge =>
    cases d <;> cases e <;> simp only [dCmp, reduceCtorEq] at hb
    · cases rI_int hd
      cases rI_int he
      cases hb
      exact op_ge pins s σ H _ _ v u Q I rx ry ⟨_, _, rfl, rfl, q1⟩
    · cases rI_str hd
      cases rI_str he
      cases hb
      exact op_ge_str pins s σ H _ _ v u Q I rx ry ⟨_, _, rfl, rfl, q1⟩
  | is_ =>
    cases e with
    | none =>
      cases rI_none he
      have e1 : b = decide (x = V.non) := by
        rw [isNon_iff hd]
        cases d <;> (simp only [dCmp] at hb; cases hb; rfl)
      rw [e1] at q1
      exact op_isN pins s σ H _ _ v u Q I rx ry ⟨rfl, q1⟩
    | bool c =>
      cases d <;> simp only [dCmp, reduceCtorEq] at hb
      cases rI_bl hd
      cases rI_bl he
      cases hb
      exact op_is_bl pins s σ H _ _ v u Q I rx ry ⟨_, _, rfl, rfl, q1⟩
    | int _ => cases d <;> simp only [dCmp, reduceCtorEq] at hb
    | str _ => cases d <;> simp only [dCmp, reduceCtorEq] at hb
    | list _ => cases d <;> simp only [dCmp, reduceCtorEq] at hb
    | tuple _ => cases d <;> simp only [dCmp, reduceCtorEq] at hb
    | dict _ => cases d <;> simp only [dCmp, reduceCtorEq] at hb
  | isnot =>
    cases e with
    | none =>
      cases rI_none he
      have e1 : b = !decide (x = V.non) := by
        rw [isNon_iff' hd]
        cases d <;> (simp only [dCmp] at hb; cases hb; rfl)
      rw [e1] at q1
      exact op_notN pins s σ H _ _ v u Q I rx ry ⟨rfl, q1⟩
    | bool c =>
      cases d <;> simp only [dCmp, reduceCtorEq] at hb
      cases rI_bl hd
      cases rI_bl he
      cases hb
      exact op_isnot_bl pins s σ H _ _ v u Q I rx ry ⟨_, _, rfl, rfl, q1⟩
    | int _ => cases d <;> simp only [dCmp, reduceCtorEq] at hb
    | str _ => cases d <;> simp only [dCmp, reduceCtorEq] at hb
    | list _ => cases d <;> simp only [dCmp, reduceCtorEq] at hb
    | tuple _ => cases d <;> simp only [dCmp, reduceCtorEq] at hb
    | dict _ => cases d <;> simp only [dCmp, reduceCtorEq] at hb
  | in_ =>
    cases e with
    | list ds =>
      simp only [dCmp] at hb
      split at hb <;> cases hb
      rename_i hs
      obtain ⟨h1, h2⟩ := Bool.and_eq_true_iff.mp hs
      exact op_inD hu pins s σ H x y v u Q I rx ry ⟨d, ds, hd.dp (shp_noDict h1), he.dp (shp_noDict h2), h1, h2, q1⟩
    | tuple ds =>
      simp only [dCmp] at hb
      split at hb <;> cases hb
      rename_i hs
      obtain ⟨h1, h2⟩ := Bool.and_eq_true_iff.mp hs
      obtain ⟨as, r1⟩ := Dp.reads I d x v (hd.dp (shp_noDict h1)) rx
      obtain ⟨bs, r2⟩ := Dp.reads I (.tuple ds) y u (he.dp (shp_noDict h2)) ry
      exact SeqAt.in_tuple_reads r2 r1 (SeqAt.canLay_of_shaped h2) (SeqAt.canLay_of_shaped h1) (room_in_shaped h1 hu) ⟨.bl _, H, I, rfl, q1⟩
    | none => simp only [dCmp, reduceCtorEq] at hb
    | bool _ => simp only [dCmp, reduceCtorEq] at hb
    | int _ => simp only [dCmp, reduceCtorEq] at hb
    | str t =>
      cases d <;> simp only [dCmp, reduceCtorEq] at hb
      obtain ⟨c, hc, rfl⟩ := Option.map_eq_some_iff.mp hb
      cases rI_str hd
      cases rI_str he
      exact op_in_sign pins s σ H _ _ v u Q I rx ry ⟨c, t, by rw [sign_eq hc], rfl, q1⟩
    | dict kvs =>
      cases d <;> simp only [dCmp, reduceCtorEq] at hb
      · rename_i z
        split at hb <;> cases hb
        cases rI_str hd
        obtain ⟨a, ob, rfl, h1, h2⟩ := rI_dct he
        cases ry
        exact (do_hasz (by omega) h1 h2 (by simpa using ‹¬ isN kvs = true›) _ _ _ _ _ _ I rx).1 fun s' I' => ⟨.bl _, H, I', rfl, q1⟩
      · rename_i ks
        obtain ⟨a, ob, rfl, h1, h2⟩ := rI_dct he
        cases ry
        exact (do_has (by omega) hw h1 h2 hd hb _ _ _ _ _ _ I rx).1 fun s' I' => ⟨.bl _, H, I', rfl, q1⟩
  | notin =>
    cases e with
    | list ds =>
      simp only [dCmp] at hb
      split at hb <;> cases hb
      rename_i hs
      obtain ⟨h1, h2⟩ := Bool.and_eq_true_iff.mp hs
      exact op_notInD hu pins s σ H x y v u Q I rx ry ⟨d, ds, hd.dp (shp_noDict h1), he.dp (shp_noDict h2), h1, h2, q1⟩
    | tuple ds =>
      simp only [dCmp] at hb
      split at hb <;> cases hb
      rename_i hs
      obtain ⟨h1, h2⟩ := Bool.and_eq_true_iff.mp hs
      obtain ⟨as, r1⟩ := Dp.reads I d x v (hd.dp (shp_noDict h1)) rx
      obtain ⟨bs, r2⟩ := Dp.reads I (.tuple ds) y u (he.dp (shp_noDict h2)) ry
      exact SeqAt.notIn_tuple_reads r2 r1 (SeqAt.canLay_of_shaped h2) (SeqAt.canLay_of_shaped h1) (room_in_shaped h1 hu) ⟨.bl _, H, I, rfl, q1⟩
    | none => simp only [dCmp, reduceCtorEq] at hb
    | bool _ => simp only [dCmp, reduceCtorEq] at hb
    | int _ => simp only [dCmp, reduceCtorEq] at hb
    | str t =>
      cases d <;> simp only [dCmp, reduceCtorEq] at hb
      obtain ⟨c, hc, rfl⟩ := Option.map_eq_some_iff.mp hb
      cases rI_str hd
      cases rI_str he
      exact op_notIn_sign pins s σ H _ _ v u Q I rx ry ⟨c, t, by rw [sign_eq hc], rfl, q1⟩
    | dict kvs =>
      cases d <;> simp only [dCmp, reduceCtorEq] at hb
      · rename_i z
        split at hb <;> cases hb
        cases rI_str hd
        obtain ⟨a, ob, rfl, h1, h2⟩ := rI_dct he
        cases ry
        exact (do_hasz (by omega) h1 h2 (by simpa using ‹¬ isN kvs = true›) _ _ _ _ _ _ I rx).2 fun s' I' => ⟨.bl _, H, I', rfl, q1⟩
      · rename_i ks
        obtain ⟨a, ob, rfl, h1, h2⟩ := rI_dct he
        cases ry
        obtain ⟨c, hc, rfl⟩ := Option.map_eq_some_iff.mp hb
        exact (do_has (by omega) hw h1 h2 hd hc _ _ _ _ _ _ I rx).2 fun s' I' => ⟨.bl _, H, I', rfl, q1⟩
/-- a[i] -/
theorem ixD (hu : X.A.units + 65 < cLine) (hw : X.w = TheW.w) : IxR X (rOp2 X.K (fun x y => (dIdx x y).map Rv.pur)) := by
  intro value slice pins s σ H x y v u Q I rx ry h hs
  obtain ⟨B, d, e, rv, hd, he, hf, q⟩ := h
  obtain ⟨z, hz, rfl⟩ := Option.map_eq_some_iff.mp hf
  by_cases hdct : ∃ kvs, d = .dict kvs
  · obtain ⟨kvs, rfl⟩ := hdct
    obtain ⟨a, ob, rfl, h1, h2⟩ := rI_dct hd
    cases rx
    cases e <;> simp only [dIdx, reduceCtorEq] at hz
    · rename_i t
      cases rI_str he
      obtain ⟨w, n3, gi⟩ := do_getz (by omega) h1 h2 hz
      have g := gi _ _ _ _ X.xe (fun w' s' => EP X pins σ Q w' s') I ry fun w' s' I' rw' => ⟨w, H, I', rw', q _ _ (Res.pure n3)⟩
      exact tail_any g.1 PySem.F.slot_dict_getitem.lookup g.2 hs
    · obtain ⟨w, n3, gi⟩ := do_get (by omega) hw h1 h2 he hz
      have g := gi _ _ _ _ X.xe (fun w' s' => EP X pins σ Q w' s') I ry fun w' s' I' rw' => ⟨w, H, I', rw', q _ _ (Res.pure n3)⟩
      exact tail_any g.1 PySem.F.slot_dict_getitem.lookup g.2 hs
  refine ix_seq value slice pins s σ H x y v u Q I rx ry ?_ hs
  cases d <;> cases e <;> simp only [dIdx, reduceCtorEq] at hz
  · cases rI_str hd
    cases rI_int he
    split at hz
    · obtain ⟨c, hc, rfl⟩ := Option.map_eq_some_iff.mp hz
      exact .inr (.inr ⟨_, _, c, rfl, rfl, ‹_›, hc, q _ _ (Res.pure rfl)⟩)
    · cases hz
  · obtain ⟨a, xs, rfl, h1, h2⟩ := rI_lst hd
    cases rI_int he
    obtain ⟨w, ew, hw⟩ := atI_rep h2 hz
    exact .inl ⟨a, xs, _, w, rfl, rfl, h1, ew, q _ _ (Res.pure hw)⟩
  · obtain ⟨a, xs, rfl, h1, h2⟩ := rI_tup hd
    cases rI_int he
    obtain ⟨w, ew, hw⟩ := atI_rep h2 hz
    exact .inr (.inl ⟨a, xs, _, w, rfl, rfl, h1.sqt, ew, q _ _ (Res.pure hw)⟩)
  · exact absurd ⟨_, rfl⟩ hdct
  · exact absurd ⟨_, rfl⟩ hdct
/-- a part of a tuple of any origin -/
theorem cut_tups {pins : List (Addr × Obj)} {s : Shared} {σ : L2.St} {H : Hp} {Q : VK} {a sl : Addr} {xs : List V} {vl vu : Value} {lo hi : Option Int} (I : Inv X pins σ H s) (hs : s.heap.IsSliceOf sl vl vu .none) (pl : IsPart vl lo) (pu : IsPart vu hi) (h1 : SqT X.K H a xs)
    (q0 : HT.sIx xs.length 0 lo = 0 ∧ HT.sIx xs.length xs.length hi = xs.length → Q (.ref a) H) (q : ∀ p o, H p = none → o.dict = none → Q (.ref p) (upd H p (.frz o (.tup (cutV xs lo hi))))) :
    ∃ T id, typeLookup (.type T) "__getitem__" = pure (some (.builtin id)) ∧ s.TypeIs (.ref a) T ∧ wpAny (model X.prog X.w) X.A (getItem (.ref a) (.ref sl)) (EP X pins σ Q) X.xe s := by
  obtain ⟨ts, v1, t1, z1⟩ := I.tuple h1
  have l1 : ts.toArray.size = xs.length := by
    rw [List.size_toArray]
    exact v1.length.symm
  refine ⟨"tuple", _, PyProof.Rows.slot_tuple_getitem.lookup, t1.typeIs, ?_⟩
  by_cases hw : HT.sIx xs.length 0 lo = 0 ∧ HT.sIx xs.length xs.length hi = xs.length
  · exact getItem_tuple_whole t1 hs pl pu (by rw [l1]; exact hw) ⟨.ref a, H, I, rfl, q0 hw⟩
  · refine HT.getItem_tuple_cut t1 hs pl pu (by rw [l1]; exact hw) ?_ (by rw [l1]; exact z1)
    rw [l1]
    have v2 := (v1.drop (HT.sIx xs.length 0 lo)).take (HT.sIx xs.length xs.length hi - HT.sIx xs.length 0 lo)
    exact ⟨.ref s.heap.objs.size, _, I.laid (t' := s.toks) (o := .frz (tupO ((ts.drop (HT.sIx xs.length 0 lo)).take (HT.sIx xs.length xs.length hi - HT.sIx xs.length 0 lo))) (.tup (cutV xs lo hi))) (fun c u z => Heap.get?_push_of_some _ z) (Nat.le_refl _) (ok_tupN (Heap.get?_push_size _ rfl) v2 (Nat.le_trans (cutV_length xs lo hi) z1)), rfl, q _ _ I.fresh rfl⟩
/-- a[lo:hi] -/
theorem slD : SlR X (fun x lo hi H Q => ∃ (B : Bs) (d : D) (rv : Rv), RepR X.K H B d x ∧ dSlc d lo hi = some rv ∧ ∀ v H', Res X.K H B rv v H' → Q v H') := by
  intro pins s σ H x v vl vu lo hi sl Q I rx hs pl pu h
  obtain ⟨B, d, rv, hd, hf, q⟩ := h
  cases d with
  | list ds =>
    cases hf
    obtain ⟨a, xs, rfl, h1, h2⟩ := rI_lst hd
    exact sl_list pins s σ H _ v vl vu lo hi sl Q I rx hs pl pu ⟨a, xs, rfl, h1, fun p hp => q _ _ (Res.lst hp (cut_rep lo hi h2))⟩
  | tuple ds =>
    cases hf
    obtain ⟨a, xs, rfl, h1, h2⟩ := rI_tup hd
    cases rx
    refine cut_tups I hs pl pu h1.sqt (fun hw => ?_) fun p o hp ho => q _ _ (Res.tup hp ho (cut_rep lo hi h2))
    have e : cutD ds lo hi = ds := by
      unfold cutD
      rw [← h2.length, hw.1, hw.2, List.drop_zero, Nat.sub_zero, h2.length, List.take_length]
    rw [e] at q
    exact q _ _ (Res.pure ⟨a, xs, rfl, h1, h2⟩)
  | str z =>
    cases rI_str hd
    simp only [dSlc] at hf
    split at hf <;> cases hf
    exact sl_str pins s σ H _ v vl vu lo hi sl Q I rx hs pl pu ⟨z, rfl, ‹_›, q _ _ (Res.pure rfl)⟩
  | none => cases hf
  | bool _ => cases hf
  | int _ => cases hf
  | dict _ => cases hf
/-- truth -/
theorem truD {K : PySem.W.Frag} {H : Hp} {B : Bs} {d : D} {x : V} {b : Bool} (h : RepR K H B d x) (e : dTru d = some b) : TruV K x H b := by
  have emp : ∀ {ds : List D} {xs : List V}, RepVs K H B ds xs → xs.isEmpty = ds.isEmpty := fun {ds xs} r => by
    have := r.length
    cases ds <;> cases xs <;> simp at this <;> rfl
  cases d with
  | none => cases rI_none h; cases e; rfl
  | bool c => cases rI_bl h; cases e; rfl
  | int i => cases rI_int h; cases e; rfl
  | str z =>
    cases rI_str h
    simp only [dTru] at e
    split at e <;> cases e
    exact ⟨‹_›, rfl⟩
  | list ds =>
    obtain ⟨a, xs, rfl, h1, h2⟩ := rI_lst h
    cases e
    exact .inl ⟨xs, h1, by rw [emp h2]⟩
  | tuple ds =>
    obtain ⟨a, xs, rfl, h1, h2⟩ := rI_tup h
    cases e
    exact .inr (.inl ⟨xs, h1.sqt, by rw [emp h2]⟩)
  | dict _ => cases e
/-- readable arguments -/
def RepRs (K : PySem.W.Frag) (H : Hp) (B : Bs) : List D → List V → Prop
  | [], xs => xs = []
  | d :: ds, xs => ∃ v r, xs = v :: r ∧ RepR K H B d v ∧ RepRs K H B ds r
def rCall (K : PySem.W.Frag) (f : List D → Option Rv) : List V → Hp → VK → Prop := fun xs H Q => ∃ (B : Bs) (ds : List D) (rv : Rv), RepRs K H B ds xs ∧ f ds = some rv ∧ ∀ v H', Res K H B rv v H' → Q v H'
theorem rep1 {K : PySem.W.Frag} {H : Hp} {B : Bs} {d : D} {xs : List V} (h : RepRs K H B [d] xs) : ∃ v, xs = [v] ∧ RepR K H B d v := by
  obtain ⟨v, r, rfl, h1, h2⟩ := h
  cases (show r = [] from h2)
  exact ⟨v, rfl, h1⟩
theorem rep2 {K : PySem.W.Frag} {H : Hp} {B : Bs} {d e : D} {xs : List V} (h : RepRs K H B [d, e] xs) : ∃ v u, xs = [v, u] ∧ RepR K H B d v ∧ RepR K H B e u := by
  obtain ⟨v, r, rfl, h1, h2⟩ := h
  obtain ⟨u, rfl, h3⟩ := rep1 h2
  exact ⟨v, u, rfl, h1, h3⟩
theorem ints_map {K : PySem.W.Frag} {H : Hp} {B : Bs} : ∀ (ds : List D) {xs : List V} {is : List Int}, RepVs K H B ds xs → ints? ds = some is → xs = is.map V.int := by
  intro ds
  induction ds with
  | nil =>
    intro xs is h e
    have e1 : is = [] := (Option.some.inj (show some ([] : List Int) = some is from e)).symm
    rw [e1]
    exact h
  | cons d ds ih =>
    intro xs is h e
    obtain ⟨v, r, rfl, h1, h2⟩ := h
    cases d with
    | int b =>
      obtain ⟨cs, ec, e2⟩ := Option.map_eq_some_iff.mp (show (ints? ds).map (b :: ·) = some is from e)
      have e3 : v = V.int b := h1
      rw [← e2, e3, ih h2 ec]
      rfl
    | none => exact absurd e (by intro z; cases z)
    | str _ => exact absurd e (by intro z; cases z)
    | bool _ => exact absurd e (by intro z; cases z)
    | list _ => exact absurd e (by intro z; cases z)
    | tuple _ => exact absurd e (by intro z; cases z)
    | dict _ => exact absurd e (by intro z; cases z)
theorem bools_map {K : PySem.W.Frag} {H : Hp} {B : Bs} : ∀ (ds : List D) {xs : List V} {bs : List Bool}, RepVs K H B ds xs → bools? ds = some bs → xs = bs.map V.bl := by
  intro ds
  induction ds with
  | nil =>
    intro xs bs h e
    have e1 : bs = [] := (Option.some.inj (show some ([] : List Bool) = some bs from e)).symm
    rw [e1]
    exact h
  | cons d ds ih =>
    intro xs bs h e
    obtain ⟨v, r, rfl, h1, h2⟩ := h
    cases d with
    | bool b =>
      obtain ⟨cs, ec, e2⟩ := Option.map_eq_some_iff.mp (show (bools? ds).map (b :: ·) = some bs from e)
      have e3 : v = V.bl b := h1
      rw [← e2, e3, ih h2 ec]
      rfl
    | none => exact absurd e (by intro z; cases z)
    | int _ => exact absurd e (by intro z; cases z)
    | str _ => exact absurd e (by intro z; cases z)
    | list _ => exact absurd e (by intro z; cases z)
    | tuple _ => exact absurd e (by intro z; cases z)
    | dict _ => exact absurd e (by intro z; cases z)
theorem len_lst {K : PySem.W.Frag} {H : Hp} {B : Bs} {ds : List D} {x : V} (h : RepR K H B (.list ds) x) : LenV K x H ds.length := by
  obtain ⟨a, xs, rfl, h1, h2⟩ := rI_lst h
  exact .inl ⟨xs, h1, h2.length.symm⟩
theorem len_tup {K : PySem.W.Frag} {H : Hp} {B : Bs} {ds : List D} {x : V} (h : RepR K H B (.tuple ds) x) : LenV K x H ds.length := by
  obtain ⟨a, xs, rfl, h1, h2⟩ := rI_tup h
  exact .inr ⟨xs, h1.sqt, h2.length.symm⟩
end
end Ev

namespace Ev
set_option autoImplicit false
open PySem PySem.Spec PyProof.Rows L2
def leS (a b : Str) : Prop := ltCps b.cps.toList a.cps.toList = false
section
variable {a b c x : Str} {l ys xs : List Str}
theorem leS_iff : leS a b ↔ a.cps.toList ≤ b.cps.toList := by
  unfold leS
  rw [ltCps_eq]
  exact decide_eq_false_iff_not
theorem leS_trans (h1 : leS a b) (h2 : leS b c) : leS a c := leS_iff.mpr (List.le_trans (leS_iff.mp h1) (leS_iff.mp h2))
theorem leS_anti (h1 : leS a b) (h2 : leS b a) : a = b := by
  have e := List.le_antisymm (leS_iff.mp h1) (leS_iff.mp h2)
  cases a
  cases b
  exact congrArg _ (Array.toList_inj.mp e)
theorem leS_tot : leS a b ∨ leS b a := by
  rcases List.le_total a.cps.toList b.cps.toList with h | h
  · exact .inl (leS_iff.mpr h)
  · exact .inr (leS_iff.mpr h)
theorem rise_pw : ∀ {l : List Str} {p : Str}, risingS p l = true → (p :: l).Pairwise leS
  | [], p, _ => List.pairwise_singleton _ _
  | x :: r, p, h => by
    obtain ⟨h1, h2⟩ := Bool.and_eq_true_iff.mp (show (!ltCps x.cps.toList p.cps.toList && risingS x r) = true from h)
    have h3 := rise_pw h2
    have h4 : leS p x := by simpa [leS] using h1
    refine List.pairwise_cons.mpr ⟨fun y hy => ?_, h3⟩
    rcases List.mem_cons.mp hy with rfl | hy
    · exact h4
    · exact leS_trans h4 (List.rel_of_pairwise_cons h3 hy)
theorem sorted_pw (h : sortedS l = true) : l.Pairwise leS := by
  cases l with
  | nil => exact List.Pairwise.nil
  | cons x r => exact rise_pw h
theorem ins_perm : ∀ {l : List Str}, (insS x l).Perm (x :: l)
  | [] => List.Perm.refl _
  | y :: r => by
    unfold insS
    split
    · exact (List.Perm.cons y ins_perm).trans (List.Perm.swap x y r)
    · exact List.Perm.refl _
theorem ins_pw : ∀ {l : List Str}, l.Pairwise leS → (insS x l).Pairwise leS
  | [], _ => List.pairwise_singleton _ _
  | y :: r, h => by
    unfold insS
    obtain ⟨h1, h2⟩ := List.pairwise_cons.mp h
    split
    · rename_i hl
      refine List.pairwise_cons.mpr ⟨fun z hz => ?_, ins_pw h2⟩
      rcases List.mem_cons.mp (ins_perm.mem_iff.mp hz) with rfl | hz
      · rcases leS_tot (a := y) (b := z) with h | h
        · exact h
        · exact absurd (show ltCps y.cps.toList z.cps.toList = false from h) (by simp [hl])
      · exact h1 z hz
    · rename_i hl
      have h0 : leS x y := by simpa [leS] using hl
      refine List.pairwise_cons.mpr ⟨fun z hz => ?_, h⟩
      rcases List.mem_cons.mp hz with rfl | hz
      · exact h0
      · exact leS_trans h0 (h1 z hz)
theorem sort_perm : ∀ {l : List Str}, (sortS l).Perm l
  | [] => List.Perm.refl _
  | x :: r => ins_perm.trans (List.Perm.cons x sort_perm)
theorem sort_pw : ∀ {l : List Str}, (sortS l).Pairwise leS
  | [] => List.Pairwise.nil
  | _ :: _ => ins_pw sort_pw
theorem sort_uniq (hp : ys.Perm xs) (hs : sortedS ys = true) : ys = sortS xs :=
  (hp.trans sort_perm.symm).eq_of_pairwise (le := leS) (fun _ _ _ _ h1 h2 => leS_anti h1 h2) (sorted_pw hs) sort_pw
end
variable [TheW]
theorem strs_map {K : PySem.W.Frag} {H : Hp} {B : Bs} : ∀ (ds : List D) {xs : List V} {ys : List Str}, RepVs K H B ds xs → strs? ds = some ys → xs = ys.map V.str ∧ ds = ys.map PyData.str := by
  intro ds
  induction ds with
  | nil =>
    intro xs ys h e
    have e1 : ys = [] := (Option.some.inj (show some ([] : List Str) = some ys from e)).symm
    rw [e1]
    exact ⟨h, rfl⟩
  | cons d ds ih =>
    intro xs ys h e
    obtain ⟨v, r, rfl, h1, h2⟩ := h
    cases d with
    | str b =>
      obtain ⟨cs, ec, e2⟩ := Option.map_eq_some_iff.mp (show (strs? ds).map (b :: ·) = some ys from e)
      have e3 : v = V.str b := h1
      obtain ⟨e4, e5⟩ := ih h2 ec
      rw [← e2, e3, e4, e5]
      exact ⟨rfl, rfl⟩
    | none => exact absurd e (by intro z; cases z)
    | int _ => exact absurd e (by intro z; cases z)
    | bool _ => exact absurd e (by intro z; cases z)
    | list _ => exact absurd e (by intro z; cases z)
    | tuple _ => exact absurd e (by intro z; cases z)
    | dict _ => exact absurd e (by intro z; cases z)
theorem strs_reps {K : PySem.W.Frag} {H : Hp} {B : Bs} : ∀ ys : List Str, RepVs K H B (ys.map PyData.str) (ys.map V.str)
  | [] => rfl
  | y :: ys => ⟨_, _, rfl, rfl, strs_reps ys⟩
/-- tuple(l) -/
theorem call_tupN {X : Cx} : CallR X (.type "tuple") (fun xs H Q => ∃ a ys, xs = [.ref a] ∧ SqL X.K H a ys ∧ ∀ p o, H p = none → o.dict = none → Q (.ref p) (upd H p (.frz o (.tup ys)))) := by
  intro pins s σ H xs us Q I r h
  obtain ⟨a, ys, rfl, h1, q⟩ := h
  obtain ⟨u, rfl, ru⟩ := vals1 r
  cases ru
  obtain ⟨ts, v1, l1, z1⟩ := I.list h1
  have n1 : ts.length = ys.length := v1.length.symm
  refine call_tuple_list l1.isList (fun g kp => ?_) (by rw [List.size_toArray, n1]; exact z1)
  have I1 : Inv X pins σ H { s with heap := g } := I.kept (t' := s.toks) kp
  exact ⟨.ref g.objs.size, _, I1.laid (t' := s.toks) (o := .frz (tupO ts) (.tup ys)) (fun c u z => Heap.get?_push_of_some _ z) (Nat.le_refl _) (ok_tupN (Heap.get?_push_size _ rfl) v1 z1), rfl, q _ _ (I1.hok.fresh (Nat.le_refl _)) rfl⟩
theorem mx_le (m x : Int) : m ≤ (if x > m then x else m) ∧ x ≤ (if x > m then x else m) := by split <;> omega
theorem mn_le (m x : Int) : (if x < m then x else m) ≤ m ∧ (if x < m then x else m) ≤ x := by split <;> omega
theorem mx_or (m x : Int) : (if x > m then x else m) = m ∨ (if x > m then x else m) = x := by split <;> simp
theorem mn_or (m x : Int) : (if x < m then x else m) = m ∨ (if x < m then x else m) = x := by split <;> simp
theorem maxI_all : ∀ (l : List Int) (m : Int), maxI m l ∈ m :: l ∧ ∀ y ∈ m :: l, y ≤ maxI m l
  | [], m => ⟨List.mem_cons_self, fun y h => by rw [List.mem_singleton.mp h]; exact Int.le_refl _⟩
  | x :: r, m => by
    obtain ⟨h1, h2⟩ := maxI_all r (if x > m then x else m)
    show maxI (if x > m then x else m) r ∈ _ ∧ ∀ y ∈ m :: x :: r, y ≤ maxI (if x > m then x else m) r
    have h0 := h2 _ List.mem_cons_self
    have hx := mx_le m x
    refine ⟨?_, fun y h => ?_⟩
    · rcases List.mem_cons.mp h1 with e | e
      · rw [e]
        rcases mx_or m x with z | z <;> rw [z] <;> simp
      · exact List.mem_cons_of_mem _ (List.mem_cons_of_mem _ e)
    · rcases List.mem_cons.mp h with e | e
      · rw [e]
        exact Int.le_trans hx.1 h0
      · rcases List.mem_cons.mp e with e | e
        · rw [e]
          exact Int.le_trans hx.2 h0
        · exact h2 y (List.mem_cons_of_mem _ e)
theorem minI_all : ∀ (l : List Int) (m : Int), minI m l ∈ m :: l ∧ ∀ y ∈ m :: l, minI m l ≤ y
  | [], m => ⟨List.mem_cons_self, fun y h => by rw [List.mem_singleton.mp h]; exact Int.le_refl _⟩
  | x :: r, m => by
    obtain ⟨h1, h2⟩ := minI_all r (if x < m then x else m)
    show minI (if x < m then x else m) r ∈ _ ∧ ∀ y ∈ m :: x :: r, minI (if x < m then x else m) r ≤ y
    have h0 := h2 _ List.mem_cons_self
    have hx := mn_le m x
    refine ⟨?_, fun y h => ?_⟩
    · rcases List.mem_cons.mp h1 with e | e
      · rw [e]
        rcases mn_or m x with z | z <;> rw [z] <;> simp
      · exact List.mem_cons_of_mem _ (List.mem_cons_of_mem _ e)
    · rcases List.mem_cons.mp h with e | e
      · rw [e]
        exact Int.le_trans h0 hx.1
      · rcases List.mem_cons.mp e with e | e
        · rw [e]
          exact Int.le_trans h0 hx.2
        · exact h2 y (List.mem_cons_of_mem _ e)
theorem maxI_uniq {m b : Int} {bs : List Int} (hm : m ∈ b :: bs) (hb : ∀ y, y ∈ b :: bs → y ≤ m) : m = maxI b bs := Int.le_antisymm ((maxI_all bs b).2 m hm) (hb _ (maxI_all bs b).1)
theorem minI_uniq {m b : Int} {bs : List Int} (hm : m ∈ b :: bs) (hb : ∀ y, y ∈ b :: bs → m ≤ y) : m = minI b bs := Int.le_antisymm (hb _ (minI_all bs b).1) ((minI_all bs b).2 m hm)
def blNm : Bl → Str
  | .len => "len"
  | .abs => "abs"
  | .max2 => "max"
  | .min2 => "min"
  | .maxL => "max"
  | .minL => "min"
  | .int => "int"
  | .str => "str"
  | .repr => "repr"
  | .tuple => "tuple"
  | .list => "list"
  | .all => "all"
  | .sum => "sum"
  | .sorted => "sorted"
  | .dict => "dict"
def blV : Bl → Value
  | .len => .builtin "len"
  | .abs => .builtin "abs"
  | .max2 => .builtin "max"
  | .min2 => .builtin "min"
  | .maxL => .builtin "max"
  | .minL => .builtin "min"
  | .int => .type "int"
  | .str => .type "str"
  | .repr => .builtin "repr"
  | .tuple => .type "tuple"
  | .list => .type "list"
  | .all => .builtin "all"
  | .sum => .builtin "sum"
  | .sorted => .builtin "sorted"
  | .dict => .type "dict"
section
variable {X : Cx}
theorem repr_ok (hg : X.A.guards = some []) (hu : X.A.units + 64 < cLine) {pins : List (Addr × Obj)} {s : Shared} {σ : L2.St} {H : Hp} {Q : VK} {x : V} {u : Value} {B : Bs} {d : D} (I : Inv X pins σ H s) (rx : RelV x u) (hd : RepR X.K H B d x)
    (ho : reprOk d = true) (q : Q (.str d.shown) H) : wpAny (model X.prog X.w) X.A (call (.builtin "repr") [u]) (EP X pins σ Q) X.xe s := by
  have hnd : d.hasDict = false := by
    unfold reprOk at ho
    simp only [Bool.and_eq_true, Bool.not_eq_true', decide_eq_true_eq] at ho
    exact ho.1.1.2
  obtain ⟨as, r⟩ := Dp.reads I d x u (hd.dp hnd) rx
  unfold reprOk at ho
  simp only [Bool.and_eq_true, Bool.not_eq_true', decide_eq_true_eq] at ho
  obtain ⟨⟨⟨h1, h2⟩, h3⟩, h4⟩ := ho
  have big : ∀ a, u = .ref a → wpAny (model X.prog X.w) X.A (call (.builtin "repr") [u]) (EP X pins σ Q) X.xe s := fun a e => by
    subst e
    exact repr_of_reads' r h1 (fun z => by rw [h2] at z; cases z) hg (by omega) (fun _ _ z => z) (fun h' v tk hk => ⟨.str d.shown, H, I.kept hk, ⟨v, rfl⟩, q⟩) h4
  cases d with
  | none =>
    cases rI_none hd
    cases (show u = Value.none from rx)
    exact P.repr_of_none ⟨.str _, H, I.tok _, ⟨_, rfl⟩, by simpa only [PyData.shown] using q⟩
  | bool b =>
    cases rI_bl hd
    cases (show u = Value.bool b from rx)
    exact P.repr_of_bool ⟨.str _, H, I.tok _, ⟨_, rfl⟩, by simpa only [PyData.shown] using q⟩
  | int i =>
    cases rI_int hd
    obtain ⟨t, rfl⟩ := rx
    exact P.repr_of_int (by simpa [PyData.showable] using h1) ⟨.str _, H, I.tok _, ⟨_, rfl⟩, by simpa only [PyData.shown] using q⟩
  | str z =>
    cases rI_str hd
    obtain ⟨t, rfl⟩ := rx
    exact P.repr_of_str (hsz := by simpa only [PyData.shown] using h4) ⟨.str _, H, I.tok _, ⟨_, rfl⟩, by simpa only [PyData.shown] using q⟩
  | list ds =>
    obtain ⟨a, xs, rfl, _⟩ := rI_lst hd
    exact big a rx
  | tuple ds =>
    obtain ⟨a, xs, rfl, _⟩ := rI_tup hd
    exact big a rx
  | dict _ => cases hnd
theorem kv_zip : ∀ {ps : List (Str × D)} {kus : List (Value × Value)} {vs : List V}, kus.length = ps.length → vs.length = ps.length → (∀ (j : Nat) p k v x, ps[j]? = some p → kus[j]? = some (k, v) → vs[j]? = some x → RelV x v) →
    KV ((ps.zip vs).map fun q => ((.inr q.1.1 : L2.Key), q.2)) ((ps.zip kus).map fun q => (.inr q.1.1, q.2.2))
  | [], [], [], _, _, _ => .nil
  | [], _ :: _, _, h, _, _ => by cases h
  | [], [], _ :: _, _, h, _ => by cases h
  | _ :: _, [], _, h, _, _ => by cases h
  | _ :: _, _ :: _, [], _, h, _ => by cases h
  | p :: ps, (k, u) :: kus, v :: vs, h1, h2, h => .cons ⟨rfl, h 0 p k u v rfl rfl rfl⟩ (kv_zip (by simpa using h1) (by simpa using h2) fun j p k v x q1 q2 q3 => h (j + 1) p k v x (by simpa using q1) (by simpa using q2) (by simpa using q3))
/-- the pairs, as they stand -/
theorem prs_at {pins : List (Addr × Obj)} {s : Shared} {σ : L2.St} {H : Hp} {B : Bs} (I : Inv X pins σ H s) : ∀ {ds : List D} {ps : List (Str × D)} {xs : List V} {us : List Value}, prs? ds = some ps → RepVs X.K H B ds xs → Vals xs us →
    ∃ (Ts : List Addr) (kus : List (Value × Value)) (vs : List V), us = Ts.map Value.ref ∧ Ts.length = ps.length ∧ kus.length = ps.length ∧ vs.length = ps.length ∧
      (∀ (j : Nat) T k v, Ts[j]? = some T → kus[j]? = some (k, v) → IsTup s.heap T #[k, v]) ∧ (∀ (j : Nat) p k v, ps[j]? = some p → kus[j]? = some (k, v) → ∃ t, k = .str p.1 t) ∧
      (∀ (j : Nat) p k v x, ps[j]? = some p → kus[j]? = some (k, v) → vs[j]? = some x → RelV x v) ∧ (∀ (j : Nat) p x, ps[j]? = some p → vs[j]? = some x → RepV X.K H B p.2 x)
  | [], ps, xs, us, e, h, r => by
    cases (show some [] = some ps from e)
    cases (show xs = [] from h)
    cases r
    exact ⟨[], [], [], rfl, rfl, rfl, rfl, by simp, by simp, by simp, by simp⟩
  | d :: ds, ps, xs, us, e, h, r => by
    obtain ⟨w, xr, rfl, h1, h2⟩ := h
    have key : ∃ k dv, d = .tuple [.str k, dv] ∧ ∃ pr, prs? ds = some pr ∧ ps = (k, dv) :: pr := by
      unfold prs? at e
      split at e
      · rename_i heq
        cases heq
      · rename_i k dv r' heq
        cases heq
        obtain ⟨pr, e1, e2⟩ := Option.map_eq_some_iff.mp e
        exact ⟨k, dv, rfl, pr, e1, e2.symm⟩
      · cases e
    obtain ⟨k, dv, rfl, pr, e1, rfl⟩ := key
    cases r with
    | cons ru rr =>
      obtain ⟨Ts, kus, vs, eu, l1, l2, l3, p1, p2, p3, p4⟩ := prs_at I e1 h2 rr
      obtain ⟨a, ws, rfl, hN, hw⟩ := h1
      obtain ⟨k', wr, rfl, hk, hw2⟩ := hw
      obtain ⟨x, wr2, rfl, hx, hw3⟩ := hw2
      cases (show wr2 = [] from hw3)
      cases (show k' = V.str k from hk)
      cases ru
      obtain ⟨its, ri, it, _⟩ := I.tuple hN.sqt
      obtain ⟨u1, u2, rfl, ⟨t, rfl⟩, r2⟩ := vals2 ri
      refine ⟨a :: Ts, (.str k t, u2) :: kus, x :: vs, by rw [eu]; rfl, by simp [l1], by simp [l2], by simp [l3], fun j T k v q1 q2 => ?_, fun j p k v q1 q2 => ?_, fun j p k v x' q1 q2 q3 => ?_, fun j p x' q1 q3 => ?_⟩
      · cases j with
        | zero =>
          cases q1
          cases q2
          exact it
        | succ j => exact p1 j T k v (by simpa using q1) (by simpa using q2)
      · cases j with
        | zero =>
          cases q1
          cases q2
          exact ⟨t, rfl⟩
        | succ j => exact p2 j p k v (by simpa using q1) (by simpa using q2)
      · cases j with
        | zero =>
          cases q1
          cases q2
          cases q3
          exact r2
        | succ j => exact p3 j p k v x' (by simpa using q1) (by simpa using q2) (by simpa using q3)
      · cases j with
        | zero =>
          cases q1
          cases q3
          exact hx
        | succ j => exact p4 j p x' (by simpa using q1) (by simpa using q3)
theorem merge_rep {K : PySem.W.Frag} {H : Hp} {B : Bs} : ∀ {ps : List (Str × D)} {vs : List V} {kvs : List (D × D)} {ks : List (L2.Key × V)}, vs.length = ps.length → (∀ (j : Nat) p x, ps[j]? = some p → vs[j]? = some x → RepV K H B p.2 x) → RepKs K H B kvs ks → RepKs K H B (dMerge kvs ps) (mergeK ks ((ps.zip vs).map fun q => (.inr q.1.1, q.2)))
  | [], vs, kvs, ks, _, _, h => h
  | p :: ps, [], _, _, hl, _, _ => by cases hl
  | p :: ps, v :: vs, kvs, ks, hl, hv, h => by
    have h1 := ks_put (z := p.1) h (hv 0 p v rfl rfl)
    exact merge_rep (ps := ps) (vs := vs) (by simpa using hl) (fun j q x q1 q2 => hv (j + 1) q x (by simpa using q1) (by simpa using q2)) h1
/-- dict(xs), of a list or a tuple of pairs -/
theorem call_dctN (hc : X.calm = true) : CallR X (.type "dict") (fun xs H Q => ∃ (a : Addr) (B : Bs) (ds : List D) (ys : List V) (ps : List (Str × D)), xs = [.ref a] ∧ (SqL X.K H a ys ∨ SqN X.K H a ys) ∧ RepVs X.K H B ds ys ∧ prs? ds = some ps ∧
    ∀ p ks, H p = none → RepKs X.K H B (dMerge [] ps) ks → Q (.ref p) (upd H p (.dK ks))) := by
  intro pins s σ H xs us Q I r h
  obtain ⟨a, B, ds, ys, ps, rfl, hs, hr, hp, q⟩ := h
  obtain ⟨u, rfl, ru⟩ := vals1 r
  cases ru
  have core : ∀ (its : List Value), Vals ys its → ys.length ≤ sizeLine → (∀ (Ts : List Addr) (kus : List (Value × Value)), its = Ts.map Value.ref → Ts.length = kus.length → (∀ (j : Nat) T k v, Ts[j]? = some T → kus[j]? = some (k, v) → IsTup s.heap T #[k, v]) →
      ∃ T, PySem.PairArg X.prog X.w T a (a :: (List.range kus.length).map fun j => Ts.getD j 0) [] kus.length (PySem.PairRel kus) (fun h => PySem.PlainSeq T h a its.toArray ∧ PySem.PairItems h its.toArray (fun j => Ts.getD j 0) kus) ∧ PySem.PlainSeq T s.heap a its.toArray) →
      wpAny (model X.prog X.w) X.A (call (.type "dict") [.ref a]) (EP X pins σ Q) X.xe s := by
    intro its rv hz hT
    obtain ⟨Ts, kus, vs, eu, l1, l2, l3, p1, p2, p3, p4⟩ := prs_at I hp hr rv
    obtain ⟨T, P, hpl⟩ := hT Ts kus eu (by omega) p1
    have hit : PySem.PairItems s.heap its.toArray (fun j => Ts.getD j 0) kus := by
      refine ⟨by rw [List.size_toArray, eu, List.length_map]; omega, fun j k v hj => ?_⟩
      have hjl : j < Ts.length := by
        have := (List.getElem?_eq_some_iff.mp hj).1
        omega
      have e1 : Ts[j]? = some (Ts.getD j 0) := by
        rw [List.getD_eq_getElem?_getD, List.getElem?_eq_getElem hjl]
        rfl
      refine ⟨?_, .inl (p1 j _ k v e1 hj)⟩
      rw [List.getElem?_toArray, eu, List.getElem?_map, e1]
      rfl
    have hlen : its.length = ps.length := by rw [eu, List.length_map, l1]
    have hys : ys.length = its.length := rv.length
    refine PySem.call_dict_pairs (knd := mixKind X.prog X.w) (kvs := (ps.zip kus).map fun q => (.inr q.1.1, q.2.2)) P (I.ok.hd hc) ⟨hpl, hit⟩ ⟨by rw [List.length_map, List.length_zip]; omega, fun j key v hj => ?_⟩ (by omega) fun h' tk hd' hk => ?_
    · have hjl : j < ps.length := by
        have := (List.getElem?_eq_some_iff.mp hj).1
        omega
      obtain ⟨t, et⟩ := p2 j ps[j] key v (List.getElem?_eq_getElem hjl) hj
      refine ⟨.inr ps[j].1, ?_, ?_⟩
      · have hz : (ps.zip kus)[j]? = some (ps[j], (key, v)) := by
          rw [List.getElem?_zip_eq_some]
          exact ⟨List.getElem?_eq_getElem hjl, hj⟩
        rw [List.getElem?_map, hz]
        rfl
      · rw [et]
        exact kV_is (P := X.prog) (w := X.w) (k := .inr ps[j].1) ⟨t, rfl⟩
    · have hkv : KV ((ps.zip vs).map fun q => ((.inr q.1.1 : L2.Key), q.2)) ((ps.zip kus).map fun q => (.inr q.1.1, q.2.2)) := kv_zip l2 l3 p3
      have hm : (s.heap.objs.size == sysModules) = false := beq_eq_false_iff_ne.mpr (Nat.ne_of_gt I.big)
      have hln : (mergeK [] ((ps.zip vs).map fun q => ((.inr q.1.1 : L2.Key), q.2))).length ≤ sizeLine := by
        refine Nat.le_trans (length_mergeK _ []) ?_
        rw [List.length_nil, List.length_map, List.length_zip]
        omega
      exact ⟨.ref s.heap.objs.size, _, I.laid (t' := tk) (o := .dK (mergeK [] ((ps.zip vs).map fun q => (.inr q.1.1, q.2)))) (fun b o e => hk b o List.not_mem_nil e) (Nat.le_refl _) ⟨hln, hm, _, KV.merge hkv .nil, hd'⟩, rfl, q _ _ I.fresh (merge_rep (kvs := []) (ks := []) l3 p4 rfl)⟩
  rcases hs with hs | hs
  · obtain ⟨its, rv, pl, hz⟩ := I.list hs
    obtain ⟨o, n, ho, hcl, hd, hdat⟩ := pl
    exact core its rv hz fun Ts kus _ _ _ => ⟨"list", PySem.PairArg.list a its.toArray _ kus, o, n, ho, hcl, hd, hdat⟩
  · obtain ⟨its, rv, pl, hz⟩ := I.tuple hs.sqt
    obtain ⟨o, ho, hcl, n, hdat⟩ := pl
    have hd : o.dict = none := by
      rcases hs with ⟨ob, e1, e2⟩ | ⟨ob, _, _, e1, _, e2, _⟩
      · have := (I.hok a _ e1).1
        rw [ho] at this
        cases this
        exact e2
      · have := I.kIn a ob e1
        rw [ho] at this
        cases this
        exact e2
    exact core its rv hz fun Ts kus _ _ _ => ⟨"tuple", PySem.PairArg.tuple a its.toArray _ kus, o, n, ho, hcl, hd, hdat⟩
/-- the pairs, tuples first, as they stand -/
theorem prsN_at {pins : List (Addr × Obj)} {s : Shared} {σ : L2.St} {H : Hp} {B : Bs} (I : Inv X pins σ H s) : ∀ {ds : List D} {ps : List (D × D)} {xs : List V} {us : List Value}, prN? ds = some ps → RepVs X.K H B ds xs → Vals xs us →
    ∃ (Ts : List Addr) (ts : List (NestedKey × Addr × Value)), us = Ts.map Value.ref ∧ Ts.length = ts.length ∧
      (∀ (j : Nat) T t, Ts[j]? = some T → ts[j]? = some t → IsTup s.heap T #[.ref t.2.1, t.2.2]) ∧ RepN1 X.K H B ps ts
  | [], ps, xs, us, e, h, r => by
    cases (show some [] = some ps from e)
    cases (show xs = [] from h)
    cases r
    exact ⟨[], [], rfl, rfl, by simp, rfl⟩
  | d :: ds, ps, xs, us, e, h, r => by
    obtain ⟨w, xr, rfl, h1, h2⟩ := h
    have key : ∃ k dv, d = .tuple [k, dv] ∧ keyN k = true ∧ ∃ pr, prN? ds = some pr ∧ ps = (k, dv) :: pr := by
      unfold prN? at e
      split at e
      · rename_i heq
        cases heq
      · rename_i k dv r' heq
        cases heq
        split at e
        · obtain ⟨pr, e1, e2⟩ := Option.map_eq_some_iff.mp e
          exact ⟨k, dv, rfl, ‹_›, pr, e1, e2.symm⟩
        · cases e
      · cases e
    obtain ⟨k, dv, rfl, hk, pr, e1, rfl⟩ := key
    obtain ⟨nk, n1, n2⟩ := key_some hk
    cases r with
    | cons ru rr =>
      obtain ⟨Ts, ts, eu, l1, p1, p2⟩ := prsN_at I e1 h2 rr
      obtain ⟨a, ws, rfl, hN, hw⟩ := h1
      obtain ⟨k', wr, rfl, hk', hw2⟩ := hw
      obtain ⟨x, wr2, rfl, hx, hw3⟩ := hw2
      cases (show wr2 = [] from hw3)
      cases ru
      obtain ⟨its, ri, it, _⟩ := I.tuple hN.sqt
      obtain ⟨u1, u2, rfl, r1, r2⟩ := vals2 ri
      obtain ⟨q, rfl⟩ : ∃ q, k' = .ref q := by
        obtain ⟨ks, rfl⟩ : ∃ ks, k = .tuple ks := by
          cases k <;> first | exact ⟨_, rfl⟩ | cases n1
        obtain ⟨q, _, e, _⟩ := hk'
        exact ⟨q, e⟩
      cases (show u1 = Value.ref q from r1)
      refine ⟨a :: Ts, (.tup nk, q, u2) :: ts, by rw [eu]; rfl, by simp [l1], fun j T t q1 q2 => ?_, nk, q, u2, x, ts, n1, n2, rfl, hk', r2, hx, p2⟩
      cases j with
      | zero =>
        cases q1
        cases q2
        exact it
      | succ j => exact p1 j T t (by simpa using q1) (by simpa using q2)
theorem mergeN_rep {H : Hp} {B : Bs} : ∀ {ps : List (D × D)} {ts : List (NestedKey × Addr × Value)} {kvs : List (D × D)} {xs : List (NestedKey × Addr × Value)}, RepN1 X.K H B ps ts → RepN1 X.K H B kvs xs → RepN1 X.K H B (nMerge kvs ps) (storedAllH xs ts)
  | [], ts, kvs, xs, h, h2 => by
    cases (show ts = [] from h)
    exact h2
  | (k, d) :: ps, ts, kvs, xs, h, h2 => by
    obtain ⟨nk, q, u, v, t, e1, e2, rfl, r1, r2, r3, r4⟩ := h
    have := mergeN_rep (ps := ps) (ts := t) r4 (n1_put e1 e2 r1 r2 r3 h2)
    exact this
/-- dict(xs), of a list of pairs, tuples first -/
theorem call_dctK (hc : X.calm = true) (hu : X.A.units + 64 < cLine) (hw : X.w = TheW.w) : CallR X (.type "dict") (fun xs H Q => ∃ (a : Addr) (B : Bs) (ds : List D) (ys : List V) (ps : List (D × D)), xs = [.ref a] ∧ SqL X.K H a ys ∧ RepVs X.K H B ds ys ∧ prN? ds = some ps ∧
    ∀ p xs ep, H p = none → RepN1 X.K H B (nMerge [] ps) xs → Q (.ref p) (upd H p (dN p xs ep))) := by
  intro pins s σ H xs us Q I r h
  obtain ⟨a, B, ds, ys, ps, rfl, hs, hr, hp, q⟩ := h
  obtain ⟨u, rfl, ru⟩ := vals1 r
  cases ru
  obtain ⟨its, rv, pl, hz⟩ := I.list hs
  obtain ⟨o, n, ho, hcl, hd, hdat⟩ := pl
  obtain ⟨Ts, ts, eu, l1, p1, p2⟩ := prsN_at I hp hr rv
  have lk : (ts.map fun t => (Value.ref t.2.1, t.2.2)).length = ts.length := List.length_map _
  have P := PySem.PairArg.list (prog := X.prog) (w := X.w) a its.toArray (fun j => Ts.getD j 0) (ts.map fun t => (Value.ref t.2.1, t.2.2))
  have hit : PySem.PairItems s.heap its.toArray (fun j => Ts.getD j 0) (ts.map fun t => (Value.ref t.2.1, t.2.2)) := by
    refine ⟨by rw [List.size_toArray, eu, List.length_map, lk]; exact l1, fun j k v hj => ?_⟩
    have hjl : j < Ts.length := by
      have := (List.getElem?_eq_some_iff.mp hj).1
      omega
    have e1 : Ts[j]? = some (Ts.getD j 0) := by
      rw [List.getD_eq_getElem?_getD, List.getElem?_eq_getElem hjl]
      rfl
    rw [List.getElem?_map] at hj
    obtain ⟨t, e2, e3⟩ := Option.map_eq_some_iff.mp hj
    cases e3
    refine ⟨?_, .inl (p1 j _ t e1 e2)⟩
    rw [List.getElem?_toArray, eu, List.getElem?_map, e1]
    rfl
  have hlen : its.length = ts.length := by rw [eu, List.length_map, l1]
  have hys : ys.length = its.length := rv.length
  refine PySem.call_dict_pairsH (knd := nestedKind X.prog X.w) (ps := ts) P (I.ok.hd hc) (by show X.A.units + 1 + 1 + 8 < cLine; omega) ⟨⟨o, n, ho, hcl, hd, hdat⟩, hit⟩ ⟨lk.symm, fun j key v hj => ?_⟩ (fun h' hk x hx => ?_) (by rw [lk]; omega) fun h' tk hd' hk => ?_
  · have hj' : (ts.map fun t => (Value.ref t.2.1, t.2.2))[j]? = some (key, v) := hj
    rw [List.getElem?_map] at hj'
    obtain ⟨t, e2, e3⟩ := Option.map_eq_some_iff.mp hj'
    cases e3
    exact ⟨t.1, t.2.1, e2, rfl⟩
  · obtain ⟨z1, z2⟩ := n1_is I p2 x hx
    exact ⟨NestedIs.at (fun b o vs m e _ => hk b o (Nat.ne_of_lt (Heap.lt_size e)) List.not_mem_nil e) _ _ z1, z2⟩
  · have hm : (s.heap.objs.size == sysModules) = false := beq_eq_false_iff_ne.mpr (Nat.ne_of_gt I.big)
    have hln : (storedAllH [] ts).length ≤ sizeLine := by
      refine Nat.le_trans (storedAllH_length ts []) ?_
      rw [List.length_nil]
      omega
    obtain ⟨ep, ok⟩ := dn_new (H' := upd H s.heap.objs.size (dN s.heap.objs.size (storedAllH [] ts) 0)) hw hm hln hd'
    refine ⟨.ref s.heap.objs.size, _, I.laid (t' := tk) (o := dN s.heap.objs.size (storedAllH [] ts) ep) (fun b o e => hk b o List.not_mem_nil e) (Nat.le_refl _) ?_, rfl, q _ _ ep I.fresh (mergeN_rep p2 rfl)⟩
    exact ⟨ok.1, ok.2.1, ok.2.2⟩
theorem callBl (hc : X.calm = true) (hg : X.A.guards = some []) (hu : X.A.units + 64 < cLine) (hw : X.w = TheW.w) : ∀ b : Bl, CallR X (blV b) (rCall X.K (dBlt b)) := by
  intro b pins s σ H xs us Q I rs h
  obtain ⟨B, ds, rv, hds, hf, q⟩ := h
  cases b with
  | len =>
    cases ds with
    | nil => cases hf
    | cons d r =>
      cases r with
      | cons e r => cases d <;> cases hf
      | nil =>
        obtain ⟨x, rfl, hx⟩ := rep1 hds
        cases d <;> simp only [dBlt, reduceCtorEq] at hf
        · cases rI_str hx
          split at hf <;> cases hf
          exact call_len pins s σ H _ us Q I rs ⟨_, _, rfl, ⟨‹_›, rfl⟩, q _ _ (Res.pure rfl)⟩
        · cases hf
          exact call_len pins s σ H _ us Q I rs ⟨_, _, rfl, len_lst hx, q _ _ (Res.pure rfl)⟩
        · cases hf
          exact call_len pins s σ H _ us Q I rs ⟨_, _, rfl, len_tup hx, q _ _ (Res.pure rfl)⟩
  | abs =>
    cases ds with
    | nil => cases hf
    | cons d r =>
      cases r with
      | cons e r => cases d <;> cases hf
      | nil =>
        obtain ⟨x, rfl, hx⟩ := rep1 hds
        cases d <;> simp only [dBlt, reduceCtorEq] at hf
        cases rI_int hx
        cases hf
        exact call_abs pins s σ H _ us Q I rs ⟨_, rfl, q _ _ (Res.pure rfl)⟩
  | max2 =>
    rcases ds with _ | ⟨d, _ | ⟨e, _ | ⟨f, r⟩⟩⟩
    · cases hf
    · cases d <;> cases hf
    · obtain ⟨x, y, rfl, hx, hy⟩ := rep2 hds
      cases d <;> cases e <;> simp only [dBlt, reduceCtorEq] at hf
      cases hf
      cases rI_int hx
      cases rI_int hy
      exact call_max2 hc pins s σ H _ us Q I rs ⟨_, _, rfl, q _ _ (Res.pure rfl)⟩
    · cases d <;> cases e <;> cases hf
  | min2 =>
    rcases ds with _ | ⟨d, _ | ⟨e, _ | ⟨f, r⟩⟩⟩
    · cases hf
    · cases d <;> cases hf
    · obtain ⟨x, y, rfl, hx, hy⟩ := rep2 hds
      cases d <;> cases e <;> simp only [dBlt, reduceCtorEq] at hf
      cases hf
      cases rI_int hx
      cases rI_int hy
      exact call_min2 hc pins s σ H _ us Q I rs ⟨_, _, rfl, q _ _ (Res.pure rfl)⟩
    · cases d <;> cases e <;> cases hf
  | int =>
    rcases ds with _ | ⟨d, _ | ⟨e, r⟩⟩
    · cases hf
    · obtain ⟨x, rfl, hx⟩ := rep1 hds
      cases d <;> simp only [dBlt, reduceCtorEq] at hf
      · cases rI_bl hx
        cases hf
        exact call_int1 pins s σ H _ us Q I rs (.inr ⟨_, rfl, q _ _ (Res.pure rfl)⟩)
      · cases rI_int hx
        cases hf
        exact call_int1 pins s σ H _ us Q I rs (.inl ⟨_, rfl, q _ _ (Res.pure rfl)⟩)
    · cases d <;> cases hf
  | str =>
    rcases ds with _ | ⟨d, _ | ⟨e, r⟩⟩
    · cases hf
    · obtain ⟨x, rfl, hx⟩ := rep1 hds
      cases d <;> simp only [dBlt, reduceCtorEq] at hf
      cases rI_int hx
      split at hf <;> cases hf
      exact call_str_int pins s σ H _ us Q I rs ⟨_, rfl, ‹_›, q _ _ (Res.pure rfl)⟩
    · cases d <;> cases hf
  | repr =>
    rcases ds with _ | ⟨d, _ | ⟨e, r⟩⟩
    · cases hf
    · obtain ⟨x, rfl, hx⟩ := rep1 hds
      simp only [dBlt] at hf
      split at hf <;> cases hf
      obtain ⟨u, rfl, rx⟩ := vals1 rs
      exact repr_ok hg hu I rx hx ‹_› (q _ _ (Res.pure rfl))
    · cases hf
  | tuple =>
    rcases ds with _ | ⟨d, _ | ⟨e, r⟩⟩
    · cases hf
    · obtain ⟨x, rfl, hx⟩ := rep1 hds
      cases d <;> simp only [dBlt, reduceCtorEq] at hf
      · cases hf
        obtain ⟨a, ys, rfl, h1, h2⟩ := rI_lst hx
        exact call_tupN pins s σ H _ us Q I rs ⟨a, ys, rfl, h1, fun p o hp ho => q _ _ (Res.tup hp ho h2)⟩
      · cases hf
        obtain ⟨a, ys, rfl, h1, h2⟩ := rI_tup hx
        exact call_tuple_of pins s σ H _ us Q I rs ⟨a, ys, rfl, .inr ⟨h1.sqt, q _ _ (Res.pure ⟨a, ys, rfl, h1, h2⟩)⟩⟩
    · cases d <;> cases hf
  | list =>
    rcases ds with _ | ⟨d, _ | ⟨e, r⟩⟩
    · cases hf
    · obtain ⟨x, rfl, hx⟩ := rep1 hds
      cases d <;> simp only [dBlt, reduceCtorEq] at hf
      · cases hf
        obtain ⟨a, ys, rfl, h1, h2⟩ := rI_lst hx
        exact call_list_of pins s σ H _ us Q I rs ⟨a, ys, rfl, .inl h1, fun p hp => q _ _ (Res.lst hp h2)⟩
      · cases hf
        obtain ⟨a, ys, rfl, h1, h2⟩ := rI_tup hx
        exact call_list_of pins s σ H _ us Q I rs ⟨a, ys, rfl, .inr h1.sqt, fun p hp => q _ _ (Res.lst hp h2)⟩
    · cases d <;> cases hf
  | all =>
    rcases ds with _ | ⟨d, _ | ⟨e, r⟩⟩
    · cases hf
    · obtain ⟨x, rfl, hx⟩ := rep1 hds
      cases d <;> simp only [dBlt, reduceCtorEq] at hf
      obtain ⟨a, ys, rfl, h1, h2⟩ := rI_lst hx
      obtain ⟨bs, e1, rfl⟩ := Option.map_eq_some_iff.mp hf
      rw [bools_map _ h2 e1] at h1
      exact cr_all hc pins s σ H _ us Q I rs ⟨a, bs, rfl, h1, q _ _ (Res.pure rfl)⟩
    · cases d <;> cases hf
  | sorted =>
    rcases ds with _ | ⟨d, _ | ⟨e, r⟩⟩
    · cases hf
    · obtain ⟨x, rfl, hx⟩ := rep1 hds
      cases d <;> simp only [dBlt, reduceCtorEq] at hf
      · obtain ⟨a, ys, rfl, h1, h2⟩ := rI_lst hx
        obtain ⟨ss, e1, hf⟩ := Option.bind_eq_some_iff.mp hf
        split at hf <;> cases hf
        obtain ⟨e2, e3⟩ := strs_map _ h2 e1
        rw [e2] at h1
        refine cr_sortedS pins s σ H _ us Q I rs ⟨a, ss, rfl, h1, ‹_›, fun zs p hp hs hn => ?_⟩
        rw [sort_uniq hp hs]
        exact q _ _ (Res.lst hn (strs_reps _))
      · obtain ⟨a, ys, rfl, h1, h2⟩ := rI_tup hx
        obtain ⟨ss, e1, hf⟩ := Option.bind_eq_some_iff.mp hf
        split at hf <;> cases hf
        obtain ⟨e2, e3⟩ := strs_map _ h2 e1
        rw [e2] at h1
        refine cr_sortedTS pins s σ H _ us Q I rs ⟨a, ss, rfl, h1.sqt, ‹_›, fun zs p hp hs hn => ?_⟩
        rw [sort_uniq hp hs]
        exact q _ _ (Res.lst hn (strs_reps _))
    · cases d <;> cases hf
  | dict =>
    rcases ds with _ | ⟨d, _ | ⟨e, r⟩⟩
    · cases hf
    · obtain ⟨x, rfl, hx⟩ := rep1 hds
      cases d <;> simp only [dBlt, reduceCtorEq] at hf
      · obtain ⟨a, ys, rfl, h1, h2⟩ := rI_lst hx
        split at hf
        rotate_left
        · obtain ⟨ps, e1, rfl⟩ := Option.map_eq_some_iff.mp hf
          exact call_dctK hc hu hw pins s σ H _ us Q I rs ⟨a, B, _, ys, ps, rfl, h1, h2, e1, fun p xs ep hp hk => q _ _ (Res.dctN hp hk)⟩
        rename_i ps e1
        cases hf
        exact call_dctN hc pins s σ H _ us Q I rs ⟨a, B, _, ys, ps, rfl, .inl h1, h2, e1, fun p ks hp hk => q _ _ (Res.dct hp hk)⟩
      · obtain ⟨ps, e1, rfl⟩ := Option.map_eq_some_iff.mp hf
        obtain ⟨a, ys, rfl, h1, h2⟩ := rI_tup hx
        exact call_dctN hc pins s σ H _ us Q I rs ⟨a, B, _, ys, ps, rfl, .inr h1, h2, e1, fun p ks hp hk => q _ _ (Res.dct hp hk)⟩
    · cases d <;> cases hf
  | maxL =>
    rcases ds with _ | ⟨d, _ | ⟨e, r⟩⟩
    · cases hf
    · obtain ⟨x, rfl, hx⟩ := rep1 hds
      cases d <;> simp only [dBlt, reduceCtorEq] at hf
      obtain ⟨a, ys, rfl, h1, h2⟩ := rI_lst hx
      obtain ⟨bs, e1, hf⟩ := Option.bind_eq_some_iff.mp hf
      cases bs with
      | nil => cases hf
      | cons b bs =>
        cases hf
        rw [ints_map _ h2 e1] at h1
        refine cr_max hc pins s σ H _ us Q I rs ⟨a, b :: bs, rfl, h1, by simp, fun m hm hb => ?_⟩
        rw [maxI_uniq hm hb]
        exact q _ _ (Res.pure rfl)
    · cases d <;> cases hf
  | minL =>
    rcases ds with _ | ⟨d, _ | ⟨e, r⟩⟩
    · cases hf
    · obtain ⟨x, rfl, hx⟩ := rep1 hds
      cases d <;> simp only [dBlt, reduceCtorEq] at hf
      obtain ⟨a, ys, rfl, h1, h2⟩ := rI_lst hx
      obtain ⟨bs, e1, hf⟩ := Option.bind_eq_some_iff.mp hf
      cases bs with
      | nil => cases hf
      | cons b bs =>
        cases hf
        rw [ints_map _ h2 e1] at h1
        refine cr_min hc pins s σ H _ us Q I rs ⟨a, b :: bs, rfl, h1, by simp, fun m hm hb => ?_⟩
        rw [minI_uniq hm hb]
        exact q _ _ (Res.pure rfl)
    · cases d <;> cases hf
  | sum =>
    rcases ds with _ | ⟨d, _ | ⟨e, r⟩⟩
    · cases hf
    · obtain ⟨x, rfl, hx⟩ := rep1 hds
      cases d <;> simp only [dBlt, reduceCtorEq] at hf
      obtain ⟨a, ys, rfl, h1, h2⟩ := rI_lst hx
      obtain ⟨bs, e1, rfl⟩ := Option.map_eq_some_iff.mp hf
      rw [ints_map _ h2 e1] at h1
      exact cr_sum hc pins s σ H _ us Q I rs ⟨a, bs, rfl, h1, q _ _ (Res.pure rfl)⟩
    · cases d <;> cases hf
/-- what isinstance asks of a value -/
def TyN (X : Cx) (H : Hp) (x : V) (t : Value) : Prop := ∀ (pins : List (Addr × Obj)) (σ : L2.St) (s : Shared) (u : Value), Inv X pins σ H s → RelV x u → ∃ P : Heap → Prop, PySem.W.KitX X.K u t P ∧ P s.heap ∧ u ≠ .builtin "__main__.__loader__#opaque"
theorem TyN.of {H : Hp} {x : V} {t : Value} (h : TyX X.K H x t) : TyN X H x t := fun _ _ _ _ I r => kit_of I r h
def rIsiN (X : Cx) : List V → Hp → VK → Prop := fun xs H Q => ∃ (x c : V) (t u : Value) (b : Bool), xs = [x, c] ∧ ClsV c u ∧ TyN X H x t ∧ PySem.W.kitOne X.K t u = some b ∧ Q (.bl b) H
def rIsiTN (X : Cx) : List V → Hp → VK → Prop := fun xs H Q => ∃ (x : V) (tp : Addr) (cs : List V) (t : Value) (us : List Value) (b : Bool), xs = [x, .ref tp] ∧ H tp = some (.tup cs) ∧ Paired ClsV cs us ∧ TyN X H x t ∧ PySem.W.kitAny X.K t us = some b ∧ Q (.bl b) H
theorem call_isiN : CallR X (.builtin "isinstance") (rIsiN X) := by
  intro pins s σ H xs us Q I r h
  obtain ⟨x, c, t, u, b, rfl, k, ty, e, q⟩ := h
  obtain ⟨u1, u2, rfl, r1, r2⟩ := vals2 r
  have e2 := k.eq r2
  subst e2
  obtain ⟨P, Z, p, hx⟩ := ty _ _ _ _ I r1
  exact PySem.W.kia_one Z I.kIn p e hx fun tk => ⟨.bl b, H, I.tok tk, rfl, q⟩
theorem call_isiTN : CallR X (.builtin "isinstance") (rIsiTN X) := by
  intro pins s σ H xs us Q I r h
  obtain ⟨x, tp, cs, t, ws, b, rfl, hT, k, ty, e, q⟩ := h
  obtain ⟨u1, u2, rfl, r1, r2⟩ := vals2 r
  cases (show u2 = Value.ref tp from r2)
  obtain ⟨P, Z, p, hx⟩ := ty _ _ _ _ I r1
  obtain ⟨_, its, rv, o, h1, h2, n, h3⟩ := (show ObjOk X.prog X.w H s.heap tp (.tup cs) from I.hok tp _ hT)
  have e3 := ClsV.all k rv
  subst e3
  obtain ⟨oc, od, dt, sl⟩ := o
  simp only at h2 h3
  subst h2 h3
  exact PySem.W.kia_tup Z I.kIn p h1 e hx fun tk => ⟨.bl b, H, I.tok tk, rfl, q⟩
/-- the class of a value -/
theorem tyD {H : Hp} {B : Bs} {d : D} {x : V} (h : RepR X.K H B d x) : TyN X H x (.type (dTy d)) := by
  by_cases hdct : ∃ kvs, d = .dict kvs
  · obtain ⟨kvs, rfl⟩ := hdct
    obtain ⟨a, ob, rfl, h1, h2⟩ := rI_dct h
    rcases h2 with ⟨ks, rfl, _⟩ | ⟨xs, ep, rfl, _⟩ | ⟨o, ks, rfl, _⟩
    · exact .of (.base (.dK h1))
    rotate_left
    · intro pins σ s u I r
      cases (show u = Value.ref a from r)
      obtain ⟨_, h4, h5, _⟩ := I.frzK h1
      exact ⟨_, PySem.W.kitx_dict, ⟨o, h4, h5.1⟩, fun z => nomatch z⟩
    · intro pins σ s u I r
      cases (show u = Value.ref a from r)
      obtain ⟨⟨_, _, _, o, es, h4, h5, _⟩, _, _⟩ := I.hok a _ h1
      exact ⟨_, PySem.W.kitx_dict, ⟨o, h4, h5.1⟩, fun z => nomatch z⟩
  refine .of ?_
  cases d with
  | none => cases rI_none h; exact .base .non
  | bool b => cases rI_bl h; exact .base (.bl b)
  | int i => cases rI_int h; exact .base (.int i)
  | str z => cases rI_str h; exact .base (.str z)
  | list ds =>
    obtain ⟨a, xs, rfl, h1, _⟩ := rI_lst h
    rcases h1 with (h1 | ⟨o, h1⟩) | ⟨o, _, _, h1, h2, _⟩
    · exact .base (.lst h1)
    · exact .base (.frz h1)
    · exact .kList h1 h2
  | tuple ds =>
    obtain ⟨a, xs, rfl, h1, _⟩ := rI_tup h
    rcases h1.sqt with (h1 | ⟨o, h1⟩) | ⟨o, _, _, h1, h2, _⟩
    · exact .base (.tup h1)
    · exact .fTuple h1
    · exact .kTuple h1 h2
  | dict _ => exact absurd ⟨_, rfl⟩ hdct
def okTys : List String := ["int", "bool", "str", "tuple", "list"]
theorem kit_tys : ∀ d : D, ∀ t ∈ okTys, kitB (dTy d) t = some (dIs d t) := by
  have key : ∀ a ∈ ["NoneType", "bool", "int", "str", "list", "tuple", "dict"], ∀ t ∈ okTys, kitB a t = some (a == t || (a == "bool" && t == "int")) := by decide +kernel
  intro d t ht
  have := key (dTy d) (by cases d <;> simp [dTy]) t ht
  exact this
theorem isi1 {t : String} (ht : t ∈ okTys) {H : Hp} {B : Bs} {d : D} {x : V} (h : RepR X.K H B d x) {Q : VK} (q : Q (.bl (dIsAny d [t])) H) : rIsiN X [x, .ty t] H Q := by
  refine ⟨x, .ty t, .type (dTy d), .type t, dIs d t, rfl, .ty t, tyD h, kit_ty (kit_tys d t ht), ?_⟩
  have e : dIsAny d [t] = dIs d t := by simp [dIsAny]
  rw [← e]
  exact q
theorem kit_any : ∀ {ts : List String} {d : D}, (∀ t ∈ ts, t ∈ okTys) → PySem.W.kitAny X.K (.type (dTy d)) (ts.map Value.type) = some (dIsAny d ts)
  | [], d, _ => by
    show PySem.W.kitAny X.K (.type (dTy d)) [] = _
    rw [kitAny_nil]
    rfl
  | t :: ts, d, h => by
    have h1 := kit_tys d t (h t List.mem_cons_self)
    have h2 := kit_any (ts := ts) (d := d) fun u hu => h u (List.mem_cons_of_mem _ hu)
    refine kitAny_cons (kit_ty h1) (fun e => ?_) fun e => ?_
    · rw [h2]
      simp [dIsAny, e]
    · simp [dIsAny, e]
theorem cls_tys : ∀ ts : List String, Paired ClsV (ts.map V.ty) (ts.map Value.type)
  | [] => .nil
  | t :: ts => .cons (.ty t) (cls_tys ts)
/-- where an item first stands -/
theorem firstIx_ok {d : D} : ∀ {ds : List D} {j : Nat}, firstIx d ds = some j → ∃ z, ds[j]? = some z ∧ PyData.eqv z d = true ∧ ∀ m z', m < j → ds[m]? = some z' → PyData.eqv z' d = false
  | [], _, h => by cases h
  | z :: zs, j, h => by
    unfold firstIx at h
    split at h
    · cases h
      exact ⟨z, rfl, ‹_›, fun m z' hm => absurd hm (Nat.not_lt_zero _)⟩
    · obtain ⟨i, hi, rfl⟩ := Option.map_eq_some_iff.mp h
      obtain ⟨w, h1, h2, h3⟩ := firstIx_ok hi
      refine ⟨w, by simpa using h1, h2, fun m z' hm e => ?_⟩
      cases m with
      | zero =>
        simp at e
        subst e
        exact Bool.eq_false_iff.mpr ‹_›
      | succ m => exact h3 m z' (by omega) (by simpa using e)
theorem tupIndex {K : PySem.W.Frag} {H : Hp} {B : Bs} {ds : List D} {xs : List V} {ys : List Str} {z : Str} {j : Nat} (h : RepVs K H B ds xs) (hs : strs? ds = some ys) (hj : firstIx (.str z) ds = some j) :
    xs = ys.map V.str ∧ ys[j]? = some z ∧ ∀ m, m < j → ys[m]? ≠ some z := by
  obtain ⟨e1, e2⟩ := strs_map ds h hs
  obtain ⟨w, h1, h2, h3⟩ := firstIx_ok hj
  rw [e2] at h1 h3
  refine ⟨e1, ?_, fun m hm e => ?_⟩
  · rw [List.getElem?_map] at h1
    obtain ⟨y, ey, rfl⟩ := Option.map_eq_some_iff.mp h1
    rw [ey, (beq_iff_eq.mp (show (y == z) = true by simpa [PyData.eqv] using h2))]
  · have := h3 m (.str z) hm (by rw [List.getElem?_map, e]; rfl)
    simp [PyData.eqv] at this
end
end Ev

namespace Ev
set_option autoImplicit false
open PySem PySem.Spec PyProof.Rows L2
variable [TheW]
section
variable {prog : Program} {w : World} {A : Around} {E : Value → Shared → Prop} {s : Shared}
theorem rev_places (n : Nat) : Builtin.Slice.slicePlaces ((n : Int) - 1) (-1) (-1) = n := by
  unfold Builtin.Slice.slicePlaces
  rw [if_neg (by decide)]
  by_cases h : n = 0
  · subst h; rfl
  · rw [if_pos (by omega)]
    have : ((n : Int) - 1 - -1 - 1) / (- -1) + 1 = n := by
      rw [show (- -1 : Int) = 1 from rfl, Int.ediv_one]
      omega
    rw [this]
    exact Int.toNat_natCast n
theorem fm_congr {α β : Type} {f g : α → Option β} : ∀ l : List α, (∀ k ∈ l, f k = g k) → l.filterMap f = l.filterMap g
  | [], _ => rfl
  | k :: l, h => by
    rw [List.filterMap_cons, List.filterMap_cons, h k List.mem_cons_self, fm_congr l fun m hm => h m (List.mem_cons_of_mem _ hm)]
theorem rev_pick (xs : Array Value) : ((List.range xs.size).filterMap fun (k : Nat) => xs[(((xs.size : Int) - 1) + (k : Int) * (-1)).toNat]?) = xs.toList.reverse := by
  have e : ((List.range xs.size).filterMap fun (k : Nat) => xs[(((xs.size : Int) - 1) + (k : Int) * (-1)).toNat]?) = (List.range xs.size).filterMap fun k => xs.toList.reverse[k]? := by
    refine fm_congr _ fun k hk => ?_
    have hk' : k < xs.size := List.mem_range.mp hk
    rw [List.getElem?_reverse (by simpa using hk'), show (((xs.size : Int) - 1) + (k : Int) * (-1)).toNat = xs.toList.length - 1 - k by simp; omega, Array.getElem?_toList]
  rw [e]
  have gen : ∀ l : List Value, (List.range l.length).filterMap (fun k => l[k]?) = l := by
    intro l
    induction l with
    | nil => rfl
    | cons x r ih =>
      rw [List.length_cons, List.range_succ_eq_map, List.filterMap_cons]
      simp only [List.getElem?_cons_zero, List.filterMap_map]
      congr 1
  have := gen xs.toList.reverse
  rw [List.length_reverse, Array.length_toList] at this
  exact this
theorem revApplied {sl : Addr} {vs : Value} {n : Nat} {Q : Int × Int × Nat → Shared → Prop} (hs : s.heap.IsSliceOf sl .none .none vs) (ps : IsPart vs (some (-1))) (h : Q ((n : Int) - 1, -1, n) s) :
    wpAny (model prog w) A (Builtin.Slice.sliceApplied (.ref sl) (pure (n : Int))) Q E s := by
  obtain ⟨os, hos, hcs, hds⟩ := id hs
  unfold Builtin.Slice.sliceApplied Builtin.Slice.sliceFields
  refine wpAny_bind (wpAny_bind (wpAny_field hos hds (x := .none) rfl (wpAny_bind (wpAny_field hos hds (x := .none) rfl (wpAny_bind (wpAny_field hos hds (x := vs) rfl (wpAny_pure ?_)))))))
  refine wpAny_bind (HT.slicePart_ ps ?_)
  show wpAny _ _ (if ((-1 : Int) == 0) = true then _ else _) _ _ s
  rw [if_neg (by decide)]
  refine wpAny_bind (HT.slicePart_ .none (wpAny_bind (HT.slicePart_ .none (wpAny_bind (wpAny_pure ?_)))))
  show wpAny _ _ (pure ((n : Int) - 1, (-1 : Int), Builtin.Slice.slicePlaces ((n : Int) - 1) (-1) (-1))) _ _ s
  rw [rev_places]
  exact wpAny_pure h
theorem getItem_tuple_back {t sl : Addr} {items : Array Value} {vs : Value} {Q : Value → Shared → Prop} (ht : IsTup s.heap t items) (hs : s.heap.IsSliceOf sl .none .none vs) (ps : IsPart vs (some (-1))) (hz : items.size ≤ sizeLine)
    (h : Q (.ref s.heap.objs.size) { s with heap := s.heap.push { cls := .type "tuple", data := .seq items.toList.reverse.toArray } }) : wpAny (model prog w) A (getItem (.ref t) (.ref sl)) Q E s := by
  have hd : sizeOk (.seq items.toList.reverse.toArray) := by
    show items.toList.reverse.toArray.size ≤ sizeLine
    simpa using hz
  obtain ⟨os, hos, hcs, hds⟩ := id hs
  have hTs : s.TypeIs (.ref sl) "slice" := ⟨os, hos, hcs⟩
  unfold getItem
  try with_reducible refine wpAny_holding ?_
  first | refine wpAny_bind (wpAny_pure ?_) | skip
  refine wpAny_bind (wpAny_sequenceKey ht.typeIs (by decide) ?_)
  refine wpAny_bind (wpAny_callSpecial?_slot (name := Str.ofString "__getitem__") ht.typeIs PyProof.Rows.slot_tuple_getitem
    (wpAny_call_entry PyProof.Rows.slot_tuple_getitem ht.typeIs entry_tuple_getitem ?_ (args_tuple_getitem _ _)))
  show wpAny _ _ (Builtin.Tuple.tupleItemsOf (.ref t) >>= _) _ _ s
  refine wpAny_bind (tupleItemsOf_ ht ?_)
  refine wpAny_bind (wpAny_typeOf hTs ?_)
  rw [if_pos (by decide)]
  refine wpAny_bind (revApplied hs ps ?_)
  show wpAny _ _ (if (((items.size : Int) - 1) == 0 && (-1 : Int) == 1 && items.size == items.size) = true then _ else _) _ _ s
  rw [if_neg (by simp), rev_pick]
  first
    | exact wpAny_bind (m := Builtin.Tuple.tupleExact _) (wpAny_newObj_type (wpAny_pure ⟨_, rfl, wpAny_pure h⟩) hd)
    | exact wpAny_bind (m := Builtin.Tuple.tupleExact _) (wpAny_newObj_type (wpAny_bind (wpAny_pure (wpAny_pure ⟨_, rfl, wpAny_pure h⟩))) hd)
    | exact wpAny_bind (wpAny_bind (m := Builtin.Tuple.tupleExact _) (wpAny_newObj_type (wpAny_pure (wpAny_pure ⟨_, rfl, wpAny_pure h⟩)) hd))
    | exact wpAny_bind (wpAny_bind (m := Builtin.Tuple.tupleExact _) (wpAny_newObj_type (wpAny_pure ⟨_, rfl, wpAny_pure h⟩) hd))
end
section
variable {X : Cx}
def tBack (K : PySem.W.Frag) (te : TE) : TE := fun σ H Q => te σ H fun x H1 => (∃ a xs, x = .ref a ∧ SqL K H1 a xs ∧ ∀ p, H1 p = none → Q (.ref p) (upd H1 p (.lst xs.reverse))) ∨ (∃ a xs, x = .ref a ∧ SqT K H1 a xs ∧ ∀ p ob, H1 p = none → ob.dict = none → Q (.ref p) (upd H1 p (.frz ob (.tup xs.reverse))))
theorem pe_back {e : Expr} {te : TE} {k : Nat} {p1 p2 p3 pos : Pos} (he : PE X e te) : PE X (.Subscript e (.Slice none none (some (.UnaryOp .USub (.Constant (.int 1) k p1) p2)) p3) pos) (tBack X.K te) := by
  refine ⟨fun pins s σ H Q I h => ?_⟩
  refine Subscript_ (thn (he.run pins s σ H _ I h) fun v s1 ⟨x, H1, I1, r1, q1⟩ => ?_)
  have hst : PO X (some (.UnaryOp .USub (.Constant (.int 1) k p1) p2)) (tPart (tUn (rU fun i => .int (-i)) (tC (.int 1)))) := po_some (pe_un un_neg pe_int)
  refine wpAny_Slice (thn (po_none.run pins s1 σ H1 (fun o H2 => o = none ∧ H2 = H1) I1 ⟨rfl, rfl⟩) fun vl s2 ⟨l, H2, I2, pl, el, e2⟩ => ?_)
  subst el e2
  refine thn (po_none.run pins s2 σ H2 (fun o H3 => o = none ∧ H3 = H2) I2 ⟨rfl, rfl⟩) fun vu s3 ⟨u, H3, I3, pu, eu, e3⟩ => ?_
  subst eu e3
  refine thn (hst.run pins s3 σ H3 (fun o H4 => o = some (-1) ∧ H4 = H3) I3 ⟨1, rfl, -1, rfl, rfl, rfl⟩) fun vs s4 ⟨o, H4, I4, ps, eo, e4⟩ => ?_
  subst eo e4
  have I5 : Inv X pins σ H4 { s4 with heap := s4.heap.push { cls := .type "slice", data := .fields #[vl, vu, vs] } } := I4.kept (t' := s4.toks) fun b ob q => Heap.get?_push_of_some _ q
  have lay : ∀ (o : HO) (ob : Obj), ObjOk X.prog X.w (upd H4 (s4.heap.push { cls := .type "slice", data := .fields #[vl, vu, vs] }).objs.size o) ((s4.heap.push { cls := .type "slice", data := .fields #[vl, vu, vs] }).push ob) (s4.heap.push { cls := .type "slice", data := .fields #[vl, vu, vs] }).objs.size o →
      Q (.ref (s4.heap.push { cls := .type "slice", data := .fields #[vl, vu, vs] }).objs.size) (upd H4 (s4.heap.push { cls := .type "slice", data := .fields #[vl, vu, vs] }).objs.size o) →
      EP X pins σ Q (.ref (s4.heap.push { cls := .type "slice", data := .fields #[vl, vu, vs] }).objs.size) { s4 with heap := (s4.heap.push { cls := .type "slice", data := .fields #[vl, vu, vs] }).push ob } := fun o ob hok hq =>
    ⟨.ref _, _, I5.laid (t' := s4.toks) (o := o) (fun b ob q => Heap.get?_push_of_some _ q) (Nat.le_refl _) hok, rfl, hq⟩
  rcases q1 with ⟨a, xs, ex, hx, q⟩ | ⟨a, xs, ex, hx, q⟩
  · subst ex
    cases r1
    obtain ⟨its, r, ht, hz⟩ := I5.list hx
    have hlen := r.length
    show wpAny (model X.prog X.w) X.A (subscriptTail e (.Slice none none (some (.UnaryOp .USub (.Constant (.int 1) k p1) p2)) p3) (.ref a) (.ref s4.heap.objs.size)) (EP X pins σ Q) X.xe { s4 with heap := s4.heap.push { cls := .type "slice", data := .fields #[vl, vu, vs] } }
    refine tail_any (ops := [.ref a, .ref s4.heap.objs.size]) ht.isList.typeIs (PySem.slot_list_getitem.lookup) ?_ (by with_unfolding_all rfl)
    refine wpAny_getItem_list_slice ht.isList (Heap.IsSliceOf.new _ vl vu vs) pl pu ps (by decide) ?_ (by rw [List.size_toArray]; omega)
    rw [PySem.W.krv_pick]
    exact lay (.lst xs.reverse) _ ⟨by rw [List.length_reverse]; exact hz, _, 0, r.reverse, Heap.get?_push_size _ rfl⟩ (q _ (I5.hok.fresh (Nat.le_refl _)))
  · subst ex
    cases r1
    cases pl
    cases pu
    obtain ⟨its, r, ht, hz⟩ := I5.tuple hx
    have hlen := r.length
    show wpAny (model X.prog X.w) X.A (subscriptTail e (.Slice none none (some (.UnaryOp .USub (.Constant (.int 1) k p1) p2)) p3) (.ref a) (.ref s4.heap.objs.size)) (EP X pins σ Q) X.xe { s4 with heap := s4.heap.push { cls := .type "slice", data := .fields #[.none, .none, vs] } }
    refine tail_any (ops := [.ref a, .ref s4.heap.objs.size]) ht.typeIs (PyProof.Rows.slot_tuple_getitem.lookup) ?_ (by with_unfolding_all rfl)
    refine getItem_tuple_back ht (Heap.IsSliceOf.new _ .none .none vs) ps (by rw [List.size_toArray]; omega) ?_
    have er : its.toArray.toList.reverse.toArray = its.reverse.toArray := by simp
    rw [er]
    exact lay (.frz (tupO its.reverse) (.tup xs.reverse)) _ (ok_tupN (Heap.get?_push_size _ rfl) r.reverse (by rw [List.length_reverse]; exact hz)) (q _ _ (I5.hok.fresh (Nat.le_refl _)) rfl)
end
section
variable {prog : Program} {w : World} {A : Around} {E : Value → Shared → Prop} {s : Shared}
theorem tk_adjust {c n : Nat} (h : c < n) : Builtin.Slice.sliceAdjust (some (c : Int)) none (-1) (n : Int) = ((c : Int), -1) := by
  show ((if (c : Int) < 0 then max ((c : Int) + (n : Int)) (-1) else min (c : Int) ((n : Int) - 1)), (-1 : Int)) = _
  rw [if_neg (by omega)]
  congr 1
  omega
theorem tk_places (c : Nat) : Builtin.Slice.slicePlaces (c : Int) (-1) (-1) = c + 1 := by
  unfold Builtin.Slice.slicePlaces
  rw [if_neg (by decide), if_pos (by omega)]
  have : ((c : Int) - -1 - 1) / (- -1) + 1 = ((c + 1 : Nat) : Int) := by
    rw [show (- -1 : Int) = 1 from rfl, Int.ediv_one]
    omega
  rw [this]
  exact Int.toNat_natCast _
theorem tk_pick (xs : Array Value) {c : Nat} (h : c < xs.size) : ((List.range (c + 1)).filterMap fun (k : Nat) => xs[((c : Int) + (k : Int) * (-1)).toNat]?) = (xs.toList.take (c + 1)).reverse := by
  have l : (xs.toList.take (c + 1)).length = c + 1 := by rw [List.length_take, Array.length_toList]; omega
  have e : ((List.range (c + 1)).filterMap fun (k : Nat) => xs[((c : Int) + (k : Int) * (-1)).toNat]?) = (List.range (c + 1)).filterMap fun k => (xs.toList.take (c + 1)).reverse[k]? := by
    refine fm_congr _ fun k hk => ?_
    have hk' : k < c + 1 := List.mem_range.mp hk
    rw [List.getElem?_reverse (by rw [l]; exact hk'), l, show c + 1 - 1 - k = ((c : Int) + (k : Int) * (-1)).toNat by omega, List.getElem?_take, if_pos (by omega), Array.getElem?_toList]
  rw [e]
  have gen : ∀ l : List Value, (List.range l.length).filterMap (fun k => l[k]?) = l := by
    intro l
    induction l with
    | nil => rfl
    | cons x r ih =>
      rw [List.length_cons, List.range_succ_eq_map, List.filterMap_cons]
      simp only [List.getElem?_cons_zero, List.filterMap_map]
      congr 1
  have := gen (xs.toList.take (c + 1)).reverse
  rw [List.length_reverse, l] at this
  exact this
theorem tkApplied {sl : Addr} {vl vs : Value} {c n : Nat} {Q : Int × Int × Nat → Shared → Prop} (hs : s.heap.IsSliceOf sl vl .none vs) (pl : IsPart vl (some (c : Int))) (ps : IsPart vs (some (-1))) (hc : c < n) (h : Q ((c : Int), -1, c + 1) s) :
    wpAny (model prog w) A (Builtin.Slice.sliceApplied (.ref sl) (pure (n : Int))) Q E s := by
  obtain ⟨os, hos, hcs, hds⟩ := id hs
  unfold Builtin.Slice.sliceApplied Builtin.Slice.sliceFields
  refine wpAny_bind (wpAny_bind (wpAny_field hos hds (x := vl) rfl (wpAny_bind (wpAny_field hos hds (x := .none) rfl (wpAny_bind (wpAny_field hos hds (x := vs) rfl (wpAny_pure ?_)))))))
  refine wpAny_bind (HT.slicePart_ ps ?_)
  show wpAny _ _ (if ((-1 : Int) == 0) = true then _ else _) _ _ s
  rw [if_neg (by decide)]
  refine wpAny_bind (HT.slicePart_ pl (wpAny_bind (HT.slicePart_ .none (wpAny_bind (wpAny_pure ?_)))))
  show wpAny _ _ (match Builtin.Slice.sliceAdjust (some (c : Int)) none (-1) (n : Int) with | (lo, hi) => pure (lo, (-1 : Int), Builtin.Slice.slicePlaces lo hi (-1))) _ _ s
  rw [tk_adjust hc]
  show wpAny _ _ (pure ((c : Int), (-1 : Int), Builtin.Slice.slicePlaces (c : Int) (-1) (-1))) _ _ s
  rw [tk_places]
  exact wpAny_pure h
theorem getItem_tuple_tk {t sl : Addr} {items : Array Value} {vl vs : Value} {c : Nat} {Q : Value → Shared → Prop} (ht : IsTup s.heap t items) (hs : s.heap.IsSliceOf sl vl .none vs) (pl : IsPart vl (some (c : Int))) (ps : IsPart vs (some (-1))) (hc : c < items.size) (hz : items.size ≤ sizeLine)
    (h : Q (.ref s.heap.objs.size) { s with heap := s.heap.push { cls := .type "tuple", data := .seq (items.toList.take (c + 1)).reverse.toArray } }) : wpAny (model prog w) A (getItem (.ref t) (.ref sl)) Q E s := by
  have hd : sizeOk (.seq (items.toList.take (c + 1)).reverse.toArray) := by
    show (items.toList.take (c + 1)).reverse.toArray.size ≤ sizeLine
    rw [List.size_toArray, List.length_reverse, List.length_take, Array.length_toList]
    omega
  obtain ⟨os, hos, hcs, hds⟩ := id hs
  have hTs : s.TypeIs (.ref sl) "slice" := ⟨os, hos, hcs⟩
  unfold getItem
  try with_reducible refine wpAny_holding ?_
  first | refine wpAny_bind (wpAny_pure ?_) | skip
  refine wpAny_bind (wpAny_sequenceKey ht.typeIs (by decide) ?_)
  refine wpAny_bind (wpAny_callSpecial?_slot (name := Str.ofString "__getitem__") ht.typeIs PyProof.Rows.slot_tuple_getitem
    (wpAny_call_entry PyProof.Rows.slot_tuple_getitem ht.typeIs entry_tuple_getitem ?_ (args_tuple_getitem _ _)))
  show wpAny _ _ (Builtin.Tuple.tupleItemsOf (.ref t) >>= _) _ _ s
  refine wpAny_bind (tupleItemsOf_ ht ?_)
  refine wpAny_bind (wpAny_typeOf hTs ?_)
  rw [if_pos (by decide)]
  refine wpAny_bind (tkApplied hs pl ps hc ?_)
  show wpAny _ _ (if ((c : Int) == 0 && (-1 : Int) == 1 && c + 1 == items.size) = true then _ else _) _ _ s
  rw [if_neg (by simp), tk_pick items hc]
  first
    | exact wpAny_bind (m := Builtin.Tuple.tupleExact _) (wpAny_newObj_type (wpAny_pure ⟨_, rfl, wpAny_pure h⟩) hd)
    | exact wpAny_bind (m := Builtin.Tuple.tupleExact _) (wpAny_newObj_type (wpAny_bind (wpAny_pure (wpAny_pure ⟨_, rfl, wpAny_pure h⟩))) hd)
    | exact wpAny_bind (wpAny_bind (m := Builtin.Tuple.tupleExact _) (wpAny_newObj_type (wpAny_pure (wpAny_pure ⟨_, rfl, wpAny_pure h⟩)) hd))
    | exact wpAny_bind (wpAny_bind (m := Builtin.Tuple.tupleExact _) (wpAny_newObj_type (wpAny_pure ⟨_, rfl, wpAny_pure h⟩) hd))
end
section
variable {X : Cx}
theorem vals_take : ∀ (n : Nat) {xs : List V} {us : List Value}, Vals xs us → Vals (xs.take n) (us.take n)
  | 0, _, _, _ => .nil
  | n + 1, _, _, .nil => .nil
  | n + 1, _, _, .cons r t => .cons r (vals_take n t)
def tTk (K : PySem.W.Frag) (c : Nat) (te : TE) : TE := fun σ H Q => te σ H fun x H1 => ∃ a xs, x = .ref a ∧ SqT K H1 a xs ∧ c < xs.length ∧ ∀ p ob, H1 p = none → ob.dict = none → Q (.ref p) (upd H1 p (.frz ob (.tup (xs.take (c + 1)).reverse)))
theorem pe_tk {e : Expr} {te : TE} {c k0 k : Nat} {p0 p1 p2 p3 pos : Pos} (he : PE X e te) : PE X (.Subscript e (.Slice (some (.Constant (.int (c : Int)) k0 p0)) none (some (.UnaryOp .USub (.Constant (.int 1) k p1) p2)) p3) pos) (tTk X.K c te) := by
  refine ⟨fun pins s σ H Q I h => ?_⟩
  refine Subscript_ (thn (he.run pins s σ H _ I h) fun v s1 ⟨x, H1, I1, r1, q1⟩ => ?_)
  have hst : PO X (some (.UnaryOp .USub (.Constant (.int 1) k p1) p2)) (tPart (tUn (rU fun i => .int (-i)) (tC (.int 1)))) := po_some (pe_un un_neg pe_int)
  have hlo : PO X (some (.Constant (.int (c : Int)) k0 p0)) (tPart (tC (.int (c : Int)))) := po_some pe_int
  refine wpAny_Slice (thn (hlo.run pins s1 σ H1 (fun o H2 => o = some (c : Int) ∧ H2 = H1) I1 ⟨_, rfl, rfl, rfl⟩) fun vl s2 ⟨l, H2, I2, pl, el, e2⟩ => ?_)
  subst el e2
  refine thn (po_none.run pins s2 σ H2 (fun o H3 => o = none ∧ H3 = H2) I2 ⟨rfl, rfl⟩) fun vu s3 ⟨u, H3, I3, pu, eu, e3⟩ => ?_
  subst eu e3
  refine thn (hst.run pins s3 σ H3 (fun o H4 => o = some (-1) ∧ H4 = H3) I3 ⟨1, rfl, -1, rfl, rfl, rfl⟩) fun vs s4 ⟨o, H4, I4, ps, eo, e4⟩ => ?_
  subst eo e4
  have I5 : Inv X pins σ H4 { s4 with heap := s4.heap.push { cls := .type "slice", data := .fields #[vl, vu, vs] } } := I4.kept (t' := s4.toks) fun b ob q => Heap.get?_push_of_some _ q
  obtain ⟨a, xs, ex, hx, hc, q⟩ := q1
  subst ex
  cases r1
  cases pu
  obtain ⟨its, r, ht, hz⟩ := I5.tuple hx
  have hlen := r.length
  show wpAny (model X.prog X.w) X.A (subscriptTail e (.Slice (some (.Constant (.int (c : Int)) k0 p0)) none (some (.UnaryOp .USub (.Constant (.int 1) k p1) p2)) p3) (.ref a) (.ref s4.heap.objs.size)) (EP X pins σ Q) X.xe { s4 with heap := s4.heap.push { cls := .type "slice", data := .fields #[vl, .none, vs] } }
  refine tail_any (ops := [.ref a, .ref s4.heap.objs.size]) ht.typeIs (PyProof.Rows.slot_tuple_getitem.lookup) ?_ (by with_unfolding_all rfl)
  refine getItem_tuple_tk ht (Heap.IsSliceOf.new _ vl .none vs) pl ps (by rw [List.size_toArray]; omega) (by rw [List.size_toArray]; omega) ?_
  have er : (its.toArray.toList.take (c + 1)).reverse.toArray = (its.take (c + 1)).reverse.toArray := by simp
  rw [er]
  exact ⟨.ref _, _, I5.laid (t' := s4.toks) (o := .frz (tupO (its.take (c + 1)).reverse) (.tup (xs.take (c + 1)).reverse)) (fun b ob q => Heap.get?_push_of_some _ q) (Nat.le_refl _) (ok_tupN (Heap.get?_push_size _ rfl) (vals_take (c + 1) r).reverse (by rw [List.length_reverse, List.length_take]; omega)), rfl, q _ _ (I5.hok.fresh (Nat.le_refl _)) rfl⟩
end
end Ev

namespace Ev
set_option autoImplicit false
open PySem PySem.Spec PyProof.Rows L2
variable [TheW]
/-- what a def asks of its arguments and gives: as the evaluator says -/
def spF (K : PySem.W.Frag) (c : List (Md × D) → Option (Rv × List (Md × D))) : Sp := fun vs H Q _ => ∃ (B : Bs) (as as' : List (Md × D)) (r : Rv), c as = some (r, as') ∧ vs.length = as.length ∧ RE K H B (vs.map some) (as.map some) ∧
  ∀ v H' B', Stp K (vs.map some) (as.map some) H B (vs.map some) (as'.map some) H' B' → RvR K (vs.map some) (as.map some) B (as'.map some) H' B' r v → (∀ i, r ≠ .loc i) → (as'.map (·.1) = as.map (·.1)) → Q v H'
/-- a def that keeps its promise where nothing is being shown -/
structure FnG (P : Program) (w : World) (K : PySem.W.Frag) (mg : Str → Option Value) (base : Heap) (n : Nat) (f : Addr) (fd : FuncData) (ps : List Str) (sp : Sp) : Prop where
  len : ∀ vs H Q E, sp vs H Q E → vs.length = ps.length
  run : ∀ (A : Around) (outer : List PySem.Env) (s : Shared) (H : Hp) (args : Args) (us : List Value) (vs : List V) (Q : VK), A.guards = some [] → Room n A → Env0 P w K mg base A outer s H → BindsTo s fd args (ps.zip us) → Vals vs us → sp vs H Q E0 →
    codeAny (model P w) A (.call (.ref f) args) (CR CX0 outer P w H s Q E0) s
structure Nms where
  fns : List Str
  gls : List Str
def bltNames : List Str := ["len", "abs", "max", "min", "int", "str", "repr", "tuple", "list", "all", "sum", "sorted", "dict", "isinstance", "bool", "range", "enumerate", "zip", "set"]
structure Ok (X : Cx) (C : Fn) (G : Nat → Option D) (nm : Nms) (n : Nat) (st sc : Scope) : Prop where
  sc : X.env.scope = sc
  nd : X.N.Nodup
  calm : X.calm = true
  gu : X.A.guards = some []
  room : Room n X.A
  xe : X.xe = fun _ _ => False
  hw : X.w = TheW.w
  fnc : ∀ x, st.names.lookup x = some .cell → X.fn x = true
  blt : ∀ x ∈ bltNames, X.mg x = none
  fn : ∀ (f : Nat) x, nm.fns[f]? = some x → ∃ a fd ps, X.mg x = some (.ref a) ∧ PySem.W.keepIn X.K (.ref a) = true ∧ Binds X.K fd ps [] ∧ FnG X.prog X.w X.K X.mg X.base n a fd ps (spF X.K (C f))
  dic : ∀ (k : Nat) x kvs, nm.gls[k]? = some x → G k = some (.dict kvs) → ∃ p, X.mg x = some (.ref p) ∧ ∀ z d, dGet kvs z = some d → ∃ v, KDct X.K X.w p z v ∧ ∀ H B, RepV X.K H B d v
  glo : ∀ (k : Nat) x d, nm.gls[k]? = some x → G k = some d → notDict d = true → ∃ v u, X.mg x = some u ∧ RelV v u ∧ (∀ H B, RepV X.K H B d v) ∧ ∀ ds, d = .tuple ds → ∃ a o, v = .ref a ∧ X.K.lookup a = some o ∧ o.cls = .type "tuple" ∧ o.dict = none
def okNm (x : Str) : Bool := !(x == ("__debug__" : Str)) && !(x == ("__classdict__" : Str))
def visB (sc : Scope) (x : Str) : Bool := match sc.names.lookup x with
  | some .local => true
  | some .cell => true
  | some .free => true
  | _ => false
def glB (sc : Scope) (x : Str) : Bool := decide (sc.names.lookup x = some .globalImplicit)
def bOp : BOp → Operator
  | .add => .Add
  | .sub => .Sub
  | .mul => .Mult
  | .fdiv => .FloorDiv
  | .mod => .Mod
  | .pow => .Pow
def cstOk : Cst → Const → Bool
  | .non, .none => true
  | .bl a, .bool b => a == b
  | .int i, .int j => decide (i = j)
  | .str x, .str y => decide (x = y)
  | _, _ => false
/-- a name to be stored: st says which cells are this block's own -/
def locB (st sc : Scope) (x : Str) : Bool := (match sc.names.lookup x with
  | some .local => true
  | some .cell => decide (st.names.lookup x = some .cell)
  | _ => false)
mutual
def chkP (N : List Str) (st sc : Scope) : Pat → Expr → Bool
  | .nm i, e => match e with
    | .Name x _ => locB st sc x && decide (N[i]? = some x)
    | _ => false
  | .tp ps, e => match e with
    | .Tuple xs _ _ => chkPs N st sc ps xs
    | _ => false
def chkPs (N : List Str) (st sc : Scope) : List Pat → List Expr → Bool
  | [], [] => true
  | p :: ps, x :: xs => chkP N st sc p x && chkPs N st sc ps xs
  | _, _ => false
end
def tyNames (sc : Scope) : List String → List Expr → Bool
  | [], [] => true
  | t :: ts, .Name x _ :: xs => glB sc x && decide (x = Str.ofString t) && decide (t ∈ okTys) && tyNames sc ts xs
  | _, _ => false
/-- keys that are texts, written -/
def keyStrs : List Str → List (Option Expr) → Bool
  | [], keys => keys.isEmpty
  | k :: ks, keys => match keys with
    | some (.Constant (.str s) _ _) :: r => decide (s = k) && keyStrs ks r
    | _ => false
mutual
def chkE (nm : Nms) (N : List Str) : Scope → E → Expr → Bool
  | sc, .var i, e => match e with
    | .Name x _ => visB sc x && okNm x && decide (N[i]? = some x)
    | _ => false
  | sc, .mv i, e => match e with
    | .Name x _ => visB sc x && okNm x && decide (N[i]? = some x)
    | _ => false
  | sc, .glo k, e => match e with
    | .Name x _ => glB sc x && okNm x && decide (nm.gls[k]? = some x)
    | _ => false
  | _, .cst c, e => match e with
    | .Constant k _ _ => cstOk c k
    | _ => false
  | sc, .neg a, e => match e with
    | .UnaryOp .USub x _ => chkE nm N sc a x
    | _ => false
  | sc, .not a, e => match e with
    | .UnaryOp .Not x _ => chkE nm N sc a x
    | _ => false
  | sc, .bin o a b, e => match e with
    | .BinOp x p y _ => decide (p = bOp o) && chkE nm N sc a x && chkE nm N sc b y
    | _ => false
  | sc, .cmp o a b, e => match e with
    | .Compare x [p] [y] _ => decide (p = cOp o) && !behindInMarks p y && chkE nm N sc a x && chkE nm N sc b y
    | _ => false
  | sc, .chn o o' a b c, e => match e with
    | .Compare x [p, p'] [y, z] _ => decide (p = cOp o) && decide (p' = cOp o') && !lastMarks [p, p'] [y, z] && chkE nm N sc a x && chkE nm N sc b y && chkE nm N sc c z
    | _ => false
  | sc, .and a b, e => match e with
    | .BoolOp .And [x, y] _ => chkE nm N sc a x && chkE nm N sc b y
    | .BoolOp .And (x :: y :: z :: r) pos => chkE nm N sc a x && chkE nm N sc b (.BoolOp .And (y :: z :: r) pos)
    | _ => false
  | sc, .or a b, e => match e with
    | .BoolOp .Or [x, y] _ => chkE nm N sc a x && chkE nm N sc b y
    | .BoolOp .Or (x :: y :: z :: r) pos => chkE nm N sc a x && chkE nm N sc b (.BoolOp .Or (y :: z :: r) pos)
    | _ => false
  | sc, .ite c a b, e => match e with
    | .IfExp t x y _ => chkE nm N sc c t && chkE nm N sc a x && chkE nm N sc b y
    | _ => false
  | sc, .tup es, e => match e with
    | .Tuple xs _ _ => chkEs nm N sc es xs
    | _ => false
  | sc, .lst es, e => match e with
    | .List xs _ => chkEs nm N sc es xs
    | _ => false
  | sc, .idx a i, e => match e with
    | .Subscript x y _ => chkE nm N sc a x && chkE nm N sc i y
    | _ => false
  | sc, .kix k i, e => match e with
    | .Subscript (.Name x _) y _ => glB sc x && okNm x && decide (nm.gls[k]? = some x) && chkE nm N sc i y
    | _ => false
  | sc, .dget i k, e => match e with
    | .Subscript (.Name x _) y _ => visB sc x && okNm x && decide (N[i]? = some x) && chkE nm N sc k y
    | _ => false
  | sc, .dhas t i k, e => match e with
    | .Compare y [p] [.Name x _] _ => decide (p = if t then .In else .NotIn) && visB sc x && okNm x && decide (N[i]? = some x) && chkE nm N sc k y
    | _ => false
  | sc, .dlen i, e => match e with
    | .Call (.Name f _) [.Name x _] [] _ => glB sc f && decide (f = "len") && visB sc x && okNm x && decide (N[i]? = some x)
    | _ => false
  | sc, .tix o a, e => match e with
    | .Call (.Attribute (.Name x q) at_ apos) [z] [] cpos => decide (at_ = "index") && (apos.endLine == cpos.line) && chkE nm N sc o (.Name x q) && chkE nm N sc a z
    | _ => false
  | sc, .pop i a, e => match e with
    | .Call (.Attribute (.Name x _) at_ apos) [z] [] cpos => decide (at_ = "pop") && (apos.endLine == cpos.line) && visB sc x && okNm x && decide (N[i]? = some x) && chkE nm N sc a z
    | _ => false
  | sc, .lrng one i j, e => match e with
    | .Call (.Name f _) [.Call (.Name r _) xs [] _] [] _ => glB sc f && decide (f = "list") && glB sc r && decide (r = "range") && (match xs with
      | [.Constant (.int b) _ _] => one && decide (i = 0) && decide (b = j)
      | [.Constant (.int a) _ _, .Constant (.int b) _ _] => !one && decide (a = i) && decide (b = j)
      | _ => false)
    | _ => false
  | sc, .rg1 t a, e => match e with
    | .Call (.Name f _) [.Call (.Name r _) [x] [] _] [] _ => glB sc f && decide (f = if t then "tuple" else "list") && glB sc r && decide (r = "range") && chkE nm N sc a x
    | _ => false
  | sc, .zpt a b, e => match e with
    | .Call (.Name f _) [.Call (.Name z _) [x, y] [] _] [] _ => glB sc f && decide (f = "tuple") && glB sc z && decide (z = "zip") && chkE nm N sc a x && chkE nm N sc b y
    | _ => false
  | sc, .slc a lo hi, e => match e with
    | .Subscript x (.Slice l h none _) _ => chkE nm N sc a x && chkO nm N sc lo l && chkO nm N sc hi h
    | _ => false
  | sc, .rev a, e => match e with
    | .Subscript x (.Slice none none (some (.UnaryOp .USub (.Constant (.int i) _ _) _)) _) _ => decide (i = 1) && chkE nm N sc a x
    | _ => false
  | sc, .tk c a, e => match e with
    | .Subscript x (.Slice (some (.Constant (.int j) _ _)) none (some (.UnaryOp .USub (.Constant (.int i) _ _) _)) _) _ => decide (i = 1) && decide (j = (c : Int)) && chkE nm N sc a x
    | _ => false
  | sc, .call f es, e => match e with
    | .Call (.Name x _) xs [] _ => glB sc x && okNm x && decide (nm.fns[f]? = some x) && chkEs nm N sc es xs
    | _ => false
  | sc, .cd f es, e => match e with
    | .Call (.Name x _) (.Dict [] [] _ :: xs) [] _ => glB sc x && okNm x && decide (nm.fns[f]? = some x) && chkEs nm N sc es xs
    | _ => false
  | sc, .rd f es, e => match e with
    | .Call (.Name x _) xs [] _ => glB sc x && okNm x && decide (nm.fns[f]? = some x) && chkEs nm N sc es xs
    | _ => false
  | sc, .blt b es, e => match e with
    | .Call (.Name x _) xs [] _ => glB sc x && decide (x = blNm b) && !xs.isEmpty && chkEs nm N sc es xs
    | _ => false
  | sc, .isi a ts, e => match e with
    | .Call (.Name x _) [y, t] [] _ => glB sc x && decide (x = "isinstance") && chkE nm N sc a y && (match t with
      | .Tuple zs _ _ => decide (ts.length ≤ 9) && tyNames sc ts zs
      | z => decide (ts.length = 1) && tyNames sc ts [z])
    | _ => false
  | sc, .mth m o es, e => match e with
    | .Call (.Attribute y at_ apos) [z] [] cpos => (match m, o, es with
      | .index, o, [a] => decide (at_ = "index") && (apos.endLine == cpos.line) && chkE nm N sc o y && chkE nm N sc a z && (match y with
        | .Name x _ => true
        | .ListComp _ _ _ _ => true
        | _ => false)
      | .tindex, .glo k, [a] => decide (at_ = "index") && (apos.endLine == cpos.line) && chkE nm N sc a z && (match y with
        | .Name x _ => glB sc x && okNm x && decide (nm.gls[k]? = some x)
        | _ => false)
      | .join, .cst (.str a), [b] => decide (at_ = "join") && (apos.endLine == cpos.line) && chkE nm N sc b z && (match y with
        | .Constant (.str s) _ _ => decide (s = a)
        | _ => false)
      | _, _, _ => false)
    | _ => false
  | _, .rng _, _ => false
  | _, .enu _, _ => false
  | _, .zip _ _, _ => false
  | sc, .comp el p it c own, e => match e with
    | .ListComp x [⟨tg, iter, ifs, a⟩] scope _ => decide (a = 0) && blkC N sc scope own && (chkI nm N sc p it tg iter || chkE nm N sc it iter) && chkP N scope (relS scope sc) p tg && chkE nm N (relS scope sc) el x && (match c, ifs with
      | none, [] => true
      | some c, [y] => chkE nm N (relS scope sc) c y
      | _, _ => false)
    | _ => false
  | sc, .ext x es, e => match x, es with
    | .dis ks, es => match e with
      | .Dict keys vals _ => keyStrs ks keys && decide (ks.length = es.length) && chkEs nm N sc es vals
      | _ => false
    | .get, [a, k, d] => match e with
      | .Call (.Attribute (.Name y q) at_ apos) [z, w] [] cpos => decide (at_ = "get") && (apos.endLine == cpos.line) && chkE nm N sc a (.Name y q) && chkE nm N sc k z && chkE nm N sc d w
      | _ => false
    | .split, [a, b] => match e with
      | .Call (.Attribute y at_ apos) [z] [] cpos => decide (at_ = "split") && (apos.endLine == cpos.line) && (match y with
        | .Name _ _ => true
        | .Subscript _ _ _ => true
        | _ => false) && chkE nm N sc a y && chkE nm N sc b z
      | _ => false
    | .starts, [a, b] => match e with
      | .Call (.Attribute y at_ apos) [z] [] cpos => decide (at_ = "startswith") && (apos.endLine == cpos.line) && (match y with
        | .Name _ _ => true
        | .Subscript _ _ _ => true
        | _ => false) && chkE nm N sc a y && chkE nm N sc b z
      | _ => false
    | .sst, [a] => match e with
      | .Call (.Name z _) [.Call (.Name z2 _) [y] [] _] [] _ => decide (z = "sorted") && decide (z2 = "set") && glB sc z && glB sc z2 && chkE nm N sc a y
      | _ => false
    | .stp, [a, j] => match e with
      | .Subscript y (.Slice none none (some z) _) _ => chkE nm N sc a y && chkE nm N sc j z
      | _ => false
    | .dis1, [k, d] => match e with
      | .Dict [some z] [w] _ => chkE nm N sc k z && chkE nm N sc d w
      | _ => false
    | _, _ => false
def chkEs (nm : Nms) (N : List Str) : Scope → List E → List Expr → Bool
  | _, [], xs => xs.isEmpty
  | sc, a :: es, xs => match xs with
    | x :: xs => chkE nm N sc a x && chkEs nm N sc es xs
    | [] => false
def chkO (nm : Nms) (N : List Str) : Scope → Option E → Option Expr → Bool
  | _, none, x => x.isNone
  | sc, some a, x => match x with
    | some x => chkE nm N sc a x
    | none => false
/-- what is walked -/
def chkI (nm : Nms) (N : List Str) : Scope → Pat → E → Expr → Expr → Bool
  | sc, _, .rng es, _, e => match e with
    | .Call (.Name x _) xs [] _ => glB sc x && decide (x = "range") && chkEs nm N sc es xs && (decide (xs.length = 1) || decide (xs.length = 2))
    | _ => false
  | sc, _, .enu a, tg, e => match tg, e with
    | .Tuple _ _ _, .Call (.Name x _) [y] [] _ => glB sc x && decide (x = "enumerate") && chkE nm N sc a y
    | _, _ => false
  | sc, _, .zip a b, tg, e => match tg, e with
    | .Tuple _ _ _, .Call (.Name x _) [y, z] [] _ => glB sc x && decide (x = "zip") && chkE nm N sc a y && chkE nm N sc b z
    | _, _ => false
  | _, _, _, _, _ => false
end
theorem ext_form {nm : Nms} {N : List Str} {sc : Scope} {x : Xp} {es : List E} {e : Expr} (h : chkE nm N sc (.ext x es) e = true) : (∃ k v p, e = .Dict k v p) ∨ (∃ f a k p, e = .Call f a k p) ∨ ∃ a b p, e = .Subscript a b p := by
  unfold chkE at h
  repeat' (split at h)
  all_goals first
    | (cases h; done)
    | exact .inl ⟨_, _, _, rfl⟩
    | exact .inr (.inl ⟨_, _, _, _, rfl⟩)
    | exact .inr (.inr ⟨_, _, _, rfl⟩)
section
variable {nm : Nms} {N : List Str} {sc : Scope} {e : Expr}
theorem ext_dis {ks : List Str} {es : List E} (h : chkE nm N sc (.ext (.dis ks) es) e = true) : ∃ keys vals p, e = .Dict keys vals p ∧ keyStrs ks keys = true ∧ ks.length = es.length ∧ chkEs nm N sc es vals = true := by
  unfold chkE at h
  dsimp only at h
  split at h
  · simp only [Bool.and_eq_true, decide_eq_true_eq] at h
    exact ⟨_, _, _, rfl, h.1.1, h.1.2, h.2⟩
  · cases h
theorem ext_get {es : List E} (h : chkE nm N sc (.ext .get es) e = true) : ∃ a k d y q apos z w cpos, es = [a, k, d] ∧ e = .Call (.Attribute (.Name y q) "get" apos) [z, w] [] cpos ∧ (apos.endLine == cpos.line) = true ∧ chkE nm N sc a (.Name y q) = true ∧ chkE nm N sc k z = true ∧ chkE nm N sc d w = true := by
  rcases es with _ | ⟨a, _ | ⟨k, _ | ⟨d, _ | ⟨z, r⟩⟩⟩⟩ <;> unfold chkE at h <;> dsimp only at h <;> first | (cases h; done) | skip
  split at h
  · simp only [Bool.and_eq_true, decide_eq_true_eq] at h
    obtain ⟨⟨⟨⟨h1, h2⟩, h3⟩, h4⟩, h5⟩ := h
    subst h1
    exact ⟨_, _, _, _, _, _, _, _, _, rfl, rfl, h2, h3, h4, h5⟩
  · cases h
theorem ext_split {es : List E} (h : chkE nm N sc (.ext .split es) e = true) : ∃ a b y apos z cpos, es = [a, b] ∧ e = .Call (.Attribute y "split" apos) [z] [] cpos ∧ (apos.endLine == cpos.line) = true ∧ ((∃ x q, y = .Name x q) ∨ ∃ u v q, y = .Subscript u v q) ∧ chkE nm N sc a y = true ∧ chkE nm N sc b z = true := by
  rcases es with _ | ⟨a, _ | ⟨b, _ | ⟨z, r⟩⟩⟩ <;> unfold chkE at h <;> dsimp only at h <;> first | (cases h; done) | skip
  split at h
  · simp only [Bool.and_eq_true, decide_eq_true_eq] at h
    obtain ⟨⟨⟨⟨h1, h2⟩, h3⟩, h4⟩, h5⟩ := h
    subst h1
    refine ⟨_, _, _, _, _, _, rfl, rfl, h2, ?_, h4, h5⟩
    split at h3
    · exact .inl ⟨_, _, rfl⟩
    · exact .inr ⟨_, _, _, rfl⟩
    · cases h3
  · cases h
theorem ext_sst {es : List E} (h : chkE nm N sc (.ext .sst es) e = true) : ∃ a p y p2 q pos, es = [a] ∧ e = .Call (.Name "sorted" p) [.Call (.Name "set" p2) [y] [] q] [] pos ∧ glB sc "sorted" = true ∧ glB sc "set" = true ∧ chkE nm N sc a y = true := by
  rcases es with _ | ⟨a, _ | ⟨b, r⟩⟩ <;> unfold chkE at h
  · cases h
  · dsimp only at h
    split at h
    · simp only [Bool.and_eq_true, decide_eq_true_eq] at h
      obtain ⟨⟨⟨⟨h1, h2⟩, h3⟩, h4⟩, h5⟩ := h
      subst h1 h2
      exact ⟨_, _, _, _, _, _, rfl, rfl, h3, h4, h5⟩
    · cases h
  · cases h
theorem cd_form {f : Nat} {es : List E} (h : chkE nm N sc (.cd f es) e = true) : ∃ x p dp xs pos, e = .Call (.Name x p) (.Dict [] [] dp :: xs) [] pos ∧ glB sc x = true ∧ okNm x = true ∧ nm.fns[f]? = some x ∧ chkEs nm N sc es xs = true := by
  unfold chkE at h
  split at h
  · simp only [Bool.and_eq_true, decide_eq_true_eq] at h
    exact ⟨_, _, _, _, _, rfl, h.1.1.1, h.1.1.2, h.1.2, h.2⟩
  · cases h
theorem rd_form {f : Nat} {es : List E} (h : chkE nm N sc (.rd f es) e = true) : ∃ x p xs pos, e = .Call (.Name x p) xs [] pos ∧ glB sc x = true ∧ okNm x = true ∧ nm.fns[f]? = some x ∧ chkEs nm N sc es xs = true := by
  unfold chkE at h
  split at h
  · simp only [Bool.and_eq_true, decide_eq_true_eq] at h
    exact ⟨_, _, _, _, rfl, h.1.1.1, h.1.1.2, h.1.2, h.2⟩
  · cases h
theorem ext_stp {es : List E} (h : chkE nm N sc (.ext .stp es) e = true) : ∃ a j y z p pos, es = [a, j] ∧ e = .Subscript y (.Slice none none (some z) p) pos ∧ chkE nm N sc a y = true ∧ chkE nm N sc j z = true := by
  rcases es with _ | ⟨a, _ | ⟨b, _ | ⟨z, r⟩⟩⟩ <;> unfold chkE at h <;> dsimp only at h <;> first | (cases h; done) | skip
  split at h
  · simp only [Bool.and_eq_true] at h
    exact ⟨_, _, _, _, _, _, rfl, rfl, h.1, h.2⟩
  · cases h
theorem ext_dis1 {es : List E} (h : chkE nm N sc (.ext .dis1 es) e = true) : ∃ k d z w pos, es = [k, d] ∧ e = .Dict [some z] [w] pos ∧ chkE nm N sc k z = true ∧ chkE nm N sc d w = true := by
  rcases es with _ | ⟨a, _ | ⟨b, _ | ⟨z, r⟩⟩⟩ <;> unfold chkE at h <;> dsimp only at h <;> first | (cases h; done) | skip
  split at h
  · simp only [Bool.and_eq_true] at h
    exact ⟨_, _, _, _, _, rfl, rfl, h.1, h.2⟩
  · cases h
theorem ext_starts {es : List E} (h : chkE nm N sc (.ext .starts es) e = true) : ∃ a b y apos z cpos, es = [a, b] ∧ e = .Call (.Attribute y "startswith" apos) [z] [] cpos ∧ (apos.endLine == cpos.line) = true ∧ ((∃ x q, y = .Name x q) ∨ ∃ u v q, y = .Subscript u v q) ∧ chkE nm N sc a y = true ∧ chkE nm N sc b z = true := by
  rcases es with _ | ⟨a, _ | ⟨b, _ | ⟨z, r⟩⟩⟩ <;> unfold chkE at h <;> dsimp only at h <;> first | (cases h; done) | skip
  split at h
  · simp only [Bool.and_eq_true, decide_eq_true_eq] at h
    obtain ⟨⟨⟨⟨h1, h2⟩, h3⟩, h4⟩, h5⟩ := h
    subst h1
    refine ⟨_, _, _, _, _, _, rfl, rfl, h2, ?_, h4, h5⟩
    split at h3
    · exact .inl ⟨_, _, rfl⟩
    · exact .inr ⟨_, _, _, rfl⟩
    · cases h3
  · cases h
end
end Ev

namespace Ev
set_option autoImplicit false
open PySem PySem.Spec PyProof.Rows L2
variable [TheW]
section
variable (K : PySem.W.Frag) (C : Fn) (G : Nat → Option D)
def tE (e : E) : TE := fun σ H Q => ∃ (g : Sg) (B : Bs) (r : Rv) (g' : Sg), RE K H B σ g ∧ evE C G e g = some (r, g') ∧ ∀ v H' B', Stp K σ g H B σ g' H' B' → RvR K σ g B g' H' B' r v → Q v H'
def tT (e : E) : TT := fun σ H Q => ∃ (g : Sg) (B : Bs) (b : Bool) (g' : Sg), RE K H B σ g ∧ evT C G e g = some (b, g') ∧ ∀ H' B', Stp K σ g H B σ g' H' B' → Q b H'
def tEs (es : List E) : TA := fun σ H Q => ∃ (g : Sg) (B : Bs) (ds : List D) (g' : Sg), RE K H B σ g ∧ evEs C G es g = some (ds, g') ∧ ∀ vs H' B', Stp K σ g H B σ g' H' B' → RepVs K H' B' ds vs → Q vs H'
/-- operands of a call: shared, or one's own -/
def RvO (σ : L2.St) (g' : Sg) (H' : Hp) (B' : Bs) : Rv → V → Prop
  | .pur d, v => RepV K H' B' d v
  | .loc i, v => σ[i]? = some (some v) ∧ True
  | .new _, _ => False
def RvOs (σ : L2.St) (g' : Sg) (H' : Hp) (B' : Bs) : List Rv → List V → Prop
  | [], vs => vs = []
  | r :: rs, vs => ∃ v ws, vs = v :: ws ∧ RvO K σ g' H' B' r v ∧ RvOs σ g' H' B' rs ws
def tAs (es : List E) : TA := fun σ H Q => ∃ (g : Sg) (B : Bs) (rs : List Rv) (g' : Sg), RE K H B σ g ∧ evAs C G es g = some (rs, g') ∧ ∀ vs H' B', Stp K σ g H B σ g' H' B' → RvOs K σ g' H' B' rs vs → Q vs H'
def tO (o : Option E) : TO := fun σ H Q => ∃ (g : Sg) (B : Bs) (i : Option Int) (g' : Sg), RE K H B σ g ∧ evO C G o g = some (i, g') ∧ ∀ H' B', Stp K σ g H B σ g' H' B' → Q i H'
end
section
variable {X : Cx} {e : Expr} {t t' : TE} {K : PySem.W.Frag} {C : Fn} {G : Nat → Option D} {nm : Nms} {n : Nat} {st sc : Scope} {σ : L2.St} {g g' g1 g2 : Sg} {H H' H1 H2 : Hp} {B B' B1 B2 : Bs} {r : Rv} {v x y : V} {d : D}
theorem pe_imp (h : PE X e t) (hi : ∀ σ H Q, t' σ H Q → t σ H Q) : PE X e t' := ⟨fun pins s σ H Q I q => h.run pins s σ H Q I (hi σ H Q q)⟩
theorem pt_imp {t t' : TT} (h : PT X e t) (hi : ∀ σ H Q, t' σ H Q → t σ H Q) : PT X e t' := ⟨fun pins s σ H Q I q => h.run pins s σ H Q I (hi σ H Q q)⟩
theorem tE_of {a : E} {Q : VK} (re : RE K H B σ g) (h : evE C G a g = some (r, g')) (q : ∀ v H' B', Stp K σ g H B σ g' H' B' → RvR K σ g B g' H' B' r v → Q v H') : tE K C G a σ H Q := ⟨g, B, r, g', re, h, q⟩
theorem bind2 {α β γ : Type} {x : Option (α × β)} {f : α × β → Option γ} {z : γ} (h : x.bind f = some z) : ∃ a b, x = some (a, b) ∧ f (a, b) = some z := by
  obtain ⟨⟨a, b⟩, h1, h2⟩ := Option.bind_eq_some_iff.mp h
  exact ⟨a, b, h1, h2⟩
theorem bind1 {α γ : Type} {x : Option α} {f : α → Option γ} {z : γ} (h : x.bind f = some z) : ∃ a, x = some a ∧ f a = some z := Option.bind_eq_some_iff.mp h
theorem map1 {α γ : Type} {x : Option α} {f : α → γ} {z : γ} (h : x.map f = some z) : ∃ a, x = some a ∧ f a = z := Option.map_eq_some_iff.mp h
/-- two operands: what both readings need -/
theorem two_ops {a b : E} {ra rb : Rv} {dx dy : D} {P : V → V → Hp → Prop} (re : RE K H B σ g) (ha : evE C G a g = some (ra, g1)) (hb : evE C G b g1 = some (rb, g2)) (hx : ra.data g2 = some dx) (hy : rb.data g2 = some dy)
    (q : ∀ x y H2 B2, Stp K σ g H B σ g2 H2 B2 → RepR K H2 B2 dx x → RepR K H2 B2 dy y → P x y H2) : tE K C G a σ H fun x H1 => tE K C G b σ H1 fun y H2 => P x y H2 := by
  refine tE_of re ha fun x H1 B1 s1 r1 => tE_of s1.re hb fun y H2 B2 s2 r2 => ?_
  exact q x y H2 B2 (s1.trans s2) (r1.later s1.re s2 hx) (r2.data s2.re hy)
theorem rvr_shift (h : RvR K σ g1 B1 g2 H2 B2 r v) (s : Stp K σ g H B σ g1 H1 B1) : RvR K σ g B g2 H2 B2 r v := by
  cases r with
  | pur d => exact h
  | loc i => exact h
  | new d =>
    refine ⟨h.1, fun a e => ⟨(h.2 a e).1, fun b => ?_⟩⟩
    by_cases o : Own σ g a
    · exact o
    · exact (s.osub a ((h.2 a e).2 (s.own a b o))).elim id fun z => by
        obtain ⟨u, eu, _⟩ := s.trk a b
        rw [z] at eu
        cases eu
theorem cst_pe {c : Cst} {k : Const} {j : Nat} {pos : Pos} (h : cstOk c k = true) : ∃ v, PE X (.Constant k j pos) (tC v) ∧ ∀ K H B, RepV K H B c.d v := by
  cases c <;> cases k <;> simp only [cstOk, reduceCtorEq, Bool.false_eq_true] at h
  · exact ⟨.non, pe_non, fun _ _ _ => rfl⟩
  · rename_i a b
    cases (beq_iff_eq.mp h)
    exact ⟨.bl a, pe_bl, fun _ _ _ => rfl⟩
  · rename_i a b
    cases of_decide_eq_true h
    exact ⟨.int a, pe_int, fun _ _ _ => rfl⟩
  · rename_i a b
    cases of_decide_eq_true h
    exact ⟨.str a, pe_str, fun _ _ _ => rfl⟩
theorem vis_of {env : PySem.Env} {x : Str} (he : env.scope = sc) (h : visB sc x = true) : Vis env.scope x := by
  rw [he]
  unfold visB at h
  unfold Vis
  split at h <;> first | (exact .inl ‹_›) | (exact .inr (.inl ‹_›)) | (exact .inr (.inr ‹_›)) | cases h
theorem gl_of {x : Str} (ok : Ok X C G nm n st sc) (h : glB sc x = true) : Gl X x := by
  show X.env.scope.names.lookup x = some .globalImplicit
  rw [ok.sc]
  exact of_decide_eq_true h
theorem nm_of {x : Str} (h : okNm x = true) : (x == ("__debug__" : Str)) = false ∧ (x == ("__classdict__" : Str)) = false := by
  unfold okNm at h
  simpa using h
/-- no star -/
theorem noStar {a : E} {x : Expr} (h : chkE nm X.N sc a x = true) (xs : List Expr) : starEach (x :: xs) X.env = (false, eval x X.env) :: starEach xs X.env := by
  cases x <;> first
    | rfl
    | (exfalso
       cases a <;> first
         | (rcases ext_form h with ⟨_, _, _, z⟩ | ⟨_, _, _, _, z⟩ | ⟨_, _, _, z⟩ <;> cases z)
         | simp [chkE] at h)
theorem noStars : ∀ {es : List E} {xs : List Expr} (pos : Pos), chkEs nm X.N sc es xs = true → (backTo pos (starEach xs X.env)).any (·.1) = false
  | [], xs, pos, h => by
    have : xs = [] := List.isEmpty_iff.mp h
    subst this
    rfl
  | a :: es, [], pos, h => by
    cases h
  | a :: es, x :: xs, pos, h => by
    obtain ⟨h1, h2⟩ := Bool.and_eq_true_iff.mp (show (chkE nm X.N sc a x && chkEs nm X.N sc es xs) = true from h)
    rw [noStar h1]
    have := noStars pos h2
    simpa [backTo] using this
end
end Ev

namespace Ev
set_option autoImplicit false
open PySem PySem.Spec PyProof.Rows L2
variable [TheW]
section
variable {g : Sg}
theorem gb_len : ∀ (rs : List Rv) (as : List (Md × D)), (giveBack g rs as).length = g.length
  | [], as => by cases as <;> rfl
  | .pur _ :: rs, [] => rfl
  | .new _ :: rs, [] => rfl
  | .loc i :: rs, [] => rfl
  | .pur _ :: rs, _ :: as => gb_len rs as
  | .new _ :: rs, _ :: as => gb_len rs as
  | .loc i :: rs, (m, d) :: as => by
    show (match g[i]? with
      | some (some (m, _)) => (giveBack g rs as).set i (some (m, d))
      | _ => giveBack g rs as).length = g.length
    split
    · rw [List.length_set, gb_len rs as]
    · exact gb_len rs as
theorem gb_out : ∀ (rs : List Rv) (as : List (Md × D)) (i : Nat), i ∉ locs rs → (giveBack g rs as)[i]? = g[i]?
  | [], as, i, _ => by cases as <;> rfl
  | .pur _ :: rs, [], i, _ => rfl
  | .new _ :: rs, [], i, _ => rfl
  | .loc _ :: rs, [], i, _ => rfl
  | .pur _ :: rs, _ :: as, i, h => gb_out rs as i h
  | .new _ :: rs, _ :: as, i, h => gb_out rs as i h
  | .loc k :: rs, (m, d) :: as, i, h => by
    have h1 : i ≠ k := fun e => h (by rw [e]; exact List.mem_cons_self)
    have h2 : i ∉ locs rs := fun e => h (List.mem_cons_of_mem _ e)
    show (match g[k]? with
      | some (some (m, _)) => (giveBack g rs as).set k (some (m, d))
      | _ => giveBack g rs as)[i]? = g[i]?
    split
    · rw [List.getElem?_set_ne (Ne.symm h1), gb_out rs as i h2]
    · exact gb_out rs as i h2
/-- an operand that is lent: where it stands -/
theorem lent : ∀ {rs : List Rv} {as : List (Md × D)} {i : Nat}, argsOf g rs = some as → i ∈ locs rs → ∃ (j : Nat) (m : Md) (d : D), rs[j]? = some (.loc i) ∧ as[j]? = some (Md.bor, d) ∧ g[i]? = some (some (m, d)) ∧ m ≠ Md.val
  | [], _, _, _, h => absurd h List.not_mem_nil
  | r :: rs, as, i, ha, h => by
    obtain ⟨a, ea, h2⟩ := bind1 (show (argOf g r).bind (fun a => (argsOf g rs).map (a :: ·)) = some as from ha)
    obtain ⟨bs, eb, rfl⟩ := map1 h2
    have step : i ∈ locs rs → ∃ (j : Nat) (m : Md) (d : D), (r :: rs)[j]? = some (.loc i) ∧ (a :: bs)[j]? = some (Md.bor, d) ∧ g[i]? = some (some (m, d)) ∧ m ≠ Md.val := fun hm => by
      obtain ⟨j, m, d, h1, h2, h3, h4⟩ := lent eb hm
      exact ⟨j + 1, m, d, by simpa using h1, by simpa using h2, h3, h4⟩
    cases r with
    | pur d => exact step h
    | new d => exact step h
    | loc k =>
      rcases List.mem_cons.mp (show i ∈ k :: locs rs from h) with e | hm
      · subst e
        obtain ⟨p, ep, rfl⟩ := map1 (show (ownAt g i).map (fun p => (Md.bor, p.2)) = some a from ea)
        obtain ⟨e1, hm⟩ := ownAt_some ep
        exact ⟨0, p.1, p.2, rfl, rfl, e1, hm⟩
      · exact step hm
/-- an argument: shared, or the data of an own slot -/
theorem argAt : ∀ {rs : List Rv} {as : List (Md × D)} {j : Nat} {m : Md} {d : D}, argsOf g rs = some as → as[j]? = some (m, d) → (m = .val ∧ (rs[j]? = some (.pur d) ∨ rs[j]? = some (.new d))) ∨ (m = .bor ∧ ∃ i k, rs[j]? = some (.loc i) ∧ g[i]? = some (some (k, d)) ∧ k ≠ Md.val)
  | [], as, j, m, d, ha, h => by
    cases (show some ([] : List (Md × D)) = some as from ha)
    simp at h
  | r :: rs, as, j, m, d, ha, h => by
    obtain ⟨a, ea, h2⟩ := bind1 (show (argOf g r).bind (fun a => (argsOf g rs).map (a :: ·)) = some as from ha)
    obtain ⟨bs, eb, rfl⟩ := map1 h2
    cases j with
    | succ j =>
      have := argAt (j := j) (m := m) (d := d) eb (by simpa using h)
      simpa using this
    | zero =>
      have e0 : a = (m, d) := by simpa using h
      subst e0
      cases r with
      | pur f =>
        cases (show some (Md.val, f) = some (m, d) from ea)
        exact .inl ⟨rfl, .inl rfl⟩
      | new f =>
        cases (show some (Md.val, f) = some (m, d) from ea)
        exact .inl ⟨rfl, .inr rfl⟩
      | loc k =>
        obtain ⟨p, ep, e⟩ := map1 (show (ownAt g k).map (fun p => (Md.bor, p.2)) = some (m, d) from ea)
        cases e
        obtain ⟨e1, hm⟩ := ownAt_some ep
        exact .inr ⟨rfl, k, p.1, rfl, e1, hm⟩
theorem args_len : ∀ {rs : List Rv} {as : List (Md × D)}, argsOf g rs = some as → as.length = rs.length
  | [], as, ha => by
    cases (show some ([] : List (Md × D)) = some as from ha)
    rfl
  | r :: rs, as, ha => by
    obtain ⟨a, ea, h2⟩ := bind1 (show (argOf g r).bind (fun a => (argsOf g rs).map (a :: ·)) = some as from ha)
    obtain ⟨bs, eb, rfl⟩ := map1 h2
    rw [List.length_cons, List.length_cons, args_len eb]
/-- two places that lend one slot are one -/
theorem loc_inj : ∀ {rs : List Rv} {j k i : Nat}, (locs rs).Nodup → rs[j]? = some (.loc i) → rs[k]? = some (.loc i) → j = k
  | [], _, _, _, _, h, _ => by simp at h
  | r :: rs, j, k, i, nd, hj, hk => by
    have mem : ∀ {l : List Rv} {m : Nat}, l[m]? = some (.loc i) → i ∈ locs l := by
      intro l
      induction l with
      | nil => intro m h; simp at h
      | cons q l ih =>
        intro m h
        cases m with
        | zero =>
          have : q = .loc i := by simpa using h
          subst this
          exact List.mem_cons_self
        | succ m =>
          have := ih (m := m) (by simpa using h)
          cases q with
          | loc x => exact List.mem_cons_of_mem _ this
          | pur _ => exact this
          | new _ => exact this
    have nd' : (locs rs).Nodup := by
      cases r with
      | loc x => exact (List.nodup_cons.mp nd).2
      | pur _ => exact nd
      | new _ => exact nd
    cases j with
    | zero =>
      have e : r = .loc i := by simpa using hj
      subst e
      cases k with
      | zero => rfl
      | succ k => exact absurd (mem (l := rs) (m := k) (by simpa using hk)) (List.nodup_cons.mp nd).1
    | succ j =>
      cases k with
      | zero =>
        have e : r = .loc i := by simpa using hk
        subst e
        exact absurd (mem (l := rs) (m := j) (by simpa using hj)) (List.nodup_cons.mp nd).1
      | succ k =>
        rw [loc_inj (rs := rs) (j := j) (k := k) nd' (by simpa using hj) (by simpa using hk)]
/-- what a lent slot holds behind the call -/
theorem gb_in : ∀ {rs : List Rv} {as : List (Md × D)} {j i : Nat} {m n : Md} {d e : D}, (locs rs).Nodup → rs[j]? = some (.loc i) → as[j]? = some (n, d) → g[i]? = some (some (m, e)) → (giveBack g rs as)[i]? = some (some (m, d))
  | [], _, _, _, _, _, _, _, _, h, _, _ => by simp at h
  | _ :: _, [], _, _, _, _, _, _, _, _, h, _ => by simp at h
  | r :: rs, a :: as, 0, i, m, n, d, e, nd, hj, ha, hg => by
    have e1 : r = .loc i := by simpa using hj
    have e2 : a = (n, d) := by simpa using ha
    subst e1 e2
    show (match g[i]? with
      | some (some (m, _)) => (giveBack g rs as).set i (some (m, d))
      | _ => giveBack g rs as)[i]? = _
    rw [hg]
    show ((giveBack g rs as).set i (some (m, d)))[i]? = _
    have hi : i < (giveBack g rs as).length := by
      rw [gb_len]
      exact (List.getElem?_eq_some_iff.mp hg).1
    rw [List.getElem?_set_self hi]
  | r :: rs, a :: as, j + 1, i, m, n, d, e, nd, hj, ha, hg => by
    have hj' : rs[j]? = some (.loc i) := by simpa using hj
    have ha' : as[j]? = some (n, d) := by simpa using ha
    cases r with
    | pur _ => exact gb_in (rs := rs) nd hj' ha' hg
    | new _ => exact gb_in (rs := rs) nd hj' ha' hg
    | loc k =>
      obtain ⟨am, ad⟩ := a
      have nd' := List.nodup_cons.mp (show (k :: locs rs).Nodup from nd)
      have hk : k ≠ i := fun z => by
        subst z
        have := loc_inj (rs := .loc k :: rs) (j := 0) (k := j + 1) nd rfl hj
        cases this
      show (match g[k]? with
        | some (some (m, _)) => (giveBack g rs as).set k (some (m, ad))
        | _ => giveBack g rs as)[i]? = _
      split
      · rw [List.getElem?_set_ne hk]
        exact gb_in (rs := rs) nd'.2 hj' ha' hg
      · exact gb_in (rs := rs) nd'.2 hj' ha' hg
end
section
variable {K : PySem.W.Frag} {σ : L2.St} {g : Sg} {H H' : Hp} {B B' : Bs} {v : V} {r : Rv} {rs : List Rv} {as as' : List (Md × D)} {vs : List V}
theorem rvos_len : ∀ {rs : List Rv} {vs : List V}, RvOs K σ g H B rs vs → vs.length = rs.length
  | [], _, h => by
    cases (show _ = [] from h)
    rfl
  | r :: rs, _, h => by
    obtain ⟨v, ws, rfl, _, h2⟩ := h
    rw [List.length_cons, List.length_cons, rvos_len h2]
theorem rvos_at : ∀ {rs : List Rv} {vs : List V} {j : Nat} {r : Rv}, RvOs K σ g H B rs vs → rs[j]? = some r → ∃ v, vs[j]? = some v ∧ RvO K σ g H B r v
  | [], _, _, _, _, h => by simp at h
  | r :: rs, _, 0, q, h, e => by
    obtain ⟨v, ws, rfl, h1, _⟩ := h
    have : r = q := by simpa using e
    subst this
    exact ⟨v, rfl, h1⟩
  | r :: rs, _, j + 1, q, h, e => by
    obtain ⟨v, ws, rfl, _, h2⟩ := h
    obtain ⟨w, e1, h3⟩ := rvos_at (j := j) h2 (by simpa using e)
    exact ⟨w, by simpa using e1, h3⟩
theorem mapS {α : Type} {l : List α} {j : Nat} {x : α} : (l.map some)[j]? = some (some x) ↔ l[j]? = some x := by
  rw [List.getElem?_map]
  cases l[j]? <;> simp
/-- the callee's frame, at its entry -/
theorem call_in (re : RE K H B σ g) (ho : RvOs K σ g H B rs vs) (ha : argsOf g rs = some as) (nd : (locs rs).Nodup) : RE K H B (vs.map some) (as.map some) where
  len := by rw [List.length_map, List.length_map, args_len ha, rvos_len ho]
  val := fun j d e => by
    rcases argAt ha (mapS.mp e) with ⟨_, h | h⟩ | ⟨z, _⟩
    · obtain ⟨v, e1, h1⟩ := rvos_at ho h
      exact ⟨v, mapS.mpr e1, h1⟩
    · obtain ⟨v, e1, h1⟩ := rvos_at ho h
      exact h1.elim
    · cases z
  own := fun j m d e hm => by
    rcases argAt ha (mapS.mp e) with ⟨z, _⟩ | ⟨_, i, k, h1, h2, h3⟩
    · exact absurd z hm
    · obtain ⟨v, e1, h4, _⟩ := rvos_at ho h1
      obtain ⟨w, e2, h5⟩ := re.own i k d h2 h3
      rw [h4] at e2
      cases e2
      exact ⟨v, mapS.mpr e1, h5⟩
  dist := fun j k m n d e a ej hm ek hn sj sk => by
    rcases argAt ha (mapS.mp ej) with ⟨z, _⟩ | ⟨_, i, m', h1, h2, h3⟩
    · exact absurd z hm
    · rcases argAt ha (mapS.mp ek) with ⟨z, _⟩ | ⟨_, i', n', h1', h2', h3'⟩
      · exact absurd z hn
      · obtain ⟨v, e1, h4, _⟩ := rvos_at ho h1
        obtain ⟨v', e1', h4', _⟩ := rvos_at ho h1'
        rw [mapS.mp sj] at e1
        rw [mapS.mp sk] at e1'
        cases e1
        cases e1'
        have := re.dist i i' m' n' d e a h2 h3 h2' h3' h4 h4'
        subst this
        exact loc_inj nd h1 h1'
  trk := re.trk
theorem call_own (ho : RvOs K σ g H B rs vs) (ha : argsOf g rs = some as) {a : Addr} (h : Own (vs.map some) (as.map some) a) : ∃ i ∈ locs rs, ∃ m d, g[i]? = some (some (m, d)) ∧ m ≠ Md.val ∧ σ[i]? = some (some (V.ref a)) := by
  obtain ⟨j, m, d, e, hm, hs⟩ := h
  rcases argAt ha (mapS.mp e) with ⟨z, _⟩ | ⟨_, i, k, h1, h2, h3⟩
  · exact absurd z hm
  · obtain ⟨v, e1, h4, _⟩ := rvos_at ho h1
    rw [mapS.mp hs] at e1
    cases e1
    have mem : ∀ {l : List Rv} {m : Nat}, l[m]? = some (.loc i) → i ∈ locs l := by
      intro l
      induction l with
      | nil => intro m h; simp at h
      | cons q l ih =>
        intro m h
        cases m with
        | zero =>
          have : q = .loc i := by simpa using h
          subst this
          exact List.mem_cons_self
        | succ m =>
          have := ih (m := m) (by simpa using h)
          cases q with
          | loc x => exact List.mem_cons_of_mem _ this
          | pur _ => exact this
          | new _ => exact this
    exact ⟨i, mem h1, k, d, h2, h3, h4⟩
/-- back in the caller's frame -/
theorem call_out (re : RE K H B σ g) (ho : RvOs K σ g H B rs vs) (ha : argsOf g rs = some as) (nd : (locs rs).Nodup) (hm : as'.map (·.1) = as.map (·.1))
    (s : Stp K (vs.map some) (as.map some) H B (vs.map some) (as'.map some) H' B') (hr : RvR K (vs.map some) (as.map some) B (as'.map some) H' B' r v) (hl : ∀ i, r ≠ .loc i) :
    Stp K σ g H B σ (giveBack g rs as') H' B' ∧ RvR K σ g B (giveBack g rs as') H' B' r v := by
  have md : ∀ {j : Nat} {n : Md} {d : D}, as[j]? = some (n, d) → ∃ d', as'[j]? = some (n, d') := fun {j n d} e => by
    have h1 : (as.map (·.1))[j]? = some n := by rw [List.getElem?_map, e]; rfl
    rw [← hm, List.getElem?_map] at h1
    obtain ⟨⟨n', d'⟩, e1, e2⟩ := Option.map_eq_some_iff.mp h1
    cases (show n' = n from e2)
    exact ⟨d', e1⟩
  have cow : ∀ {a : Addr}, Own (vs.map some) (as.map some) a → Own σ g a := fun {a} h => by
    obtain ⟨i, _, m, d, h1, h2, h3⟩ := call_own ho ha h
    exact ⟨i, m, d, h1, h2, h3⟩
  -- the caller's slots behind the call
  have slot : ∀ (i : Nat) (m : Md) (d : D), (giveBack g rs as')[i]? = some (some (m, d)) → (i ∉ locs rs ∧ g[i]? = some (some (m, d))) ∨ (∃ (j : Nat) (d0 : D), rs[j]? = some (Rv.loc i) ∧ as'[j]? = some (Md.bor, d) ∧ g[i]? = some (some (m, d0)) ∧ m ≠ Md.val) := fun i m d e => by
    by_cases hi : i ∈ locs rs
    · obtain ⟨j, k, f, h1, h2, h3, h4⟩ := lent ha hi
      obtain ⟨f', h5⟩ := md h2
      rw [gb_in nd h1 h5 h3] at e
      cases e
      exact .inr ⟨j, f, h1, h5, h3, h4⟩
    · rw [gb_out rs as' i hi] at e
      exact .inl ⟨hi, e⟩
  have back : ∀ {a : Addr}, Own σ (giveBack g rs as') a → Own σ g a := fun {a} ⟨i, m, d, e, h2, h3⟩ => by
    rcases slot i m d e with ⟨_, e1⟩ | ⟨j, d0, _, _, e1, _⟩
    · exact ⟨i, m, d, e1, h2, h3⟩
    · exact ⟨i, m, d0, e1, h2, h3⟩
  have st : Stp K σ g H B σ (giveBack g rs as') H' B' := by
    refine ⟨⟨by rw [gb_len]; exact re.len, fun i d e => ?_, fun i m d e hne => ?_, fun i j m n d e a ei hmi ej hnj si sj => ?_, s.re.trk⟩, re.trk, fun a o => re.ownB o, fun a o e n => s.keep a o e fun z => n (cow z), fun a b n => s.own a b fun z => n (cow z), s.new, fun a o => .inl (back o), s.grow, fun i d e => ⟨rfl, ?_⟩⟩
    · rcases slot i .val d e with ⟨_, e1⟩ | ⟨_, _, _, _, _, z⟩
      · obtain ⟨w, e2, q⟩ := re.val i d e1
        exact ⟨w, e2, q.ext s.kp⟩
      · exact absurd rfl z
    · rcases slot i m d e with ⟨hi, e1⟩ | ⟨j, d0, h1, h2, e1, _⟩
      · obtain ⟨w, e2, q⟩ := re.own i m d e1 hne
        refine ⟨w, e2, q.ext s.kp fun a o ea eo => ?_⟩
        subst ea
        have no : ¬ Own (vs.map some) (as.map some) a := fun z => by
          obtain ⟨k, hk, m', d', h3, h4, h5⟩ := call_own ho ha z
          have := re.dist i k m m' d d' a e1 hne h3 h4 e2 h5
          subst this
          exact hi hk
        obtain ⟨b, u, e3, hb, _⟩ := q.ref
        cases e3
        exact ⟨s.keep a o eo no, s.own a hb no⟩
      · obtain ⟨w, e2, q⟩ := s.re.own j .bor d (mapS.mpr h2) (fun z => nomatch z)
        obtain ⟨v', e3, h5, _⟩ := rvos_at ho h1
        rw [mapS.mp e2] at e3
        cases e3
        exact ⟨w, h5, q⟩
    · have gi : ∃ f, g[i]? = some (some (m, f)) := by
        rcases slot i m d ei with ⟨_, e1⟩ | ⟨_, d0, _, _, e1, _⟩
        · exact ⟨_, e1⟩
        · exact ⟨_, e1⟩
      have gj : ∃ f, g[j]? = some (some (n, f)) := by
        rcases slot j n e ej with ⟨_, e1⟩ | ⟨_, d0, _, _, e1, _⟩
        · exact ⟨_, e1⟩
        · exact ⟨_, e1⟩
      obtain ⟨f1, e1⟩ := gi
      obtain ⟨f2, e2⟩ := gj
      exact re.dist i j m n f1 f2 a e1 hmi e2 hnj si sj
    · by_cases hi : i ∈ locs rs
      · obtain ⟨j, k, f, h1, h2, h3, h4⟩ := lent ha hi
        obtain ⟨f', h5⟩ := md h2
        rw [e] at h3
        cases h3
        exact ⟨f', gb_in nd h1 h5 e⟩
      · exact ⟨d, by rw [gb_out rs as' i hi]; exact e⟩
  refine ⟨st, ?_⟩
  cases r with
  | pur d => exact hr
  | loc i => exact absurd rfl (hl i)
  | new d =>
    refine ⟨hr.1, fun a ea => ?_⟩
    obtain ⟨n1, n2⟩ := hr.2 a ea
    have up : Own (vs.map some) (as.map some) a → Own (vs.map some) (as'.map some) a := fun ⟨j, m, d, e, h2, h3⟩ => by
      obtain ⟨d', e'⟩ := md (mapS.mp e)
      exact ⟨j, m, d', mapS.mpr e', h2, h3⟩
    refine ⟨fun o => n1 (up (n2 (re.ownB (back o)))), fun b => cow (n2 b)⟩
end
end Ev

namespace Ev
set_option autoImplicit false
open PySem PySem.Spec PyProof.Rows L2
variable [TheW]
mutual
def slotsP : Pat → List Nat
  | .nm i => [i]
  | .tp ps => slotsPs ps
def slotsPs : List Pat → List Nat
  | [] => []
  | p :: ps => slotsP p ++ slotsPs ps
end
/-- the same but at some slots -/
def Agree (l : List Nat) (σ σ' : L2.St) : Prop := ∀ i : Nat, i ∉ l → σ'[i]? = σ[i]?
/-- a tuple of any make, its parts shared -/
def RepP (K : PySem.W.Frag) (H : Hp) (B : Bs) (d : D) (v : V) : Prop := ∃ ds a xs, d = PyData.tuple ds ∧ v = .ref a ∧ SqT K H a xs ∧ RepVs K H B ds xs
/-- what may be laid on a target -/
def RepT (K : PySem.W.Frag) (H : Hp) (B : Bs) (p : Pat) (d : D) (v : V) : Prop := RepV K H B d v ∨ ((∃ ps, p = .tp ps) ∧ RepP K H B d v)
theorem RepT.tup {K : PySem.W.Frag} {H : Hp} {B : Bs} {p : Pat} {ds : List D} {v : V} (h : RepT K H B p (.tuple ds) v) : ∃ a xs, v = .ref a ∧ SqT K H a xs ∧ RepVs K H B ds xs := by
  rcases h with h | ⟨_, es, a, xs, e, h1, h2, h3⟩
  · obtain ⟨a, xs, e, h1, h2⟩ := h
    exact ⟨a, xs, e, h1.sqt, h2⟩
  · cases e
    exact ⟨a, xs, h1, h2, h3⟩
section
variable (K : PySem.W.Frag)
def tP (p : Pat) : TG := fun v σ H Q => ∃ (g : Sg) (B : Bs) (d : D) (g' : Sg), RE K H B σ g ∧ bindP p d g = some g' ∧ RepT K H B p d v ∧ ∀ σ', Stp K σ g H B σ' g' H B → Agree (slotsP p) σ σ' → Q σ' H
def tPs (ps : List Pat) : TGs := fun vs σ H Q => ∃ (g : Sg) (B : Bs) (ds : List D) (g' : Sg), RE K H B σ g ∧ bindPs ps ds g = some g' ∧ RepVs K H B ds vs ∧ ∀ σ', Stp K σ g H B σ' g' H B → Agree (slotsPs ps) σ σ' → Q σ' H
end
section
variable {X : Cx} {K : PySem.W.Frag} {C : Fn} {G : Nat → Option D} {nm : Nms} {n : Nat} {st sc : Scope} {σ σ' : L2.St} {g g' g1 g2 : Sg} {H H' H1 H2 : Hp} {B B' B1 B2 : Bs} {r : Rv} {v x y : V} {d : D}
theorem setV_some {i : Nat} {m : Md} (h : setV g i m d = some g') : ∃ s, g[i]? = some s ∧ isBor s = false ∧ g' = g.set i (some (m, d)) := by
  unfold setV at h
  split at h
  · rename_i s e
    split at h
    · cases h
    · cases h
      exact ⟨s, e, Bool.eq_false_iff.mpr ‹_›, rfl⟩
  · cases h
theorem Stp.setVal {i : Nat} {s : Slot} (re : RE K H B σ g) (hs : g[i]? = some s) (hb : isBor s = false) (hr : RepV K H B d v) : Stp K σ g H B (σ.set i (some v)) (g.set i (some (.val, d))) H B := by
  have hi : i < g.length := (List.getElem?_eq_some_iff.mp hs).1
  have hσ : i < σ.length := by rw [← re.len]; exact hi
  have ne : ∀ {j : Nat} {m : Md} {e : D}, (g.set i (some (.val, d)))[j]? = some (some (m, e)) → m ≠ Md.val → i ≠ j ∧ g[j]? = some (some (m, e)) := fun {j m e} h hm => by
    by_cases z : i = j
    · subst z
      rw [List.getElem?_set_self hi] at h
      cases h
      exact absurd rfl hm
    · rw [List.getElem?_set_ne z] at h
      exact ⟨z, h⟩
  refine ⟨⟨by rw [List.length_set, List.length_set]; exact re.len, fun j e h => ?_, fun j m e h hm => ?_, fun j k m n e f a hj hm hk hn sj sk => ?_, re.trk⟩, re.trk, fun a o => re.ownB o, fun a o e _ => e, fun a b _ => b, fun a b => .inl b, fun a o => ?_, fun a n => n, fun j e h => ?_⟩
  · by_cases z : i = j
    · subst z
      rw [List.getElem?_set_self hi] at h
      cases h
      exact ⟨v, List.getElem?_set_self hσ, hr⟩
    · rw [List.getElem?_set_ne z] at h ⊢
      exact re.val j e h
  · obtain ⟨z, h'⟩ := ne h hm
    rw [List.getElem?_set_ne z]
    exact re.own j m e h' hm
  · obtain ⟨z1, h1⟩ := ne hj hm
    obtain ⟨z2, h2⟩ := ne hk hn
    rw [List.getElem?_set_ne z1] at sj
    rw [List.getElem?_set_ne z2] at sk
    exact re.dist j k m n e f a h1 hm h2 hn sj sk
  · obtain ⟨j, m, e, h, hm, sj⟩ := o
    obtain ⟨z, h'⟩ := ne h hm
    rw [List.getElem?_set_ne z] at sj
    exact .inl ⟨j, m, e, h', hm, sj⟩
  · by_cases z : i = j
    · subst z
      rw [hs] at h
      cases h
      cases hb
    · rw [List.getElem?_set_ne z, List.getElem?_set_ne z]
      exact ⟨rfl, e, h⟩
theorem agree_refl (l : List Nat) (σ : L2.St) : Agree l σ σ := fun _ _ => rfl
theorem pos_of {x : Str} {i : Nat} (h : locB st sc x = true) (ok : Ok X C G nm n st sc) : L2.Loc X.env.scope x ∧ (X.fn x = true ∨ X.env.scope.names.lookup x = some .local) := by
  unfold locB at h
  rw [ok.sc]
  unfold L2.Loc
  split at h
  · exact ⟨.inl ‹_›, .inr ‹_›⟩
  · exact ⟨.inr ‹_›, .inl (ok.fnc x (of_decide_eq_true h))⟩
  · cases h
theorem asgEach : ∀ {ps : List Pat} {xs : List Expr}, chkPs X.N st sc ps xs = true → assignEach xs X.env = xs.map fun e => (false, assign e X.env)
  | [], [], _ => rfl
  | [], _ :: _, h => by cases h
  | _ :: _, [], h => by cases h
  | p :: ps, x :: xs, h => by
    obtain ⟨h1, h2⟩ := Bool.and_eq_true_iff.mp (show (chkP X.N st sc p x && chkPs X.N st sc ps xs) = true from h)
    have := asgEach h2
    cases x <;> first
      | (show (false, _) :: assignEach xs X.env = _ :: _; rw [this])
      | (exfalso
         cases p <;> simp [chkP] at h1)
theorem lens : ∀ {ps : List Pat} {ds : List D} {g g' : Sg}, bindPs ps ds g = some g' → ps.length = ds.length
  | [], [], _, _, _ => rfl
  | [], _ :: _, _, _, h => by cases h
  | _ :: _, [], _, _, h => by cases h
  | p :: ps, d :: ds, g, g', h => by
    obtain ⟨g1, _, h2⟩ := bind1 (show (bindP p d g).bind (fun g1 => bindPs ps ds g1) = some g' from h)
    rw [List.length_cons, List.length_cons, lens h2]
theorem lenx : ∀ {ps : List Pat} {xs : List Expr}, chkPs X.N st sc ps xs = true → ps.length = xs.length
  | [], [], _ => rfl
  | [], _ :: _, h => by cases h
  | _ :: _, [], h => by cases h
  | p :: ps, x :: xs, h => by
    obtain ⟨_, h2⟩ := Bool.and_eq_true_iff.mp (show (chkP X.N st sc p x && chkPs X.N st sc ps xs) = true from h)
    rw [List.length_cons, List.length_cons, lenx h2]
mutual
theorem snd_P (ok : Ok X C G nm n st sc) : ∀ (p : Pat) (tg : Expr), chkP X.N st sc p tg = true → PG X tg (tP X.K p)
  | .nm i, tg, h => by
    cases tg <;> simp only [chkP, Bool.false_eq_true] at h
    obtain ⟨h1, h2⟩ := Bool.and_eq_true_iff.mp h
    obtain ⟨p1, p2⟩ := pos_of (i := i) h1 ok
    refine ⟨fun pins s σ H v u Q I r hq => ?_⟩
    obtain ⟨g, B, d, g', re, hb, hr, q⟩ := hq
    replace hr : RepV X.K H B d v := hr.elim id fun z => by
      obtain ⟨⟨ps, e⟩, _⟩ := z
      cases e
    obtain ⟨sl, e1, e2, rfl⟩ := setV_some (show setV g i .val d = some g' from hb)
    refine (pg_name ok.nd (of_decide_eq_true h2) p1 p2).run pins s σ H v u Q I r ?_
    refine q _ (Stp.setVal re e1 e2 hr) fun j hj => ?_
    rw [List.getElem?_set_ne (fun z => hj (by rw [← z]; exact List.mem_cons_self))]
  | .tp ps, tg, h => by
    cases tg <;> simp only [chkP, Bool.false_eq_true] at h
    rename_i xs k pos
    have ea := asgEach h
    refine ⟨fun pins s σ H v u Q I r hq => ?_⟩
    obtain ⟨g, B, d, g', re, hb, hr, q⟩ := hq
    cases d <;> simp only [bindP, reduceCtorEq] at hb
    rename_i ds
    obtain ⟨a, vs, rfl, h1, h2⟩ := hr.tup
    refine (pg_tup (n := xs.length) ok.calm (snd_Ps ok ps xs h) (by rw [ea, List.length_map]) (by rw [ea]; simp)).run pins s σ H _ u Q I r ?_
    exact ⟨a, vs, rfl, h1, by rw [h2.length, ← lens hb, lenx h], g, B, ds, g', re, hb, h2, q⟩
theorem snd_Ps (ok : Ok X C G nm n st sc) : ∀ (ps : List Pat) (xs : List Expr), chkPs X.N st sc ps xs = true → PGs X xs (tPs X.K ps)
  | [], [], _ => by
    refine ⟨fun pins s σ H vs us Q I r hq => ?_⟩
    obtain ⟨g, B, ds, g', re, hb, hr, q⟩ := hq
    cases ds with
    | cons d ds => cases hb
    | nil =>
      cases (show some g = some g' from hb)
      refine pgs_nil.run pins s σ H vs us Q I r ⟨hr, q σ (Stp.refl re) (agree_refl _ _)⟩
  | [], _ :: _, h => by cases h
  | _ :: _, [], h => by cases h
  | p :: ps, x :: xs, h => by
    obtain ⟨h1, h2⟩ := Bool.and_eq_true_iff.mp (show (chkP X.N st sc p x && chkPs X.N st sc ps xs) = true from h)
    have e1 := asgEach h
    have e2 := asgEach h2
    refine ⟨fun pins s σ H vs us Q I r hq => ?_⟩
    obtain ⟨g, B, ds, g', re, hb, hr, q⟩ := hq
    cases ds with
    | nil => cases hb
    | cons d ds =>
      obtain ⟨g1, hb1, hb2⟩ := bind1 (show (bindP p d g).bind (fun g1 => bindPs ps ds g1) = some g' from hb)
      obtain ⟨v, ws, rfl, hv, hw⟩ := hr
      refine (pgs_cons (snd_P ok p x h1) (snd_Ps ok ps xs h2) (by rw [e1, e2]; simp)).run pins s σ H _ us Q I r ?_
      refine ⟨v, ws, rfl, g, B, d, g1, re, hb1, .inl hv, fun σ1 s1 a1 => ?_⟩
      refine ⟨g1, B, ds, g', s1.re, hb2, hw, fun σ2 s2 a2 => q σ2 (s1.trans s2) fun i hi => ?_⟩
      have hi' : i ∉ slotsP p ++ slotsPs ps := hi
      rw [a2 i fun z => hi' (List.mem_append_right _ z), a1 i fun z => hi' (List.mem_append_left _ z)]
end
/-- the callee runs -/
theorem run_g {k : Nat} {f : Addr} {fd : FuncData} {ps : List Str} {sp : Sp} {pins : List (Addr × Obj)} {s : Shared} {Q : VK} {us : List Value} {vs : List V} (F : FnG X.prog X.w X.K X.mg X.base k f fd ps sp) (hr : Room k X.A) (hg : X.A.guards = some [])
    (hb : Binds X.K fd ps []) (I : Inv X pins σ H s) (rv : Vals vs us) (h : sp vs H Q E0) : wpAny (model X.prog X.w) X.A (call (.ref f) us) (EP X pins σ Q) X.xe s := by
  have hl : (us ++ []).length = ps.length := by rw [List.append_nil, ← rv.length]; exact F.len _ _ _ _ h
  have b := hb s us I.kIn hl
  rw [List.append_nil] at b
  refine wpAny_call (codeAny_mono (F.run X.A X.stack s H ⟨us, []⟩ us vs Q hg hr I.env0 b rv h) fun r s' hq => ?_)
  match r, hq with
  | .ok (.ret u), hq => exact I.after hq
  | .ok .next, hq => exact False.elim hq
  | .ok .brk, hq => exact False.elim hq
  | .ok .cont, hq => exact False.elim hq
  | .error e, hq => exact False.elim hq
/-- f(..) -/
theorem snd_call (ok : Ok X C G nm n st sc) {f : Nat} {es : List E} {z : Str} {xs : List Expr} {p pos : Pos} (hg : glB sc z = true) (hn : okNm z = true) (hf : nm.fns[f]? = some z) (hc : chkEs nm X.N sc es xs = true) (ha : PA X xs (tAs X.K C G es)) :
    PE X (.Call (.Name z p) xs [] pos) (tE X.K C G (.call f es)) := by
  obtain ⟨a, fd, ps, h1, h2, h3, F⟩ := ok.fn f z hf
  refine ⟨fun pins s σ H Q I h => ?_⟩
  obtain ⟨g, B, r, g', re, ev, q⟩ := h
  obtain ⟨rs, g1, e1, ev⟩ := bind2 (show (evAs C G es g).bind _ = _ from ev)
  obtain ⟨as, e2, ev⟩ := bind1 ev
  simp only at ev
  split at ev
  · rename_i nd
    obtain ⟨⟨r0, as'⟩, e3, e4⟩ := map1 ev
    cases e4
    have go : tAs X.K C G es σ H fun vs H1 => spF X.K (C f) vs H1 Q E0 := by
      refine ⟨g, B, rs, g1, re, e1, fun vs H1 B1 s1 ho => ?_⟩
      refine ⟨B1, as, as', r0, e3, by rw [args_len e2, rvos_len ho], call_in s1.re ho e2 nd, fun v H' B' s2 hr hl hm => ?_⟩
      obtain ⟨s3, r3⟩ := call_out s1.re ho e2 nd hm s2 hr hl
      exact q v H' B' (s1.trans s3) (rvr_shift r3 s1)
    refine wpAny_Call_Name_kw (ld_glob I (gl_of ok hg) h1 ?_ (nm_of hn).1)
    cases xs with
    | nil =>
      refine PySem.W.callWith_K0 I.kIn h2 ?_
      have hgo := ha.run pos pins s σ H _ I go
      cases es with
      | cons e es => cases hc
      | nil =>
        obtain ⟨g2, B2, rs2, g3, re2, e5, q5⟩ := go
        cases (show some ([], g2) = some (rs2, g3) from e5)
        exact run_g F ok.room ok.gu h3 (us := []) (vs := []) I .nil (q5 [] H B2 (Stp.refl re2) rfl)
    | cons x xs =>
      have st : starEach (x :: xs) X.env = (false, eval x X.env) :: starEach xs X.env := by
        cases es with
        | nil => cases hc
        | cons e es => exact noStar (Bool.and_eq_true_iff.mp (show (chkE nm X.N sc e x && chkEs nm X.N sc es xs) = true from hc)).1 xs
      have pl : (backTo pos (starEach xs X.env)).any (·.1) = false := by
        cases es with
        | nil => cases hc
        | cons e es => exact noStars pos (Bool.and_eq_true_iff.mp (show (chkE nm X.N sc e x && chkEs nm X.N sc es xs) = true from hc)).2
      refine PySem.W.callWith_K (h₀ := X.base) I.ok.mod.kin h2 (thn (ha.run pos pins s σ H _ I go) fun us s1 ⟨vs, H1, I1, r1, q1⟩ => ⟨I1.kIn, ?_⟩) st pl
      exact run_g F ok.room ok.gu h3 I1 r1 q1
  · cases ev
end
end Ev

namespace Ev
set_option autoImplicit false
open PySem PySem.Spec PyProof.Rows L2
variable [TheW]
/-- what a turn yields -/
def YldOk (w : Bool) (K : PySem.W.Frag) (H1 : Hp) (B1 : Bs) (H2 : Hp) (d : D) (x : V) : Prop := (H2 = H1 ∧ RepV K H1 B1 d x) ∨ (w = true ∧ ∃ (p : Addr) (xs : List V), H1 p = none ∧ H2 = upd H1 p (.tup xs) ∧ RepP K H2 B1 d x)
/-- iterations that yield pairs of their own -/
def ezE : E → Bool
  | .enu _ => true
  | .zip _ _ => true
  | _ => false
/-- an iteration over these -/
structure WalkOk (w : Bool) (K : PySem.W.Frag) (H' : Hp) (B' : Bs) (ds : List D) (J : It) (Gd : Hp → Prop) (Y : Nat → Hp → V → Hp → Prop) : Prop where
  wk : Walk J ds.length Gd Y
  st : ∀ H'' B'', Keep H' B' H'' B'' → Gd H''
  y : ∀ (i : Nat) H1 x H2 B1 d, Keep H' B' H1 B1 → (∀ a, B1 a → ∃ o, H1 a = some o ∧ ownO o = true) → Y i H1 x H2 → ds[i]? = some d → YldOk w K H1 B1 H2 d x
def tI (K : PySem.W.Frag) (C : Fn) (G : Nat → Option D) (it : E) : TI := fun σ H R => ∃ (g : Sg) (B : Bs) (ds : List D) (g' : Sg), RE K H B σ g ∧ evI C G it g = some (ds, g') ∧
  ∀ (H' : Hp) (B' : Bs), Stp K σ g H B σ g' H' B' → ∀ (J : It) (Gd : Hp → Prop) (Y : Nat → Hp → V → Hp → Prop), WalkOk (ezE it) K H' B' ds J Gd Y → R J H'
theorem ks_isL {K : PySem.W.Frag} {H : Hp} {B : Bs} {kvs : List (D × D)} {ks : List (L2.Key × V)} (h : RepKs K H B kvs ks) : isL kvs = false := by
  cases kvs with
  | nil => rfl
  | cons p r =>
    obtain ⟨z, d, v, t, rfl, _⟩ := ks_cons h
    rfl
theorem ks_key {K : PySem.W.Frag} {H : Hp} {B : Bs} {k : L2.Key} {u : V} : ∀ {kvs : List (D × D)} {ks : List (L2.Key × V)} {i : Nat} {d : D}, RepKs K H B kvs ks → ks[i]? = some (k, u) → (kvs.map (·.1))[i]? = some d → RepV K H B d (kV k)
  | [], _, _, _, _, _, h => by simp at h
  | p :: r, ks, i, d, h, h1, h2 => by
    obtain ⟨z, d0, v, t, rfl, rfl, _, h3⟩ := ks_cons h
    cases i with
    | zero =>
      simp only [List.getElem?_cons_zero, Option.some.injEq] at h1
      rw [List.map_cons, List.getElem?_cons_zero, Option.some.injEq] at h2
      cases h1
      subst h2
      rfl
    | succ i =>
      simp only [List.getElem?_cons_succ] at h1
      rw [List.map_cons, List.getElem?_cons_succ] at h2
      exact ks_key h3 h1 h2
section
variable {X : Cx} {K : PySem.W.Frag} {C : Fn} {G : Nat → Option D} {nm : Nms} {n : Nat} {st sc : Scope} {σ σ' : L2.St} {g g' g1 g2 : Sg} {H H' H1 H2 : Hp} {B B' B1 B2 : Bs} {r : Rv} {v x y : V} {d : D} {tg : Expr}
/-- a list or a tuple -/
theorem snd_I0 {a : E} {e : Expr} (he : PE X e (tE X.K C G a)) : PI X tg e (tI X.K C G a) := by
  refine ⟨fun pins s σ H R I h => ?_⟩
  obtain ⟨g, B, ds, g', re, ev, q⟩ := h
  obtain ⟨r, g1, e1, ev⟩ := bind2 (show (evE C G a g).bind _ = _ from ev)
  obtain ⟨d, e2, ev⟩ := bind1 ev
  obtain ⟨xs, e3, e4⟩ := map1 ev
  cases e4
  cases d with
  | list ds' =>
    cases (show some ds' = some ds from e3)
    refine (pi_list he).run pins s σ H R I (tE_of re e1 fun x H1 B1 s1 r1 => ?_)
    obtain ⟨B2, s2, a, xs, rfl, h1, h2⟩ := r1.pure s1 e2
    refine ⟨a, rfl, ⟨xs, h1.sql⟩, q H1 B2 s2 (Itl X.K a) (fun H => SqL X.K H a xs) (YAt xs) ⟨by rw [← h2.length]; exact walk_list, fun H'' B'' k => (h1.ext k).sql, fun i Ha x Hb Bc d k _ hy hd => ?_⟩⟩
    obtain ⟨rfl, hx⟩ := hy
    obtain ⟨w, e5, h5⟩ := (h2.ext k).get hd
    rw [hx] at e5
    cases e5
    exact .inl ⟨rfl, h5⟩
  | tuple ds' =>
    cases (show some ds' = some ds from e3)
    refine (pi_tup he).run pins s σ H R I (tE_of re e1 fun x H1 B1 s1 r1 => ?_)
    obtain ⟨B2, s2, a, xs, rfl, h1, h2⟩ := r1.pure s1 e2
    refine ⟨a, rfl, ⟨xs, h1.sqt⟩, q H1 B2 s2 (Itt X.K a) (fun H => SqT X.K H a xs) (YAt xs) ⟨by rw [← h2.length]; exact walk_tup, fun H'' B'' k => (h1.ext k).sqt, fun i Ha x Hb Bc d k _ hy hd => ?_⟩⟩
    obtain ⟨rfl, hx⟩ := hy
    obtain ⟨w, e5, h5⟩ := (h2.ext k).get hd
    rw [hx] at e5
    cases e5
    exact .inl ⟨rfl, h5⟩
  | none => cases e3
  | bool _ => cases e3
  | int _ => cases e3
  | str z =>
    cases (show some (z.cps.toList.map fun c => PyData.str ⟨#[c]⟩) = some ds from e3)
    refine (pi_str he).run pins s σ H R I (tE_of re e1 fun x H1 B1 s1 r1 => ?_)
    obtain ⟨B2, s2, hx⟩ := r1.pure s1 e2
    refine ⟨z, hx, q H1 B2 s2 (Its z) (fun _ => True) (fun i H v H' => H' = H ∧ ∃ c, z.cps[i]? = some c ∧ v = .str ⟨#[c]⟩) ⟨by rw [List.length_map, Array.length_toList]; exact walk_str, fun _ _ _ => True.intro, fun i Ha x Hb Bc d k _ hy hd => ?_⟩⟩
    obtain ⟨rfl, c, hc, rfl⟩ := hy
    rw [List.getElem?_map, Array.getElem?_toList, hc] at hd
    cases hd
    exact .inl ⟨rfl, rfl⟩
  | dict kvs =>
    have e3' : (if isN kvs = true then some (kvs.tail.map (·.1)) else if isL kvs = true then some (kvs.tail.map (·.1)) else none) = some ds := e3
    split at e3'
    rotate_left
    · rename_i hn0
      split at e3' <;> cases e3'
      have hl : isL kvs = true := ‹_›
      refine (pi_keys he).run pins s σ H R I (tE_of re e1 fun x H1 B1 s1 r1 => ?_)
      obtain ⟨B2, s2, hv⟩ := r1.pure s1 e2
      obtain ⟨a, o, rfl, ⟨h1, hb⟩, h2⟩ := hv
      rcases h2 with ⟨ks, rfl, h2⟩ | ⟨xs, ep, rfl, h2⟩ | ⟨ob, ks, rfl, h2⟩
      · rw [ks_isL h2] at hl
        cases hl
      · exact absurd (RepNs.isN h2) hn0
      obtain ⟨r, rfl, h3⟩ := h2.cons
      refine ⟨a, ob, rfl, .inl ⟨ks, h1, q H1 B2 s2 (Itk a ob ks) (fun H => H a = some (.frz ob (.dK ks))) (fun i H x H' => H' = H ∧ ∃ k v, ks[i]? = some (k, v) ∧ x = kV k) ⟨?_, fun H'' B'' k => (k.at_ a _ h1 hb).1, fun i Ha x Hb Bc d k _ hy hd => ?_⟩⟩⟩
      · rw [show (List.map (·.1) (List.tail ((PyData.bool false, PyData.none) :: r))).length = ks.length by rw [ks_len h3]; simp]
        exact ⟨fun i _ hi q => ⟨q, hi⟩, fun _ q => ⟨q, Nat.le_refl _⟩, fun _ _ _ _ _ _ y => y⟩
      · obtain ⟨rfl, kk, u, hx, rfl⟩ := hy
        exact .inl ⟨rfl, ks_key (RepKs.ext k _ _ h3) hx hd⟩
    cases e3'
    have hn : isN kvs = true := ‹_›
    refine (pi_n he).run pins s σ H R I (tE_of re e1 fun x H1 B1 s1 r1 => ?_)
    obtain ⟨B2, s2, hv⟩ := r1.pure s1 e2
    obtain ⟨a, o, rfl, ⟨h1, hb⟩, h2⟩ := hv
    rcases h2 with ⟨ks, rfl, h2⟩ | ⟨xs, ep, rfl, h2⟩ | ⟨ob, ks, rfl, h2⟩
    · rw [ks_isN h2] at hn
      cases hn
    rotate_left
    · obtain ⟨r, rfl, h3⟩ := h2.cons
      cases hn
    obtain ⟨r, rfl, h3⟩ := h2.cons
    refine ⟨a, xs, ep, rfl, h1, q H1 B2 s2 (Itn a xs ep) (fun H => H a = some (dN a xs ep)) (fun i H x H' => H' = H ∧ ∃ k q u, xs[i]? = some (k, q, u) ∧ x = .ref q) ⟨?_, fun H'' B'' k => (k.at_ a _ h1 hb).1, fun i Ha x Hb Bc d k _ hy hd => ?_⟩⟩
    · rw [show (List.map (·.1) (List.tail ((PyData.bool true, PyData.none) :: r))).length = xs.length by rw [n1_len h3]; simp]
      exact walk_n
    · obtain ⟨rfl, kk, qq, u, hx, rfl⟩ := hy
      exact .inl ⟨rfl, n1_key (h3.ext k) hx hd⟩
theorem rng_len (lo : Int) (n : Nat) : (rangeL lo n).length = n := by simp [rangeL]
theorem rng_at {lo : Int} {n i : Nat} {d : D} (h : (rangeL lo n)[i]? = some d) : d = .int (lo + (i : Int)) := by
  unfold rangeL at h
  rw [List.getElem?_map] at h
  obtain ⟨j, hj, e⟩ := Option.map_eq_some_iff.mp h
  have hi : i < n := by
    have := (List.getElem?_eq_some_iff.mp hj).1
    simpa using this
  rw [List.getElem?_range hi] at hj
  cases hj
  exact e.symm
theorem small_iff {j : Int} (h : smallI j = true) : -(2 ^ 62) ≤ j ∧ j < 2 ^ 62 := by
  unfold smallI at h
  simpa using h
theorem walk_rng {z : Bool} {lo : Int} {n : Nat} : WalkOk z K H' B' (rangeL lo n) (Itr lo n) (fun _ => True) (YFn fun i => .int (lo + i)) :=
  ⟨by rw [rng_len]; exact walk_range, fun _ _ _ => True.intro, fun i Ha x Hb Bc d _ _ hy hd => by
    obtain ⟨rfl, rfl⟩ := hy
    cases rng_at hd
    exact .inl ⟨rfl, rfl⟩⟩
theorem evEs_len : ∀ {es : List E} {g : Sg} {p : List D × Sg}, evEs C G es g = some p → p.1.length = es.length
  | [], g, p, h => by
    cases (show some ([], g) = some p from h)
    rfl
  | e :: es, g, p, h => by
    obtain ⟨r, g1, _, h2⟩ := bind2 (show (evE C G e g).bind _ = _ from h)
    obtain ⟨d, _, h3⟩ := bind1 h2
    obtain ⟨q, h4, rfl⟩ := map1 h3
    rw [List.length_cons, List.length_cons, evEs_len h4]
theorem rep_one {K : PySem.W.Frag} {i : Int} {vs : List V} (h : RepVs K H B [.int i] vs) : vs = [.int i] := by
  obtain ⟨v, r, rfl, h1, h2⟩ := h
  rw [show v = V.int i from h1, show r = [] from h2]
theorem rep_two {K : PySem.W.Frag} {i j : Int} {vs : List V} (h : RepVs K H B [.int i, .int j] vs) : vs = [.int i, .int j] := by
  obtain ⟨v, r, rfl, h1, h2⟩ := h
  rw [show v = V.int i from h1, rep_one h2]
/-- range(..) -/
theorem snd_rng (ok : Ok X C G nm n st sc) {es : List E} {z : Str} {xs : List Expr} {p pos : Pos} (hg : glB sc z = true) (hz : z = "range") (hc : chkEs nm X.N sc es xs = true) (hl : (decide (xs.length = 1) || decide (xs.length = 2)) = true)
    (ha : PA X xs (tEs X.K C G es)) : PI X tg (.Call (.Name z p) xs [] pos) (tI X.K C G (.rng es)) := by
  subst hz
  have gl := gl_of ok hg
  have mm := ok.blt "range" (by decide)
  refine ⟨fun pins s σ H R I h => ?_⟩
  obtain ⟨g, B, ds, g', re, ev, q⟩ := h
  obtain ⟨r, g1, e1, ev⟩ := bind2 (show (evE C G (.rng es) g).bind _ = _ from ev)
  obtain ⟨d, e2, ev⟩ := bind1 ev
  obtain ⟨zs, e3, e4⟩ := map1 ev
  cases e4
  obtain ⟨as, g2, e5, e6⟩ := bind2 (show (evEs C G es g).bind _ = _ from e1)
  obtain ⟨l, e7, e8⟩ := map1 e6
  cases e8
  cases (show some (PyData.list l) = some d from e2)
  cases (show some l = some ds from e3)
  have st1 : ∀ {e : E} {x : Expr} {es : List E} {xs : List Expr}, chkEs nm X.N sc (e :: es) (x :: xs) = true → starEach (x :: xs) X.env = (false, eval x X.env) :: starEach xs X.env := fun {e x es xs} h => noStar (Bool.and_eq_true_iff.mp (show (chkE nm X.N sc e x && chkEs nm X.N sc es xs) = true from h)).1 xs
  rcases xs with _ | ⟨x, _ | ⟨y, _ | ⟨w, xs⟩⟩⟩
  · cases hl
  · rcases es with _ | ⟨e, _ | ⟨e', es⟩⟩
    · cases hc
    · refine (pi_range1 gl mm ha (by rw [st1 hc]; rfl)).run pins s σ H R I ⟨g, B, as, _, re, e5, fun vs Hv Bv sv rv => ?_⟩
      have el : as.length = 1 := evEs_len e5
      have e7' : dRng as = some ds := e7
      clear e7
      unfold dRng at e7'
      split at e7'
      · split at e7' <;> cases e7'
        rw [rep_one rv]
        obtain ⟨b1, b2⟩ := small_iff ‹_›
        exact ⟨_, rfl, b1, b2, q Hv Bv sv _ _ _ walk_rng⟩
      · simp at el
      · cases e7'
    · obtain ⟨_, h2⟩ := Bool.and_eq_true_iff.mp (show (chkE nm X.N sc e x && chkEs nm X.N sc (e' :: es) []) = true from hc)
      cases h2
  · rcases es with _ | ⟨e, _ | ⟨e', _ | ⟨e'', es⟩⟩⟩
    · cases hc
    · obtain ⟨_, h2⟩ := Bool.and_eq_true_iff.mp (show (chkE nm X.N sc e x && chkEs nm X.N sc [] [y]) = true from hc)
      cases h2
    · have hc2 := (Bool.and_eq_true_iff.mp (show (chkE nm X.N sc e x && chkEs nm X.N sc [e'] [y]) = true from hc)).2
      refine (pi_range2 gl mm ha (by rw [st1 hc, st1 hc2]; rfl) (by rw [st1 hc2]; rfl)).run pins s σ H R I ⟨g, B, as, _, re, e5, fun vs Hv Bv sv rv => ?_⟩
      have el : as.length = 2 := evEs_len e5
      have e7' : dRng as = some ds := e7
      clear e7
      unfold dRng at e7'
      split at e7'
      · simp at el
      · split at e7' <;> cases e7'
        rw [rep_two rv]
        obtain ⟨hb1, hb2⟩ := Bool.and_eq_true_iff.mp ‹(smallI _ && smallI _) = true›
        obtain ⟨b1, b2⟩ := small_iff hb1
        obtain ⟨b3, b4⟩ := small_iff hb2
        exact ⟨_, _, rfl, ⟨b1, b2, b3, b4⟩, q Hv Bv sv _ _ _ walk_rng⟩
      · cases e7'
    · obtain ⟨_, h2⟩ := Bool.and_eq_true_iff.mp (show (chkE nm X.N sc e x && chkEs nm X.N sc (e' :: e'' :: es) [y]) = true from hc)
      obtain ⟨_, h3⟩ := Bool.and_eq_true_iff.mp (show (chkE nm X.N sc e' y && chkEs nm X.N sc (e'' :: es) []) = true from h2)
      cases h3
  · simp at hl
theorem pair_rep {p : Addr} {x y : V} {dx dy : D} (trk : ∀ a, B a → ∃ o, H a = some o ∧ ownO o = true) (hp : H p = none) (h1 : RepV K H B dx x) (h2 : RepV K H B dy y) : YldOk true K H B (upd H p (.tup [x, y])) (.tuple [dx, dy]) (.ref p) := by
  have k : Keep H B (upd H p (.tup [x, y])) B := keep_alloc trk hp
  exact .inr ⟨rfl, p, [x, y], hp, rfl, [dx, dy], p, [x, y], rfl, rfl, .inl (.inl upd_same), x, [y], rfl, h1.ext k, y, [], rfl, h2.ext k, rfl⟩
/-- enumerate(..) -/
theorem snd_enu (ok : Ok X C G nm n st sc) {a : E} {z : Str} {y : Expr} {p pos tpos : Pos} {elts : List Expr} {kk : Nat} (hg : glB sc z = true) (hz : z = "enumerate") (hc : chkE nm X.N sc a y = true) (he : PE X y (tE X.K C G a)) :
    PI X (.Tuple elts kk tpos) (.Call (.Name z p) [y] [] pos) (tI X.K C G (.enu a)) := by
  subst hz
  refine ⟨fun pins s σ H R I h => ?_⟩
  obtain ⟨g, B, ds, g', re, ev, q⟩ := h
  obtain ⟨r, g1, e1, ev⟩ := bind2 (show (evE C G (.enu a) g).bind _ = _ from ev)
  obtain ⟨d, e2, ev⟩ := bind1 ev
  obtain ⟨zs, e3, e4⟩ := map1 ev
  cases e4
  obtain ⟨ra, g2, e5, e6⟩ := bind2 (show (evE C G a g).bind _ = _ from e1)
  obtain ⟨da, e7, e8⟩ := bind1 e6
  obtain ⟨l, e9, e10⟩ := map1 e8
  cases e10
  cases (show some (PyData.list l) = some d from e2)
  cases (show some l = some ds from e3)
  obtain ⟨xs, rfl⟩ : ∃ xs, da = .list xs := by
    cases da <;> first | exact ⟨_, rfl⟩ | cases e9
  cases (show some (List.zipWith (fun (i : Nat) x => PyData.tuple [PyData.int (i : Int), x]) (List.range xs.length) xs) = some ds from e9)
  have st1 : starEach [y] X.env = (false, eval y X.env) :: starEach [] X.env := noStar hc []
  refine (pi_enum (gl_of ok hg) (ok.blt "enumerate" (by decide)) (pa_cons he pa_nil st1) (by rw [st1]; rfl)).run pins s σ H R I (tE_of re e5 fun x H1 B1 s1 r1 => ?_)
  obtain ⟨B2, s2, b, vs, rfl, h1, h2⟩ := r1.pure s1 e7
  have ll : (List.zipWith (fun (i : Nat) x => PyData.tuple [PyData.int (i : Int), x]) (List.range xs.length) xs).length = vs.length := by
    rw [List.length_zipWith, List.length_range, h2.length, Nat.min_self]
  refine ⟨b, vs, rfl, h1.sql, q H1 B2 s2 (Ite X.K b) (fun H => SqL X.K H b vs) _ ⟨by rw [ll]; exact walk_enum, fun H'' B'' k => (h1.ext k).sql, fun i Ha x Hb Bc d k trk hy hd => ?_⟩⟩
  obtain ⟨T, u, w, rfl, hT, rfl, hu, hw⟩ := hy
  cases hu
  rw [List.getElem?_zipWith] at hd
  have hi : i < vs.length := (List.getElem?_eq_some_iff.mp hw).1
  rw [List.getElem?_range (by rw [← h2.length]; exact hi)] at hd
  obtain ⟨f, ef, hf⟩ := (h2.ext k).get' hw
  rw [ef] at hd
  cases hd
  exact pair_rep trk hT rfl hf
end
section
open PySem
/-- the list at a, the tuple at b, as they stand at each turn -/
def itMix (K : PySem.W.Frag) (a b : Addr) : It where
  go := fun i H => ∃ (us ws : List V) (p q : V), (SqL K H a us ∧ us[i]? = some p) ∧ SqT K H b ws ∧ ws[i]? = some q
  yld := fun i H v H' => ∃ T p q, v = .ref T ∧ H T = none ∧ H' = upd H T (.tup [p, q]) ∧ (∀ us, SqL K H a us → us[i]? = some p) ∧ ∀ ws, SqT K H b ws → ws[i]? = some q
  stop := fun i H => ∃ us ws : List V, (SqL K H a us ∧ SqT K H b ws) ∧ (i ≤ us.length ∧ i ≤ ws.length) ∧ (i = us.length ∨ i = ws.length)
theorem mix_sep {z TI TO i1 i2 a b : Addr} (D : ZipApart z TI TO i1 i2 a b) : ZipSep2 z TI TO i1 i2 [i1, a] [i2, b] where
  TIz := D.TIz
  TOz := D.TOz
  TITO := D.TITO
  TIi1 := D.TIi1
  TIi2 := D.TIi2
  mem1 := by simp
  mem2 := by simp
  zf1 := by simp [Ne.symm D.i1z, Ne.symm D.l1z]
  zf2 := by simp [Ne.symm D.i2z, Ne.symm D.l2z]
  Tf1 := by simp [D.TOi1, Ne.symm D.l1TO]
  Tf2 := by simp [D.TOi2, Ne.symm D.l2TO]
  sep1_2 := by simp [D.i12, Ne.symm D.l2i1]
  sep2_1 := by simp [Ne.symm D.i12, Ne.symm D.l1i2]
theorem mem5 {c p q r s t : Addr} (h : c ∈ [p, q, r, s, t]) : c = p ∨ c = q ∨ c = r ∨ c = s ∨ c = t := by simpa using h
theorem turn_mix {P : Program} {w : World} {K : PySem.W.Frag} {elts : List Expr} {kk : Nat} {tpos : Pos} {a b z TI TO i1 i2 : Addr} (D : ZipApart z TI TO i1 i2 a b) :
    Turn P w K (.Tuple elts kk tpos) (itMix K a b) [z, TI, TO, i1, i2] z (fun i h => (IsZip h z TI TO .none ∧ IsTupOf2 h TI (.ref i1) (.ref i2)) ∧ (∃ x y, IsTupOf2 h TO x y) ∧ h.IsListIter i1 a i ∧ h.IsTupleIter i2 b i) where
  mem := List.mem_cons_self
  obj := fun i h st c hc => by
    obtain ⟨⟨z1, z2⟩, ⟨x, y, z3⟩, ⟨o1, z4, _, z5⟩, o2, z6, _, z7⟩ := st
    rcases mem5 hc with rfl | rfl | rfl | rfl | rfl
    · exact ⟨_, z1, nofun⟩
    · exact ⟨_, z2, nofun⟩
    · exact ⟨_, z3, nofun⟩
    · exact ⟨o1, z4, fun v q => by rw [z5] at q; cases q⟩
    · exact ⟨o2, z6, fun v q => by rw [z7] at q; cases q⟩
  keep := fun i h h' st k => by
    obtain ⟨⟨z1, z2⟩, ⟨x, y, z3⟩, z4, z5⟩ := st
    exact ⟨⟨k z (by simp) _ z1, k TI (by simp) _ z2⟩, ⟨x, y, k TO (by simp) _ z3⟩, z4.at fun o q => k i1 (by simp) o q, z5.at fun o q => k i2 (by simp) o q⟩
  item := by
    intro X eP ew eK hc i pins s σ H E I hf st hg
    subst eP ew eK
    obtain ⟨⟨z1, z2⟩, ⟨x0, y0, z3⟩, z4, z5⟩ := st
    obtain ⟨us, ws, p, q, ⟨l1, l2⟩, t1, t2⟩ := hg
    obtain ⟨ls, lr, lp, _⟩ := I.list l1
    obtain ⟨ts, tr, tp, _⟩ := I.tuple t1
    obtain ⟨u, hu, ru⟩ := lr.get l2
    obtain ⟨u2, hu2, ru2⟩ := tr.get t2
    have zl : z < s.heap.objs.size := Heap.lt_size z1
    have b1 : i < ls.toArray.size := by simpa using (List.getElem?_eq_some_iff.mp hu).1
    have b2 : i < ts.toArray.size := by simpa using (List.getElem?_eq_some_iff.mp hu2).1
    have hd : X.A.in1.handled = none := I.ok.hd hc
    refine wpAny_pyNext_zipD2_item (mix_sep D) (Draws.list (A := X.A.in1) hd i1 a D.l1i1 ls.toArray) (Draws.tuple (A := X.A.in1) hd i2 b D.l2i2 ts.toArray) z1 z2 z3 ⟨z4, lp.isList⟩ ⟨z5, tp⟩ b1 b2 fun y1 y2 h1 tk e1 e2 c1 c2 c3 c4 c5 c6 c7 => ?_
    have ey1 : y1 = u := by
      have : ls[i]? = some y1 := by simpa using e1
      rw [hu] at this
      cases this
      rfl
    have ey2 : y2 = u2 := by
      have : ts[i]? = some y2 := by simpa using e2
      rw [hu2] at this
      cases this
      rfl
    subst ey1 ey2
    refine ⟨_, rfl, wpAny_letOwnedTupleGo_zip (s := { s with heap := h1, toks := tk }) c1 fun h2 d1 sb => ?_⟩
    have g5 := (sb.2 _ (Nat.ne_of_gt zl)).trans c5
    have nw : ObjOk X.prog X.w (upd H s.heap.objs.size (.tup [p, q])) h2 s.heap.objs.size (.tup [p, q]) := ⟨(show 2 ≤ sizeLine by decide), [y1, y2], .cons ru (.cons ru2 .nil), _, g5, rfl, _, rfl⟩
    have ap : ∀ {c : Addr}, c ∉ [z, TI, TO, i1, i2] → c ≠ z ∧ c ≠ TO ∧ c ≠ i1 ∧ c ≠ i2 := fun {c} h => ⟨fun e => h (by simp [e]), fun e => h (by simp [e]), fun e => h (by simp [e]), fun e => h (by simp [e])⟩
    have I1 : Inv X pins σ (upd H s.heap.objs.size (.tup [p, q])) { s with heap := h2, toks := tk } := I.turnedNew (ch := [z, TI, TO, i1, i2]) (fun c o hb e => (sb.2 c (ap hb).1).trans (c7 c o (ap hb).1 (ap hb).2.1 (ap hb).2.2.1 (ap hb).2.2.2 e)) hf (Nat.le_refl _) nw
    refine ⟨.ref s.heap.objs.size, _, I1, rfl, ⟨_, p, q, rfl, I.hok.fresh (Nat.le_refl _), rfl, fun vs h => by rw [I.list_inj h l1]; exact l2, fun vs h => by rw [I.tuple_inj h t1]; exact t2⟩, ⟨⟨d1, ?_⟩, ⟨y1, y2, ?_⟩, ?_, ?_⟩, fun c hcm => ?_⟩
    · exact (sb.2 _ D.TIz).trans (c7 _ _ D.TIz D.TITO D.TIi1 D.TIi2 z2)
    · exact (sb.2 _ D.TOz).trans c2
    · exact c3.1.at fun o e => (sb.2 _ D.i1z).trans e
    · exact c4.1.at fun o e => (sb.2 _ D.i2z).trans e
    · have lt : c < s.heap.objs.size := by
        rcases mem5 hcm with rfl | rfl | rfl | rfl | rfl
        · exact zl
        · exact Heap.lt_size z2
        · exact Heap.lt_size z3
        · obtain ⟨_, e, _⟩ := z4; exact Heap.lt_size e
        · obtain ⟨_, e, _⟩ := z5; exact Heap.lt_size e
      rw [upd_ne (Nat.ne_of_lt lt)]
      exact (hf c hcm).1
  done := by
    intro X eP ew eK hc i pins s σ H E I hf st hg
    subst eP ew eK
    obtain ⟨⟨z1, z2⟩, ⟨x0, y0, z3⟩, z4, z5⟩ := st
    obtain ⟨us, ws, ⟨l1, t1⟩, ⟨g1, g2⟩, en⟩ := hg
    obtain ⟨ls, lr, lp, _⟩ := I.list l1
    obtain ⟨ts, tr, tp, _⟩ := I.tuple t1
    have n1 : us.length = ls.toArray.size := by simpa using lr.length
    have n2 : ws.length = ts.toArray.size := by simpa using tr.length
    have hd : X.A.in1.handled = none := I.ok.hd hc
    exact wpAny_pyNext_zipD2_end (mix_sep D) (Draws.list (A := X.A.in1) hd i1 a D.l1i1 ls.toArray) (Draws.tuple (A := X.A.in1) hd i2 b D.l2i2 ts.toArray) z1 z2 z3 ⟨z4, lp.isList⟩ ⟨z5, tp⟩ (n1 ▸ g1) (n2 ▸ g2) (by rw [← n1, ← n2]; exact en) fun h1 tk hk => ⟨rfl, I.turnedL (ch := [z, TI, TO, i1, i2]) (fun c o hb e => hk c o (fun e => hb (by simp [e])) (fun e => hb (by simp [e])) (fun e => hb (by simp [e])) (fun e => hb (by simp [e])) e) hf⟩
  self := fun A i s Q E st h => wpAny_pyIter_zip st.1.1 h
/-- the tuple at a, the list at b, as they stand at each turn -/
def itMiy (K : PySem.W.Frag) (a b : Addr) : It where
  go := fun i H => ∃ (us ws : List V) (p q : V), (SqT K H a us ∧ us[i]? = some p) ∧ SqL K H b ws ∧ ws[i]? = some q
  yld := fun i H v H' => ∃ T p q, v = .ref T ∧ H T = none ∧ H' = upd H T (.tup [p, q]) ∧ (∀ us, SqT K H a us → us[i]? = some p) ∧ ∀ ws, SqL K H b ws → ws[i]? = some q
  stop := fun i H => ∃ us ws : List V, (SqT K H a us ∧ SqL K H b ws) ∧ (i ≤ us.length ∧ i ≤ ws.length) ∧ (i = us.length ∨ i = ws.length)
theorem turn_miy {P : Program} {w : World} {K : PySem.W.Frag} {elts : List Expr} {kk : Nat} {tpos : Pos} {a b z TI TO i1 i2 : Addr} (D : ZipApart z TI TO i1 i2 a b) :
    Turn P w K (.Tuple elts kk tpos) (itMiy K a b) [z, TI, TO, i1, i2] z (fun i h => (IsZip h z TI TO .none ∧ IsTupOf2 h TI (.ref i1) (.ref i2)) ∧ (∃ x y, IsTupOf2 h TO x y) ∧ h.IsTupleIter i1 a i ∧ h.IsListIter i2 b i) where
  mem := List.mem_cons_self
  obj := fun i h st c hc => by
    obtain ⟨⟨z1, z2⟩, ⟨x, y, z3⟩, ⟨o1, z4, _, z5⟩, o2, z6, _, z7⟩ := st
    rcases mem5 hc with rfl | rfl | rfl | rfl | rfl
    · exact ⟨_, z1, nofun⟩
    · exact ⟨_, z2, nofun⟩
    · exact ⟨_, z3, nofun⟩
    · exact ⟨o1, z4, fun v q => by rw [z5] at q; cases q⟩
    · exact ⟨o2, z6, fun v q => by rw [z7] at q; cases q⟩
  keep := fun i h h' st k => by
    obtain ⟨⟨z1, z2⟩, ⟨x, y, z3⟩, z4, z5⟩ := st
    exact ⟨⟨k z (by simp) _ z1, k TI (by simp) _ z2⟩, ⟨x, y, k TO (by simp) _ z3⟩, z4.at fun o q => k i1 (by simp) o q, z5.at fun o q => k i2 (by simp) o q⟩
  item := by
    intro X eP ew eK hc i pins s σ H E I hf st hg
    subst eP ew eK
    obtain ⟨⟨z1, z2⟩, ⟨x0, y0, z3⟩, z4, z5⟩ := st
    obtain ⟨us, ws, p, q, ⟨l1, l2⟩, t1, t2⟩ := hg
    obtain ⟨ls, lr, lp, _⟩ := I.tuple l1
    obtain ⟨ts, tr, tp, _⟩ := I.list t1
    obtain ⟨u, hu, ru⟩ := lr.get l2
    obtain ⟨u2, hu2, ru2⟩ := tr.get t2
    have zl : z < s.heap.objs.size := Heap.lt_size z1
    have b1 : i < ls.toArray.size := by simpa using (List.getElem?_eq_some_iff.mp hu).1
    have b2 : i < ts.toArray.size := by simpa using (List.getElem?_eq_some_iff.mp hu2).1
    have hd : X.A.in1.handled = none := I.ok.hd hc
    refine wpAny_pyNext_zipD2_item (mix_sep D) (Draws.tuple (A := X.A.in1) hd i1 a D.l1i1 ls.toArray) (Draws.list (A := X.A.in1) hd i2 b D.l2i2 ts.toArray) z1 z2 z3 ⟨z4, lp⟩ ⟨z5, tp.isList⟩ b1 b2 fun y1 y2 h1 tk e1 e2 c1 c2 c3 c4 c5 c6 c7 => ?_
    have ey1 : y1 = u := by
      have : ls[i]? = some y1 := by simpa using e1
      rw [hu] at this
      cases this
      rfl
    have ey2 : y2 = u2 := by
      have : ts[i]? = some y2 := by simpa using e2
      rw [hu2] at this
      cases this
      rfl
    subst ey1 ey2
    refine ⟨_, rfl, wpAny_letOwnedTupleGo_zip (s := { s with heap := h1, toks := tk }) c1 fun h2 d1 sb => ?_⟩
    have g5 := (sb.2 _ (Nat.ne_of_gt zl)).trans c5
    have nw : ObjOk X.prog X.w (upd H s.heap.objs.size (.tup [p, q])) h2 s.heap.objs.size (.tup [p, q]) := ⟨(show 2 ≤ sizeLine by decide), [y1, y2], .cons ru (.cons ru2 .nil), _, g5, rfl, _, rfl⟩
    have ap : ∀ {c : Addr}, c ∉ [z, TI, TO, i1, i2] → c ≠ z ∧ c ≠ TO ∧ c ≠ i1 ∧ c ≠ i2 := fun {c} h => ⟨fun e => h (by simp [e]), fun e => h (by simp [e]), fun e => h (by simp [e]), fun e => h (by simp [e])⟩
    have I1 : Inv X pins σ (upd H s.heap.objs.size (.tup [p, q])) { s with heap := h2, toks := tk } := I.turnedNew (ch := [z, TI, TO, i1, i2]) (fun c o hb e => (sb.2 c (ap hb).1).trans (c7 c o (ap hb).1 (ap hb).2.1 (ap hb).2.2.1 (ap hb).2.2.2 e)) hf (Nat.le_refl _) nw
    refine ⟨.ref s.heap.objs.size, _, I1, rfl, ⟨_, p, q, rfl, I.hok.fresh (Nat.le_refl _), rfl, fun vs h => by rw [I.tuple_inj h l1]; exact l2, fun vs h => by rw [I.list_inj h t1]; exact t2⟩, ⟨⟨d1, ?_⟩, ⟨y1, y2, ?_⟩, ?_, ?_⟩, fun c hcm => ?_⟩
    · exact (sb.2 _ D.TIz).trans (c7 _ _ D.TIz D.TITO D.TIi1 D.TIi2 z2)
    · exact (sb.2 _ D.TOz).trans c2
    · exact c3.1.at fun o e => (sb.2 _ D.i1z).trans e
    · exact c4.1.at fun o e => (sb.2 _ D.i2z).trans e
    · have lt : c < s.heap.objs.size := by
        rcases mem5 hcm with rfl | rfl | rfl | rfl | rfl
        · exact zl
        · exact Heap.lt_size z2
        · exact Heap.lt_size z3
        · obtain ⟨_, e, _⟩ := z4; exact Heap.lt_size e
        · obtain ⟨_, e, _⟩ := z5; exact Heap.lt_size e
      rw [upd_ne (Nat.ne_of_lt lt)]
      exact (hf c hcm).1
  done := by
    intro X eP ew eK hc i pins s σ H E I hf st hg
    subst eP ew eK
    obtain ⟨⟨z1, z2⟩, ⟨x0, y0, z3⟩, z4, z5⟩ := st
    obtain ⟨us, ws, ⟨l1, t1⟩, ⟨g1, g2⟩, en⟩ := hg
    obtain ⟨ls, lr, lp, _⟩ := I.tuple l1
    obtain ⟨ts, tr, tp, _⟩ := I.list t1
    have n1 : us.length = ls.toArray.size := by simpa using lr.length
    have n2 : ws.length = ts.toArray.size := by simpa using tr.length
    have hd : X.A.in1.handled = none := I.ok.hd hc
    exact wpAny_pyNext_zipD2_end (mix_sep D) (Draws.tuple (A := X.A.in1) hd i1 a D.l1i1 ls.toArray) (Draws.list (A := X.A.in1) hd i2 b D.l2i2 ts.toArray) z1 z2 z3 ⟨z4, lp⟩ ⟨z5, tp.isList⟩ (n1 ▸ g1) (n2 ▸ g2) (by rw [← n1, ← n2]; exact en) fun h1 tk hk => ⟨rfl, I.turnedL (ch := [z, TI, TO, i1, i2]) (fun c o hb e => hk c o (fun e => hb (by simp [e])) (fun e => hb (by simp [e])) (fun e => hb (by simp [e])) (fun e => hb (by simp [e])) e) hf⟩
  self := fun A i s Q E st h => wpAny_pyIter_zip st.1.1 h
theorem xit_at {h h' : Heap} {a : Addr} {ty : String} {x : Str} {t : Tok} {i : Nat} (y : h.IsStrIter a ty x t i) (k : ∀ o, h.get? a = some o → h'.get? a = some o) : h'.IsStrIter a ty x t i := by
  obtain ⟨o, e, r⟩ := y
  exact ⟨o, k o e, r⟩
/-- the text x, the tuple at b, as they stand at each turn -/
def itXt (K : PySem.W.Frag) (x : Str) (b : Addr) : It where
  go := fun i H => ∃ (ws : List V) (c : Nat) (q : V), x.cps[i]? = some c ∧ SqT K H b ws ∧ ws[i]? = some q
  yld := fun i H v H' => ∃ T c q, v = .ref T ∧ H T = none ∧ H' = upd H T (.tup [.str ⟨#[c]⟩, q]) ∧ x.cps[i]? = some c ∧ ∀ ws, SqT K H b ws → ws[i]? = some q
  stop := fun i H => ∃ ws : List V, SqT K H b ws ∧ (i ≤ x.cps.size ∧ i ≤ ws.length) ∧ (i = x.cps.size ∨ i = ws.length)
theorem xt_sep {z TI TO i1 i2 b : Addr} (D : ZipApart z TI TO i1 i2 b b) : ZipSep2 z TI TO i1 i2 [i1] [i2, b] where
  TIz := D.TIz
  TOz := D.TOz
  TITO := D.TITO
  TIi1 := D.TIi1
  TIi2 := D.TIi2
  mem1 := by simp
  mem2 := by simp
  zf1 := by simp [Ne.symm D.i1z]
  zf2 := by simp [Ne.symm D.i2z, Ne.symm D.l2z]
  Tf1 := by simp [D.TOi1]
  Tf2 := by simp [D.TOi2, Ne.symm D.l2TO]
  sep1_2 := by simp [D.i12, Ne.symm D.l2i1]
  sep2_1 := by simp [Ne.symm D.i12]
theorem turn_xt {P : Program} {w : World} {K : PySem.W.Frag} {elts : List Expr} {kk : Nat} {tpos : Pos} {x : Str} {t : Tok} {b z TI TO i1 i2 : Addr} (D : ZipApart z TI TO i1 i2 b b) :
    Turn P w K (.Tuple elts kk tpos) (itXt K x b) [z, TI, TO, i1, i2] z (fun i h => (IsZip h z TI TO .none ∧ IsTupOf2 h TI (.ref i1) (.ref i2)) ∧ (∃ x y, IsTupOf2 h TO x y) ∧ h.IsStrIter i1 (strIterType x) x t i ∧ h.IsTupleIter i2 b i) where
  mem := List.mem_cons_self
  obj := fun i h st c hc => by
    obtain ⟨⟨z1, z2⟩, ⟨x', y, z3⟩, ⟨o1, z4, _, z5⟩, o2, z6, _, z7⟩ := st
    rcases mem5 hc with rfl | rfl | rfl | rfl | rfl
    · exact ⟨_, z1, nofun⟩
    · exact ⟨_, z2, nofun⟩
    · exact ⟨_, z3, nofun⟩
    · exact ⟨o1, z4, fun v q => by rw [z5] at q; cases q⟩
    · exact ⟨o2, z6, fun v q => by rw [z7] at q; cases q⟩
  keep := fun i h h' st k => by
    obtain ⟨⟨z1, z2⟩, ⟨x', y, z3⟩, z4, z5⟩ := st
    exact ⟨⟨k z (by simp) _ z1, k TI (by simp) _ z2⟩, ⟨x', y, k TO (by simp) _ z3⟩, xit_at z4 fun o q => k i1 (by simp) o q, z5.at fun o q => k i2 (by simp) o q⟩
  item := by
    intro X eP ew eK hc i pins s σ H E I hf st hg
    subst eP ew eK
    obtain ⟨⟨z1, z2⟩, ⟨x0, y0, z3⟩, z4, z5⟩ := st
    obtain ⟨ws, cc, q, l2, t1, t2⟩ := hg
    obtain ⟨ts, tr, tp, _⟩ := I.tuple t1
    obtain ⟨u2, hu2, ru2⟩ := tr.get t2
    have zl : z < s.heap.objs.size := Heap.lt_size z1
    have b1 : i < x.cps.size := (Array.getElem?_eq_some_iff.mp l2).1
    have b2 : i < ts.toArray.size := by simpa using (List.getElem?_eq_some_iff.mp hu2).1
    have hd : X.A.in1.handled = none := I.ok.hd hc
    refine wpAny_pyNext_zipD2_item (xt_sep D) (Draws.text (A := X.A.in1) hd i1 x t) (Draws.tuple (A := X.A.in1) hd i2 b D.l2i2 ts.toArray) z1 z2 z3 z4 ⟨z5, tp⟩ b1 b2 fun y1 y2 h1 tk e1 e2 c1 c2 c3 c4 c5 c6 c7 => ?_
    obtain ⟨c', u', ec, rfl⟩ := e1
    rw [l2] at ec
    cases ec
    have ey2 : y2 = u2 := by
      have : ts[i]? = some y2 := by simpa using e2
      rw [hu2] at this
      cases this
      rfl
    subst ey2
    refine ⟨_, rfl, wpAny_letOwnedTupleGo_zip (s := { s with heap := h1, toks := tk }) c1 fun h2 d1 sb => ?_⟩
    have g5 := (sb.2 _ (Nat.ne_of_gt zl)).trans c5
    have nw : ObjOk X.prog X.w (upd H s.heap.objs.size (.tup [.str ⟨#[cc]⟩, q])) h2 s.heap.objs.size (.tup [.str ⟨#[cc]⟩, q]) := ⟨(show 2 ≤ sizeLine by decide), [.str ⟨#[cc]⟩ u', y2], .cons ⟨_, rfl⟩ (.cons ru2 .nil), _, g5, rfl, _, rfl⟩
    have ap : ∀ {c : Addr}, c ∉ [z, TI, TO, i1, i2] → c ≠ z ∧ c ≠ TO ∧ c ≠ i1 ∧ c ≠ i2 := fun {c} h => ⟨fun e => h (by simp [e]), fun e => h (by simp [e]), fun e => h (by simp [e]), fun e => h (by simp [e])⟩
    have I1 : Inv X pins σ (upd H s.heap.objs.size (.tup [.str ⟨#[cc]⟩, q])) { s with heap := h2, toks := tk } := I.turnedNew (ch := [z, TI, TO, i1, i2]) (fun c o hb e => (sb.2 c (ap hb).1).trans (c7 c o (ap hb).1 (ap hb).2.1 (ap hb).2.2.1 (ap hb).2.2.2 e)) hf (Nat.le_refl _) nw
    refine ⟨.ref s.heap.objs.size, _, I1, rfl, ⟨_, cc, q, rfl, I.hok.fresh (Nat.le_refl _), rfl, l2, fun vs h => by rw [I.tuple_inj h t1]; exact t2⟩, ⟨⟨d1, ?_⟩, ⟨.str ⟨#[cc]⟩ u', y2, ?_⟩, ?_, ?_⟩, fun c hcm => ?_⟩
    · exact (sb.2 _ D.TIz).trans (c7 _ _ D.TIz D.TITO D.TIi1 D.TIi2 z2)
    · exact (sb.2 _ D.TOz).trans c2
    · exact xit_at c3 fun o e => (sb.2 _ D.i1z).trans e
    · exact c4.1.at fun o e => (sb.2 _ D.i2z).trans e
    · have lt : c < s.heap.objs.size := by
        rcases mem5 hcm with rfl | rfl | rfl | rfl | rfl
        · exact zl
        · exact Heap.lt_size z2
        · exact Heap.lt_size z3
        · obtain ⟨_, e, _⟩ := z4; exact Heap.lt_size e
        · obtain ⟨_, e, _⟩ := z5; exact Heap.lt_size e
      rw [upd_ne (Nat.ne_of_lt lt)]
      exact (hf c hcm).1
  done := by
    intro X eP ew eK hc i pins s σ H E I hf st hg
    subst eP ew eK
    obtain ⟨⟨z1, z2⟩, ⟨x0, y0, z3⟩, z4, z5⟩ := st
    obtain ⟨ws, t1, ⟨g1, g2⟩, en⟩ := hg
    obtain ⟨ts, tr, tp, _⟩ := I.tuple t1
    have n2 : ws.length = ts.toArray.size := by simpa using tr.length
    have hd : X.A.in1.handled = none := I.ok.hd hc
    exact wpAny_pyNext_zipD2_end (xt_sep D) (Draws.text (A := X.A.in1) hd i1 x t) (Draws.tuple (A := X.A.in1) hd i2 b D.l2i2 ts.toArray) z1 z2 z3 z4 ⟨z5, tp⟩ g1 (n2 ▸ g2) (by rw [← n2]; exact en) fun h1 tk hk => ⟨rfl, I.turnedL (ch := [z, TI, TO, i1, i2]) (fun c o hb e => hk c o (fun e => hb (by simp [e])) (fun e => hb (by simp [e])) (fun e => hb (by simp [e])) (fun e => hb (by simp [e])) e) hf⟩
  self := fun A i s Q E st h => wpAny_pyIter_zip st.1.1 h
def iZip3 (K : PySem.W.Frag) (ta : TA) : TI := fun σ H R => ta σ H fun vs H1 => (∃ a b us ws, vs = [.ref a, .ref b] ∧ (((SqL K H1 a us ∧ SqL K H1 b ws) ∧ R (Itz K a b) H1) ∨ ((SqT K H1 a us ∧ SqT K H1 b ws) ∧ R (RZ.ItzT K a b) H1) ∨ ((SqL K H1 a us ∧ SqT K H1 b ws) ∧ R (itMix K a b) H1) ∨ ((SqT K H1 a us ∧ SqL K H1 b ws) ∧ R (itMiy K a b) H1))) ∨ ∃ x b ws, vs = [.str x, .ref b] ∧ SqT K H1 b ws ∧ R (itXt K x b) H1
theorem pi_zip3 {X : Cx} {e e2 : Expr} {ta : TA} {p pos tpos : Pos} {elts : List Expr} {kk : Nat} (g0 : Gl X "zip") (m0 : X.mg "zip" = none) (ha : PA X [e, e2] ta)
    (s1 : starEach [e, e2] X.env = (false, eval e X.env) :: starEach [e2] X.env) (s2 : (backTo pos (starEach [e2] X.env)).any (·.1) = false) :
    PI X (.Tuple elts kk tpos) (.Call (.Name "zip" p) [e, e2] [] pos) (iZip3 X.K ta) := by
  refine ⟨fun pins s σ H R I h => ?_⟩
  have arg := ha.run pos pins s σ H _ I h
  refine Call_ (ld_blt I g0 m0 boot_zip (callWith_type1 (thn arg fun us t ⟨vs, H1, I1, r1, q1⟩ => ?_) s1 s2))
  generalize hn : t.heap.objs.size = N
  have fr : ∀ {c}, N ≤ c → FpOk X pins H1 c := fun {c} hle => I1.fpOk (hn ▸ hle) (I1.hok.fresh (hn ▸ hle))
  have fr5 : ∀ c, c ∈ [N + 4, N + 2, N + 3, N, N + 1] → FpOk X pins H1 c := fun c hcm => by
    rcases mem5 hcm with rfl | rfl | rfl | rfl | rfl <;> exact fr (by omega)
  rcases q1 with ⟨a, b, ps, qs, rfl, q1⟩ | ⟨x, b, qs, rfl, k2, q⟩
  rotate_left
  · rcases r1 with _ | ⟨r, _ | ⟨r', _ | _⟩⟩
    obtain ⟨tk, rfl⟩ := r
    cases r'
    obtain ⟨ys, rw_, p2, _⟩ := I1.tuple k2
    obtain ⟨o2, e2, _⟩ := id p2
    refine zip_begins2 (begins_text x tk) (begins_tuple b ys.toArray) trivial p2 fun h' y1 y2 y3 y4 y5 sz hk => wpAny_pyIter_zip y1 ?_
    subst hn
    have I2 := I1.kept (t' := t.toks) hk
    exact ⟨_, _, _, _, H1, rfl, I2, turn_xt (PySem.W.ktu_apart t.heap.objs.size b b (Heap.lt_size e2) (Heap.lt_size e2)), ⟨⟨y1, y2⟩, ⟨_, _, y3⟩, ⟨_, y4, rfl, rfl⟩, ⟨_, y5, rfl, rfl⟩⟩, fr5, q⟩
  rcases r1 with _ | ⟨r, _ | ⟨r', _ | _⟩⟩
  cases r
  cases r'
  rcases q1 with ⟨⟨k1, k2⟩, q⟩ | ⟨⟨k1, k2⟩, q⟩ | ⟨⟨k1, k2⟩, q⟩ | ⟨⟨k1, k2⟩, q⟩
  · obtain ⟨xs, rv, p1, _⟩ := I1.list k1
    obtain ⟨ys, rw_, p2, _⟩ := I1.list k2
    refine call_zip_2 p1.isList p2.isList fun h' y1 y2 y3 y4 y5 sz hk => wpAny_pyIter_zip y1 ?_
    subst hn
    have I2 := I1.kept (t' := t.toks) hk
    exact ⟨_, _, _, _, H1, rfl, I2, turn_zip (PySem.W.ktu_apart t.heap.objs.size a b p1.lt p2.lt), ⟨y1, y2, ⟨_, _, y3⟩, y4, y5⟩, fr5, q⟩
  · obtain ⟨xs, rv, p1, _⟩ := I1.tuple k1
    obtain ⟨ys, rw_, p2, _⟩ := I1.tuple k2
    obtain ⟨o1, e1, _⟩ := id p1
    obtain ⟨o2, e2, _⟩ := id p2
    refine RZ.call_zipT (xs := xs.toArray) (ys := ys.toArray) p1 p2 fun h' y1 y2 y3 y4 y5 sz hk => wpAny_pyIter_zip y1 ?_
    subst hn
    have I2 := I1.kept (t' := t.toks) hk
    exact ⟨_, _, _, _, H1, rfl, I2, RZ.turn_zipT (PySem.W.ktu_apart t.heap.objs.size a b (Heap.lt_size e1) (Heap.lt_size e2)), ⟨y1, y2, ⟨_, _, y3⟩, y4, y5⟩, fr5, q⟩
  · obtain ⟨xs, rv, p1, _⟩ := I1.list k1
    obtain ⟨ys, rw_, p2, _⟩ := I1.tuple k2
    obtain ⟨o2, e2, _⟩ := id p2
    refine zip_begins2 (begins_list a xs.toArray) (begins_tuple b ys.toArray) p1.isList p2 fun h' y1 y2 y3 y4 y5 sz hk => wpAny_pyIter_zip y1 ?_
    subst hn
    have I2 := I1.kept (t' := t.toks) hk
    exact ⟨_, _, _, _, H1, rfl, I2, turn_mix (PySem.W.ktu_apart t.heap.objs.size a b p1.lt (Heap.lt_size e2)), ⟨⟨y1, y2⟩, ⟨_, _, y3⟩, ⟨_, y4, rfl, rfl⟩, ⟨_, y5, rfl, rfl⟩⟩, fr5, q⟩
  · obtain ⟨xs, rv, p1, _⟩ := I1.tuple k1
    obtain ⟨ys, rw_, p2, _⟩ := I1.list k2
    obtain ⟨o1, e1, _⟩ := id p1
    refine zip_begins2 (begins_tuple a xs.toArray) (begins_list b ys.toArray) p1 p2.isList fun h' y1 y2 y3 y4 y5 sz hk => wpAny_pyIter_zip y1 ?_
    subst hn
    have I2 := I1.kept (t' := t.toks) hk
    exact ⟨_, _, _, _, H1, rfl, I2, turn_miy (PySem.W.ktu_apart t.heap.objs.size a b (Heap.lt_size e1) p2.lt), ⟨⟨y1, y2⟩, ⟨_, _, y3⟩, ⟨_, y4, rfl, rfl⟩, ⟨_, y5, rfl, rfl⟩⟩, fr5, q⟩
end
section
variable {X : Cx} {K : PySem.W.Frag} {C : Fn} {G : Nat → Option D} {nm : Nms} {n : Nat} {st sc : Scope} {σ σ' : L2.St} {g g' g1 g2 : Sg} {H H' H1 H2 : Hp} {B B' B1 B2 : Bs} {r : Rv} {v x y : V} {d : D} {tg : Expr}
/-- zip(.., ..) -/
theorem snd_zip (ok : Ok X C G nm n st sc) {a b : E} {z : Str} {y y2 : Expr} {p pos tpos : Pos} {elts : List Expr} {kk : Nat} (hg : glB sc z = true) (hz : z = "zip") (hc : chkE nm X.N sc a y = true) (hc2 : chkE nm X.N sc b y2 = true)
    (he : PE X y (tE X.K C G a)) (he2 : PE X y2 (tE X.K C G b)) : PI X (.Tuple elts kk tpos) (.Call (.Name z p) [y, y2] [] pos) (tI X.K C G (.zip a b)) := by
  subst hz
  refine ⟨fun pins s σ H R I h => ?_⟩
  obtain ⟨g, B, ds, g', re, ev, q⟩ := h
  obtain ⟨r, g1, e1, ev⟩ := bind2 (show (evE C G (.zip a b) g).bind _ = _ from ev)
  obtain ⟨d, e2, ev⟩ := bind1 ev
  obtain ⟨zs, e3, e4⟩ := map1 ev
  cases e4
  obtain ⟨ra, g2, e5, e6⟩ := bind2 (show (evE C G a g).bind _ = _ from e1)
  obtain ⟨da, e7, e8⟩ := bind1 e6
  obtain ⟨rb, g3, e9, e10⟩ := bind2 e8
  obtain ⟨db, e11, e12⟩ := bind1 e10
  obtain ⟨l, e13, e14⟩ := map1 e12
  cases e14
  cases (show some (PyData.list l) = some d from e2)
  cases (show some l = some ds from e3)
  have st1 : starEach [y, y2] X.env = (false, eval y X.env) :: starEach [y2] X.env := noStar hc [y2]
  have st2 : starEach [y2] X.env = (false, eval y2 X.env) :: starEach [] X.env := noStar hc2 []
  refine (pi_zip3 (gl_of ok hg) (ok.blt "zip" (by decide)) (pa_cons he (pa_cons he2 pa_nil st2) st1) st1 (by rw [st2]; rfl)).run pins s σ H R I (tE_of re e5 fun x H1 B1 s1 r1 => ?_)
  obtain ⟨Ba, sa, ha⟩ := r1.pure s1 e7
  refine tE_of sa.re e9 fun x2 H2 B2 s2 r2 => ?_
  obtain ⟨Bb, sb, hb⟩ := r2.pure s2 e11
  have s12 := sa.trans sb
  have ha' := ha.ext sb.kp
  have pick : ∀ {xs ys : List D} {us ws : List V} {i : Nat} {d : D} {u w : V} {H : Hp} {B : Bs}, RepVs X.K H B xs us → RepVs X.K H B ys ws → (List.zipWith (fun x y => PyData.tuple [x, y]) xs ys)[i]? = some d → us[i]? = some u → ws[i]? = some w → ∃ dx dy, d = .tuple [dx, dy] ∧ RepV X.K H B dx u ∧ RepV X.K H B dy w := fun {xs ys us ws i d u w H B} h1 h2 hd hu hw => by
    obtain ⟨f1, ef1, hf1⟩ := h1.get' hu
    obtain ⟨f2, ef2, hf2⟩ := h2.get' hw
    rw [List.getElem?_zipWith, ef1, ef2] at hd
    cases hd
    exact ⟨f1, f2, rfl, hf1, hf2⟩
  have two : (∃ z ys, da = .str z ∧ db = .tuple ys) ∨ (∃ xs ys, da = .list xs ∧ db = .list ys) ∨ (∃ xs ys, da = .tuple xs ∧ db = .tuple ys) ∨ (∃ xs ys, da = .list xs ∧ db = .tuple ys) ∨ (∃ xs ys, da = .tuple xs ∧ db = .list ys) := by
    cases da <;> cases db <;> first | exact .inl ⟨_, _, rfl, rfl⟩ | exact .inr (.inl ⟨_, _, rfl, rfl⟩) | exact .inr (.inr (.inl ⟨_, _, rfl, rfl⟩)) | exact .inr (.inr (.inr (.inl ⟨_, _, rfl, rfl⟩))) | exact .inr (.inr (.inr (.inr ⟨_, _, rfl, rfl⟩))) | cases e13
  rcases two with ⟨z, ys, rfl, rfl⟩ | two
  · cases (show some (List.zipWith (fun x y => PyData.tuple [x, y]) (z.cps.toList.map fun c => PyData.str ⟨#[c]⟩) ys) = some ds from e13)
    cases (show x = .str z from ha')
    obtain ⟨w, ws, rfl, h3, h4⟩ := hb
    have wz : Walk (itXt X.K z w) (min z.cps.size ws.length) (fun H => SqT X.K H w ws) (fun i H v H' => ∃ T c q, v = .ref T ∧ H T = none ∧ H' = upd H T (.tup [.str ⟨#[c]⟩, q]) ∧ z.cps[i]? = some c ∧ ws[i]? = some q) := by
      refine ⟨fun i _ hi q => ?_, fun _ q => ⟨ws, q, by omega, by omega⟩, fun i H v H' _ q y => ?_⟩
      · have h1 : i < z.cps.size := by omega
        have h2 : i < ws.length := by omega
        exact ⟨ws, z.cps[i], ws[i], by simp [h1], q, by simp [h2]⟩
      · obtain ⟨T, c, p, h1, h2, h3, h4, h5⟩ := y
        exact ⟨T, c, p, h1, h2, h3, h4, h5 ws q⟩
    refine .inr ⟨z, w, ws, rfl, h3.sqt, q H2 Bb s12 (itXt X.K z w) (fun H => SqT X.K H w ws) _ ⟨by rw [List.length_zipWith, List.length_map, Array.length_toList, ← h4.length]; exact wz, fun H'' B'' k => (h3.ext k).sqt, fun i Ha x Hb Bc d k trk hy hd => ?_⟩⟩
    obtain ⟨T, c, v2, rfl, hT, rfl, hu, hw⟩ := hy
    obtain ⟨f2, ef2, hf2⟩ := (h4.ext k).get' hw
    rw [List.getElem?_zipWith, List.getElem?_map, Array.getElem?_toList, hu, ef2] at hd
    cases hd
    exact pair_rep trk hT rfl hf2
  rcases two with ⟨xs, ys, rfl, rfl⟩ | ⟨xs, ys, rfl, rfl⟩ | ⟨xs, ys, rfl, rfl⟩ | ⟨xs, ys, rfl, rfl⟩
  · cases (show some (List.zipWith (fun x y => PyData.tuple [x, y]) xs ys) = some ds from e13)
    obtain ⟨u, us, rfl, h1, h2⟩ := ha'
    obtain ⟨w, ws, rfl, h3, h4⟩ := hb
    refine .inl ⟨u, w, us, ws, rfl, .inl ⟨⟨h1.sql, h3.sql⟩, q H2 Bb s12 (Itz X.K u w) (fun H => SqL X.K H u us ∧ SqL X.K H w ws) _ ⟨walk_zip (by rw [List.length_zipWith, h2.length, h4.length]), fun H'' B'' k => ⟨(h1.ext k).sql, (h3.ext k).sql⟩, fun i Ha x Hb Bc d k trk hy hd => ?_⟩⟩⟩
    obtain ⟨T, v1, v2, rfl, hT, rfl, hu, hw⟩ := hy
    obtain ⟨dx, dy, rfl, k1, k2⟩ := pick (h2.ext k) (h4.ext k) hd hu hw
    exact pair_rep trk hT k1 k2
  · cases (show some (List.zipWith (fun x y => PyData.tuple [x, y]) xs ys) = some ds from e13)
    obtain ⟨u, us, rfl, h1, h2⟩ := ha'
    obtain ⟨w, ws, rfl, h3, h4⟩ := hb
    have wz : Walk (RZ.ItzT X.K u w) (min us.length ws.length) (fun H => SqT X.K H u us ∧ SqT X.K H w ws) (YPair (fun i => us[i]?) (fun i => ws[i]?)) := by
      refine ⟨fun i _ hi q => ?_, fun _ q => ⟨us, ws, q.1, q.2, by omega⟩, fun i H v H' _ q y => ?_⟩
      · have h1 : i < us.length := by omega
        have h2 : i < ws.length := by omega
        exact ⟨us, ws, us[i], ws[i], q.1, q.2, by simp [h1], by simp [h2]⟩
      · obtain ⟨T, x, z, h1, h2, h3, h4, h5⟩ := y
        exact ⟨T, x, z, h1, h2, h3, h4 us q.1, h5 ws q.2⟩
    refine .inl ⟨u, w, us, ws, rfl, .inr (.inl ⟨⟨h1.sqt, h3.sqt⟩, q H2 Bb s12 (RZ.ItzT X.K u w) (fun H => SqT X.K H u us ∧ SqT X.K H w ws) _ ⟨by rw [List.length_zipWith, ← h2.length, ← h4.length]; exact wz, fun H'' B'' k => ⟨(h1.ext k).sqt, (h3.ext k).sqt⟩, fun i Ha x Hb Bc d k trk hy hd => ?_⟩⟩)⟩
    obtain ⟨T, v1, v2, rfl, hT, rfl, hu, hw⟩ := hy
    obtain ⟨dx, dy, rfl, k1, k2⟩ := pick (h2.ext k) (h4.ext k) hd hu hw
    exact pair_rep trk hT k1 k2
  · cases (show some (List.zipWith (fun x y => PyData.tuple [x, y]) xs ys) = some ds from e13)
    obtain ⟨u, us, rfl, h1, h2⟩ := ha'
    obtain ⟨w, ws, rfl, h3, h4⟩ := hb
    have wz : Walk (itMix X.K u w) (min us.length ws.length) (fun H => SqL X.K H u us ∧ SqT X.K H w ws) (YPair (fun i => us[i]?) (fun i => ws[i]?)) := by
      refine ⟨fun i _ hi q => ?_, fun _ q => ⟨us, ws, q, by omega, by omega⟩, fun i H v H' _ q y => ?_⟩
      · have h1 : i < us.length := by omega
        have h2 : i < ws.length := by omega
        exact ⟨us, ws, us[i], ws[i], ⟨q.1, by simp [h1]⟩, q.2, by simp [h2]⟩
      · obtain ⟨T, x, z, h1, h2, h3, h4, h5⟩ := y
        exact ⟨T, x, z, h1, h2, h3, h4 us q.1, h5 ws q.2⟩
    refine .inl ⟨u, w, us, ws, rfl, .inr (.inr (.inl ⟨⟨h1.sql, h3.sqt⟩, q H2 Bb s12 (itMix X.K u w) (fun H => SqL X.K H u us ∧ SqT X.K H w ws) _ ⟨by rw [List.length_zipWith, ← h2.length, ← h4.length]; exact wz, fun H'' B'' k => ⟨(h1.ext k).sql, (h3.ext k).sqt⟩, fun i Ha x Hb Bc d k trk hy hd => ?_⟩⟩))⟩
    obtain ⟨T, v1, v2, rfl, hT, rfl, hu, hw⟩ := hy
    obtain ⟨dx, dy, rfl, k1, k2⟩ := pick (h2.ext k) (h4.ext k) hd hu hw
    exact pair_rep trk hT k1 k2
  · cases (show some (List.zipWith (fun x y => PyData.tuple [x, y]) xs ys) = some ds from e13)
    obtain ⟨u, us, rfl, h1, h2⟩ := ha'
    obtain ⟨w, ws, rfl, h3, h4⟩ := hb
    have wz : Walk (itMiy X.K u w) (min us.length ws.length) (fun H => SqT X.K H u us ∧ SqL X.K H w ws) (YPair (fun i => us[i]?) (fun i => ws[i]?)) := by
      refine ⟨fun i _ hi q => ?_, fun _ q => ⟨us, ws, q, by omega, by omega⟩, fun i H v H' _ q y => ?_⟩
      · have h1 : i < us.length := by omega
        have h2 : i < ws.length := by omega
        exact ⟨us, ws, us[i], ws[i], ⟨q.1, by simp [h1]⟩, q.2, by simp [h2]⟩
      · obtain ⟨T, x, z, h1, h2, h3, h4, h5⟩ := y
        exact ⟨T, x, z, h1, h2, h3, h4 us q.1, h5 ws q.2⟩
    refine .inl ⟨u, w, us, ws, rfl, .inr (.inr (.inr ⟨⟨h1.sqt, h3.sql⟩, q H2 Bb s12 (itMiy X.K u w) (fun H => SqT X.K H u us ∧ SqL X.K H w ws) _ ⟨by rw [List.length_zipWith, ← h2.length, ← h4.length]; exact wz, fun H'' B'' k => ⟨(h1.ext k).sqt, (h3.ext k).sql⟩, fun i Ha x Hb Bc d k trk hy hd => ?_⟩⟩))⟩
    obtain ⟨T, v1, v2, rfl, hT, rfl, hu, hw⟩ := hy
    obtain ⟨dx, dy, rfl, k1, k2⟩ := pick (h2.ext k) (h4.ext k) hd hu hw
    exact pair_rep trk hT k1 k2
end
end Ev

namespace Ev
set_option autoImplicit false
open PySem PySem.Spec PyProof.Rows L2
variable [TheW]
section
variable {K : PySem.W.Frag} {σ σ' σ2 : L2.St} {g g' g1 g2 g3 : Sg} {H H' H1 H2 H4 : Hp} {B B' B1 B2 B4 : Bs} {v x y : V} {d : D} {own : List (Str × Nat)} {vs : List Nat}
theorem wipe_out : ∀ {vs : List Nat} {i : Nat}, i ∉ vs → (wipe σ vs)[i]? = σ[i]?
  | [], _, _ => rfl
  | v :: vs, i, h => by
    have h1 : v ≠ i := fun e => h (by rw [e]; exact List.mem_cons_self)
    show ((wipe σ vs).set v none)[i]? = _
    rw [List.getElem?_set_ne h1, wipe_out fun z => h (List.mem_cons_of_mem _ z)]
theorem wipe_in : ∀ {vs : List Nat} {i : Nat}, i ∈ vs → i < σ.length → (wipe σ vs)[i]? = some none
  | [], _, h, _ => absurd h List.not_mem_nil
  | v :: vs, i, h, hl => by
    show ((wipe σ vs).set v none)[i]? = _
    by_cases e : v = i
    · subst e
      rw [List.getElem?_set_self (by rw [wipe_length]; exact hl)]
    · rw [List.getElem?_set_ne e]
      exact wipe_in ((List.mem_cons.mp h).resolve_left (Ne.symm e)) hl
theorem wipe_eq (h : Agree vs (wipe σ vs) σ2) (hl : σ2.length = σ.length) : wipe σ2 vs = wipe σ vs := by
  apply List.ext_getElem?
  intro i
  by_cases hi : i ∈ vs
  · by_cases hs : i < σ.length
    · rw [wipe_in hi hs, wipe_in hi (by rw [hl]; exact hs)]
    · rw [List.getElem?_eq_none (by rw [wipe_length, hl]; omega), List.getElem?_eq_none (by rw [wipe_length]; omega)]
  · rw [wipe_out hi, h i hi]
theorem wipeG_len : ∀ own : List (Str × Nat), (wipeG g own).length = g.length
  | [] => rfl
  | p :: r => by
    show ((wipeG g r).set p.2 none).length = _
    rw [List.length_set, wipeG_len r]
theorem wipeG_out : ∀ {own : List (Str × Nat)} {i : Nat}, i ∉ own.map (·.2) → (wipeG g own)[i]? = g[i]?
  | [], _, _ => rfl
  | p :: r, i, h => by
    have h1 : p.2 ≠ i := fun e => h (by rw [← e]; exact List.mem_cons_self)
    show ((wipeG g r).set p.2 none)[i]? = _
    rw [List.getElem?_set_ne h1, wipeG_out fun z => h (List.mem_cons_of_mem _ z)]
theorem wipeG_in : ∀ {own : List (Str × Nat)} {i : Nat} {s : Md × D}, i ∈ own.map (·.2) → (wipeG g own)[i]? ≠ some (some s)
  | [], _, _, h => absurd h List.not_mem_nil
  | p :: r, i, s, h => by
    show ((wipeG g r).set p.2 none)[i]? ≠ _
    by_cases e : p.2 = i
    · subst e
      by_cases hl : p.2 < (wipeG g r).length
      · rw [List.getElem?_set_self hl]
        exact fun z => nomatch z
      · rw [List.getElem?_eq_none (by rw [List.length_set]; omega)]
        exact fun z => nomatch z
    · rw [List.getElem?_set_ne e]
      exact wipeG_in ((List.mem_cons.mp (show i ∈ p.2 :: r.map (·.2) from h)).resolve_left (Ne.symm e))
theorem backG_len : ∀ own : List (Str × Nat), (backG g g' own).length = g'.length
  | [] => rfl
  | p :: r => by
    show ((backG g g' r).set p.2 _).length = _
    rw [List.length_set, backG_len r]
theorem backG_out : ∀ {own : List (Str × Nat)} {i : Nat}, i ∉ own.map (·.2) → (backG g g' own)[i]? = g'[i]?
  | [], _, _ => rfl
  | p :: r, i, h => by
    have h1 : p.2 ≠ i := fun e => h (by rw [← e]; exact List.mem_cons_self)
    show ((backG g g' r).set p.2 _)[i]? = _
    rw [List.getElem?_set_ne h1, backG_out fun z => h (List.mem_cons_of_mem _ z)]
theorem backG_in : ∀ {own : List (Str × Nat)} {i : Nat}, i ∈ own.map (·.2) → g'.length = g.length → (backG g g' own)[i]? = g[i]?
  | [], _, h, _ => absurd h List.not_mem_nil
  | p :: r, i, h, hl => by
    show ((backG g g' r).set p.2 _)[i]? = _
    by_cases e : p.2 = i
    · subst e
      by_cases hs : p.2 < g.length
      · rw [List.getElem?_set_self (by rw [backG_len, hl]; exact hs), List.getElem?_eq_getElem hs]
        rfl
      · rw [List.getElem?_eq_none (by rw [List.length_set, backG_len]; omega), List.getElem?_eq_none (by omega)]
    · rw [List.getElem?_set_ne e]
      exact backG_in ((List.mem_cons.mp (show i ∈ p.2 :: r.map (·.2) from h)).resolve_left (Ne.symm e)) hl
theorem free_val (hf : freeG g own = true) {i : Nat} {m : Md} (hi : i ∈ own.map (·.2)) (e : g[i]? = some (some (m, d))) : m = .val := by
  obtain ⟨p, hp, rfl⟩ := List.mem_map.mp hi
  have := List.all_eq_true.mp hf p hp
  rw [e] at this
  cases m with
  | val => rfl
  | own => cases this
  | bor => cases this
theorem own_wipe {a : Addr} (h : Own (wipe σ (own.map (·.2))) (wipeG g own) a) : Own σ g a := by
  obtain ⟨i, m, d, e, hm, hs⟩ := h
  have hi : i ∉ own.map (·.2) := fun z => wipeG_in z e
  rw [wipeG_out hi] at e
  rw [wipe_out hi] at hs
  exact ⟨i, m, d, e, hm, hs⟩
theorem RE.wipe (re : RE K H B σ g) : RE K H B (wipe σ (own.map (·.2))) (wipeG g own) where
  len := by rw [wipeG_len, wipe_length]; exact re.len
  val := fun i d e => by
    have hi : i ∉ own.map (·.2) := fun z => wipeG_in z e
    rw [wipeG_out hi] at e
    rw [wipe_out hi]
    exact re.val i d e
  own := fun i m d e hm => by
    have hi : i ∉ own.map (·.2) := fun z => wipeG_in z e
    rw [wipeG_out hi] at e
    rw [wipe_out hi]
    exact re.own i m d e hm
  dist := fun i j m n d e a ei hm ej hn si sj => by
    have hi : i ∉ own.map (·.2) := fun z => wipeG_in z ei
    have hj : j ∉ own.map (·.2) := fun z => wipeG_in z ej
    rw [wipeG_out hi] at ei
    rw [wipe_out hi] at si
    rw [wipeG_out hj] at ej
    rw [wipe_out hj] at sj
    exact re.dist i j m n d e a ei hm ej hn si sj
  trk := re.trk
/-- back from a block's turn -/
theorem Stp.back (re : RE K H B σ g) (hf : freeG g own = true) (s : Stp K (wipe σ (own.map (·.2))) (wipeG g own) H B σ2 g3 H4 B4) (ha : Agree (own.map (·.2)) (wipe σ (own.map (·.2))) σ2) (hl2 : σ2.length = σ.length) :
    Stp K σ g H B σ (backG g g3 own) H4 B4 := by
  have lg : g3.length = g.length := by
    have h1 := s.re.len
    have h2 := re.len
    omega
  have sl : ∀ {i : Nat}, i ∉ own.map (·.2) → σ2[i]? = σ[i]? := fun {i} hi => by rw [ha i hi, wipe_out hi]
  have ow : ∀ {i : Nat} {m : Md} {d : D}, (backG g g3 own)[i]? = some (some (m, d)) → m ≠ Md.val → i ∉ own.map (·.2) ∧ g3[i]? = some (some (m, d)) := fun {i m d} e hm => by
    have hi : i ∉ own.map (·.2) := fun z => by
      rw [backG_in z lg] at e
      exact hm (free_val hf z e)
    rw [backG_out hi] at e
    exact ⟨hi, e⟩
  refine ⟨⟨by rw [backG_len, lg]; exact re.len, fun i d e => ?_, fun i m d e hm => ?_, fun i j m n d e a ei hm ej hn si sj => ?_, s.re.trk⟩, re.trk, fun a o => re.ownB o, fun a o e n => s.keep a o e fun z => n (own_wipe z), fun a b n => s.own a b fun z => n (own_wipe z), s.new, fun a o => ?_, s.grow, fun i d e => ?_⟩
  · by_cases hi : i ∈ own.map (·.2)
    · rw [backG_in hi lg] at e
      obtain ⟨w, e1, q⟩ := re.val i d e
      exact ⟨w, e1, q.ext s.kp⟩
    · rw [backG_out hi] at e
      obtain ⟨w, e1, q⟩ := s.re.val i d e
      rw [sl hi] at e1
      exact ⟨w, e1, q⟩
  · obtain ⟨hi, e1⟩ := ow e hm
    obtain ⟨w, e2, q⟩ := s.re.own i m d e1 hm
    rw [sl hi] at e2
    exact ⟨w, e2, q⟩
  · obtain ⟨hi, e1⟩ := ow ei hm
    obtain ⟨hj, e2⟩ := ow ej hn
    exact s.re.dist i j m n d e a e1 hm e2 hn (by rw [sl hi]; exact si) (by rw [sl hj]; exact sj)
  · obtain ⟨i, m, d, e, hm, hs⟩ := o
    obtain ⟨hi, e1⟩ := ow e hm
    exact (s.osub a ⟨i, m, d, e1, hm, by rw [sl hi]; exact hs⟩).elim (fun z => .inl (own_wipe z)) .inr
  · have hi : i ∉ own.map (·.2) := fun z => by
      have := free_val hf z e
      cases this
    obtain ⟨_, d', e1⟩ := s.bfix i d (by rw [wipeG_out hi]; exact e)
    exact ⟨rfl, d', by rw [backG_out hi]; exact e1⟩
/-- a temporary of ours is changed -/
theorem Stp.poke (s : Stp K σ g H B σ' g' H' B') {a : Addr} {o : HO} (hb : B' a) (ho : ¬ Own σ' g' a) (hn : H a = none) (hx : ownO o = true) : Stp K σ g H B σ' g' (upd H' a o) B' := by
  have k : Keep H' B' (upd H' a o) B' := ⟨fun b u e nb => ⟨by rw [upd_ne (fun z => nb (by rw [z]; exact hb))]; exact e, nb⟩, s.re.trk⟩
  refine ⟨⟨s.re.len, fun i d e => ?_, fun i m d e hm => ?_, s.re.dist, fun b hb' => ?_⟩, s.trk, s.ownB, fun b u e n => ?_, s.own, s.new, s.osub, fun b n => ?_, s.bfix⟩
  · obtain ⟨w, e1, q⟩ := s.re.val i d e
    exact ⟨w, e1, q.ext k⟩
  · obtain ⟨w, e1, q⟩ := s.re.own i m d e hm
    refine ⟨w, e1, q.ext k fun b u eb eu => ⟨?_, ?_⟩⟩
    · rw [upd_ne fun z => ho ⟨i, m, d, e, hm, by rw [e1, eb, z]⟩]
      exact eu
    · obtain ⟨c, u2, e3, hc, _⟩ := q.ref
      rw [eb] at e3
      cases e3
      exact hc
  · by_cases z : b = a
    · subst z
      exact ⟨o, upd_same, hx⟩
    · obtain ⟨u, e, hu⟩ := s.re.trk b hb'
      exact ⟨u, by rw [upd_ne z]; exact e, hu⟩
  · rw [upd_ne (ne_of_none e hn)]
    exact s.keep b u e n
  · by_cases z : b = a
    · subst z
      rw [upd_same]
      exact fun q => nomatch q
    · rw [upd_ne z]
      exact s.grow b n
mutual
theorem bindP_len : ∀ (p : Pat) (d : D) (g g' : Sg), bindP p d g = some g' → g'.length = g.length
  | .nm i, d, g, g', h => by
    obtain ⟨_, _, _, rfl⟩ := setV_some (show setV g i .val d = some g' from h)
    rw [List.length_set]
  | .tp ps, d, g, g', h => by
    cases d <;> simp only [bindP, reduceCtorEq] at h
    exact bindPs_len ps _ g g' h
theorem bindPs_len : ∀ (ps : List Pat) (ds : List D) (g g' : Sg), bindPs ps ds g = some g' → g'.length = g.length
  | [], [], g, g', h => by
    cases (show some g = some g' from h)
    rfl
  | [], _ :: _, _, _, h => by cases h
  | _ :: _, [], _, _, h => by cases h
  | p :: ps, d :: ds, g, g', h => by
    obtain ⟨g1, h1, h2⟩ := bind1 (show (bindP p d g).bind (fun g1 => bindPs ps ds g1) = some g' from h)
    rw [bindPs_len ps ds g1 g' h2, bindP_len p d g g1 h1]
end
/-- the test of a comprehension -/
def tTc (K : PySem.W.Frag) (C : Fn) (G : Nat → Option D) : Option E → TT
  | none => tYes
  | some c => tT K C G c
def evTc (C : Fn) (G : Nat → Option D) (c : Option E) (g : Sg) : Option (Bool × Sg) := match c with
  | none => some (true, g)
  | some c => (evE C G c g).bind fun rc => (rc.1.data rc.2).bind fun d => (dTru d).map fun t => (t, rc.2)
theorem compGo_le {bd : D → Sg → Option Sg} {c : Sg → Option (Bool × Sg)} {el : Sg → Option (Rv × Sg)} : ∀ {ds acc : List D} {g : Sg} {p : List D × Sg}, compGo bd c el own ds acc g = some p → acc.length ≤ p.1.length
  | [], acc, g, p, h => by
    cases (show some (acc, g) = some p from h)
    exact Nat.le_refl _
  | d :: ds, acc, g, p, h => by
    obtain ⟨g1, _, h2⟩ := bind1 (show (bd d (wipeG g own)).bind _ = some p from h)
    obtain ⟨⟨b, g2⟩, _, h3⟩ := bind1 h2
    simp only at h3
    split at h3
    · obtain ⟨⟨r, g3⟩, _, h4⟩ := bind1 h3
      obtain ⟨y, _, h5⟩ := bind1 h4
      have := compGo_le h5
      rw [List.length_append, List.length_singleton] at this
      omega
    · exact compGo_le h3
end
section
variable {X : Cx} {C : Fn} {G : Nat → Option D} {nm : Nms} {n : Nat} {st sc : Scope}
/-- the facts in a block -/
theorem Ok.blk (ok : Ok X C G nm n st sc) (s : Shared) (H : Hp) (scope : Scope) (A : Addr) (cl : List (Str × Addr)) (fp : List Addr) : Ok (X.blk s H scope (compEnvC scope cl A X.env) fp) C G nm n scope (relS scope sc) where
  sc := by
    show relabel scope X.env = _
    rw [← ok.sc]
    rfl
  nd := ok.nd
  calm := ok.calm
  gu := ok.gu
  room := ok.room
  xe := rfl
  fnc := fun x e => by
    show (scope.names.lookup x == some .cell) = true
    rw [e]
    rfl
  blt := ok.blt
  hw := ok.hw
  fn := ok.fn
  dic := ok.dic
  glo := ok.glo
theorem slot_own {N : List Str} {sc scope : Scope} {own : List (Str × Nat)} (nd : N.Nodup) (bk : BlkOk N sc scope own) {x : Str} {i : Nat} (hl : locB scope (relS scope sc) x = true) (hi : N[i]? = some x) : i ∈ own.map (·.2) := by
  have key : ∀ k, (relS scope sc).names.lookup x = some k → (k = .local ∨ k = .cell ∧ scope.names.lookup x = some .cell) → ∃ k', (x, k') ∈ scope.names ∧ (k' = .local ∨ k' = .cell) := fun k hk hc => by
    rcases hc with rfl | ⟨rfl, h2⟩
    · obtain ⟨k', e, r⟩ := lookup_relS hk
      have : k' = .local := by
        rcases r with rfl | ⟨_, z⟩
        · rfl
        · cases z
      subst this
      exact ⟨_, PySem.mem_of_lookup e, .inl rfl⟩
    · exact ⟨_, PySem.mem_of_lookup h2, .inr rfl⟩
  have h3 : ∃ k', (x, k') ∈ scope.names ∧ (k' = .local ∨ k' = .cell) := by
    unfold locB at hl
    split at hl
    · exact key _ ‹_› (.inl rfl)
    · exact key _ ‹_› (.inr ⟨rfl, of_decide_eq_true hl⟩)
    · cases hl
  obtain ⟨k', hm, hk⟩ := h3
  rcases bk.own (x, k') hm hk with z | z
  · obtain ⟨p, hp, e⟩ := List.mem_map.mp z
    have := bk.ix p hp
    rw [show p.1 = x from e] at this
    have : p.2 = i := nodup_ix nd this hi
    rw [← this]
    exact List.mem_map.mpr ⟨p, hp, rfl⟩
  · exact absurd (List.mem_of_getElem? hi) z
mutual
theorem slots_own {N : List Str} {sc scope : Scope} {own : List (Str × Nat)} (nd : N.Nodup) (bk : BlkOk N sc scope own) : ∀ (p : Pat) (tg : Expr), chkP N scope (relS scope sc) p tg = true → ∀ i ∈ slotsP p, i ∈ own.map (·.2)
  | .nm k, tg, h, i, hi => by
    cases tg <;> simp only [chkP, Bool.false_eq_true] at h
    obtain ⟨h1, h2⟩ := Bool.and_eq_true_iff.mp h
    have e : i = k := by simpa [slotsP] using hi
    subst e
    exact slot_own nd bk h1 (of_decide_eq_true h2)
  | .tp ps, tg, h, i, hi => by
    cases tg <;> simp only [chkP, Bool.false_eq_true] at h
    exact slots_owns nd bk ps _ h i hi
theorem slots_owns {N : List Str} {sc scope : Scope} {own : List (Str × Nat)} (nd : N.Nodup) (bk : BlkOk N sc scope own) : ∀ (ps : List Pat) (xs : List Expr), chkPs N scope (relS scope sc) ps xs = true → ∀ i ∈ slotsPs ps, i ∈ own.map (·.2)
  | [], _, _, i, hi => by cases hi
  | _ :: _, [], h, _, _ => by cases h
  | p :: ps, x :: xs, h, i, hi => by
    obtain ⟨h1, h2⟩ := Bool.and_eq_true_iff.mp (show (chkP N scope (relS scope sc) p x && chkPs N scope (relS scope sc) ps xs) = true from h)
    rcases List.mem_append.mp (show i ∈ slotsP p ++ slotsPs ps from hi) with z | z
    · exact slots_own nd bk p x h1 i z
    · exact slots_owns nd bk ps xs h2 i z
end
theorem comp_imp (ok : Ok X C G nm n st sc) {el it : E} {p : Pat} {c : Option E} {own : List (Str × Nat)} {tg : Expr} {scope : Scope} (hb : blkC X.N sc scope own = true) (hp : chkP X.N scope (relS scope sc) p tg = true) (hz : ezE it = true → ∃ ps, p = .tp ps) :
    ∀ σ H Q, tE X.K C G (.comp el p it c own) σ H Q → tLc (tI X.K C G it) (tP X.K p) (tTc X.K C G c) (tE X.K C G el) (own.map (·.2)) σ H Q := by
  have bk' : BlkOk X.N sc scope own := blkOk_by hb
  intro σ H Q h
  obtain ⟨g, B, r, g', re, ev, q⟩ := h
  rw [evE] at ev
  obtain ⟨r0, g1, e1, ev⟩ := bind2 ev
  obtain ⟨d0, e2, ev⟩ := bind1 ev
  obtain ⟨ds, e3, ev⟩ := bind1 ev
  simp only at ev
  split at ev
  · rename_i hf
    obtain ⟨fin, gf, e4, ev⟩ := bind2 ev
    simp only at ev
    split at ev
    · rename_i hfin
      cases ev
      have e4' : compGo (bindP p) (evTc C G c) (evE C G el) own ds [] g1 = some (fin, g') := e4
      refine ⟨g, B, ds, g1, re, ?_, fun H1 B1 s1 J Gd Y wk => ?_⟩
      · show (evE C G it g).bind _ = _
        rw [e1]
        show (r0.pure?).bind _ = _
        rw [show r0.pure? = some d0 from e2]
        show (seq? d0).map _ = _
        rw [show seq? d0 = some ds from e3]
        rfl
      intro Dn hDn
      have turns : ∀ (gi : Sg) (Ha : Hp) (Ba : Bs), Stp X.K σ g1 H1 B1 σ gi Ha Ba → (∀ k ∈ own.map (·.2), gi[k]? = g1[k]?) → freeG gi own = true := fun gi Ha Ba s hk => by
        refine List.all_eq_true.mpr fun q hq => ?_
        rw [hk q.2 (List.mem_map.mpr ⟨q, hq, rfl⟩)]
        exact List.all_eq_true.mp hf q hq
      refine lc_it wk.wk (fun i Hi => ∃ (gi : Sg) (Bi : Bs) (acc : List D) (xs : List V), Stp X.K σ g1 H1 B1 σ gi Hi Bi ∧ (∀ k ∈ own.map (·.2), gi[k]? = g1[k]?) ∧ Bi Dn ∧ ¬ Own σ gi Dn ∧ Hi Dn = some (.lst xs) ∧ RepVs X.K Hi Bi acc xs ∧ compGo (bindP p) (evTc C G c) (evE C G el) own (ds.drop i) acc gi = some (fin, g'))
        ⟨g1, plus B1 Dn, [], [], (Stp.refl s1.re).allocNew hDn rfl, fun _ _ => rfl, .inr rfl, fun z => ?_, upd_same, rfl, e4'⟩ (fun i Hi hi ⟨gi, Bi, acc, xs, s, _⟩ => wk.st Hi Bi s.kp) (fun i y Hi H' hi ⟨gi, Bi, acc, xs, s, hk, hB, hO, hD, hA, hgo⟩ hy => ?_) fun Hi ⟨gi, Bi, acc, xs, s, hk, hB, hO, hD, hA, hgo⟩ => ?_
      · obtain ⟨o, e, _⟩ := s1.re.trk Dn (s1.re.ownB z)
        rw [hDn] at e
        cases e
      · -- a turn
        have hd : ds[i]? = some ds[i] := List.getElem?_eq_getElem hi
        rw [List.drop_eq_getElem_cons hi] at hgo
        have hfr := turns gi Hi Bi s hk
        -- the state behind the yield
        obtain ⟨s', hD', hr⟩ : Stp X.K σ g1 H1 B1 σ gi H' Bi ∧ H' Dn = some (.lst xs) ∧ (RepT X.K H' Bi p ds[i] y ∧ Keep Hi Bi H' Bi) := by
          rcases wk.y i Hi y H' Bi ds[i] s.kp s.re.trk hy hd with ⟨rfl, hr⟩ | ⟨ez, pp, xs', hpp, rfl, hr⟩
          · exact ⟨s, hD, .inl hr, ⟨fun _ _ e nb => ⟨e, nb⟩, s.re.trk⟩⟩
          · exact ⟨s.alloc hpp, by rw [upd_ne (ne_of_none hD hpp)]; exact hD, .inr ⟨hz ez, hr⟩, keep_alloc s.re.trk hpp⟩
        obtain ⟨hr, k'⟩ := hr
        have hA' := hA.ext k'
        obtain ⟨ga, e5, hgo⟩ := bind1 (show (bindP p ds[i] (wipeG gi own)).bind _ = _ from hgo)
        obtain ⟨b, gb, e6, hgo⟩ := bind2 hgo
        simp only at hgo
        refine ⟨wipeG gi own, Bi, ds[i], ga, s'.re.wipe, e5, hr, fun σ2 s2 ag => ?_⟩
        have ag' : Agree (own.map (·.2)) (wipe σ (own.map (·.2))) σ2 := fun j hj => ag j fun z => hj (slots_own ok.nd bk' p tg hp j z)
        have hl2 : σ2.length = σ.length := by
          have h1 := s2.re.len
          have h2 := bindP_len _ _ _ _ e5
          have h3 := s'.re.len
          rw [wipeG_len] at h2
          omega
        refine ⟨wipe_eq ag' hl2, ?_⟩
        have tst : ∀ (Qt : Bool → Hp → Prop), (∀ H3 B3, Stp X.K σ2 ga H' Bi σ2 gb H3 B3 → Qt b H3) → tTc X.K C G c σ2 H' Qt := fun Qt hq => by
          cases c with
          | none =>
            cases (show some (true, ga) = some (b, gb) from e6)
            exact hq H' Bi (Stp.refl s2.re)
          | some c => exact ⟨ga, Bi, b, gb, s2.re, e6, hq⟩
        refine tst _ fun H3 B3 s3 => ?_
        have nD : ¬ Own (wipe σ (own.map (·.2))) (wipeG gi own) Dn := fun z => hO (own_wipe z)
        cases b with
        | true =>
          rw [if_pos rfl] at hgo ⊢
          obtain ⟨r, gc, e7, hgo⟩ := bind2 hgo
          obtain ⟨yd, e8, hgo⟩ := bind1 hgo
          refine ⟨gb, B3, r, gc, s3.re, e7, fun v H4 B4 s4 r4 => ?_⟩
          obtain ⟨B5, s5, hv⟩ := r4.pure s4 e8
          have S := (s2.trans s3).trans s5
          have T := Stp.back s'.re hfr S ag' hl2
          have hD4 : H4 Dn = some (.lst xs) := S.keep Dn _ hD' nD
          have hB5 : B5 Dn := S.own Dn hB nD
          have hO5 : ¬ Own σ (backG gi gc own) Dn := fun z => (T.osub Dn z).elim hO fun z => by rw [hD'] at z; cases z
          have hacc := hA'.ext S.kp
          have hle : (acc ++ [yd]).length ≤ fin.length := compGo_le hgo
          refine ⟨xs, hD4, ?_, backG gi gc own, B5, acc ++ [yd], xs ++ [v], (s'.trans T).poke hB5 hO5 hDn rfl, fun k hkk => ?_, hB5, hO5, upd_same, ?_, hgo⟩
          · rw [hacc.length]
            rw [List.length_append, List.length_singleton] at hle
            have hf2 : fin.length ≤ 1000000 := hfin
            have : sizeLine = 16777216 := sizeLine_eq
            omega
          · have lg : gc.length = gi.length := by
              have h1 := S.re.len
              have h2 := s'.re.len
              omega
            rw [backG_in hkk lg]
            exact hk k hkk
          · have kk : Keep H4 B5 (upd H4 Dn (.lst (xs ++ [v]))) B5 := ⟨fun a u e nb => ⟨by rw [upd_ne (fun z => nb (by rw [z]; exact hB5))]; exact e, nb⟩, S.re.trk⟩
            exact (hacc.ext kk).append (RepVs.single (RepV.ext kk _ _ hv))
        | false =>
          rw [if_neg Bool.false_ne_true] at hgo ⊢
          have S := s2.trans s3
          have T := Stp.back s'.re hfr S ag' hl2
          have hD4 : H3 Dn = some (.lst xs) := S.keep Dn _ hD' nD
          have hB5 : B3 Dn := S.own Dn hB nD
          have hO5 : ¬ Own σ (backG gi gb own) Dn := fun z => (T.osub Dn z).elim hO fun z => by rw [hD'] at z; cases z
          refine ⟨backG gi gb own, B3, acc, xs, s'.trans T, fun k hkk => ?_, hB5, hO5, hD4, hA'.ext S.kp, hgo⟩
          have lg : gb.length = gi.length := by
            have h1 := S.re.len
            have h2 := s'.re.len
            omega
          rw [backG_in hkk lg]
          exact hk k hkk
      · rw [List.drop_length] at hgo
        cases (show some (acc, gi) = some (fin, g') from hgo)
        refine q _ Hi Bi (s1.trans s) ⟨⟨Dn, xs, rfl, hB, hD, hA⟩, fun a ea => ?_⟩
        cases ea
        refine ⟨hO, fun z => ?_⟩
        obtain ⟨o, e, _⟩ := re.trk Dn z
        exact absurd hDn (s1.grow Dn (by rw [e]; exact fun w => nomatch w))
    · cases ev
  · cases ev
theorem snd_comp (ok : Ok X C G nm n st sc) {el it : E} {p : Pat} {c : Option E} {own : List (Str × Nat)} {x tg iter : Expr} {ifs : List Expr} {scope : Scope} {pos : Pos} (hb : blkC X.N sc scope own = true) (hi : PI X tg iter (tI X.K C G it))
    (hp : chkP X.N scope (relS scope sc) p tg = true) (he : ∀ X' : Cx, Ok X' C G nm n scope (relS scope sc) → X'.N = X.N → X'.K = X.K → PE X' x (tE X.K C G el)) (ht : ∀ X' : Cx, Ok X' C G nm n scope (relS scope sc) → X'.N = X.N → X'.K = X.K → PTs X' ifs (tTc X.K C G c))
    (hs : ∀ x, foldedSetIterable iter X.env x = pure x) (hz : ezE it = true → ∃ ps, p = .tp ps) : PE X (.ListComp x [⟨tg, iter, ifs, 0⟩] scope pos) (tE X.K C G (.comp el p it c own)) := by
  have bk : BlkOk X.N X.env.scope scope own := by
    rw [ok.sc]
    exact blkOk_by hb
  exact pe_imp (pe_lc (g := tP X.K p) (tt := tTc X.K C G c) (te := tE X.K C G el) (own := own) ok.calm ok.nd hi bk (fun s H A cl fp => snd_P (ok.blk s H scope A cl fp) p tg hp) (fun s H A cl fp => ht _ (ok.blk s H scope A cl fp) rfl rfl) (fun s H A cl fp => he _ (ok.blk s H scope A cl fp) rfl rfl) hs) (comp_imp ok hb hp hz)
end
end Ev

namespace Ev
set_option autoImplicit false
open PySem PySem.Spec PyProof.Rows L2
variable [TheW]
section
variable {X : Cx} {C : Fn} {G : Nat → Option D} {nm : Nms} {n : Nat} {st sc : Scope}
theorem pt_of (ok : Ok X C G nm n st sc) {a : E} {e : Expr} (he : PE X e (tE X.K C G a)) (hp : ∀ whole, isTrue e X.env whole = (do let v ← whole; standAt e.pos; holding [v] (truthy v))) : PT X e (tT X.K C G a) := by
  refine pt_imp (pt_truth he hp) fun σ H Q h => ?_
  obtain ⟨g, B, b, g', re, ev, q⟩ := h
  obtain ⟨r, g1, e1, ev⟩ := bind2 (show (evE C G a g).bind _ = _ from ev)
  obtain ⟨d, e2, ev⟩ := bind1 ev
  obtain ⟨t, e3, e4⟩ := map1 ev
  cases e4
  exact tE_of re e1 fun v H' B' s hr => ⟨b, truD (hr.data s.re e2) e3, q H' B' s⟩
/-- what a bool gives as a test -/
theorem pt_bool {e : Expr} {t : TE} {a : E} (h : PT X e (tTest t)) (hi : ∀ σ H Q, tE X.K C G a σ H Q → t σ H Q) (hb : ∀ g r g' d, evE C G a g = some (r, g') → r.data g' = some d → ∃ b, d = .bool b) : PT X e (tT X.K C G a) := by
  refine pt_imp h fun σ H Q h => ?_
  obtain ⟨g, B, b, g', re, ev, q⟩ := h
  obtain ⟨r, g1, e1, ev⟩ := bind2 (show (evE C G a g).bind _ = _ from ev)
  obtain ⟨d, e2, ev⟩ := bind1 ev
  obtain ⟨t, e3, e4⟩ := map1 ev
  cases e4
  obtain ⟨c, rfl⟩ := hb g r _ d e1 e2
  have e5 : c = b := Option.some.inj e3
  subst e5
  refine hi σ H _ (tE_of re e1 fun v H' B' s hr => ?_)
  cases rI_bl (hr.data s.re e2)
  exact ⟨c, rfl, q H' B' s⟩
theorem units (ok : Ok X C G nm n st sc) : X.A.units + 65 < cLine := by
  have := ok.room.un
  omega
theorem isTrue_plain_of {a : E} {e : Expr} (hc : chkE nm X.N sc a e = true) (h1 : ∀ x y, a ≠ .and x y) (h2 : ∀ x y, a ≠ .or x y) (h3 : ∀ x, a ≠ .not x) (h4 : ∀ o x y, a ≠ .cmp o x y) (h5 : ∀ o p x y z, a ≠ .chn o p x y z) (h6 : ∀ x y z, a ≠ .ite x y z) (h7 : ∀ t i k, a ≠ .dhas t i k) :
    ∀ whole, isTrue e X.env whole = (do let v ← whole; standAt e.pos; holding [v] (truthy v)) := by
  intro whole
  cases e <;> first
    | rfl
    | (exfalso
       cases a <;> first
         | exact absurd rfl (h1 _ _)
         | exact absurd rfl (h2 _ _)
         | exact absurd rfl (h3 _)
         | exact absurd rfl (h4 _ _ _)
         | exact absurd rfl (h5 _ _ _ _ _)
         | exact absurd rfl (h6 _ _ _)
         | exact absurd rfl (h7 _ _ _)
         | (simp [chkE] at hc; done)
         | (rcases ext_form hc with ⟨_, _, _, z⟩ | ⟨_, _, _, _, z⟩ | ⟨_, _, _, z⟩ <;> cases z))
    | (rename_i op x pos
       cases op <;> first
         | rfl
         | (exfalso
            cases a <;> first
              | exact absurd rfl (h3 _)
              | (simp [chkE] at hc; done)
              | (rcases ext_form hc with ⟨_, _, _, z⟩ | ⟨_, _, _, _, z⟩ | ⟨_, _, _, z⟩ <;> cases z)))
theorem plainIx {a : E} {e : Expr} (hc : chkE nm X.N sc a e = true) : PlainIx e := by
  intro o i
  cases e <;> first
    | rfl
    | (exfalso
       cases a <;> first
         | (simp [chkE] at hc; done)
         | (rcases ext_form hc with ⟨_, _, _, z⟩ | ⟨_, _, _, _, z⟩ | ⟨_, _, _, z⟩ <;> cases z))
theorem notSet {a : E} {e : Expr} {env : PySem.Env} (hc : chkE nm X.N sc a e = true) : ∀ x, foldedSetIterable e env x = pure x := by
  intro x
  cases e <;> first
    | rfl
    | (exfalso
       cases a <;> first
         | (simp [chkE] at hc; done)
         | (rcases ext_form hc with ⟨_, _, _, z⟩ | ⟨_, _, _, _, z⟩ | ⟨_, _, _, z⟩ <;> cases z))
theorem notSetI {p : Pat} {a : E} {tg e : Expr} {env : PySem.Env} (hc : chkI nm X.N sc p a tg e = true) : ∀ x, foldedSetIterable e env x = pure x := by
  intro x
  cases e <;> first
    | rfl
    | (exfalso
       cases a <;> simp [chkI] at hc
       done)
    | (exfalso
       cases a <;> cases tg <;> simp [chkI] at hc)
end
theorem ez_tp {nm : Nms} {N : List Str} {st sc sc' : Scope} {p : Pat} {it : E} {tg e : Expr} (h : chkI nm N sc p it tg e = true) (h2 : chkP N st sc' p tg = true) (hz : ezE it = true) : ∃ ps, p = .tp ps := by
  cases it <;> first
    | (cases hz; done)
    | (unfold chkI at h
       split at h
       · cases p with
         | tp ps => exact ⟨ps, rfl⟩
         | nm i => cases h2
       · cases h)
theorem ez_no {nm : Nms} {N : List Str} {sc : Scope} {p : Pat} {it : E} {e : Expr} (h : chkE nm N sc it e = true) (hz : ezE it = true) : ∃ ps, p = .tp ps := by
  cases it <;> first
    | (cases hz; done)
    | (cases h; done)
    | (unfold chkE at h; cases h)
end Ev

namespace Ev
set_option autoImplicit false
open PySem PySem.Spec PyProof.Rows L2
variable [TheW]
section
variable {K : PySem.W.Frag} {σ σ' σ2 : L2.St} {g g' g2 : Sg} {H H' H2 : Hp} {B B' B2 : Bs} {v : V} {d d' : D} {i : Nat} {sl : Slot} {m : Md}
/-- an own object is rewritten -/
theorem Stp.write {a : Addr} {o : HO} (re : RE K H B σ g) (hs : g[i]? = some (some (m, d))) (hm : m ≠ Md.val) (ha : σ[i]? = some (some (V.ref a))) (ho : ownO o = true) (hr : ∀ {H1 : Hp}, Keep H B H1 B → H1 a = some o → RepW K H1 B d' (.ref a)) : Stp K σ g H B σ (g.set i (some (m, d'))) (upd H a o) B := by
  have oa : Own σ g a := ⟨i, m, d, hs, hm, ha⟩
  have hi : i < g.length := (List.getElem?_eq_some_iff.mp hs).1
  have Ba := re.ownB oa
  have kp : Keep H B (upd H a o) B := ⟨fun b u e nb => ⟨by rw [upd_ne (fun z => nb (by rw [z]; exact Ba))]; exact e, nb⟩, re.trk⟩
  have cases_ : ∀ {j : Nat} {n : Md} {e : D}, (g.set i (some (m, d')))[j]? = some (some (n, e)) → (i = j ∧ n = m ∧ e = d') ∨ (i ≠ j ∧ g[j]? = some (some (n, e))) := fun {j n e} h => by
    by_cases z : i = j
    · subst z
      rw [List.getElem?_set_self hi] at h
      cases h
      exact .inl ⟨rfl, rfl, rfl⟩
    · rw [List.getElem?_set_ne z] at h
      exact .inr ⟨z, h⟩
  have own_ : ∀ {j : Nat} {n : Md} {e : D}, (g.set i (some (m, d')))[j]? = some (some (n, e)) → n ≠ Md.val → ∃ e', g[j]? = some (some (n, e')) := fun {j n e} h hn => by
    rcases cases_ h with ⟨rfl, rfl, rfl⟩ | ⟨_, h⟩
    · exact ⟨d, hs⟩
    · exact ⟨e, h⟩
  refine ⟨⟨by rw [List.length_set]; exact re.len, fun j e h => ?_, fun j n e h hn => ?_, fun j k n n' e f b hj hm1 hk hn' sj sk => ?_, fun b hb => ?_⟩, re.trk, fun b o => re.ownB o, fun b u e nb => ?_, fun b hb _ => hb, fun b hb => .inl hb, fun b ob => ?_, fun b nb => ?_, fun j e h => ?_⟩
  · rcases cases_ h with ⟨_, z, _⟩ | ⟨z, h'⟩
    · exact absurd z.symm hm
    · obtain ⟨w, e1, hw⟩ := re.val j e h'
      exact ⟨w, e1, RepV.ext kp e w hw⟩
  · rcases cases_ h with ⟨rfl, rfl, rfl⟩ | ⟨z, h'⟩
    · exact ⟨_, ha, hr kp upd_same⟩
    · obtain ⟨w, e1, hw⟩ := re.own j n e h' hn
      refine ⟨w, e1, hw.ext kp fun b u eb eu => ?_⟩
      subst eb
      have nb : b ≠ a := fun zz => z (by subst zz; exact re.dist i j m n d e b hs hm h' hn ha e1)
      refine ⟨by rw [upd_ne nb]; exact eu, re.ownB ⟨j, n, e, h', hn, e1⟩⟩
  · obtain ⟨e', h1⟩ := own_ hj hm1
    obtain ⟨f', h2⟩ := own_ hk hn'
    exact re.dist j k n n' e' f' b h1 hm1 h2 hn' sj sk
  · by_cases z : b = a
    · subst z
      exact ⟨o, upd_same, ho⟩
    · obtain ⟨u, e, hu⟩ := re.trk b hb
      exact ⟨u, by rw [upd_ne z]; exact e, hu⟩
  · rw [upd_ne (fun z => nb (by rw [z]; exact oa))]
    exact e
  · obtain ⟨j, n, e, h, hn, sj⟩ := ob
    obtain ⟨e', h1⟩ := own_ h hn
    exact .inl ⟨j, n, e', h1, hn, sj⟩
  · by_cases z : b = a
    · subst z
      rw [upd_same]
      exact fun z => nomatch z
    · rw [upd_ne z]
      exact nb
  · by_cases z : i = j
    · subst z
      rw [hs] at h
      cases h
      exact ⟨rfl, d', List.getElem?_set_self hi⟩
    · rw [List.getElem?_set_ne z]
      exact ⟨rfl, e, h⟩
end
/-- the same slot, as an expression's value -/
theorem own_v {K : PySem.W.Frag} {H : Hp} {B : Bs} {σ : L2.St} {g : Sg} {i : Nat} {o : Md × D} (re : RE K H B σ g) (h : lstAt g i = some o) : ∃ a ds xs, o.2 = .list ds ∧ g[i]? = some (some (o.1, .list ds)) ∧ o.1 ≠ Md.val ∧ σ[i]? = some (some (V.ref a)) ∧ H a = some (.lst xs) ∧ RepVs K H B ds xs := by
  obtain ⟨ds, e0, e, hm⟩ := lstAt_some h
  obtain ⟨m, d⟩ := o
  cases (show d = .list ds from e0)
  obtain ⟨v, e1, hr⟩ := re.own i m (.list ds) e hm
  obtain ⟨a, xs, rfl, _, h2, h3⟩ := hr
  exact ⟨a, ds, xs, rfl, e, hm, e1, h2, h3⟩
theorem rep_own {K : PySem.W.Frag} {H : Hp} {B : Bs} {a : Addr} {ds : List D} {xs : List V} (hB : B a) (hr : RepVs K H B ds xs) : ∀ {H1 : Hp}, Keep H B H1 B → H1 a = some (.lst xs) → RepW K H1 B (.list ds) (.ref a) := fun {H1} k e => ⟨a, xs, rfl, hB, e, hr.ext k⟩
theorem ixN_eq {k : Int} {ds : List D} {xs : List V} (hl : xs.length = ds.length) {j : Nat} (h : L2.ixN ds.length k = some j) : L2.ixN xs.length k = some j := by rw [hl]; exact h
section
variable {X : Cx} {K : PySem.W.Frag} {C : Fn} {G : Nat → Option D} {nm : Nms} {n : Nat} {st sc : Scope} {σ : L2.St} {g g' g1 g2 : Sg} {H H' H1 H2 : Hp} {B B' B1 B2 : Bs} {r rv : Rv} {v x y : V} {d : D} {Q : VK}
theorem opB' (hu : X.A.units + 64 < cLine) (o : BOp) : OpR X (binaryOp (bOp o)) (rOp2 X.K (dBin o)) := by
  exact match o with
    | .add => opB hu .add
    | .sub => opB hu .sub
    | .mul => opB hu .mul
    | .fdiv => opB hu .fdiv
    | .mod => opB hu .mod
    | .pow => opB hu .pow
/-- a result, as what the evaluator says -/
theorem res_q (s : Stp K σ g H B σ g' H1 B1) (q : ∀ v H' B', Stp K σ g H B σ g' H' B' → RvR K σ g B g' H' B' rv v → Q v H') : ∀ v H', Res K H1 B1 rv v H' → Q v H' := fun v H' h => by
  obtain ⟨B2, s2, r2⟩ := h.step s
  exact q v H' B2 s2 r2
theorem tOp_of {a b : E} {ra rb : Rv} {dx dy : D} {f : D → D → Option Rv} (re : RE K H B σ g) (ha : evE C G a g = some (ra, g1)) (hb : evE C G b g1 = some (rb, g2)) (hx : ra.data g2 = some dx) (hy : rb.data g2 = some dy) (hf : f dx dy = some rv)
    (q : ∀ v H' B', Stp K σ g H B σ g2 H' B' → RvR K σ g B g2 H' B' rv v → Q v H') : tOp (rOp2 K f) (tE K C G a) (tE K C G b) σ H Q :=
  two_ops (P := fun x y H2 => rOp2 K f x y H2 Q) re ha hb hx hy fun x y H2 B2 s h1 h2 => ⟨B2, dx, dy, rv, h1, h2, hf, res_q s q⟩
theorem datas_rep : ∀ {rs : List Rv} {vs : List V} {ds : List D}, RE K H B σ g → RvOs K σ g H B rs vs → datas g rs = some ds → RepRs K H B ds vs
  | [], vs, ds, _, h, e => by
    cases (show some ([] : List D) = some ds from e)
    exact h
  | r :: rs, vs, ds, re, h, e => by
    obtain ⟨v, ws, rfl, h1, h2⟩ := h
    obtain ⟨d, e1, e2⟩ := bind1 (show (r.data g).bind _ = some ds from e)
    obtain ⟨es, e3, rfl⟩ := map1 e2
    refine ⟨v, ws, rfl, ?_, datas_rep re h2 e3⟩
    cases r with
    | pur f =>
      cases (show some f = some d from e1)
      exact RepV.r h1
    | new f => exact h1.elim
    | loc i =>
      obtain ⟨⟨m, f⟩, e4, e5⟩ := map1 (show (lstAt g i).map (·.2) = some d from e1)
      obtain ⟨_, _, e6, hm⟩ := lstAt_some e4
      exact RvR.data (r := .loc i) (g := g) (B := B) ⟨h1.1, m, f, e6, hm⟩ re e1
theorem Stp.moved {i : Nat} (re : RE K H B σ g) (e : g[i]? = some (some (.own, d))) : Stp K σ g H B σ (g.set i none) H B := by
  have ne : ∀ {j : Nat} {s : Md × D}, (g.set i none)[j]? = some (some s) → i ≠ j ∧ g[j]? = some (some s) := fun {j s} h => by
    by_cases z : i = j
    · subst z
      rw [List.getElem?_set_self (List.getElem?_eq_some_iff.mp e).1] at h
      cases h
    · rw [List.getElem?_set_ne z] at h
      exact ⟨z, h⟩
  refine ⟨⟨by rw [List.length_set]; exact re.len, fun j f h => re.val j f (ne h).2, fun j m f h hm => re.own j m f (ne h).2 hm, fun j k m n f f' a hj hm hk hn sj sk => re.dist j k m n f f' a (ne hj).2 hm (ne hk).2 hn sj sk, re.trk⟩, re.trk, fun a o => re.ownB o, fun _ _ e _ => e, fun _ b _ => b, fun _ b => .inl b, fun a ⟨j, m, f, h, hm, hs⟩ => .inl ⟨j, m, f, (ne h).2, hm, hs⟩, fun _ n => n, fun j f h => ⟨rfl, f, ?_⟩⟩
  have z : i ≠ j := fun z => by
    subst z
    rw [e] at h
    cases h
  rw [List.getElem?_set_ne z]
  exact h
theorem RvR.isLst {ds : List D} {d0 : D} {g'' : Sg} (h : RvR K σ g B g' H' B' r v) (re : RE K H' B' σ g') (e0 : r.data g' = some d0) (e : r.data g'' = some (.list ds)) : ∃ b xs, v = .ref b ∧ SqL K H' b xs := by
  cases r with
  | pur f =>
    cases (show some f = some (PyData.list ds) from e)
    obtain ⟨a, xs, rfl, hs, _⟩ := h
    exact ⟨a, xs, rfl, hs.sql⟩
  | new f =>
    cases (show some f = some (PyData.list ds) from e)
    obtain ⟨a, xs, rfl, _, hs, _⟩ := h.1
    exact ⟨a, xs, rfl, .inl (.inl hs)⟩
  | loc i =>
    obtain ⟨⟨m, d⟩, e1, _⟩ := map1 (show (lstAt g' i).map (·.2) = some d0 from e0)
    obtain ⟨_, hd0, h2, h3⟩ := lstAt_some e1
    obtain ⟨w, e2, q⟩ := re.own i m d h2 h3
    rw [h.1] at e2
    cases e2
    cases d with
    | list xs =>
      obtain ⟨a, ys, rfl, _, hs, _⟩ := q
      exact ⟨a, ys, rfl, .inl (.inl hs)⟩
    | none => exact q.elim
    | bool _ => exact q.elim
    | int _ => exact q.elim
    | str _ => exact q.elim
    | tuple _ => exact q.elim
    | dict _ => cases hd0
theorem boot_bl (b : Bl) : bootBuiltins (blNm b) = some (blV b) := by
  cases b <;> decide +kernel
theorem in_blt (b : Bl) : blNm b ∈ bltNames := by
  cases b <;> decide +kernel
theorem nodbg (b : Bl) : (blNm b == ("__debug__" : Str)) = false ∧ blNm b ≠ "__name__" := by
  cases b <;> decide +kernel
theorem tcb (re : RE K H B σ g) {b : Bl} {es : List E} {rs : List Rv} {ds : List D} (e1 : evAs C G es g = some (rs, g1)) (e2 : datas g1 rs = some ds) (e3 : dBlt b ds = some rv)
    (q : ∀ v H' B', Stp K σ g H B σ g1 H' B' → RvR K σ g B g1 H' B' rv v → Q v H') : tCB (rCall K (dBlt b)) (tAs K C G es) σ H Q :=
  ⟨g, B, rs, g1, re, e1, fun vs H1 B1 s ho => ⟨B1, ds, rv, datas_rep s.re ho e2, e3, res_q s q⟩⟩
theorem rcall_ty (ok : Ok X C G nm n st sc) (b : Bl) {z : Str} {x : Expr} {xs : List Expr} {t : TA} {p pos : Pos} (hg : glB sc z = true) (hz : z = blNm b) (ha : PA X (x :: xs) t) (he : starEach (x :: xs) X.env = (false, eval x X.env) :: starEach xs X.env)
    (hpl : (backTo pos (starEach xs X.env)).any (·.1) = false) : PE X (.Call (.Name z p) (x :: xs) [] pos) (tCB (rCall X.K (dBlt b)) t) := by
  subst hz
  have hu : X.A.units + 64 < cLine := by
    have := units ok
    omega
  have hc := callBl (X := X) ok.calm ok.gu hu ok.hw b
  have gl := gl_of ok hg
  have mm := ok.blt _ (in_blt b)
  have bv := boot_bl b
  obtain ⟨n1, n2⟩ := nodbg b
  cases b <;> first
    | exact pe_callB hc gl mm bv ha n2 n1 he hpl
    | exact pe_callTy hc gl mm bv ha n2 n1 he hpl
theorem okTy_boot : ∀ t ∈ okTys, bootBuiltins (Str.ofString t) = some (.type t) ∧ Str.ofString t ∈ bltNames ∧ (Str.ofString t == ("__debug__" : Str)) = false ∧ Str.ofString t ≠ "__name__" := by decide +kernel
theorem pa_tys (ok : Ok X C G nm n st sc) : ∀ {ts : List String} {zs : List Expr}, tyNames sc ts zs = true → PA X zs (fun σ H Q => Q (ts.map V.ty) H) ∧ ∀ t ∈ ts, t ∈ okTys
  | [], [], _ => ⟨pa_nil, fun _ h => absurd h List.not_mem_nil⟩
  | [], _ :: _, h => by cases h
  | t :: ts, [], h => by cases h
  | t :: ts, z :: zs, h => by
    cases z <;> simp only [tyNames, Bool.false_eq_true] at h
    rename_i x pos
    simp only [Bool.and_eq_true, decide_eq_true_eq] at h
    obtain ⟨⟨⟨h1, h2⟩, h3⟩, h4⟩ := h
    subst h2
    obtain ⟨i1, i2⟩ := pa_tys ok h4
    obtain ⟨b1, b2, b3, b4⟩ := okTy_boot t h3
    have pe : PE X (.Name (Str.ofString t) pos) (tC (V.ty t)) := pe_bltn (gl_of ok h1) (ok.blt _ b2) b1 rfl b4 b3
    exact ⟨pa_cons pe i1, fun u hu => (List.mem_cons.mp hu).elim (fun e => by rw [e]; exact h3) (i2 u)⟩
/-- isinstance(x, T), isinstance(x, (T, ..)) -/
theorem snd_isi (ok : Ok X C G nm n st sc) {a : E} {ts : List String} {z : Str} {y t : Expr} {p pos : Pos} (hg : glB sc z = true) (hz : z = "isinstance") (hc : chkE nm X.N sc a y = true) (ht : (match t with
      | .Tuple zs _ _ => decide (ts.length ≤ 9) && tyNames sc ts zs
      | z => decide (ts.length = 1) && tyNames sc ts [z]) = true) (he : PE X y (tE X.K C G a)) : PE X (.Call (.Name z p) [y, t] [] pos) (tE X.K C G (.isi a ts)) := by
  subst hz
  have gl := gl_of ok hg
  have mm := ok.blt "isinstance" (by decide +kernel)
  have s1 : starEach [y, t] X.env = (false, eval y X.env) :: starEach [t] X.env := noStar hc [t]
  have one : ∀ {tt : TE}, PE X t tt → starEach [t] X.env = (false, eval t X.env) :: starEach [] X.env → PA X [y, t] (tCons (tE X.K C G a) (tCons tt tNil)) := fun h s2 => pa_cons he (pa_cons h pa_nil s2) s1
  by_cases isT : ∃ zs k q, t = .Tuple zs k q
  · obtain ⟨zs, k, q, rfl⟩ := isT
    obtain ⟨hln, ht⟩ := Bool.and_eq_true_iff.mp (show (decide (ts.length ≤ 9) && tyNames sc ts zs) = true from ht)
    have hln := of_decide_eq_true hln
    obtain ⟨pa, hts⟩ := pa_tys ok ht
    refine pe_imp (pe_callB call_isiTN gl mm (by decide +kernel) (one (pe_tup pa) rfl) (by decide) (by decide) s1 (by rfl)) fun σ H Q h => ?_
    obtain ⟨g, B, r, g', re, ev, q⟩ := h
    obtain ⟨r0, g1, e1, ev⟩ := bind2 (show (evE C G a g).bind _ = _ from ev)
    obtain ⟨d, e2, e3⟩ := map1 ev
    cases e3
    refine tE_of re e1 fun x H1 B1 s hr => ?_
    refine ⟨by
      rw [List.length_map, sizeLine_eq]; omega, fun pp hp => ?_⟩
    have s' := s.alloc (o := .tup (ts.map V.ty)) hp
    have k' : Keep H1 B1 (upd H1 pp (.tup (ts.map V.ty))) B1 := keep_alloc s.re.trk hp
    have hx : RepR X.K (upd H1 pp (.tup (ts.map V.ty))) B1 d x := by
      refine hr.later s.re (Stp.refl s.re |>.alloc (o := .tup (ts.map V.ty)) hp) e2
    refine ⟨x, pp, ts.map V.ty, .type (dTy d), ts.map Value.type, dIsAny d ts, rfl, upd_same, cls_tys ts, tyD hx, kit_any hts, q _ _ B1 s' rfl⟩
  · have ht' : (decide (ts.length = 1) && tyNames sc ts [t]) = true := by
      cases t <;> first
        | exact ht
        | exact absurd ⟨_, _, _, rfl⟩ isT
    obtain ⟨hl, hn⟩ := Bool.and_eq_true_iff.mp ht'
    obtain ⟨u, rfl⟩ : ∃ u, ts = [u] := by
      have := of_decide_eq_true hl
      match ts, this with
      | [u], _ => exact ⟨u, rfl⟩
    cases t <;> simp only [tyNames, Bool.false_eq_true] at hn
    rename_i x q
    simp only [Bool.and_eq_true, decide_eq_true_eq] at hn
    obtain ⟨⟨⟨h1, h2⟩, h3⟩, _⟩ := hn
    subst h2
    obtain ⟨b1, b2, b3, b4⟩ := okTy_boot u h3
    have pe : PE X (.Name (Str.ofString u) q) (tC (V.ty u)) := pe_bltn (gl_of ok h1) (ok.blt _ b2) b1 rfl b4 b3
    refine pe_imp (pe_callB call_isiN gl mm (by decide +kernel) (one pe rfl) (by decide) (by decide) s1 (by rfl)) fun σ H Q h => ?_
    obtain ⟨g, B, r, g', re, ev, q⟩ := h
    obtain ⟨r0, g1, e1, ev⟩ := bind2 (show (evE C G a g).bind _ = _ from ev)
    obtain ⟨d, e2, e3⟩ := map1 ev
    cases e3
    refine tE_of re e1 fun x H1 B1 s hr => ?_
    exact isi1 h3 (hr.data s.re e2) (q _ _ B1 s rfl)
/-- xs.index(x) -/
theorem snd_index (ok : Ok X C G nm n st sc) {o a : E} {y z : Expr} {apos cpos : Pos} (hl : (apos.endLine == cpos.line) = true) (hy : chkE nm X.N sc o y = true) (hz : chkE nm X.N sc a z = true) (hn : (∃ w q, y = .Name w q) ∨ ∃ a b c d, y = .ListComp a b c d) (ho : PE X y (tE X.K C G o)) (ha : PE X z (tE X.K C G a))
    : PE X (.Call (.Attribute y "index" apos) [z] [] cpos) (tE X.K C G (.mth .index o [a])) := by
  have sz : starEach [z] X.env = (false, eval z X.env) :: starEach [] X.env := noStar hz []
  have few : ((backTo cpos (starEach [z] X.env)).all (fun x => !x.1) && (backToKw cpos (keywordEach [] X.env)).all (fun x => x.1.isSome) && decide (([z] : List Expr).length + ([] : List Keyword).length + (if ([] : List Keyword).isEmpty then 0 else 1) < 30)) = true := by
    rw [sz]
    rfl
  refine ⟨fun pins s σ H Q I h => ?_⟩
  obtain ⟨g, B, r, g', re, ev, q⟩ := h
  obtain ⟨ro, g1, e1, ev⟩ := bind2 (show (evE C G o g).bind _ = _ from ev)
  obtain ⟨d0, e00, ev⟩ := bind1 ev
  obtain ⟨rs, g2, e2, ev⟩ := bind2 ev
  obtain ⟨dx, e3, ev⟩ := bind1 ev
  obtain ⟨ds, e4, ev⟩ := bind1 ev
  obtain ⟨rv, e5, e6⟩ := map1 ev
  cases e6
  obtain ⟨ra, g3, e7, e8⟩ := bind2 (show (evE C G a g1).bind _ = _ from e2)
  obtain ⟨qq, e9, e10⟩ := map1 e8
  cases (show some (([] : List Rv), g3) = some qq from e9)
  cases e10
  obtain ⟨da, e11, e12⟩ := bind1 (show (ra.op.data g3).bind _ = some ds from e4)
  obtain ⟨qs, e13, e14⟩ := map1 e12
  cases (show some ([] : List D) = some qs from e13)
  cases e14
  have e11' : ra.data g3 = some da := by
    cases ra <;> exact e11
  cases dx <;> simp only [dMth, reduceCtorEq] at e5
  · -- a list
    split at e5
    · rename_i hs
      obtain ⟨hs1, hs2⟩ := Bool.and_eq_true_iff.mp hs
      obtain ⟨j, e15, e16⟩ := map1 e5
      cases e16
      obtain ⟨zz, z1, z2, z3⟩ := firstIx_ok e15
      refine (pe_bm PySem.F.plainAttrs_list PySem.F.slot_list_index PySem.F.type_list_index (mt_indexD (units ok)) ho (pa_cons ha pa_nil sz) (by rcases hn with ⟨_, _, rfl⟩ | ⟨_, _, _, _, rfl⟩ <;> rfl) few hl sz (by rcases hn with ⟨_, _, rfl⟩ | ⟨_, _, _, _, rfl⟩ <;> rfl)).run pins s σ H Q I ?_
      refine tE_of re e1 fun x H1 B1 s1 r1 => ?_
      have x1 : ∃ b xs, x = .ref b ∧ SqL X.K H1 b xs := r1.isLst s1.re e00 e3
      obtain ⟨b, xs, rfl, hx⟩ := x1
      refine ⟨.inl ⟨rfl, xs, hx⟩, tE_of s1.re e7 fun u H2 B2 s2 r2 => ?_⟩
      have h1 := r1.later s1.re s2 e3
      have h2 := r2.data s2.re e11'
      exact ⟨b, u, da, _, j, zz, rfl, rfl, h1.dp (shp_noDict hs2), h2.dp (shp_noDict hs1), hs2, hs1, z1, z2, z3, q _ _ B2 (s1.trans s2) rfl⟩
    · cases e5
/-- "..".join(xs) -/
theorem snd_join (ok : Ok X C G nm n st sc) {b : E} {a : Str} {z : Expr} {k : Nat} {p0 apos cpos : Pos} (hl : (apos.endLine == cpos.line) = true) (hz : chkE nm X.N sc b z = true) (hb : PE X z (tE X.K C G b)) :
    PE X (.Call (.Attribute (.Constant (.str a) k p0) "join" apos) [z] [] cpos) (tE X.K C G (.mth .join (.cst (.str a)) [b])) := by
  have sz : starEach [z] X.env = [(false, eval z X.env)] := noStar hz []
  refine ⟨fun pins s σ H Q I h => ?_⟩
  obtain ⟨g, B, r, g', re, ev, q⟩ := h
  obtain ⟨rs, g2, e2, ev⟩ := bind2 (show (evAs C G [b] g).bind _ = _ from ev)
  obtain ⟨dx, e3, ev⟩ := bind1 ev
  obtain ⟨ds, e4, ev⟩ := bind1 ev
  obtain ⟨rv, e5, e6⟩ := map1 ev
  cases e6
  cases (show some (PyData.str a) = some dx from e3)
  obtain ⟨ra, g3, e7, e8⟩ := bind2 (show (evE C G b g).bind _ = _ from e2)
  obtain ⟨qq, e9, e10⟩ := map1 e8
  cases (show some (([] : List Rv), g3) = some qq from e9)
  cases e10
  obtain ⟨da, e11, e12⟩ := bind1 (show (ra.op.data g3).bind _ = some ds from e4)
  obtain ⟨qs, e13, e14⟩ := map1 e12
  cases (show some ([] : List D) = some qs from e13)
  cases e14
  have e11' : ra.data g3 = some da := by
    cases ra <;> exact e11
  obtain ⟨xs, rfl⟩ : ∃ xs, da = .list xs := by
    cases da <;> first | exact ⟨_, rfl⟩ | cases e5
  obtain ⟨ys, es, e5⟩ := bind1 (show (strs? xs).bind (fun ys => if (ys.map (·.length)).sum + ys.length * a.length ≤ 16777216 then some (Rv.pur (.str (Txt.join a ys))) else none) = some r from e5)
  split at e5 <;> cases e5
  refine (pe_join pe_str hb sz rfl hl).run pins s σ H Q I ?_
  refine ⟨⟨a, rfl⟩, tE_of re e7 fun u H2 B2 s2 r2 => ?_⟩
  obtain ⟨p, vs, rfl, hs, hr⟩ := rI_lst (r2.data s2.re e11')
  obtain ⟨t1, _⟩ := strs_map _ hr es
  rw [t1] at hs
  exact ⟨a, p, ys, rfl, rfl, .inl hs, ‹_›, q _ _ B2 s2 rfl⟩
/-- CONST.index(x) -/
theorem snd_tindex (ok : Ok X C G nm n st sc) {k : Nat} {a : E} {w : Str} {z : Expr} {apos cpos q0 : Pos} (hl : (apos.endLine == cpos.line) = true) (hg : glB sc w = true) (hw : okNm w = true) (hk : nm.gls[k]? = some w) (hz : chkE nm X.N sc a z = true) (ha : PE X z (tE X.K C G a)) :
    PE X (.Call (.Attribute (.Name w q0) "index" apos) [z] [] cpos) (tE X.K C G (.mth .tindex (.glo k) [a])) := by
  have sz : starEach [z] X.env = (false, eval z X.env) :: starEach [] X.env := noStar hz []
  have few : ((backTo cpos (starEach [z] X.env)).all (fun x => !x.1) && (backToKw cpos (keywordEach [] X.env)).all (fun x => x.1.isSome) && decide (([z] : List Expr).length + ([] : List Keyword).length + (if ([] : List Keyword).isEmpty then 0 else 1) < 30)) = true := by
    rw [sz]
    rfl
  refine ⟨fun pins s σ H Q I h => ?_⟩
  obtain ⟨g, B, r, g', re, ev, q⟩ := h
  obtain ⟨ro, g1, e1, ev⟩ := bind2 (show (evE C G (.glo k) g).bind _ = _ from ev)
  obtain ⟨_, _, ev⟩ := bind1 ev
  obtain ⟨rs, g2, e2, ev⟩ := bind2 ev
  obtain ⟨dx, e3, ev⟩ := bind1 ev
  obtain ⟨ds, e4, ev⟩ := bind1 ev
  obtain ⟨rv, e5, e6⟩ := map1 ev
  cases e6
  obtain ⟨d0, e0, e00⟩ := bind1 (show (G k).bind (fun d => if notDict d then some (Rv.pur d, g) else none) = some (ro, g1) from e1)
  split at e00
  rotate_left
  · cases e00
  rename_i hnd
  cases e00
  cases (show some d0 = some dx from e3)
  obtain ⟨ra, g3, e7, e8⟩ := bind2 (show (evE C G a g).bind _ = _ from e2)
  obtain ⟨qq, e9, e10⟩ := map1 e8
  cases (show some (([] : List Rv), g3) = some qq from e9)
  cases e10
  obtain ⟨da, e11, e12⟩ := bind1 (show (ra.op.data g3).bind _ = some ds from e4)
  obtain ⟨qs, e13, e14⟩ := map1 e12
  cases (show some ([] : List D) = some qs from e13)
  cases e14
  have e11' : ra.data g3 = some da := by
    cases ra <;> exact e11
  obtain ⟨xs, rfl⟩ : ∃ xs, dx = .tuple xs := by
    cases dx <;> first | exact ⟨_, rfl⟩ | cases e5
  obtain ⟨zz, rfl⟩ : ∃ zz, da = .str zz := by
    cases da <;> first | exact ⟨_, rfl⟩ | cases e5
  have e5' : (match strs? xs with
    | some _ => (firstIx (.str zz) xs).map fun j => Rv.pur (.int (j : Nat))
    | none => none) = some r := e5
  obtain ⟨v, u, h1, h2, h3, h4⟩ := ok.glo k w _ hk e0 hnd
  obtain ⟨a0, o0, rfl, k1, k2, k3⟩ := h4 xs rfl
  cases es : strs? xs with
  | none =>
    rw [es] at e5'
    cases e5'
  | some ys =>
    rw [es] at e5'
    obtain ⟨j, e15, e16⟩ := map1 e5'
    cases e16
    refine (pe_bm PySem.F.plainAttrs_tuple PySem.F.slot_tuple_index PySem.F.type_tuple_index mt_tup_index (pe_glob (gl_of ok hg) h1 h2 (nm_of hw).1) (pa_cons ha pa_nil sz) (by rfl) few hl sz (by rfl)).run pins s σ H Q I ?_
    refine ⟨.inr (.inl ⟨rfl, o0, k1, k2, k3⟩), tE_of re e7 fun u H2 B2 s2 r2 => ?_⟩
    obtain ⟨p, vs, e17, hs, hr⟩ := h3 H2 B2
    cases e17
    obtain ⟨t1, t2, t3⟩ := tupIndex hr es e15
    rw [t1] at hs
    cases rI_str (r2.data s2.re e11')
    exact ⟨a0, ys, zz, j, rfl, rfl, hs.sqt, t2, t3, q _ _ B2 s2 rfl⟩
/-- t.index(x), of a tuple of any make -/
theorem pe_tix {o e : Expr} {to : TE} {te : TE} {apos cpos : Pos} (ho : PE X o to) (he : PE X e te) (h0 : attributeBase o "index" X.env (eval o X.env) = eval o X.env) (hl : (apos.endLine == cpos.line) = true) (sz : starEach [e] X.env = (false, eval e X.env) :: starEach [] X.env)
    (few : ((backTo cpos (starEach [e] X.env)).all (fun x => !x.1) && (backToKw cpos (keywordEach [] X.env)).all (fun x => x.1.isSome) && decide (([e] : List Expr).length + ([] : List Keyword).length + (if ([] : List Keyword).isEmpty then 0 else 1) < 30)) = true) :
    PE X (.Call (.Attribute o "index" apos) [e] [] cpos) (fun σ H Q => to σ H fun x H1 => (∃ a xs, x = .ref a ∧ SqN X.K H1 a xs) ∧ te σ H1 fun y H2 => ∃ p, ∃ ys : List Str, ∃ z j, x = .ref p ∧ y = .str z ∧ SqT X.K H2 p (ys.map V.str) ∧ ys[j]? = some z ∧ (∀ m, m < j → ys[m]? ≠ some z) ∧ Q (.int (j : Nat)) H2) := by
  constructor
  intro pins s σ H Q I h
  apply wpAny_Call_method_late h0 few hl rfl
  refine thn (ho.run pins s σ H _ I h) ?_
  rintro v s1 ⟨x, H1, I1, rx, ⟨a, xs, rfl, hN⟩, q⟩
  cases rx
  obtain ⟨_, _, it, _⟩ := I1.tuple hN.sqt
  have hd : ∃ ob, s1.heap.get? a = some ob ∧ ob.dict = none := by
    rcases hN with ⟨ob, e1, e2⟩ | ⟨ob, _, _, e1, _, e2, _⟩
    · exact ⟨ob, (I1.hok a _ e1).1, e2⟩
    · exact ⟨ob, I1.kIn a ob e1, e2⟩
  refine ⟨"tuple", _, PySem.F.plainAttrs_tuple, PySem.F.slot_tuple_index, PySem.F.type_tuple_index, it.typeIs, ?_, ?_⟩
  · intro c ec
    cases ec
    exact hd
  have run := he.run pins s1 σ H1 _ I1 q
  rw [sz]
  refine Calls.callWith_builtin (by rfl) (Calls.evalArgs_plain ?_)
  refine Calls.spliced_cons (thn run ?_)
  rintro u s2 ⟨y, H2, I2, ry, p, ys, z, j, ep, ey, k1, k2, k3, k4⟩
  refine Calls.spliced_nil ?_
  exact mt_tup_index pins s2 σ H2 (.ref a) [y] (.ref a) [u] Q I2 rfl (.cons ry .nil) ⟨p, ys, z, j, ep, by rw [ey], k1, k2, k3, k4⟩
/-- t.index(x) -/
theorem snd_tix (ok : Ok X C G nm n st sc) {o a : E} {y z : Expr} {apos cpos : Pos} (hl : (apos.endLine == cpos.line) = true) (hz : chkE nm X.N sc a z = true) (hn : ∃ w q, y = .Name w q) (ho : PE X y (tE X.K C G o)) (ha : PE X z (tE X.K C G a)) :
    PE X (.Call (.Attribute y "index" apos) [z] [] cpos) (tE X.K C G (.tix o a)) := by
  obtain ⟨w, q0, rfl⟩ := hn
  have sz : starEach [z] X.env = (false, eval z X.env) :: starEach [] X.env := noStar hz []
  refine pe_imp (pe_tix ho ha (by rfl) hl sz (by rw [sz]; rfl)) fun σ H Q h => ?_
  obtain ⟨g, B, r, g', re, ev, q⟩ := h
  obtain ⟨ro, g1, e1, ev⟩ := bind2 (show (evE C G o g).bind _ = _ from ev)
  obtain ⟨dx, e2, ev⟩ := bind1 ev
  obtain ⟨ra, g2, e3, ev⟩ := bind2 ev
  obtain ⟨da, e4, ev⟩ := bind1 ev
  obtain ⟨rv, e5, e6⟩ := map1 ev
  cases e6
  obtain ⟨xs, rfl⟩ : ∃ xs, dx = .tuple xs := by
    cases dx <;> first | exact ⟨_, rfl⟩ | cases e5
  obtain ⟨zz, rfl⟩ : ∃ zz, da = .str zz := by
    cases da <;> first | exact ⟨_, rfl⟩ | cases e5
  have e5' : (match strs? xs with
    | some _ => (firstIx (.str zz) xs).map fun j => Rv.pur (.int (j : Nat))
    | none => none) = some r := e5
  cases es : strs? xs with
  | none =>
    rw [es] at e5'
    cases e5'
  | some ys =>
    rw [es] at e5'
    obtain ⟨j, e15, e16⟩ := map1 e5'
    cases e16
    refine tE_of re e1 fun x H1 B1 s1 r1 => ?_
    obtain ⟨B1', s1', hx⟩ := r1.pure s1 e2
    obtain ⟨b, vs, rfl, hN, hr⟩ := hx
    refine ⟨⟨b, vs, rfl, hN⟩, tE_of s1'.re e3 fun u H2 B2 s2 r2 => ?_⟩
    have hr2 := hr.ext s2.kp
    obtain ⟨t1, t2, t3⟩ := tupIndex hr2 es e15
    have hs := (hN.ext s2.kp).sqt
    rw [t1] at hs
    cases rI_str (r2.data s2.re e4)
    exact ⟨b, ys, zz, j, rfl, rfl, hs, t2, t3, q _ _ B2 (s1'.trans s2) rfl⟩
theorem rep_erase {K : PySem.W.Frag} {H : Hp} {B : Bs} : ∀ {ds : List D} {xs : List V} (j : Nat), RepVs K H B ds xs → RepVs K H B (ds.eraseIdx j) (xs.eraseIdx j)
  | [], _, _, h => by
    cases (show _ = [] from h)
    rfl
  | e :: ds, _, 0, h => by
    obtain ⟨v, r, rfl, _, h2⟩ := h
    exact h2
  | e :: ds, _, j + 1, h => by
    obtain ⟨v, r, rfl, h1, h2⟩ := h
    exact ⟨v, r.eraseIdx j, rfl, h1, rep_erase j h2⟩
theorem snd_pop (ok : Ok X C G nm n st sc) {i : Nat} {a : E} {x : Str} {z : Expr} {px apos cpos : Pos} (hl : (apos.endLine == cpos.line) = true) (h1 : visB sc x = true) (h2 : okNm x = true) (h3 : X.N[i]? = some x) (h4 : chkE nm X.N sc a z = true) (ha : PE X z (tE X.K C G a)) :
    PE X (.Call (.Attribute (.Name x px) "pop" apos) [z] [] cpos) (tE X.K C G (.pop i a)) := by
  have sz : starEach [z] X.env = (false, eval z X.env) :: starEach [] X.env := noStar h4 []
  have few : ((backTo cpos (starEach [z] X.env)).all (fun x => !x.1) && (backToKw cpos (keywordEach [] X.env)).all (fun x => x.1.isSome) && decide (([z] : List Expr).length + ([] : List Keyword).length + (if ([] : List Keyword).isEmpty then 0 else 1) < 30)) = true := by
    rw [sz]
    rfl
  have ho := pe_var (X := X) (pos := px) h3 (vis_of ok.sc h1) (nm_of h2).1 (nm_of h2).2
  refine pe_imp (pe_bm PySem.F.plainAttrs_list PySem.F.slot_list_pop PySem.F.type_list_pop mt_popAt ho (pa_cons ha (pa_nil (X := X)) sz) (by rfl) few hl sz (by rfl)) fun σ H Q h => ?_
  obtain ⟨g, B, r, g', re, ev, q⟩ := h
  obtain ⟨ow0, e0, ev⟩ := bind1 (show (lstAt g i).bind _ = _ from ev)
  obtain ⟨ra, g1, e1, ev⟩ := bind2 ev
  obtain ⟨dy, e2, ev⟩ := bind1 ev
  obtain ⟨ow, e3, ev⟩ := bind1 ev
  obtain ⟨p, _, xs0, _, _, _, sa, ha0, _⟩ := own_v re e0
  refine ⟨.ref p, sa, .inl ⟨rfl, xs0, .of ha0⟩, tE_of re e1 fun v H1 B1 s1 r1 => ?_⟩
  obtain ⟨B1', s1', hv⟩ := r1.pure s1 e2
  obtain ⟨b, ds, xs, od, eg, hm, sb, hb, hr⟩ := own_v s1'.re e3
  rw [sa] at sb
  cases sb
  obtain ⟨m, dd⟩ := ow
  cases (show dd = .list ds from od)
  obtain ⟨j, rfl⟩ : ∃ j, dy = .int j := by
    cases dy <;> first | exact ⟨_, rfl⟩ | cases ev
  cases (show v = .int j from hv)
  have ev' : (if smallI j then (L2.ixN ds.length j).bind fun k => (ds[k]?).map fun d => (Rv.pur d, g1.set i (some (m, .list (ds.eraseIdx k)))) else none) = some (r, g') := ev
  split at ev'
  rotate_left
  · cases ev'
  rename_i hs
  unfold smallI at hs
  simp only [Bool.and_eq_true, decide_eq_true_eq] at hs
  obtain ⟨k, e5, ev⟩ := bind1 ev'
  obtain ⟨d, e6, e7⟩ := map1 ev
  cases e7
  obtain ⟨w, e8, hw⟩ := hr.get e6
  have Ba := s1'.re.ownB ⟨i, m, _, eg, hm, sa⟩
  have e9 := ixN_seq e5
  refine ⟨p, xs, j, k, w, rfl, rfl, hb, by omega, by omega, by rw [hr.length]; exact e9.1, e8, ?_⟩
  have st := Stp.write s1'.re eg hm sa (o := .lst (xs.eraseIdx k)) (d' := .list (ds.eraseIdx k)) rfl (fun {H2} kp e => ⟨p, _, rfl, Ba, e, (rep_erase k hr).ext kp⟩)
  refine q w _ _ (s1'.trans st) ?_
  have kp : Keep H1 B1' (upd H1 p (.lst (xs.eraseIdx k))) B1' := st.kp
  exact RepV.ext kp _ _ hw
/-- d[k] -/
theorem snd_dget (ok : Ok X C G nm n st sc) {i : Nat} {k : E} {x : Str} {y : Expr} {px pos : Pos} (h1 : visB sc x = true) (h2 : okNm x = true) (h3 : X.N[i]? = some x) (h4 : chkE nm X.N sc k y = true) (hk : PE X y (tE X.K C G k)) :
    PE X (.Subscript (.Name x px) y pos) (tE X.K C G (.dget i k)) := by
  have hu : X.A.units + 64 < cLine := by
    have := units ok
    omega
  refine pe_imp (pe_getIs (pe_var h3 (vis_of ok.sc h1) (nm_of h2).1 (nm_of h2).2) hk (plainIx h4)) fun σ H Q h => ?_
  obtain ⟨g, B, r, g', re, ev, q⟩ := h
  obtain ⟨o0, e0, ev⟩ := bind1 (show (dctAt g i).bind _ = _ from ev)
  obtain ⟨rk, g1, e1, ev⟩ := bind2 ev
  obtain ⟨dy, e2, ev⟩ := bind1 ev
  obtain ⟨o, e3, ev⟩ := bind1 ev
  obtain ⟨a, _, _, _, sa, _, _⟩ := dct_w re e0
  refine ⟨.ref a, sa, tE_of re e1 fun u H1 B1 s1 r1 => ?_⟩
  obtain ⟨b, ob, _, _, sb, hb, hr⟩ := dct_w s1.re e3
  rw [sa] at sb
  cases sb
  have hd := r1.data s1.re e2
  cases dy with
  | str z =>
    obtain ⟨d, e4, e5⟩ := map1 (show (dGet o.2 z).map (fun d => (Rv.pur d, g1)) = some (r, g') from ev)
    cases e5
    cases rI_str hd
    obtain ⟨v, hv, gi⟩ := do_getz hu hb hr.v e4
    exact ⟨a, v, rfl, gi, q v H1 B1 s1 hv⟩
  | tuple ks =>
    obtain ⟨d, e4, e5⟩ := map1 (show (nAt o.2 (.tuple ks)).map (fun d => (Rv.pur d, g1)) = some (r, g') from ev)
    cases e5
    obtain ⟨v, hv, gi⟩ := do_get hu ok.hw hb hr.v (y := .tuple ks) hd e4
    exact ⟨a, v, rfl, gi, q v H1 B1 s1 hv⟩
  | none => cases ev
  | bool _ => cases ev
  | int _ => cases ev
  | list _ => cases ev
  | dict _ => cases ev
/-- k in d, k not in d -/
theorem dhas_pc (ok : Ok X C G nm n st sc) {t : Bool} {i : Nat} {k : E} {x : Str} {y : Expr} {p : CmpOp} {px : Pos} (h0 : p = if t then .In else .NotIn) (h1 : visB sc x = true) (h2 : okNm x = true) (h3 : X.N[i]? = some x) (hk : PE X y (tE X.K C G k)) :
    PC X p y (.Name x px) (tE X.K C G (.dhas t i k)) := by
  have hu : X.A.units + 64 < cLine := by
    have := units ok
    omega
  have pv := pe_var (X := X) (pos := px) h3 (vis_of ok.sc h1) (nm_of h2).1 (nm_of h2).2
  have key : PC X p y (.Name x px) (tInIs X t (tE X.K C G k) (tVar i)) := by
    cases t with
    | true =>
      subst h0
      exact pc_inIs hk pv
    | false =>
      subst h0
      exact pc_ninIs hk pv
  refine ⟨fun pins s σ H Q I h => key.run pins s σ H Q I ?_⟩
  obtain ⟨g, B, r, g', re, ev, q⟩ := h
  obtain ⟨rk, g1, e1, ev⟩ := bind2 (show (evE C G k g).bind _ = _ from ev)
  obtain ⟨dy, e2, ev⟩ := bind1 ev
  obtain ⟨o, e3, ev⟩ := bind1 ev
  refine tE_of re e1 fun u H1 B1 s1 r1 => ?_
  obtain ⟨b, ob, _, _, sb, hb, hr⟩ := dct_w s1.re e3
  have hd := r1.data s1.re e2
  cases dy with
  | str z =>
    have ev' : (if isN o.2 = true then none else some (Rv.pur (.bool ((dGet o.2 z).isSome == t)), g1)) = some (r, g') := ev
    split at ev' <;> cases ev'
    cases rI_str hd
    exact ⟨.ref b, sb, b, _, rfl, do_hasz hu hb hr.v (by simpa using ‹¬ isN o.2 = true›), q _ H1 B1 s1 rfl⟩
  | tuple ks =>
    obtain ⟨c, e4, e5⟩ := map1 (show (nHas o.2 (.tuple ks)).map (fun c => (Rv.pur (.bool (c == t)), g1)) = some (r, g') from ev)
    cases e5
    exact ⟨.ref b, sb, b, c, rfl, do_has hu ok.hw hb hr.v (y := .tuple ks) hd e4, q _ H1 B1 s1 rfl⟩
  | none => cases ev
  | bool _ => cases ev
  | int _ => cases ev
  | list _ => cases ev
  | dict _ => cases ev
/-- len(d) -/
theorem snd_dlen (ok : Ok X C G nm n st sc) {i : Nat} {f x : Str} {pf px pos : Pos} (h0 : glB sc f = true) (hf : f = "len") (h1 : visB sc x = true) (h2 : okNm x = true) (h3 : X.N[i]? = some x) :
    PE X (.Call (.Name f pf) [.Name x px] [] pos) (tE X.K C G (.dlen i)) := by
  subst hf
  have gl := gl_of ok h0
  have mm := ok.blt _ (in_blt .len)
  have s1 : starEach [Expr.Name x px] X.env = (false, eval (.Name x px) X.env) :: starEach [] X.env := rfl
  have pa := pa_cons (pe_var (X := X) (pos := px) h3 (vis_of ok.sc h1) (nm_of h2).1 (nm_of h2).2) (pa_nil (X := X)) s1
  refine pe_imp (pe_callB call_lenD gl mm (by decide +kernel) pa (by decide) (by decide) s1 (by rfl)) fun σ H Q h => ?_
  obtain ⟨g, B, r, g', re, ev, q⟩ := h
  obtain ⟨o, e0, ev⟩ := bind1 (show (dctAt g i).bind _ = _ from ev)
  have ev' : (if isN o.2 = true then none else some (Rv.pur (.int (o.2.length : Int)), g)) = some (r, g') := ev
  split at ev' <;> cases ev'
  obtain ⟨a, ks, _, _, sa, ha, hr⟩ := dct_v re e0 (by simpa using ‹¬ isN o.2 = true›)
  refine ⟨.ref a, sa, a, ks, rfl, ha, ?_⟩
  rw [ks_len hr]
  exact q _ H B (Stp.refl re) rfl
/-- list(range(..)), written ends -/
theorem snd_lrng (ok : Ok X C G nm n st sc) {one : Bool} {i j : Int} {f r : Str} {xs : List Expr} {pf pr pos pos2 : Pos} (h0 : glB sc f = true) (hf : f = "list") (h1 : glB sc r = true) (hr : r = "range") (h2 : (match xs with
      | [.Constant (.int b) _ _] => one && decide (i = 0) && decide (b = j)
      | [.Constant (.int a) _ _, .Constant (.int b) _ _] => !one && decide (a = i) && decide (b = j)
      | _ => false) = true) : PE X (.Call (.Name f pf) [.Call (.Name r pr) xs [] pos2] [] pos) (tE X.K C G (.lrng one i j)) := by
  subst hf hr
  have gl := gl_of ok h0
  have gr := gl_of ok h1
  have ml := ok.blt _ (in_blt .list)
  have mr := ok.blt "range" (by decide +kernel)
  have key : ∀ {t : L2.St → Hp → (Int → Int → Hp → Prop) → Prop}, PRg X (.Call (.Name "range" pr) xs [] pos2) t → (∀ σ H Q, Q i j H → t σ H Q) → PE X (.Call (.Name "list" pf) [.Call (.Name "range" pr) xs [] pos2] [] pos) (tE X.K C G (.lrng one i j)) := fun {t} hp ht => by
    refine pe_imp (pe_listRg ok.calm gl ml hp) fun σ H Q h => ?_
    obtain ⟨g, B, rv, g', re, ev, q⟩ := h
    have ev' : (if smallR i j then some (Rv.new (.list (rangeL i (j - i).toNat)), g) else none) = some (rv, g') := ev
    split at ev'
    rotate_left
    · cases ev'
    rename_i hs
    cases ev'
    unfold smallR at hs
    simp only [Bool.and_eq_true, decide_eq_true_eq] at hs
    refine ht σ H _ ⟨RgOk.of_le hs.1.1.1 (by omega) (by omega) hs.1.2, fun p hp => ?_⟩
    have hrep : RepVs X.K H B (rangeL i (j - i).toNat) (rgV i j) := by
      have : ∀ l : List Nat, RepVs X.K H B (l.map fun (k : Nat) => PyData.int (i + (k : Int))) (l.map fun k => V.int (i + (k : Nat))) := fun l => by
        induction l with
        | nil => exact rfl
        | cons a l ih => exact ⟨_, _, rfl, rfl, ih⟩
      exact this _
    exact q _ _ _ ((Stp.refl re).newList hp hrep).1 ((Stp.refl re).newList hp hrep).2
  split at h2
  · simp only [Bool.and_eq_true, decide_eq_true_eq] at h2
    obtain ⟨⟨_, rfl⟩, rfl⟩ := h2
    exact key (prg_1 gr mr pe_int) fun σ H Q q => ⟨_, rfl, q⟩
  · simp only [Bool.and_eq_true, decide_eq_true_eq] at h2
    obtain ⟨⟨_, rfl⟩, rfl⟩ := h2
    exact key (prg_2 gr mr pe_int pe_int) fun σ H Q q => ⟨_, _, rfl, rfl, q⟩
  · cases h2
theorem pe_tupRgN {e : Expr} {te : L2.St → Hp → (Int → Int → Hp → Prop) → Prop} {p pos : Pos} (hc : X.calm = true) (hg : Gl X "tuple") (hm : X.mg "tuple" = none) (he : PRg X e te) (na : starEach [e] X.env = (false, eval e X.env) :: starEach [] X.env := by rfl) : PE X (.Call (.Name "tuple" p) [e] [] pos) (fun σ H Q => te σ H fun a b H1 => RgOk a b ∧ ∀ q o, H1 q = none → o.dict = none → Q (.ref q) (upd H1 q (.frz o (.tup (rgV a b))))) := by
  refine ⟨fun pins s σ H Q I h => ?_⟩
  refine Call_ (ld_blt I hg hm boot_tuple (PyProof.Rows.callWith_type1 (args_cons (thn (he pins s σ H _ I h) fun x s1 ⟨r, a, b, t, u, v, H1, ex, hr, I1, ok, q⟩ => args_nil ?_) na) na))
  subst ex
  obtain ⟨b1, b2, b3, b4, b5⟩ := ok
  refine call_tuple_range (n := (b - a).toNat) (I1.ok.hd hc) hr (small_one b1 b2 b3 b4) (rangeSize_nat a b) b5 fun h' tk acc hk hi => ?_
  have I2 : Inv X pins σ H1 { s1 with heap := h', toks := tk } := I1.kept hk
  have hl : (rgV a b).length ≤ sizeLine := by rw [rgV_length, sizeLine_eq]; omega
  have hs : (h'.push { cls := .type "tuple", data := .seq acc }).get? h'.objs.size = some (tupO acc.toList) := by
    rw [Heap.get?_push_size _ rfl]
  exact ⟨.ref h'.objs.size, _, I2.laid (t' := tk) (o := .frz (tupO acc.toList) (.tup (rgV a b))) (fun c o e => Heap.get?_push_of_some _ e) (Nat.le_refl _) (ok_tupN hs (vals_rg hi) hl), rfl, q _ _ (I2.hok.fresh (Nat.le_refl _)) rfl⟩
/-- list(range(n)), tuple(range(n)) -/
theorem snd_rg1 (ok : Ok X C G nm n st sc) {t : Bool} {a : E} {f r : Str} {x : Expr} {pf pr pos pos2 : Pos} (h0 : glB sc f = true) (hf : f = if t then "tuple" else "list") (h1 : glB sc r = true) (hr : r = "range") (hc : chkE nm X.N sc a x = true) (ha : PE X x (tE X.K C G a)) : PE X (.Call (.Name f pf) [.Call (.Name r pr) [x] [] pos2] [] pos) (tE X.K C G (.rg1 t a)) := by
  subst hr
  have gr := gl_of ok h1
  have mr := ok.blt "range" (by decide +kernel)
  have hrep : ∀ {H : Hp} {B : Bs} {j : Int}, RepVs X.K H B (rangeL 0 j.toNat) (rgV 0 j) := fun {H B j} => by
    have : ∀ l : List Nat, RepVs X.K H B (l.map fun (k : Nat) => PyData.int (0 + (k : Int))) (l.map fun k => V.int (0 + (k : Nat))) := fun l => by
      induction l with
      | nil => exact rfl
      | cons a l ih => exact ⟨_, _, rfl, rfl, ih⟩
    have e : rgV 0 j = (List.range j.toNat).map fun k => V.int (0 + (k : Nat)) := by unfold rgV; rw [Int.sub_zero]
    rw [e]
    exact this _
  have key : ∀ {σ : L2.St} {H : Hp} {Q : VK}, tE X.K C G (.rg1 t a) σ H Q → tE X.K C G a σ H fun v H1 => ∃ j : Int, v = .int j ∧ RgOk 0 j ∧ (t = false → ∀ p, H1 p = none → Q (.ref p) (upd H1 p (.lst (rgV 0 j)))) ∧ (t = true → ∀ p o, H1 p = none → o.dict = none → Q (.ref p) (upd H1 p (.frz o (.tup (rgV 0 j))))) := fun {σ H Q} hq => by
    obtain ⟨g, B, rv, g', re, ev, q⟩ := hq
    obtain ⟨ra, g1, e1, ev⟩ := bind2 (show (evE C G a g).bind _ = _ from ev)
    refine tE_of re e1 fun v H1 B1 s hr => ?_
    have go : ∀ j : Int, ra = .pur (.int j) → (if smallR 0 j then some (if t then Rv.pur (.tuple (rangeL 0 j.toNat)) else .new (.list (rangeL 0 j.toNat)), g1) else none) = some (rv, g') → ∃ j : Int, v = .int j ∧ RgOk 0 j ∧ (t = false → ∀ p, H1 p = none → Q (.ref p) (upd H1 p (.lst (rgV 0 j)))) ∧ (t = true → ∀ p o, H1 p = none → o.dict = none → Q (.ref p) (upd H1 p (.frz o (.tup (rgV 0 j))))) := fun j ea ev2 => by
      clear ev
      subst ea
      split at ev2
      · rename_i hs
        unfold smallR at hs
        simp only [Bool.and_eq_true, decide_eq_true_eq] at hs
        cases rI_int (hr.data s.re (show Rv.data g1 (.pur (.int j)) = some (.int j) from rfl))
        refine ⟨j, rfl, RgOk.of_le (by decide) (by omega) (by decide) hs.1.2, fun ht p hp => ?_, fun ht p o hp ho => ?_⟩
        · subst ht
          cases ev2
          exact q _ _ _ (s.newList hp hrep).1 (s.newList hp hrep).2
        · subst ht
          cases ev2
          exact q _ _ _ (s.newTup hp ho hrep).1 (s.newTup hp ho hrep).2
      · cases ev2
    cases ra with
    | pur d =>
      cases d with
      | int j => exact go j rfl ev
      | _ => cases ev
    | _ => cases ev
  cases t
  · subst hf
    refine pe_imp (pe_listRg ok.calm (gl_of ok h0) (ok.blt _ (in_blt .list)) (prg_1 gr mr ha (noStar hc []))) fun σ H Q h => ?_
    obtain ⟨g, B, r, g', re, ev, q⟩ := key h
    exact ⟨g, B, r, g', re, ev, fun v H' B' s rr => let ⟨j, e1, e2, e3, _⟩ := q v H' B' s rr; ⟨j, e1, e2, e3 rfl⟩⟩
  · subst hf
    refine pe_imp (pe_tupRgN ok.calm (gl_of ok h0) (ok.blt _ (in_blt .tuple)) (prg_1 gr mr ha (noStar hc []))) fun σ H Q h => ?_
    obtain ⟨g, B, r, g', re, ev, q⟩ := key h
    exact ⟨g, B, r, g', re, ev, fun v H' B' s rr => let ⟨j, e1, e2, _, e4⟩ := q v H' B' s rr; ⟨j, e1, e2, e4 rfl⟩⟩
end
end Ev

namespace Ev
set_option autoImplicit false
open PySem PySem.Spec PyProof.Rows L2
variable [TheW]
/-- a zip of two lists, i items drawn -/
structure ZipSt (z TI TO i1 i2 l1 l2 : Addr) (i : Nat) (h : Heap) : Prop where
  zp : (IsZip h z TI TO .none ∧ ∃ a b, IsPair h TO a b) ∨ ∃ T f oT, IsZipHeld h z TI TO T f ∧ h.get? T = some oT ∧ T ≠ z ∧ T ≠ i1 ∧ T ≠ i2
  ti : IsPair h TI (.ref i1) (.ref i2)
  to : ∃ o, h.get? TO = some o
  it1 : h.IsListIter i1 l1 i
  it2 : h.IsListIter i2 l2 i
section
variable {prog : Program} {w : World} {A : Around} {E : Value → Shared → Prop} {s : Shared} {z TI TO i1 i2 l1 l2 : Addr} {i : Nat} {xs ys : Array Value} {x y : Value}
theorem zip_step {Q : Option Value → Shared → Prop} (D : ZipApart z TI TO i1 i2 l1 l2) (st : ZipSt z TI TO i1 i2 l1 l2 i s.heap) (hl1 : s.heap.IsList l1 xs) (hl2 : s.heap.IsList l2 ys) (hx : xs[i]? = some x) (hy : ys[i]? = some y)
    (hQ : ∀ h', ZipSt z TI TO i1 i2 l1 l2 (i + 1) h' → IsPair h' s.heap.objs.size x y → (∀ c o, c ≠ z → c ≠ TO → c ≠ i1 → c ≠ i2 → s.heap.get? c = some o → h'.get? c = some o) → Q (some (.ref s.heap.objs.size)) { s with heap := h' }) :
    wpAny (model prog w) A (pyNext (.ref z)) Q E s := by
  obtain ⟨zp, ti, ⟨oo, to⟩, it1, it2⟩ := st
  rcases zp with ⟨hz, a, b, hTO⟩ | ⟨T, f, oT, hz, hT, n1, n2, n3⟩
  · refine wpAny_pyNext_zip_item D hz ti hTO it1 it2 hl1 hl2 hx hy fun h' a1 a2 a3 a4 a5 a6 hk => ?_
    have lt : ∀ {c o}, s.heap.get? c = some o → s.heap.objs.size ≠ c := fun e => Nat.ne_of_gt (Heap.lt_size e)
    exact hQ h' ⟨.inr ⟨_, false, _, a1, a5, lt hz, (by obtain ⟨_, e, _⟩ := it1; exact lt e), (by obtain ⟨_, e, _⟩ := it2; exact lt e)⟩, hk _ _ D.TIz D.TITO D.TIi1 D.TIi2 ti, ⟨_, a2⟩, a3, a4⟩ a5 hk
  · refine wpAny_pyNext_zip_item_held D hz hT ti it1 it2 hl1 hl2 hx hy fun h' a1 a3 a4 a5 a6 hk => ?_
    exact hQ h' ⟨.inr ⟨T, true, oT, a1, hk T oT n1 n2 n3 hT, n1, n2, n3⟩, hk _ _ D.TIz D.TIi1 D.TIi2 ti, ⟨oo, hk _ _ D.TOz D.TOi1 D.TOi2 to⟩, a3, a4⟩ a5 fun c o c1 _ c3 c4 e => hk c o c1 c3 c4 e
theorem zip_stop {Q : Option Value → Shared → Prop} (hh : A.handled = none) (D : ZipApart z TI TO i1 i2 l1 l2) (st : ZipSt z TI TO i1 i2 l1 l2 i s.heap) (hl1 : s.heap.IsList l1 xs) (hl2 : s.heap.IsList l2 ys) (hend : xs[i]? = none ∨ ys[i]? = none)
    (hQ : ∀ h', (∀ c o, c ≠ z → c ≠ TO → c ≠ i1 → c ≠ i2 → s.heap.get? c = some o → h'.get? c = some o) → Q none { s with heap := h' }) :
    wpAny (model prog w) A (pyNext (.ref z)) Q E s := by
  obtain ⟨zp, ti, ⟨oo, to⟩, it1, it2⟩ := st
  rcases zp with ⟨hz, a, b, hTO⟩ | ⟨T, f, oT, hz, hT, n1, n2, n3⟩
  · exact wpAny_pyNext_zip_end hh D hz ti hTO it1 it2 hl1 hl2 hend hQ
  · exact wpAny_pyNext_zip_end_held hh D hz hT ti it1 it2 hl1 hl2 hend fun h' hk => hQ h' fun c o c1 _ c3 c4 e => hk c o c1 c3 c4 e
theorem ZipSt.off {h h' : Heap} {S : Addr} (st : ZipSt z TI TO i1 i2 l1 l2 i h) (k : ∀ b o, b ≠ S → h.get? b = some o → h'.get? b = some o) (hS : ∃ o, h'.get? S = some o) (n : S ∉ [z, TI, TO, i1, i2]) : ZipSt z TI TO i1 i2 l1 l2 i h' := by
  simp only [List.mem_cons, List.not_mem_nil, or_false, not_or] at n
  obtain ⟨m1, m2, m3, m4, m5⟩ := n
  obtain ⟨zp, ti, ⟨oo, to⟩, it1, it2⟩ := st
  refine ⟨?_, k _ _ (Ne.symm m2) ti, ⟨oo, k _ _ (Ne.symm m3) to⟩, it1.at fun o e => k _ o (Ne.symm m4) e, it2.at fun o e => k _ o (Ne.symm m5) e⟩
  rcases zp with ⟨hz, a, b, hTO⟩ | ⟨T, f, oT, hz, hT, n1, n2, n3⟩
  · exact .inl ⟨k _ _ (Ne.symm m1) hz, a, b, k _ _ (Ne.symm m3) hTO⟩
  · by_cases e : T = S
    · subst e
      obtain ⟨o, ho⟩ := hS
      exact .inr ⟨T, f, o, k _ _ (Ne.symm m1) hz, ho, n1, n2, n3⟩
    · exact .inr ⟨T, f, oT, k _ _ (Ne.symm m1) hz, k _ _ e hT, n1, n2, n3⟩
end
section
variable {X : Cx} {pins : List (Addr × Obj)} {σ : L2.St} {z TI TO i1 i2 l1 l2 : Addr} {H0 : Hp} {B : Bs} {ps qs : List V} {dps dqs : List D}
inductive Alc (H : Hp) : Hp → Prop where
  | refl : Alc H H
  | step {H1 : Hp} {p : Addr} {o : HO} : Alc H H1 → H1 p = none → Alc H (upd H1 p o)
theorem Stp.chain {K : PySem.W.Frag} {σ : L2.St} {g g' : Sg} {Ha Hb Hc : Hp} {B B' : Bs} (s : Stp K σ g Ha B σ g' Hb B') (c : Alc Hb Hc) : Stp K σ g Ha B σ g' Hc B' := by
  induction c with
  | refl => exact s
  | step _ h ih => exact ih.alloc h
theorem keep2 {H1 H2 H3 : Hp} (a : Keep H1 B H2 B) (b : Keep H2 B H3 B) : Keep H1 B H3 B := ⟨fun c o e nb => let q := a.at_ c o e nb; b.at_ c o q.1 q.2, a.trk⟩
theorem trk_upd {H : Hp} {T : Addr} {ob : HO} (h : ∀ a, B a → ∃ o, H a = some o ∧ ownO o = true) (hT : H T = none) : ∀ a, B a → ∃ o, upd H T ob a = some o ∧ ownO o = true := fun a hb => by
  obtain ⟨o, e, w⟩ := h a hb
  exact ⟨o, by rw [upd_ne (ne_of_none e hT)]; exact e, w⟩
theorem rep_snoc {H : Hp} {ds : List D} {xs : List V} {d : D} {v : V} (h : RepVs X.K H B ds xs) (hd : RepV X.K H B d v) : RepVs X.K H B (ds ++ [d]) (xs ++ [v]) := h.append ⟨v, [], rfl, hd, rfl⟩
/-- the pairs of a zip, drawn into a list -/
theorem loop_zip {A : Around} (hh : A.handled = none) (D : ZipApart z TI TO i1 i2 l1 l2) {S : Addr} (nS : S ∉ [z, TI, TO, i1, i2]) (res : Value)
    (gd : ∀ H, Keep H0 B H B → SqL X.K H l1 ps ∧ SqL X.K H l2 qs) (r1 : RepVs X.K H0 B dps ps) (r2 : RepVs X.K H0 B dqs qs) :
    ∀ (k i : Nat) (s : Shared) (H : Hp) (acc : Array Value) (c : Nat) (dn : List V) {R : Result → Shared → Prop}, min ps.length qs.length - i = k → i ≤ min ps.length qs.length →
    Inv X pins σ H s → Keep H0 B H B → Alc H0 H → (∀ a, B a → ∃ o, H a = some o ∧ ownO o = true) → (∀ b ∈ [z, TI, TO, i1, i2, S], FpOk X pins H b) → ZipSt z TI TO i1 i2 l1 l2 i s.heap →
    s.heap.get? S = some { cls := .type "list", dict := none, data := .seq acc c, slots := #[] } → acc.size = i → Vals dn acc.toList → RepVs X.K H B ((List.zipWith (fun x y => PyData.tuple [x, y]) dps dqs).take i) dn →
    (∀ (s' : Shared) (H' : Hp) (acc' : Array Value) (c' : Nat) (dn' : List V), Inv X pins σ H' s' → Keep H0 B H' B → Alc H0 H' → (∀ a, B a → ∃ o, H' a = some o ∧ ownO o = true) → s'.heap.get? S = some { cls := .type "list", dict := none, data := .seq acc' c', slots := #[] } → Vals dn' acc'.toList →
      RepVs X.K H' B (List.zipWith (fun x y => PyData.tuple [x, y]) dps dqs) dn' → R (.ok (.ret res)) s') →
    codeAny (model X.prog X.w) A (.builtin "list.extend.loop" ⟨[.ref S, .ref z, res], []⟩) R s := by
  intro k
  induction k with
  | zero =>
    intro i s H acc c dn R hk hi I kp al tr fp st hS ha hv hr hR
    have hin : i = min ps.length qs.length := by omega
    refine codeAny_builtin F.entry_extend_loop ?_
    rw [Around.under_plainId F.plain_extend_loop _]
    show wpAny _ A.in1 (pyNext (.ref z) >>= _) _ _ s
    obtain ⟨g1, g2⟩ := gd H kp
    obtain ⟨ls, lr, lp, _⟩ := I.list g1
    obtain ⟨ms, mr, mp, _⟩ := I.list g2
    have n1 := lr.length
    have n2 := mr.length
    refine wpAny_bind (zip_stop (A := A.in1) hh D st lp.isList mp.isList ?_ fun h' hk' => ?_)
    · have e : ls.toArray[i]? = none ∨ ms.toArray[i]? = none := by
        simp only [List.getElem?_toArray, List.getElem?_eq_none_iff]
        omega
      exact e
    have sub : ∀ b ∈ [z, TI, TO, i1, i2], FpOk X pins H b := fun b hb => fp b (by simp only [List.mem_cons, List.not_mem_nil, or_false] at hb ⊢; rcases hb with h | h | h | h | h <;> simp [h])
    have k2 : ∀ c o, c ∉ [z, TI, TO, i1, i2] → s.heap.get? c = some o → h'.get? c = some o := fun c o hc e => hk' c o (fun q => hc (by simp [q])) (fun q => hc (by simp [q])) (fun q => hc (by simp [q])) (fun q => hc (by simp [q])) e
    have full : (List.zipWith (fun x y => PyData.tuple [x, y]) dps dqs).take i = List.zipWith (fun x y => PyData.tuple [x, y]) dps dqs := List.take_of_length_le (by rw [List.length_zipWith, ← r1.length, ← r2.length]; omega)
    rw [full] at hr
    exact wpAny_pure (hR _ H acc c dn (I.turnedL (t' := s.toks) (ch := [z, TI, TO, i1, i2]) (fun b o hb e => k2 b o hb e) sub) kp al tr (k2 _ _ nS hS) hv hr)
  | succ k ih =>
    intro i s H acc c dn R hk hi I kp al tr fp st hS ha hv hr hR
    have hlt : i < min ps.length qs.length := by omega
    refine codeAny_builtin F.entry_extend_loop ?_
    rw [Around.under_plainId F.plain_extend_loop _]
    show wpAny _ A.in1 (pyNext (.ref z) >>= _) _ _ s
    obtain ⟨g1, g2⟩ := gd H kp
    obtain ⟨ls, lr, lp, zl⟩ := I.list g1
    obtain ⟨ms, mr, mp, _⟩ := I.list g2
    have e1 : ps[i]? = some (ps[i]'(by omega)) := List.getElem?_eq_getElem _
    have e2 : qs[i]? = some (qs[i]'(by omega)) := List.getElem?_eq_getElem _
    generalize ps[i]'(by omega) = p at *
    generalize qs[i]'(by omega) = q at *
    obtain ⟨u, hu, ru⟩ := lr.get e1
    obtain ⟨u2, hu2, ru2⟩ := mr.get e2
    obtain ⟨dp, ep, hp⟩ := (r1.ext kp).get' e1
    obtain ⟨dq, eq, hq⟩ := (r2.ext kp).get' e2
    refine wpAny_bind (zip_step (A := A.in1) D st lp.isList mp.isList (x := u) (y := u2) (by simpa using hu) (by simpa using hu2) fun h' st' hT hk' => ?_)
    have nS' : S ≠ z ∧ S ≠ TI ∧ S ≠ TO ∧ S ≠ i1 ∧ S ≠ i2 := by simpa using nS
    have hS' : h'.get? S = some { cls := .type "list", dict := none, data := .seq acc c, slots := #[] } := hk' S _ nS'.1 nS'.2.2.1 nS'.2.2.2.1 nS'.2.2.2.2 hS
    have hST : s.heap.objs.size ≠ S := Nat.ne_of_gt (Heap.lt_size hS)
    show wpAny _ A.in1 (updateSeq S (·.push (.ref s.heap.objs.size)) >>= _) _ _ _
    refine wpAny_bind ?_
    have hn : H s.heap.objs.size = none := I.hok.fresh (Nat.le_refl _)
    have kp1 : Keep H B (upd H s.heap.objs.size (.frz (tupO [u, u2]) (.tup [p, q]))) B := keep_alloc tr hn
    have ch6 : ∀ c : Addr, c ∉ [z, TI, TO, i1, i2, S] → c ≠ z ∧ c ≠ TO ∧ c ≠ i1 ∧ c ≠ i2 ∧ c ≠ S := fun c hc => ⟨fun e => hc (by simp [e]), fun e => hc (by simp [e]), fun e => hc (by simp [e]), fun e => hc (by simp [e]), fun e => hc (by simp [e])⟩
    have oth : ∀ b o, b ≠ S → h'.get? b = some o → (h'.update S (Obj.mapSeq (·.push (.ref s.heap.objs.size)))).get? b = some o := fun b o hb e => (Heap.get?_update_other _ _ (Ne.symm hb)).trans e
    have hT2 : (h'.update S (Obj.mapSeq (·.push (.ref s.heap.objs.size)))).get? s.heap.objs.size = some (tupO [u, u2]) := oth _ _ hST hT
    have I1 : Inv X pins σ (upd H s.heap.objs.size (.frz (tupO [u, u2]) (.tup [p, q]))) { s with heap := h'.update S (Obj.mapSeq (·.push (.ref s.heap.objs.size))) } :=
      I.turnedNew (t' := s.toks) (ch := [z, TI, TO, i1, i2, S]) (fun b o hb e => oth b o (ch6 b hb).2.2.2.2 (hk' b o (ch6 b hb).1 (ch6 b hb).2.1 (ch6 b hb).2.2.1 (ch6 b hb).2.2.2.1 e)) fp (Nat.le_refl _) (ok_tupN hT2 (.cons ru (.cons ru2 .nil)) (show 2 ≤ sizeLine by decide))
    have hSn := Heap.get?_update_self (Obj.mapSeq (·.push (Value.ref s.heap.objs.size))) hS' rfl
    have rp : RepV X.K (upd H s.heap.objs.size (.frz (tupO [u, u2]) (.tup [p, q]))) B (.tuple [dp, dq]) (.ref s.heap.objs.size) := ⟨_, [p, q], rfl, .inl ⟨_, upd_same, rfl⟩, p, [q], rfl, hp.ext kp1, q, [], rfl, hq.ext kp1, rfl⟩
    have tk : (List.zipWith (fun x y => PyData.tuple [x, y]) dps dqs).take (i + 1) = (List.zipWith (fun x y => PyData.tuple [x, y]) dps dqs).take i ++ [.tuple [dp, dq]] := by
      rw [List.take_add_one, List.getElem?_zipWith, ep, eq]
      rfl
    refine wpAny_updateSeq hS' rfl (wpAny_pure ⟨plainId_quiet F.plain_extend_loop _, ih (i + 1) _ _ (acc.push (.ref s.heap.objs.size)) _ (dn ++ [.ref s.heap.objs.size]) (by omega) hlt I1 (keep2 kp kp1) (al.step hn) (trk_upd tr hn) ?_ (st'.off oth ⟨_, hSn⟩ nS) hSn (by rw [Array.size_push, ha]) ?_ (by rw [tk]; exact rep_snoc (hr.ext kp1) rp) hR⟩) (by rw [ha]; omega) (by show (acc.push _).size ≤ sizeLine + 1; rw [Array.size_push, ha]; omega)
    · have ex : ∀ b ∈ [z, TI, TO, i1, i2, S], ∃ o, s.heap.get? b = some o := fun b hb => by
        simp only [List.mem_cons, List.not_mem_nil, or_false] at hb
        rcases hb with rfl | rfl | rfl | rfl | rfl | rfl
        · rcases st.zp with ⟨e, _⟩ | ⟨_, _, _, e, _⟩ <;> exact ⟨_, e⟩
        · exact ⟨_, st.ti⟩
        · exact st.to
        · obtain ⟨o, e, _⟩ := st.it1
          exact ⟨o, e⟩
        · obtain ⟨o, e, _⟩ := st.it2
          exact ⟨o, e⟩
        · exact ⟨_, hS⟩
      intro b hb
      obtain ⟨o, e⟩ := ex b hb
      exact ⟨by rw [upd_ne (Nat.ne_of_lt (Heap.lt_size e))]; exact (fp b hb).1, (fp b hb).2⟩
    · rw [Array.toList_push]
      exact hv.append (.cons rfl .nil)
theorem nolen_zip : typeLookup (.type "zip") "__len__" = pure none := by rw [typeLookup_type, builtinLookup_eq_fast]; kernel_rfl
theorem nohint_zip : typeLookup (.type "zip") "__length_hint__" = pure none := by rw [typeLookup_type, builtinLookup_eq_fast]; kernel_rfl
theorem collect_zip {A : Around} {E : Value → Shared → Prop} {s : Shared} {H : Hp} {Q : List Value → Shared → Prop} (hh : A.handled = none) (D : ZipApart z TI TO i1 i2 l1 l2) (I : Inv X pins σ H s) (tr : ∀ a, B a → ∃ o, H a = some o ∧ ownO o = true)
    (fp : ∀ b ∈ [z, TI, TO, i1, i2], FpOk X pins H b) (st : ZipSt z TI TO i1 i2 l1 l2 0 s.heap) (hz : IsZip s.heap z TI TO .none) (gd : ∀ H', Keep H B H' B → SqL X.K H' l1 ps ∧ SqL X.K H' l2 qs) (r1 : RepVs X.K H B dps ps) (r2 : RepVs X.K H B dqs qs)
    (hQ : ∀ (s' : Shared) (H' : Hp) (acc : Array Value) (dn : List V), Inv X pins σ H' s' → Keep H B H' B → Alc H H' → (∀ a, B a → ∃ o, H' a = some o ∧ ownO o = true) → Vals dn acc.toList → RepVs X.K H' B (List.zipWith (fun x y => PyData.tuple [x, y]) dps dqs) dn → Q acc.toList s') :
    wpAny (model X.prog X.w) A (collect (.ref z)) Q E s := by
  have ex : ∀ b ∈ [z, TI, TO, i1, i2], ∃ o, s.heap.get? b = some o := fun b hb => by
    simp only [List.mem_cons, List.not_mem_nil, or_false] at hb
    rcases hb with rfl | rfl | rfl | rfl | rfl
    · exact ⟨_, hz⟩
    · exact ⟨_, st.ti⟩
    · exact st.to
    · obtain ⟨o, e, _⟩ := st.it1
      exact ⟨o, e⟩
    · obtain ⟨o, e, _⟩ := st.it2
      exact ⟨o, e⟩
  have nS : s.heap.objs.size ∉ [z, TI, TO, i1, i2] := fun hm => by
    obtain ⟨o, e⟩ := ex _ hm
    exact Nat.lt_irrefl _ (Heap.lt_size e)
  have nSz : s.heap.objs.size ≠ z := fun e => nS (by simp [e])
  have hn : H s.heap.objs.size = none := I.hok.fresh (Nat.le_refl _)
  unfold collect
  refine wpAny_bind (wpAny_runValue (codeAny_builtin F.entry_proto_collect ?_))
  rw [Around.under_plainId F.plain_proto_collect _]
  show wpAny _ A.in1 (newList [] >>= fun l => again (.builtin "list.__iadd__" ⟨[l, .ref z], []⟩)) _ _ s
  refine wpAny_bind (wpAny_newObj_type ?_)
  refine wpAny_pure ⟨plainId_quiet F.plain_list_iadd _, codeAny_builtin F.entry_list_iadd ?_⟩
  rw [Around.under_plainId F.plain_list_iadd _]
  have hz1 : IsZip (s.heap.push { cls := .type "list", data := .seq ([] : List Value).toArray }) z TI TO .none := Heap.get?_push_of_some _ hz
  have hTy : ({ s with heap := s.heap.push { cls := .type "list", data := .seq ([] : List Value).toArray } } : Shared).TypeIs (.ref z) "zip" := ⟨_, hz1, rfl⟩
  show wpAny _ A.in1 (Builtin.List.listExtendWith (.ref s.heap.objs.size) (.ref z) (.ref s.heap.objs.size)) _ _ _
  unfold Builtin.List.listExtendWith
  refine wpAny_bind (wpAny_typeOf hTy ?_)
  have h1 : Builtin.List.listSameRef (.ref s.heap.objs.size) (.ref z) = false := by simp [Builtin.List.listSameRef, nSz]
  have h2 : (Value.type "zip" == Value.type "list") = false := by decide +kernel
  have h3 : (Value.type "zip" == Value.type "tuple") = false := by decide +kernel
  simp only [h1, h2, h3, Bool.or_false, Bool.false_eq_true, if_false]
  refine wpAny_bind (wpAny_pyIter_zip hz1 ?_)
  refine wpAny_bind (wpAny_holding ?_)
  unfold Builtin.List.listLengthHint
  refine wpAny_bind (wpAny_specialOf hTy nolen_zip ?_)
  show wpAny _ A.in1 (specialOf (Value.ref z) (Str.ofString "__length_hint__") >>= _) _ _ _
  refine wpAny_bind (wpAny_specialOf hTy nohint_zip ?_)
  refine wpAny_pure ?_
  show wpAny _ A.in1 (rule "list.extend.makes-room" >>= fun _ => Builtin.List.listTouch (.ref s.heap.objs.size) >>= fun _ =>
    again (.builtin "list.extend.loop" ⟨[.ref s.heap.objs.size, .ref z, .ref s.heap.objs.size], []⟩)) _ _ _
  refine wpAny_bind (wpAny_rule ?_)
  have hS1 : (s.heap.push { cls := .type "list", data := .seq ([] : List Value).toArray }).get? s.heap.objs.size = some { cls := .type "list", data := .seq ([] : List Value).toArray } := Heap.get?_push_size _ rfl
  refine wpAny_bind ?_
  show wpAny _ A.in1 (updateSeq s.heap.objs.size (·.push .none) >>= fun _ => updateSeq s.heap.objs.size (·.pop)) _ _ _
  refine wpAny_bind (wpAny_updateSeq hS1 rfl ?_)
  have hS2 := Heap.get?_update_self (Obj.mapSeq (·.push Value.none)) hS1 rfl
  refine wpAny_updateSeq hS2 rfl ?_
  have hS3 := Heap.get?_update_self (Obj.mapSeq (·.pop)) hS2 rfl
  have oth : ∀ b o, b ≠ s.heap.objs.size → s.heap.get? b = some o →
      (((s.heap.push { cls := .type "list", data := .seq ([] : List Value).toArray }).update s.heap.objs.size (Obj.mapSeq (·.push Value.none))).update s.heap.objs.size (Obj.mapSeq (·.pop))).get? b = some o :=
    fun b o hb e => (Heap.get?_update_other _ _ (Ne.symm hb)).trans ((Heap.get?_update_other _ _ (Ne.symm hb)).trans (Heap.get?_push_of_some _ e))
  have I1 : Inv X pins σ H { s with heap := ((s.heap.push { cls := .type "list", data := .seq ([] : List Value).toArray }).update s.heap.objs.size (Obj.mapSeq (·.push Value.none))).update s.heap.objs.size (Obj.mapSeq (·.pop)) } :=
    I.kept (t' := s.toks) fun b o e => oth b o (Nat.ne_of_lt (Heap.lt_size e)) e
  have fp6 : ∀ b ∈ [z, TI, TO, i1, i2, s.heap.objs.size], FpOk X pins H b := fun b hb => by
    by_cases e : b = s.heap.objs.size
    · rw [e]
      exact I.fpOk (Nat.le_refl _) hn
    · refine fp b ?_
      simp only [List.mem_cons, List.not_mem_nil, or_false] at hb ⊢
      rcases hb with h | h | h | h | h | h
      · exact .inl h
      · exact .inr (.inl h)
      · exact .inr (.inr (.inl h))
      · exact .inr (.inr (.inr (.inl h)))
      · exact .inr (.inr (.inr (.inr h)))
      · exact absurd h e
  refine wpAny_pure ⟨plainId_quiet F.plain_extend_loop _, loop_zip (A := A) hh D nS _ gd r1 r2 _ 0 _ H #[] _ [] rfl (Nat.zero_le _) I1 ⟨fun _ _ a b => ⟨a, b⟩, tr⟩ .refl tr fp6 (st.off oth ⟨_, hS3⟩ nS) hS3 rfl .nil rfl fun s' H' acc c' dn J k al t2 hS v rr => ?_⟩
  show wpAny _ A (load s.heap.objs.size >>= _) _ _ s'
  exact wpAny_bind (wpAny_load hS (wpAny_pure (hQ s' H' acc dn J k al t2 v rr)))
theorem code_tuple_new_zip {A : Around} {E : Value → Shared → Prop} {s : Shared} {H : Hp} {Q : Value → Shared → Prop} (hh : A.handled = none) (D : ZipApart z TI TO i1 i2 l1 l2) (I : Inv X pins σ H s) (tr : ∀ a, B a → ∃ o, H a = some o ∧ ownO o = true)
    (fp : ∀ b ∈ [z, TI, TO, i1, i2], FpOk X pins H b) (st : ZipSt z TI TO i1 i2 l1 l2 0 s.heap) (hz : IsZip s.heap z TI TO .none) (gd : ∀ H', Keep H B H' B → SqL X.K H' l1 ps ∧ SqL X.K H' l2 qs) (r1 : RepVs X.K H B dps ps) (r2 : RepVs X.K H B dqs qs) (hsz : ps.length ≤ sizeLine)
    (hQ : ∀ (s' : Shared) (H' : Hp) (acc : Array Value) (dn : List V), Inv X pins σ H' s' → Keep H B H' B → Alc H H' → (∀ a, B a → ∃ o, H' a = some o ∧ ownO o = true) → Vals dn acc.toList → RepVs X.K H' B (List.zipWith (fun x y => PyData.tuple [x, y]) dps dqs) dn → Q (.ref s'.heap.objs.size) { s' with heap := s'.heap.push { cls := .type "tuple", data := .seq acc } }) :
    codeAny (model X.prog X.w) A (.call (.builtin "tuple.__new__") ⟨[.type "tuple", .ref z], []⟩) (wants Q E) s := by
  refine codeAny_of_tree ?_
  show wpAny _ A.in1 (do checkBuiltinCall "tuple.__new__" ⟨[.type "tuple", .ref z], []⟩; again (.builtin "tuple.__new__" ⟨[.type "tuple", .ref z], []⟩)) _ _ s
  refine wpAny_bind (wpAny_of_eq (F.newCall_tuple_1 _) (wpAny_pure ⟨plainId_quiet F.plain_tuple_new _, codeAny_builtin F.entry_tuple_new ?_⟩))
  rw [Around.under_plainId F.plain_tuple_new _]
  have hsub := sub_tuple_self
  have hinit := init_tuple_lookup
  have hmh := madeHere_tuple
  have hTI : s.TypeIs (.ref z) "zip" := ⟨_, hz, rfl⟩
  have hh1 : A.in1.handled = none := hh
  wp_walk using wpAny_typeOf hTI, collect_zip (A := A.in1) hh1 D I tr fp st hz gd r1 r2
  intro s' H' acc dn J k al t2 v rr
  show wpAny _ _ (Builtin.Tuple.tupleExact acc.toList.toArray >>= fun v => ret v) _ _ _
  unfold Builtin.Tuple.tupleExact
  have e : acc.toList.toArray = acc := by simp
  rw [e]
  refine wpAny_bind (wpAny_newObj_type ?_ (by
    have q1 := v.length
    have q2 := rr.length
    have q3 := r1.length
    rw [List.length_zipWith] at q2
    show acc.size ≤ sizeLine
    rw [← Array.length_toList, ← q1]
    omega))
  exact wpAny_pure (hQ s' H' acc dn J k al t2 v rr)
theorem call_tuple_zip {A : Around} {E : Value → Shared → Prop} {s : Shared} {H : Hp} {Q : Value → Shared → Prop} (hh : A.handled = none) (D : ZipApart z TI TO i1 i2 l1 l2) (I : Inv X pins σ H s) (tr : ∀ a, B a → ∃ o, H a = some o ∧ ownO o = true)
    (fp : ∀ b ∈ [z, TI, TO, i1, i2], FpOk X pins H b) (st : ZipSt z TI TO i1 i2 l1 l2 0 s.heap) (hz : IsZip s.heap z TI TO .none) (gd : ∀ H', Keep H B H' B → SqL X.K H' l1 ps ∧ SqL X.K H' l2 qs) (r1 : RepVs X.K H B dps ps) (r2 : RepVs X.K H B dqs qs) (hsz : ps.length ≤ sizeLine)
    (hQ : ∀ (s' : Shared) (H' : Hp) (acc : Array Value) (dn : List V), Inv X pins σ H' s' → Keep H B H' B → Alc H H' → (∀ a, B a → ∃ o, H' a = some o ∧ ownO o = true) → Vals dn acc.toList → RepVs X.K H' B (List.zipWith (fun x y => PyData.tuple [x, y]) dps dqs) dn → Q (.ref s'.heap.objs.size) { s' with heap := s'.heap.push { cls := .type "tuple", data := .seq acc } }) :
    wpAny (model X.prog X.w) A (call (.type "tuple") [.ref z]) Q E s := by
  refine callType_codes (Q₁ := fun obj s₁ => s₁.TypeIs obj "tuple" ∧ Q obj s₁) F.called_tuple (F.typeCall_tuple_1 _) F.entry_object_init
    (code_tuple_new_zip (A := A.in1) hh D I tr fp st hz gd r1 r2 hsz fun s' H' acc dn J k al t2 v rr => ⟨⟨_, Heap.get?_push_size _ rfl, rfl⟩, hQ s' H' acc dn J k al t2 v rr⟩) fun obj s₁ h₁ => ?_
  exact ⟨h₁.1, F.args_object_init_2 obj _, object_init_meets F.called_tuple.init.lookup F.called_tuple.made (by decide) X.prog X.w A.in1 _ s₁ ⟨h₁.1, rfl, h₁.2⟩⟩
/-- tuple(zip(a, b)) of two lists -/
def tTupZip (X : Cx) (ta : TA) : TE := fun σ H Q => ta σ H fun vs H1 => ∃ (a b : Addr) (ps qs : List V) (dps dqs : List D) (B : Bs), vs = [.ref a, .ref b] ∧ (∀ c, B c → ∃ o, H1 c = some o ∧ ownO o = true) ∧ (∀ H', Keep H1 B H' B → SqL X.K H' a ps ∧ SqL X.K H' b qs) ∧ RepVs X.K H1 B dps ps ∧ RepVs X.K H1 B dqs qs ∧
  ∀ (H2 : Hp) (p : Addr) (o : Obj) (dn : List V), Alc H1 H2 → H2 p = none → o.dict = none → RepVs X.K H2 B (List.zipWith (fun x y => PyData.tuple [x, y]) dps dqs) dn → Q (.ref p) (upd H2 p (.frz o (.tup dn)))
theorem pe_tupZip {e e2 : Expr} {ta : TA} {p p2 pos pos2 : Pos} (hc : X.calm = true) (g0 : Gl X "tuple") (m0 : X.mg "tuple" = none) (g1 : Gl X "zip") (m1 : X.mg "zip" = none) (ha : PA X [e, e2] ta)
    (s1 : starEach [e, e2] X.env = (false, eval e X.env) :: starEach [e2] X.env) (s2 : (backTo pos2 (starEach [e2] X.env)).any (·.1) = false)
    (na : starEach [.Call (.Name "zip" p2) [e, e2] [] pos2] X.env = (false, eval (.Call (.Name "zip" p2) [e, e2] [] pos2) X.env) :: starEach [] X.env := by rfl) :
    PE X (.Call (.Name "tuple" p) [.Call (.Name "zip" p2) [e, e2] [] pos2] [] pos) (tTupZip X ta) := by
  refine ⟨fun pins s σ H Q I h => ?_⟩
  refine Call_ (ld_blt I g0 m0 boot_tuple (PyProof.Rows.callWith_type1 (args_cons ?_ na) na))
  have arg := ha.run pos2 pins s σ H _ I h
  refine Call_ (ld_blt I g1 m1 boot_zip (callWith_type1 (thn arg fun us t ⟨vs, H1, I1, r1, q1⟩ => ?_) s1 s2))
  obtain ⟨a, b, ps, qs, dps, dqs, B, rfl, tr, gd, k1, k2, q⟩ := q1
  rcases r1 with _ | ⟨r, _ | ⟨r', _ | _⟩⟩
  cases r
  cases r'
  obtain ⟨l1, l2⟩ := gd H1 ⟨fun _ _ a b => ⟨a, b⟩, tr⟩
  obtain ⟨xs, rv, p1, hz1⟩ := I1.list l1
  obtain ⟨ys, rw_, p2', _⟩ := I1.list l2
  refine call_zip_2 p1.isList p2'.isList fun h' y1 y2 y3 y4 y5 sz hk => args_nil ?_
  have I2 : Inv X pins σ H1 { t with heap := h' } := I1.kept (t' := t.toks) hk
  have fr : ∀ {c}, t.heap.objs.size ≤ c → FpOk X pins H1 c := fun {c} hle => I1.fpOk hle (I1.hok.fresh hle)
  have fr5 : ∀ c, c ∈ [t.heap.objs.size + 4, t.heap.objs.size + 2, t.heap.objs.size + 3, t.heap.objs.size, t.heap.objs.size + 1] → FpOk X pins H1 c := fun c hcm => by
    rcases mem5 hcm with rfl | rfl | rfl | rfl | rfl <;> exact fr (by omega)
  refine call_tuple_zip (I2.ok.hd hc) (PySem.W.ktu_apart t.heap.objs.size a b p1.lt p2'.lt) I2 tr fr5 ⟨.inl ⟨y1, _, _, y3⟩, y2, ⟨_, y3⟩, y4, y5⟩ y1 gd k1 k2 hz1 fun s' H' acc dn J k al t2 v rr => ?_
  have hl : dn.length ≤ sizeLine := by
    have q2 := rr.length
    have q3 := k1.length
    rw [List.length_zipWith] at q2
    omega
  have hs : (s'.heap.push { cls := .type "tuple", data := .seq acc }).get? s'.heap.objs.size = some (tupO acc.toList) := by
    rw [Heap.get?_push_size _ rfl]
  exact ⟨.ref s'.heap.objs.size, _, J.laid (t' := s'.toks) (o := .frz (tupO acc.toList) (.tup dn)) (fun c o e => Heap.get?_push_of_some _ e) (Nat.le_refl _) (ok_tupN hs v hl), rfl, q _ _ _ dn al (J.hok.fresh (Nat.le_refl _)) rfl rr⟩
end
section
variable {X : Cx} {C : Fn} {G : Nat → Option D} {nm : Nms} {n : Nat} {st sc : Scope}
theorem snd_zpt (ok : Ok X C G nm n st sc) {a b : E} {f z : Str} {y y2 : Expr} {p p2 pos pos2 : Pos} (hf : glB sc f = true) (ef : f = "tuple") (hg : glB sc z = true) (hz : z = "zip") (hc : chkE nm X.N sc a y = true) (hc2 : chkE nm X.N sc b y2 = true)
    (he : PE X y (tE X.K C G a)) (he2 : PE X y2 (tE X.K C G b)) : PE X (.Call (.Name f p) [.Call (.Name z p2) [y, y2] [] pos2] [] pos) (tE X.K C G (.zpt a b)) := by
  subst ef hz
  have st1 : starEach [y, y2] X.env = (false, eval y X.env) :: starEach [y2] X.env := noStar hc [y2]
  have st2 : starEach [y2] X.env = (false, eval y2 X.env) :: starEach [] X.env := noStar hc2 []
  refine pe_imp (pe_tupZip ok.calm (gl_of ok hf) (ok.blt _ (in_blt .tuple)) (gl_of ok hg) (ok.blt "zip" (by decide)) (pa_cons he (pa_cons he2 pa_nil st2) st1) st1 (by rw [st2]; rfl)) fun σ H Q h => ?_
  obtain ⟨g, B, rv, g', re, ev, q⟩ := h
  obtain ⟨ra, g2, e5, e6⟩ := bind2 (show (evE C G a g).bind _ = _ from ev)
  obtain ⟨da, e7, e8⟩ := bind1 e6
  obtain ⟨rb, g3, e9, e10⟩ := bind2 e8
  obtain ⟨db, e11, e12⟩ := bind1 e10
  refine tE_of re e5 fun x H1 B1 s1 r1 => ?_
  obtain ⟨Ba, sa, ha⟩ := r1.pure s1 e7
  refine tE_of sa.re e9 fun x2 H2 B2 s2 r2 => ?_
  obtain ⟨Bb, sb, hb⟩ := r2.pure s2 e11
  have s12 := sa.trans sb
  have ha' := ha.ext sb.kp
  have two : ∃ xs ys, da = .list xs ∧ db = .list ys ∧ rv = .pur (.tuple (List.zipWith (fun x y => PyData.tuple [x, y]) xs ys)) ∧ g' = g3 := by
    cases da <;> cases db <;> first | (cases e12; done) | (cases e12; exact ⟨_, _, rfl, rfl, rfl, rfl⟩)
  obtain ⟨xs, ys, rfl, rfl, rfl, rfl⟩ := two
  obtain ⟨u, us, rfl, h1, h2⟩ := ha'
  obtain ⟨w, ws, rfl, h3, h4⟩ := hb
  refine ⟨u, w, us, ws, xs, ys, Bb, rfl, s12.re.trk, fun H' k => ⟨(h1.ext k).sql, (h3.ext k).sql⟩, h2, h4, fun H3 pp o dn al hp ho rr => ?_⟩
  have s3 := Stp.chain s12 al
  exact q _ _ _ (s3.newTup hp ho rr).1 (s3.newTup hp ho rr).2
end
end Ev

namespace Ev
set_option autoImplicit false
open PySem PySem.Spec PyProof.Rows L2
variable [TheW]
section
variable {K : PySem.W.Frag} {σ : L2.St} {g g1 g2 : Sg} {H H1 H' : Hp} {B B1 B' : Bs} {rs : List Rv} {as as' : List (Md × D)} {vs : List V} {p : Addr} {d : D} {r : Rv} {v : V}
theorem appL {α : Type} {l : List α} {x : α} {i : Nat} (h : i < l.length) : (l ++ [x])[i]? = l[i]? := List.getElem?_append_left h
theorem appX {α : Type} {l : List α} {x y : α} {i : Nat} (h : (l ++ [x])[i]? = some y) : (i < l.length ∧ l[i]? = some y) ∨ (i = l.length ∧ x = y) := by
  by_cases hi : i < l.length
  · rw [appL hi] at h
    exact .inl ⟨hi, h⟩
  · right
    have h2 : i < (l ++ [x]).length := (List.getElem?_eq_some_iff.mp h).1
    rw [List.length_append, List.length_singleton] at h2
    have e : i = l.length := by omega
    subst e
    rw [List.getElem?_append_right (Nat.le_refl _), Nat.sub_self] at h
    simp only [List.getElem?_cons_zero, Option.some.injEq] at h
    exact ⟨rfl, h⟩
/-- a frame with one more slot that owns p -/
theorem RE.more (re : RE K H B σ g) (hp : RepO K H B d (.ref p)) (no : ¬ Own σ g p) : RE K H B (σ ++ [some (.ref p)]) (g ++ [some (.own, d)]) where
  len := by rw [List.length_append, List.length_append, re.len]; rfl
  val := fun i f e => by
    rcases appX e with ⟨hi, e⟩ | ⟨_, e⟩
    · obtain ⟨w, e1, h1⟩ := re.val i f e
      exact ⟨w, by rw [appL (by rw [← re.len]; exact hi)]; exact e1, h1⟩
    · cases e
  own := fun i m f e hm => by
    rcases appX e with ⟨hi, e⟩ | ⟨hi, e⟩
    · obtain ⟨w, e1, h1⟩ := re.own i m f e hm
      exact ⟨w, by rw [appL (by rw [← re.len]; exact hi)]; exact e1, h1⟩
    · cases e
      refine ⟨.ref p, ?_, hp⟩
      rw [hi, re.len, List.getElem?_append_right (Nat.le_refl _), Nat.sub_self]
      rfl
  dist := fun i j m n f f' a ei hm ej hn si sj => by
    have at_ : ∀ {i : Nat} {m : Md} {f : D}, (g ++ [some (.own, d)])[i]? = some (some (m, f)) → m ≠ Md.val → (σ ++ [some (V.ref p)])[i]? = some (some (V.ref a)) → (i < g.length ∧ g[i]? = some (some (m, f)) ∧ σ[i]? = some (some (V.ref a))) ∨ (i = g.length ∧ a = p) := fun {i m f} e hm s => by
      rcases appX e with ⟨hi, e⟩ | ⟨hi, e⟩
      · rw [appL (by rw [← re.len]; exact hi)] at s
        exact .inl ⟨hi, e, s⟩
      · rcases appX s with ⟨h2, _⟩ | ⟨_, e2⟩
        · rw [hi, re.len] at h2
          exact absurd h2 (Nat.lt_irrefl _)
        · cases e2
          exact .inr ⟨hi, rfl⟩
    rcases at_ ei hm si with ⟨h1, h2, h3⟩ | ⟨h1, rfl⟩
    · rcases at_ ej hn sj with ⟨h1', h2', h3'⟩ | ⟨h1', rfl⟩
      · exact re.dist i j m n f f' a h2 hm h2' hn h3 h3'
      · exact absurd ⟨i, m, f, h2, hm, h3⟩ no
    · rcases at_ ej hn sj with ⟨h1', h2', h3'⟩ | ⟨h1', _⟩
      · exact absurd ⟨j, n, f', h2', hn, h3'⟩ no
      · rw [h1, h1']
  trk := re.trk
theorem own_more (hl : g.length = σ.length) {a : Addr} (h : Own (σ ++ [some (.ref p)]) (g ++ [some (.own, d)]) a) : Own σ g a ∨ a = p := by
  obtain ⟨i, m, f, e, hm, s⟩ := h
  rcases appX e with ⟨hi, e⟩ | ⟨hi, e⟩
  · rw [appL (by rw [← hl]; exact hi)] at s
    exact .inl ⟨i, m, f, e, hm, s⟩
  · rcases appX s with ⟨h2, _⟩ | ⟨_, e2⟩
    · rw [hi, hl] at h2
      exact absurd h2 (Nat.lt_irrefl _)
    · cases e2
      exact .inr rfl
theorem more_own (hl : g.length = σ.length) {a : Addr} (h : Own σ g a) : Own (σ ++ [some (.ref p)]) (g ++ [some (.own, d)]) a := by
  obtain ⟨i, m, f, e, hm, s⟩ := h
  have hi := (List.getElem?_eq_some_iff.mp e).1
  exact ⟨i, m, f, by rw [appL hi]; exact e, hm, by rw [appL (by rw [← hl]; exact hi)]; exact s⟩
theorem RE.less (hl : g.length = σ.length) (re : RE K H B (σ ++ [some (.ref p)]) (g ++ [some (.own, d)])) : RE K H B σ g where
  len := hl
  val := fun i f e => by
    have hi := (List.getElem?_eq_some_iff.mp e).1
    obtain ⟨w, e1, h1⟩ := re.val i f (by rw [appL hi]; exact e)
    exact ⟨w, by rw [appL (by rw [← hl]; exact hi)] at e1; exact e1, h1⟩
  own := fun i m f e hm => by
    have hi := (List.getElem?_eq_some_iff.mp e).1
    obtain ⟨w, e1, h1⟩ := re.own i m f (by rw [appL hi]; exact e) hm
    exact ⟨w, by rw [appL (by rw [← hl]; exact hi)] at e1; exact e1, h1⟩
  dist := fun i j m n f f' a ei hm ej hn si sj => by
    have hi := (List.getElem?_eq_some_iff.mp ei).1
    have hj := (List.getElem?_eq_some_iff.mp ej).1
    exact re.dist i j m n f f' a (by rw [appL hi]; exact ei) hm (by rw [appL hj]; exact ej) hn (by rw [appL (by rw [← hl]; exact hi)]; exact si) (by rw [appL (by rw [← hl]; exact hj)]; exact sj)
  trk := re.trk
/-- the slot is dropped -/
theorem Stp.drop {d' : D} (s : Stp K σ g H B σ g1 H1 B1) (hp : H p = none) (hl : g2.length = g1.length) (t : Stp K (σ ++ [some (.ref p)]) (g1 ++ [some (.own, d)]) H1 B1 (σ ++ [some (.ref p)]) (g2 ++ [some (.own, d')]) H' B') : Stp K σ g H B σ g2 H' B' := by
  have l1 : g1.length = σ.length := s.re.len
  have l2 : g2.length = σ.length := by rw [hl, l1]
  have no : ∀ {a : Addr}, H a ≠ none → ¬ Own σ g a → ¬ Own (σ ++ [some (.ref p)]) (g1 ++ [some (.own, d)]) a := fun {a} ha n z => by
    rcases own_more l1 z with z | rfl
    · rcases s.osub a z with z | z
      · exact n z
      · exact ha z
    · exact ha hp
  refine ⟨t.re.less l2, s.trk, s.ownB, fun a o e n => t.keep a o (s.keep a o e n) (no (by rw [e]; exact fun z => nomatch z) n), fun a b n => t.own a (s.own a b n) (no (by
    obtain ⟨o, e, _⟩ := s.trk a b
    rw [e]
    exact fun z => nomatch z) n), fun a b => (t.new a b).elim (s.new a) fun q => ?_, fun a o => ?_, fun a n => t.grow a (s.grow a n), fun i f e => ?_⟩
  · by_cases h : H a = none
    · exact .inr h
    · exact absurd q (s.grow a h)
  · rcases t.osub a (more_own l2 o) with z | z
    · rcases own_more l1 z with z | rfl
      · exact s.osub a z
      · exact .inr hp
    · by_cases h : H a = none
      · exact .inr h
      · exact absurd z (s.grow a h)
  · obtain ⟨e1, f1, e2⟩ := s.bfix i f e
    have hi := (List.getElem?_eq_some_iff.mp e2).1
    obtain ⟨e3, f2, e4⟩ := t.bfix i f1 (by rw [appL hi]; exact e2)
    refine ⟨rfl, f2, ?_⟩
    rw [appL (by rw [hl]; exact hi)] at e4
    exact e4
theorem RvR.drop {d' : D} (s : Stp K σ g H B σ g1 H1 B1) (hp : H p = none) (hl : g2.length = g1.length) (hr : RvR K (σ ++ [some (.ref p)]) (g1 ++ [some (.own, d)]) B1 (g2 ++ [some (.own, d')]) H' B' r v) (hn : ∀ i, r ≠ .loc i) : RvR K σ g B g2 H' B' r v := by
  have l1 : g1.length = σ.length := s.re.len
  have l2 : g2.length = σ.length := by rw [hl, l1]
  cases r with
  | pur f => exact hr
  | loc i => exact absurd rfl (hn i)
  | new f =>
    refine ⟨hr.1, fun a ea => ?_⟩
    obtain ⟨n1, n2⟩ := hr.2 a ea
    refine ⟨fun z => n1 (more_own l2 z), fun b => ?_⟩
    by_cases o : Own σ g a
    · exact o
    · have b1 := s.own a b o
      obtain ⟨u, e, _⟩ := s.trk a b
      rcases own_more l1 (n2 b1) with z | rfl
      · rcases s.osub a z with z | z
        · exact z
        · rw [e] at z
          cases z
      · rw [hp] at e
        cases e
theorem args_more {x : Slot} : ∀ {rs : List Rv} {as : List (Md × D)}, argsOf g rs = some as → argsOf (g ++ [x]) rs = some as
  | [], as, h => h
  | q :: rs, as, h => by
    obtain ⟨a, e1, h⟩ := Option.bind_eq_some_iff.mp (show (argOf g q).bind (fun a => (argsOf g rs).map (a :: ·)) = some as from h)
    obtain ⟨l, e2, e3⟩ := Option.map_eq_some_iff.mp h
    show (argOf (g ++ [x]) q).bind (fun a => (argsOf (g ++ [x]) rs).map (a :: ·)) = some as
    have e4 : argOf (g ++ [x]) q = some a := by
      cases q with
      | pur f => exact e1
      | new f => exact e1
      | loc i =>
        obtain ⟨pr, e5, e6⟩ := Option.map_eq_some_iff.mp (show (ownAt g i).map _ = some a from e1)
        have hi := (List.getElem?_eq_some_iff.mp (ownAt_some e5).1).1
        show (ownAt (g ++ [x]) i).map _ = some a
        have : ownAt (g ++ [x]) i = ownAt g i := by
          unfold ownAt
          rw [appL hi]
        rw [this, e5]
        exact congrArg some e6
    rw [e4, args_more e2, ← e3]
    rfl
theorem locs_lt : ∀ {rs : List Rv} {as : List (Md × D)}, argsOf g rs = some as → ∀ i ∈ locs rs, i < g.length
  | [], as, _, i, hi => by cases hi
  | q :: rs, as, h, i, hi => by
    obtain ⟨a, e1, h⟩ := Option.bind_eq_some_iff.mp (show (argOf g q).bind (fun a => (argsOf g rs).map (a :: ·)) = some as from h)
    obtain ⟨l, e2, e3⟩ := Option.map_eq_some_iff.mp h
    cases q with
    | pur f => exact locs_lt e2 i hi
    | new f => exact locs_lt e2 i hi
    | loc j =>
      rcases List.mem_cons.mp (show i ∈ j :: locs rs from hi) with rfl | hi
      · obtain ⟨pr, e5, e6⟩ := Option.map_eq_some_iff.mp (show (ownAt g i).map _ = some a from e1)
        exact (List.getElem?_eq_some_iff.mp (ownAt_some e5).1).1
      · exact locs_lt e2 i hi
theorem back_more {x : Slot} : ∀ {rs : List Rv} {as : List (Md × D)}, (∀ i ∈ locs rs, i < g.length) → giveBack (g ++ [x]) rs as = giveBack g rs as ++ [x]
  | [], as, _ => by cases as <;> rfl
  | q :: rs, [], _ => by cases q <;> rfl
  | .pur _ :: rs, a :: as, h => back_more (rs := rs) (as := as) h
  | .new _ :: rs, a :: as, h => back_more (rs := rs) (as := as) h
  | .loc i :: rs, (m, d) :: as, h => by
    have hi : i < g.length := h i List.mem_cons_self
    have ih := back_more (x := x) (rs := rs) (as := as) fun j hj => h j (List.mem_cons_of_mem _ hj)
    show (match (g ++ [x])[i]? with
      | some (some (m, _)) => (giveBack (g ++ [x]) rs as).set i (some (m, d))
      | _ => giveBack (g ++ [x]) rs as) = (match g[i]? with
      | some (some (m, _)) => (giveBack g rs as).set i (some (m, d))
      | _ => giveBack g rs as) ++ [x]
    rw [appL hi, ih]
    match e : g[i]? with
    | some (some (m0, d0)) =>
      dsimp only
      rw [List.set_append_left _ _ (by rw [gb_len]; exact hi)]
    | some none => rfl
    | none => rfl
theorem rvos_more {x : Slot} {y : Option V} (hl : g.length = σ.length) : ∀ {rs : List Rv} {vs : List V}, RvOs K σ g H B rs vs → (∀ i ∈ locs rs, i < g.length) → RvOs K (σ ++ [y]) (g ++ [x]) H B rs vs
  | [], vs, h, _ => h
  | q :: rs, vs, h, hi => by
    obtain ⟨v, ws, rfl, h1, h2⟩ := h
    cases q with
    | pur f => exact ⟨v, ws, rfl, h1, rvos_more hl h2 hi⟩
    | new f => exact h1.elim
    | loc i =>
      refine ⟨v, ws, rfl, ⟨?_, trivial⟩, rvos_more hl h2 fun j hj => hi j (List.mem_cons_of_mem _ hj)⟩
      rw [appL (by rw [← hl]; exact hi i List.mem_cons_self)]
      exact h1.1
end
section
variable {X : Cx} {C : Fn} {G : Nat → Option D} {nm : Nms} {n : Nat} {st sc : Scope} {σ : L2.St}
theorem snd_cd (ok : Ok X C G nm n st sc) {f : Nat} {es : List E} {z : Str} {xs : List Expr} {p dp pos : Pos} (hg : glB sc z = true) (hn : okNm z = true) (hf : nm.fns[f]? = some z) (hc : chkEs nm X.N sc es xs = true) (ha : PA X xs (tAs X.K C G es)) :
    PE X (.Call (.Name z p) (.Dict [] [] dp :: xs) [] pos) (tE X.K C G (.cd f es)) := by
  obtain ⟨a, fd, ps, h1, h2, h3, F⟩ := ok.fn f z hf
  refine ⟨fun pins s σ H Q I h => ?_⟩
  obtain ⟨g, B, r, g', re, ev, q⟩ := h
  obtain ⟨rs, g1, e1, ev⟩ := bind2 (show (evAs C G es g).bind _ = _ from ev)
  obtain ⟨as, e2, ev⟩ := bind1 ev
  simp only at ev
  split at ev
  · rename_i nd
    obtain ⟨⟨r0, as0⟩, e3, ev⟩ := bind1 ev
    simp only at ev
    split at ev
    · rename_i a0 as'
      cases ev
      have go : tDNewK σ H fun x H0 => tAs X.K C G es σ H0 fun vs H1 => spF X.K (C f) (x :: vs) H1 Q E0 := by
        intro t ht
        have s0 := (Stp.refl re).allocNew (p := t) (o := .dK []) ht rfl
        have nB : ¬ Own σ g t := fun z => by
          obtain ⟨u, e, _⟩ := re.trk t (re.ownB z)
          rw [ht] at e
          cases e
        refine ⟨g, _, rs, g1, s0.re, e1, fun vs H1 B1 s1 ho => ?_⟩
        have e7 : H1 t = some (.dK []) := s1.keep t _ upd_same nB
        have Bt : B1 t := s1.own t (.inr rfl) nB
        have no : ¬ Own σ g1 t := fun z => (s1.osub t z).elim nB fun q => by rw [upd_same] at q; cases q
        have sT := s0.trans s1
        have l1 : g1.length = σ.length := s1.re.len
        have lt := locs_lt e2
        have reX := s1.re.more (d := .dict []) (p := t) ⟨t, _, rfl, Bt, e7, .inl ⟨[], rfl, rfl⟩⟩ no
        have gl : (g1 ++ [(some (Md.own, PyData.dict []) : Slot)])[g1.length]? = some (some (.own, .dict [])) := by
          rw [List.getElem?_append_right (Nat.le_refl _), Nat.sub_self]
          rfl
        have aX : argsOf (g1 ++ [(some (Md.own, PyData.dict []) : Slot)]) (.loc g1.length :: rs) = some ((.bor, .dict []) :: as) := by
          show ((ownAt (g1 ++ [(some (Md.own, PyData.dict []) : Slot)]) g1.length).map _).bind _ = _
          rw [ownAt_of gl nofun, Option.map_some, Option.bind_some, args_more e2]
          rfl
        have ndX : (locs (.loc g1.length :: rs)).Nodup := List.nodup_cons.mpr ⟨fun z => Nat.lt_irrefl _ (lt _ z), nd⟩
        have oX : RvOs X.K (σ ++ [some (V.ref t)]) (g1 ++ [(some (Md.own, PyData.dict []) : Slot)]) H1 B1 (.loc g1.length :: rs) (.ref t :: vs) := by
          refine ⟨.ref t, vs, rfl, ⟨?_, trivial⟩, rvos_more l1 ho lt⟩
          rw [l1, List.getElem?_append_right (Nat.le_refl _), Nat.sub_self]
          rfl
        refine ⟨B1, (.bor, .dict []) :: as, a0 :: as', _, e3, by rw [List.length_cons, List.length_cons, args_len e2, rvos_len ho], call_in reX oX aX ndX, fun v H' B' s2 hr hl hm => ?_⟩
        obtain ⟨s3, r3⟩ := call_out reX oX aX ndX hm s2 hr hl
        obtain ⟨m0, d0⟩ := a0
        have gb : giveBack (g1 ++ [(some (Md.own, PyData.dict []) : Slot)]) (.loc g1.length :: rs) ((m0, d0) :: as') = giveBack g1 rs as' ++ [some (.own, d0)] := by
          show (match (g1 ++ [(some (Md.own, PyData.dict []) : Slot)])[g1.length]? with
            | some (some (m, _)) => (giveBack (g1 ++ [(some (Md.own, PyData.dict []) : Slot)]) rs as').set g1.length (some (m, d0))
            | _ => giveBack (g1 ++ [(some (Md.own, PyData.dict []) : Slot)]) rs as') = _
          rw [gl, back_more lt]
          show (giveBack g1 rs as' ++ [some (Md.own, PyData.dict [])]).set g1.length (some (Md.own, d0)) = _
          rw [List.set_append_right _ _ (by rw [gb_len]; exact Nat.le_refl _), gb_len, Nat.sub_self]
          rfl
        rw [gb] at s3 r3
        exact q v H' B' (sT.drop ht (gb_len _ _) s3) (RvR.drop sT ht (gb_len _ _) r3 hl)
      refine wpAny_Call_Name_kw (ld_glob I (gl_of ok hg) h1 ?_ (nm_of hn).1)
      have pa : PA X (.Dict [] [] dp :: xs) (fun σ H (Q : List V → Hp → Prop) => tDNewK σ H fun x H0 => tAs X.K C G es σ H0 fun vs H1 => Q (x :: vs) H1) := pa_cons pe_dnewK ha
      have pl : (backTo pos (starEach xs X.env)).any (·.1) = false := by
        cases es with
        | nil =>
          have : xs = [] := List.isEmpty_iff.mp hc
          subst this
          rfl
        | cons e es =>
          exact noStars pos hc
      refine PySem.W.callWith_K (h₀ := X.base) I.ok.mod.kin h2 (thn (pa.run pos pins s σ H (fun ws H1 => spF X.K (C f) ws H1 Q E0) I go) fun us s1 ⟨vs, H1, I1, r1, q1⟩ => ⟨I1.kIn, ?_⟩) (by rfl) pl
      exact run_g F ok.room ok.gu h3 I1 r1 q1
    · cases ev
  · cases ev
end
end Ev

namespace Ev
set_option autoImplicit false
open PySem PySem.Spec PyProof.Rows L2
variable [TheW]
section
variable {K : PySem.W.Frag} {σ : L2.St} {g g1 g2 : Sg} {H H1 H' : Hp} {B B1 B' : Bs} {rs : List Rv} {as as' : List (Md × D)} {vs : List V} {p : Addr} {d : D} {r : Rv} {v : V} {ds : List D}
mutual
theorem RepV.plain : ∀ {d : D} {v : V}, plainD d = true → RepV K H B d v → RepV K H B' d v
  | .none, _, _, h => h
  | .bool _, _, _, h => h
  | .int _, _, _, h => h
  | .str _, _, _, h => h
  | .list _, _, e, _ => by cases e
  | .dict _, _, e, _ => by cases e
  | .tuple ds, v, e, h => by
    obtain ⟨a, xs, e1, h1, h2⟩ := h
    exact ⟨a, xs, e1, h1, RepVs.plain (ds := ds) e h2⟩
theorem RepVs.plain : ∀ {ds : List D} {vs : List V}, plainDs ds = true → RepVs K H B ds vs → RepVs K H B' ds vs
  | [], _, _, h => h
  | d :: ds, vs, e, h => by
    obtain ⟨e1, e2⟩ := Bool.and_eq_true_iff.mp (show (plainD d && plainDs ds) = true from e)
    obtain ⟨v, r, e3, h1, h2⟩ := h
    exact ⟨v, r, e3, RepV.plain e1 h1, RepVs.plain e2 h2⟩
end
/-- what is owned but not by a slot that is read -/
def unB (σ : L2.St) (B : Bs) (rs : List Rv) : Bs := fun a => B a ∧ ¬ ∃ i ∈ locs rs, σ[i]? = some (some (V.ref a))
theorem un_keep (re : RE K H B σ g) : Keep H B H (unB σ B rs) := ⟨fun a o e n => ⟨e, fun z => n z.1⟩, re.trk⟩
theorem datas_at : ∀ {rs : List Rv} {ds : List D} {j : Nat} {d : D}, datas g rs = some ds → ds[j]? = some d → ∃ r, rs[j]? = some r ∧ r.data g = some d
  | [], ds, j, d, h, e => by
    cases h
    simp at e
  | r :: rs, ds, j, d, h, e => by
    obtain ⟨d0, h1, h2⟩ := Option.bind_eq_some_iff.mp (show (r.data g).bind (fun d => (datas g rs).map (d :: ·)) = some ds from h)
    obtain ⟨l, h3, h4⟩ := Option.map_eq_some_iff.mp h2
    subst h4
    cases j with
    | zero =>
      cases e
      exact ⟨r, rfl, h1⟩
    | succ j => exact datas_at (rs := rs) (j := j) h3 (by simpa using e)
theorem datas_len : ∀ {rs : List Rv} {ds : List D}, datas g rs = some ds → ds.length = rs.length
  | [], ds, h => by
    cases h
    rfl
  | r :: rs, ds, h => by
    obtain ⟨d0, h1, h2⟩ := Option.bind_eq_some_iff.mp (show (r.data g).bind (fun d => (datas g rs).map (d :: ·)) = some ds from h)
    obtain ⟨l, h3, h4⟩ := Option.map_eq_some_iff.mp h2
    subst h4
    rw [List.length_cons, List.length_cons, datas_len h3]
theorem loc_mem : ∀ {rs : List Rv} {j i : Nat}, rs[j]? = some (.loc i) → i ∈ locs rs
  | [], _, _, h => by simp at h
  | r :: rs, 0, i, h => by
    have : r = .loc i := by simpa using h
    subst this
    exact List.mem_cons_self
  | r :: rs, j + 1, i, h => by
    have := loc_mem (rs := rs) (j := j) (by simpa using h)
    cases r with
    | pur _ => exact this
    | new _ => exact this
    | loc _ => exact List.mem_cons_of_mem _ this
def valA (ds : List D) : List (Md × D) := ds.map fun d => (Md.val, d)
theorem valA_at {j : Nat} {m : Md} {d : D} (h : ((valA ds).map some)[j]? = some (some (m, d))) : m = .val ∧ ds[j]? = some d := by
  unfold valA at h
  rw [List.map_map, List.getElem?_map] at h
  obtain ⟨x, e1, e2⟩ := Option.map_eq_some_iff.mp h
  have e3 : some (Md.val, x) = some (m, d) := e2
  cases e3
  exact ⟨rfl, e1⟩
theorem rd_in (re : RE K H B σ g) (ho : RvOs K σ g H B rs vs) (hd : datas g rs = some ds) : RE K H (unB σ B rs) (vs.map some) ((valA ds).map some) where
  len := by
    unfold valA
    rw [List.length_map, List.length_map, List.length_map, datas_len hd, rvos_len ho]
  val := fun j d e => by
    obtain ⟨_, e1⟩ := valA_at e
    obtain ⟨r, e2, e3⟩ := datas_at hd e1
    obtain ⟨v, e4, h1⟩ := rvos_at ho e2
    refine ⟨v, mapS.mpr e4, ?_⟩
    cases r with
    | pur f =>
      cases (show some f = some d from e3)
      exact RepV.ext (un_keep re) _ _ h1
    | new f => exact h1.elim
    | loc i =>
      obtain ⟨⟨m, f⟩, e5, e6⟩ := Option.map_eq_some_iff.mp (show (lstAt g i).map (·.2) = some d from e3)
      obtain ⟨xs, e7, e8, e9⟩ := lstAt_some e5
      have e6' : f = d := e6
      have e7' : f = .list xs := e7
      subst e6'
      subst e7'
      obtain ⟨w, e10, a, ys, e11, b1, b2, b3⟩ := re.own i m _ e8 e9
      have e12 := h1.1
      rw [e12] at e10
      cases e10
      subst e11
      exact ⟨a, ys, rfl, .inl ⟨b2, fun z => z.2 ⟨i, loc_mem e2, e12⟩⟩, RepVs.ext (un_keep re) _ _ b3⟩
  own := fun j m d e hm => absurd (valA_at e).1 hm
  dist := fun j k m n d e a ej hm => absurd (valA_at ej).1 hm
  trk := fun a z => re.trk a z.1
theorem valA_own {a : Addr} {σ : L2.St} : ¬ Own σ ((valA ds).map some) a := fun ⟨i, m, d, e, hm, _⟩ => hm (valA_at e).1
/-- back in the caller's frame -/
theorem rd_out {g' : Sg} (re : RE K H1 B1 σ g1) (s : Stp K (vs.map some) ((valA ds).map some) H1 (unB σ B1 rs) (vs.map some) g' H' B') : Stp K σ g1 H1 B1 σ g1 H' (fun a => B' a ∨ B1 a) := by
  have keep : ∀ a o, H1 a = some o → H' a = some o := fun a o e => s.keep a o e valA_own
  have new : ∀ a, B' a → B1 a ∨ H1 a = none := fun a b => (s.new a b).imp (fun z => z.1) id
  have kp : Keep H1 B1 H' (fun a => B' a ∨ B1 a) := ⟨fun a o e n => ⟨keep a o e, fun z => z.elim (fun b => (new a b).elim n fun q => by rw [e] at q; cases q) n⟩, re.trk⟩
  have trk' : ∀ a, (B' a ∨ B1 a) → ∃ o, H' a = some o ∧ ownO o = true := fun a z => by
    rcases z with z | z
    · exact s.re.trk a z
    · obtain ⟨o, e, h⟩ := re.trk a z
      exact ⟨o, keep a o e, h⟩
  refine ⟨⟨re.len, fun i d e => ?_, fun i m d e hm => ?_, re.dist, trk'⟩, re.trk, fun a o => re.ownB o, fun a o e _ => keep a o e, fun a b _ => .inr b, fun a b => b.elim (new a) .inl, fun a o => .inl o, s.grow, fun i d e => ⟨rfl, d, e⟩⟩
  · obtain ⟨v, e1, h⟩ := re.val i d e
    exact ⟨v, e1, RepV.ext kp d v h⟩
  · obtain ⟨v, e1, h⟩ := re.own i m d e hm
    refine ⟨v, e1, RepO.ext kp h fun a o ea eo => ⟨keep a o eo, .inr ?_⟩⟩
    subst ea
    exact re.ownB ⟨i, m, d, e, hm, e1⟩
end
section
variable {X : Cx} {C : Fn} {G : Nat → Option D} {nm : Nms} {n : Nat} {st sc : Scope} {σ : L2.St}
theorem snd_rd (ok : Ok X C G nm n st sc) {f : Nat} {es : List E} {z : Str} {xs : List Expr} {p pos : Pos} (hg : glB sc z = true) (hn : okNm z = true) (hf : nm.fns[f]? = some z) (hc : chkEs nm X.N sc es xs = true) (ha : PA X xs (tAs X.K C G es)) :
    PE X (.Call (.Name z p) xs [] pos) (tE X.K C G (.rd f es)) := by
  obtain ⟨a, fd, ps, h1, h2, h3, F⟩ := ok.fn f z hf
  refine ⟨fun pins s σ H Q I h => ?_⟩
  obtain ⟨g, B, r, g', re, ev, q⟩ := h
  obtain ⟨rs, g1, e1, ev⟩ := bind2 (show (evAs C G es g).bind _ = _ from ev)
  obtain ⟨ds, e2, ev⟩ := bind1 ev
  obtain ⟨⟨r0, as'⟩, e3, ev⟩ := bind1 ev
  obtain ⟨rr, e4, e5⟩ := map1 ev
  have e5' : rr = r ∧ g1 = g' := ⟨congrArg Prod.fst e5, congrArg Prod.snd e5⟩
  obtain ⟨rfl, rfl⟩ := e5'
  obtain ⟨d, rfl, rfl, hp⟩ : ∃ d, r0 = .pur d ∧ rr = .pur d ∧ plainD d = true := by
    cases r0 with
    | pur d =>
      have e4' : (if plainD d then some (Rv.pur d) else none) = some rr := e4
      split at e4'
      · cases e4'
        exact ⟨d, rfl, rfl, ‹_›⟩
      · cases e4'
    | loc i => cases e4
    | new d => cases e4
  have go : tAs X.K C G es σ H fun vs H1 => spF X.K (C f) vs H1 Q E0 := by
    refine ⟨g, B, rs, g1, re, e1, fun vs H1 B1 s1 ho => ?_⟩
    refine ⟨unB σ B1 rs, valA ds, as', .pur d, e3, by unfold valA; rw [List.length_map, datas_len e2, rvos_len ho], rd_in s1.re ho e2, fun v H' B' s2 hr hl hm => ?_⟩
    exact q v H' _ (s1.trans (rd_out s1.re s2)) (RepV.plain hp hr)
  refine wpAny_Call_Name_kw (ld_glob I (gl_of ok hg) h1 ?_ (nm_of hn).1)
  cases xs with
  | nil =>
    refine PySem.W.callWith_K0 I.kIn h2 ?_
    cases es with
    | cons e es => cases hc
    | nil =>
      obtain ⟨g2, B2, rs2, g3, re2, e5, q5⟩ := go
      cases (show some ([], g2) = some (rs2, g3) from e5)
      exact run_g F ok.room ok.gu h3 (us := []) (vs := []) I .nil (q5 [] H B2 (Stp.refl re2) rfl)
  | cons x xs =>
    have st : starEach (x :: xs) X.env = (false, eval x X.env) :: starEach xs X.env := by
      cases es with
      | nil => cases hc
      | cons e es => exact noStar (Bool.and_eq_true_iff.mp (show (chkE nm X.N sc e x && chkEs nm X.N sc es xs) = true from hc)).1 xs
    have pl : (backTo pos (starEach xs X.env)).any (·.1) = false := by
      cases es with
      | nil => cases hc
      | cons e es => exact noStars pos (Bool.and_eq_true_iff.mp (show (chkE nm X.N sc e x && chkEs nm X.N sc es xs) = true from hc)).2
    refine PySem.W.callWith_K (h₀ := X.base) I.ok.mod.kin h2 (thn (ha.run pos pins s σ H _ I go) fun us s1 ⟨vs, H1, I1, r1, q1⟩ => ⟨I1.kIn, ?_⟩) st pl
    exact run_g F ok.room ok.gu h3 I1 r1 q1
end
end Ev

namespace Ev
set_option autoImplicit false
open PySem PySem.Spec PyProof.Rows L2
variable [TheW]
section
variable {X : Cx} {pins : List (Addr × Obj)} {σ : L2.St} {H : Hp} {s : Shared} {a b : Addr} {kvs more : List (L2.Key × V)}
theorem d_update {E : Value → Shared → Prop} {Q : Value → Shared → Prop} (I : L2.Inv X pins σ H s) (e : H a = some (.dK kvs)) (e2 : H b = some (.dK more)) (hab : a ≠ b) (hz : kvs.length + more.length ≤ sizeLine)
    (h : ∀ s', L2.Inv X pins σ (upd H a (.dK (mergeK kvs more))) s' → Q .none s') : wpAny (model X.prog X.w) X.A (call (.builtin "dict.update") [.ref a, .ref b]) Q E s := by
  obtain ⟨z, hd, vs, rel, dd⟩ := dk_of I.hok e
  obtain ⟨z2, hd2, vs2, rel2, dd2⟩ := dk_of I.hok e2
  refine call_meetsIn PySem.F.slot_dict_update dd.typeIs PySem.F.entry_dict_update (PySem.F.args_dict_update_2 _ _) (meets_dict_update (mixKind X.prog X.w) a b hab hd2)
    ⟨vs, vs2, dd, dd2, by rw [← rel.length, ← rel2.length]; exact hz, fun h' dd' _ hs => h _ ?_⟩
  have he : ∃ q, h'.get? a = some q := let ⟨q, _, _, hq, _⟩ := dd'; ⟨q, hq⟩
  have hl : (mergeK kvs more).length ≤ sizeLine := by
    have h1 := length_mergeK more kvs
    omega
  exact d_write (t' := s.toks) I (by rw [e]; exact True.intro) hs he (dk_new hl hd (KV.merge rel2 rel) dd')
end
/-- d.update(e) -/
def tDUpd (td te : TE) : TE := fun σ H Q => td σ H fun x H1 => ∃ a, x = .ref a ∧ IsD H1 a ∧ te σ H1 fun y H2 => ∃ b kvs more, y = .ref b ∧ H2 a = some (.dK kvs) ∧ H2 b = some (.dK more) ∧ a ≠ b ∧ kvs.length + more.length ≤ sizeLine ∧ Q .non (upd H2 a (.dK (mergeK kvs more)))
theorem pe_dupd {X : Cx} {o e : Expr} {apos cpos : Pos} {td te : TE} (ho : PE X o td) (he : PE X e te) (m : M1 X o "update" apos e cpos) : PE X (.Call (.Attribute o "update" apos) [e] [] cpos) (tDUpd td te) := by
  refine ⟨fun pins s σ H Q I h => ?_⟩
  refine wpAny_Call_method m.base m.few m.line PySem.F.plainAttrs_dict PySem.F.slot_dict_update PySem.F.type_dict_update (thn (ho.run pins s σ H _ I h) fun u s1 ⟨x, H1, I1, rx, a, ex, d, q1⟩ => ?_)
  subst ex
  obtain rfl : u = Value.ref a := rx
  obtain ⟨t1, t2, _⟩ := isD_at I1 d
  refine ⟨t1, t2, ?_⟩
  rw [m.trees]
  refine Calls.callWith_builtin rfl (Calls.evalArgs_plain (Calls.spliced_cons (thn (he.run pins s1 σ H1 _ I1 q1) fun iv s2 ⟨y, H2, I2, ry, b, kvs, more, ey, ea, eb, hab, hz, q2⟩ => Calls.spliced_nil ?_)))
  subst ey
  obtain rfl : iv = Value.ref b := ry
  exact d_update I2 ea eb hab hz fun s3 I3 => ⟨.non, _, I3, rfl, q2⟩
end Ev

namespace Ev
set_option autoImplicit false
open PySem PySem.Spec PyProof.Rows L2
variable [TheW]
section
variable {C : Fn} {G : Nat → Option D} {g g' : Sg} {ds : List D} {a b c : E}
theorem evEs1 (h : evEs C G [a] g = some (ds, g')) : ∃ r d, evE C G a g = some (r, g') ∧ r.pure? = some d ∧ ds = [d] := by
  obtain ⟨r, g1, e1, h⟩ := bind2 (show (evE C G a g).bind _ = _ from h)
  obtain ⟨d, e2, h⟩ := bind1 h
  obtain ⟨⟨l, g2⟩, e3, e4⟩ := map1 h
  cases e3
  cases e4
  exact ⟨r, d, e1, e2, rfl⟩
theorem evEsC {es : List E} (h : evEs C G (a :: es) g = some (ds, g')) : ∃ r d g1 l, evE C G a g = some (r, g1) ∧ r.pure? = some d ∧ evEs C G es g1 = some (l, g') ∧ ds = d :: l := by
  obtain ⟨r, g1, e1, h⟩ := bind2 (show (evE C G a g).bind _ = _ from h)
  obtain ⟨d, e2, h⟩ := bind1 h
  obtain ⟨⟨l, g2⟩, e3, e4⟩ := map1 h
  cases e4
  exact ⟨r, d, g1, l, e1, e2, e3, rfl⟩
end
section
variable {X : Cx} {H : Hp} {B : Bs} {a : Addr} {ob : HO} {kvs : List (D × D)}
/-- a dict stands there -/
def DctIs (X : Cx) (H : Hp) (a : Addr) : Prop := ∀ (pins : List (Addr × Obj)) (σ : L2.St) (s : Shared), Inv X pins σ H s → s.TypeIs (.ref a) "dict" ∧ ∀ c, Value.ref a = .ref c → ∃ o, s.heap.get? c = some o ∧ o.dict = none
theorem do_is (hw : X.w = TheW.w) (e : H a = some ob) (h : DoV X.K H B kvs a ob) : DctIs X H a := fun pins σ s I => by
  rcases h with ⟨ks, rfl, _⟩ | ⟨xs, ep, rfl, h2⟩ | ⟨o, ks, rfl, h2⟩
  · obtain ⟨t1, t2, _⟩ := isD_at I (.inl ⟨ks, .inl e⟩)
    exact ⟨t1, t2⟩
  rotate_left
  · obtain ⟨t1, t2, _⟩ := isD_at I (.inl ⟨ks, .inr ⟨o, e⟩⟩)
    exact ⟨t1, t2⟩
  · obtain ⟨_, o, es, o1, o2, _⟩ := dn_raw I e
    exact ⟨⟨o, o1, o2.1⟩, fun c q => by cases q; exact ⟨o, o1, o2.2.1⟩⟩
def GetOr (X : Cx) (H : Hp) (a : Addr) (y z v : V) : Prop := ∀ (pins : List (Addr × Obj)) (σ : L2.St) (s : Shared) (u r : Value) (E : Value → Shared → Prop) (Q : Value → Shared → Prop), Inv X pins σ H s → RelV y u → RelV z r → (∀ w' s', Inv X pins σ H s' → RelV v w' → Q w' s') →
  wpAny (model X.prog X.w) X.A (call (.builtin "dict.get") [.ref a, u, r]) Q E s
theorem do_or (hu : X.A.units + 64 < cLine) (hw : X.w = TheW.w) {y d d' : D} {x z : V} (e : H a = some ob) (h : DoV X.K H B kvs a ob) (hx : RepV X.K H B y x) (hz : RepV X.K H B d z) (hg : dGetOr kvs y d = some d') : ∃ v, RepV X.K H B d' v ∧ GetOr X H a x z v := by
  cases y <;> simp only [dGetOr, reduceCtorEq] at hg
  · rename_i s
    split at hg
    · cases hg
    · rename_i hn
      cases hg
      cases (show x = .str s from hx)
      obtain ⟨ks, r0, e2, h2, h3⟩ := h.rd e (by simpa using hn)
      rw [h3]
      have go : ∀ o, valV ks (.inr s) = o → GetOr X H a (.str s) z (o.getD z) := fun o eo pins σ s' u r E Q I ry rz q =>
        d_get2 (o := o) (by omega) I (.inl ⟨ks, .inr s, e2, rfl, eo.symm⟩) ry rz q
      rcases ks_get (z := s) h2 with ⟨n1, n2⟩ | ⟨d1, w, n1, n2, n3⟩
      · rw [n1]
        exact ⟨z, hz, go none n2⟩
      · rw [n1]
        exact ⟨w, n3, go (some w) n2⟩
  · rename_i ks
    split at hg
    · split at hg
      · rename_i r hy
        cases hg
        obtain ⟨xs, ep, rfl, h2⟩ := h.n
        obtain ⟨kk, k1, k2⟩ := key_some hy
        have go : ∀ (w : V), (∀ r, RelV z r → RelV w (((atKey xs (.tup kk)).map (·.2)).getD r)) → GetOr X H a x z w := fun w hw' pins σ s' u r E Q I ry rz q => by
          obtain ⟨m1, m2, m3⟩ := dn_at hw I e h2
          have hk := nk_is I (.tuple ks) _ _ _ k1 hx ry
          cases hk with
          | tup g1 g2 g3 g4 =>
            refine getOr_keyed (knd := nestedKind X.prog X.w) (room_n hu) ⟨.tup g1 g2 g3 g4, k2⟩ m2 ⟨xs, m1, rfl⟩ ?_
            rw [valueAt_pairsH]
            exact q _ _ (I.tok _) (hw' r rz)
        rcases n1_val k1 h2 with ⟨n1, n2⟩ | ⟨d1, p, v, n1, n2, n3, n4⟩
        · rw [n1]
          refine ⟨z, hz, go z fun r rz => ?_⟩
          rw [n2]
          exact rz
        · rw [n1]
          refine ⟨v, n4, go v fun r rz => ?_⟩
          rw [n2]
          exact n3
      · cases hg
    · cases hg
def tGetOr (X : Cx) (td ty tx : TE) : TE := fun σ H Q => td σ H fun x H1 => ∃ a, x = .ref a ∧ DctIs X H1 a ∧ ty σ H1 fun y H2 => tx σ H2 fun z H3 => ∃ v, GetOr X H3 a y z v ∧ Q v H3
theorem pe_getOr {o e f : Expr} {apos cpos : Pos} {td ty tx : TE} (ho : PE X o td) (he : PE X e ty) (hf : PE X f tx) (m : M2 X o "get" apos e f cpos) : PE X (.Call (.Attribute o "get" apos) [e, f] [] cpos) (tGetOr X td ty tx) := by
  refine ⟨fun pins s σ H Q I h => ?_⟩
  refine wpAny_Call_method m.base m.few m.line PySem.F.plainAttrs_dict PySem.F.slot_dict_get PySem.F.type_dict_get (thn (ho.run pins s σ H _ I h) fun v0 s1 ⟨x, H1, I1, rx, p, ex, hd, q1⟩ => ?_)
  subst ex
  cases rx
  obtain ⟨d1, d2⟩ := hd pins σ s1 I1
  refine ⟨d1, d2, ?_⟩
  rw [m.trees]
  refine Calls.callWith_builtin rfl (Calls.evalArgs_plain (Calls.spliced_cons (thn (he.run pins s1 σ H1 _ I1 q1) fun u1 s2 ⟨y, H2, I2, ry, q2⟩ => ?_)))
  refine Calls.spliced_cons (thn (hf.run pins s2 σ H2 _ I2 q2) fun u2 s3 ⟨z, H3, I3, rz, w, hg, q3⟩ => Calls.spliced_nil ?_)
  exact hg pins σ s3 u1 u2 _ _ I3 ry rz fun w' s4 I4 rw' => ⟨w, H3, I4, rw', q3⟩
end
section
variable {X : Cx} {C : Fn} {G : Nat → Option D} {nm : Nms} {n : Nat} {st sc : Scope}
theorem RvR.dctAt {K : PySem.W.Frag} {σ : L2.St} {g g' : Sg} {H' : Hp} {B B' : Bs} {kvs : List (D × D)} {v : V} (h : RepV K H' B' (.dict kvs) v) : ∃ a o, v = .ref a ∧ H' a = some o ∧ DoV K H' B' kvs a o := by
  obtain ⟨a, o, e, hs, hr⟩ := h
  exact ⟨a, o, e, hs.1, hr⟩
theorem snd_get (ok : Ok X C G nm n st sc) {a k d : E} {y : Str} {z w : Expr} {q apos cpos : Pos} (hl : (apos.endLine == cpos.line) = true) (hz : chkE nm X.N sc k z = true) (hw : chkE nm X.N sc d w = true)
    (ha : PE X (.Name y q) (tE X.K C G a)) (hk : PE X z (tE X.K C G k)) (hd : PE X w (tE X.K C G d)) : PE X (.Call (.Attribute (.Name y q) "get" apos) [z, w] [] cpos) (tE X.K C G (.ext .get [a, k, d])) := by
  have un : X.A.units + 64 < cLine := by have := units ok; omega
  have s1 : starEach [z, w] X.env = (false, eval z X.env) :: starEach [w] X.env := noStar hz [w]
  have s2 : starEach [w] X.env = (false, eval w X.env) :: starEach [] X.env := noStar hw []
  have tr : backTo cpos (starEach [z, w] X.env) = [(false, eval z X.env), (false, eval w X.env)] := by rw [s1, s2]; rfl
  have fw : ((backTo cpos (starEach [z, w] X.env)).all (fun x => !x.1) && (backToKw cpos (keywordEach [] X.env)).all (fun x => x.1.isSome) && decide (([z, w] : List Expr).length + ([] : List Keyword).length + (if ([] : List Keyword).isEmpty then 0 else 1) < 30)) = true := by rw [tr]; rfl
  refine pe_imp (pe_getOr ha hk hd ⟨rfl, fw, hl, tr⟩) fun σ H Q hq => ?_
  obtain ⟨g, B, r, g', re, ev, q0⟩ := hq
  obtain ⟨ds, g1, e1, ev⟩ := bind2 (show (evEs C G [a, k, d] g).bind _ = _ from ev)
  obtain ⟨rv, e2, e3⟩ := map1 ev
  cases e3
  obtain ⟨ra, x1, ga, l1, p1, p2, p3, rfl⟩ := evEsC e1
  obtain ⟨rk, x2, gk, l2, p4, p5, p6, rfl⟩ := evEsC p3
  obtain ⟨rd, x3, p7, p8, rfl⟩ := evEs1 p6
  cases x1 <;> simp only [dX, reduceCtorEq] at e2
  rename_i kvs
  obtain ⟨d', e4, e5⟩ := map1 e2
  subst e5
  refine tE_of re p1 fun v H1 B1 s1 r1 => ?_
  obtain ⟨B1', s1', h1⟩ := r1.pure s1 p2
  obtain ⟨p, o, rfl, ho, hr⟩ := RvR.dctAt (σ := σ) (g := g) (g' := g1) (B := B) h1
  refine ⟨p, rfl, do_is ok.hw ho hr, ?_⟩
  refine tE_of s1'.re p4 fun v2 H2 B2 s2 r2 => ?_
  obtain ⟨B2', s2', h2⟩ := r2.pure s2 p5
  refine tE_of s2'.re p7 fun v3 H3 B3 s3 r3 => ?_
  obtain ⟨B3', s3', h3⟩ := r3.pure s3 p8
  have h1' := RepV.ext (s2'.trans s3').kp _ _ h1
  obtain ⟨p', o', e6, ho', hr'⟩ := RvR.dctAt (σ := σ) (g := g) (g' := g1) (B := B) h1'
  cases e6
  obtain ⟨w', hw1, hw2⟩ := do_or un ok.hw ho' hr' (RepV.ext s3'.kp _ _ h2) h3 e4
  exact ⟨w', hw2, q0 _ _ _ ((s1'.trans s2').trans s3') hw1⟩
theorem snd_split (ok : Ok X C G nm n st sc) {a b : E} {y z : Expr} {apos cpos : Pos} (hb : attributeBase y "split" X.env (eval y X.env) = eval y X.env) (hl : (apos.endLine == cpos.line) = true) (hz : chkE nm X.N sc b z = true)
    (ha : PE X y (tE X.K C G a)) (hk : PE X z (tE X.K C G b)) : PE X (.Call (.Attribute y "split" apos) [z] [] cpos) (tE X.K C G (.ext .split [a, b])) := by
  refine pe_imp (pe_split ha hk (noStar hz []) hb hl) fun σ H Q hq => ?_
  obtain ⟨g, B, r, g', re, ev, q0⟩ := hq
  obtain ⟨ds, g1, e1, ev⟩ := bind2 (show (evEs C G [a, b] g).bind _ = _ from ev)
  obtain ⟨rv, e2, e3⟩ := map1 ev
  cases e3
  obtain ⟨ra, x1, ga, l1, p1, p2, p3, rfl⟩ := evEsC e1
  obtain ⟨rd, x3, p7, p8, rfl⟩ := evEs1 p3
  obtain ⟨x, y, rfl, rfl⟩ : ∃ x y, x1 = PyData.str x ∧ x3 = PyData.str y := by
    cases x1 <;> cases x3 <;> first
      | exact ⟨_, _, rfl, rfl⟩
      | (cases e2; done)
  simp only [dX] at e2
  by_cases hc : y.length ≠ 0 ∧ x.length + 2 ≤ sizeLine
  rotate_left
  · rw [if_neg hc] at e2
    cases e2
  rw [if_pos hc] at e2
  cases e2
  refine tE_of re p1 fun v H1 B1 s1 r1 => ?_
  obtain ⟨B1', s1', h1⟩ := r1.pure s1 p2
  cases (show v = .str x from h1)
  refine ⟨⟨x, rfl⟩, ?_⟩
  refine tE_of s1'.re p7 fun v3 H3 B3 s3 r3 => ?_
  obtain ⟨B3', s3', h3⟩ := r3.pure s3 p8
  cases (show v3 = .str y from h3)
  refine ⟨x, y, rfl, rfl, by simpa using hc.1, hc.2, fun p hp => ?_⟩
  have S := (s1'.trans s3')
  have := S.newList (ds := (Txt.split x y).map .str) hp (strs_reps _)
  exact q0 _ _ _ this.1 this.2
theorem snd_starts (ok : Ok X C G nm n st sc) {a b : E} {y z : Expr} {apos cpos : Pos} (hb : attributeBase y "startswith" X.env (eval y X.env) = eval y X.env) (hl : (apos.endLine == cpos.line) = true) (hz : chkE nm X.N sc b z = true)
    (ha : PE X y (tE X.K C G a)) (hk : PE X z (tE X.K C G b)) : PE X (.Call (.Attribute y "startswith" apos) [z] [] cpos) (tE X.K C G (.ext .starts [a, b])) := by
  refine pe_imp (pe_m1 F.slot_str_startswith F.type_str_startswith mt_startswith ha hk (noStar hz []) hb hl) fun σ H Q hq => ?_
  obtain ⟨g, B, r, g', re, ev, q0⟩ := hq
  obtain ⟨ds, g1, e1, ev⟩ := bind2 (show (evEs C G [a, b] g).bind _ = _ from ev)
  obtain ⟨rv, e2, e3⟩ := map1 ev
  cases e3
  obtain ⟨ra, x1, ga, l1, p1, p2, p3, rfl⟩ := evEsC e1
  obtain ⟨rd, x3, p7, p8, rfl⟩ := evEs1 p3
  obtain ⟨x, y, rfl, rfl⟩ : ∃ x y, x1 = PyData.str x ∧ x3 = PyData.str y := by
    cases x1 <;> cases x3 <;> first
      | exact ⟨_, _, rfl, rfl⟩
      | (cases e2; done)
  simp only [dX] at e2
  cases e2
  refine tE_of re p1 fun v H1 B1 s1 r1 => ?_
  obtain ⟨B1', s1', h1⟩ := r1.pure s1 p2
  cases (show v = .str x from h1)
  refine ⟨⟨x, rfl⟩, ?_⟩
  refine tE_of s1'.re p7 fun v3 H3 B3 s3 r3 => ?_
  obtain ⟨B3', s3', h3⟩ := r3.pure s3 p8
  cases (show v3 = .str y from h3)
  exact ⟨x, y, rfl, rfl, q0 _ _ _ (s1'.trans s3') rfl⟩
theorem keyStrs_len : ∀ {ks : List Str} {keys : List (Option Expr)}, keyStrs ks keys = true → keys.length = ks.length
  | [], keys, h => by
    rw [List.isEmpty_iff.mp (show keys.isEmpty = true from h)]
    rfl
  | k :: ks, keys, h => by
    unfold keyStrs at h
    split at h
    · rw [List.length_cons, List.length_cons, keyStrs_len (Bool.and_eq_true_iff.mp h).2]
    · cases h
/-- the pairs' reading -/
def PrOk (X : Cx) (C : Fn) (G : Nat → Option D) (ks : List Str) (es : List E) (trs : List (TE × TE)) : Prop := ∀ {σ : L2.St} {H : Hp} {B : Bs} {g g' : Sg} {ds : List D} {Q : List (V × V) → Hp → Prop}, RE X.K H B σ g → evEs C G es g = some (ds, g') →
  (∀ H' B' vs, Stp X.K σ g H B σ g' H' B' → RepVs X.K H' B' ds vs → Q ((ks.zip vs).map fun q => (V.str q.1, q.2)) H') → tPairs trs σ H Q
theorem prs_repX {K : PySem.W.Frag} {H : Hp} {B : Bs} : ∀ {ks : List Str} {ds : List D} {vs : List V} {kvs : List (D × D)} {es : List (L2.Key × V)}, ks.length = ds.length → RepVs K H B ds vs → RepKs K H B kvs es → RepKs K H B (dMerge kvs (ks.zip ds)) (mergeK es ((ks.zip vs).map fun q => (Sum.inr q.1, q.2)))
  | [], [], vs, kvs, es, _, h, h2 => by
    cases (show vs = [] from h)
    exact h2
  | [], _ :: _, _, _, _, h, _, _ => by cases h
  | _ :: _, [], _, _, _, h, _, _ => by cases h
  | k :: ks, d :: ds, vs, kvs, es, hl, h, h2 => by
    obtain ⟨v, r, rfl, h3, h4⟩ := h
    exact prs_repX (ks := ks) (ds := ds) (vs := r) (by simpa using hl) h4 (ks_put (z := k) h2 h3)
theorem Stp.freeX {K : PySem.W.Frag} {σ : L2.St} {g g' : Sg} {H H' : Hp} {B B' : Bs} (s : Stp K σ g H B σ g' H' B') {p : Addr} {o o0 : HO} (hp : H' p = some o0) (Bp : B' p) (no : ¬ Own σ g' p) (ho : ownO o = true) (hH : H p = none) : Stp K σ g H B σ g' (upd H' p o) B' := by
  have re := s.re
  have kp : Keep H' B' (upd H' p o) B' := ⟨fun b u e nb => ⟨by rw [upd_ne (fun z => nb (by rw [z]; exact Bp))]; exact e, nb⟩, re.trk⟩
  refine ⟨⟨re.len, fun i d e => ?_, fun i m d e hm => ?_, re.dist, fun a ha => ?_⟩, s.trk, s.ownB, fun a u e nb => ?_, s.own, s.new, s.osub, fun a h => ?_, s.bfix⟩
  · obtain ⟨v, e1, hv⟩ := re.val i d e
    exact ⟨v, e1, RepV.ext kp d v hv⟩
  · obtain ⟨v, e1, hv⟩ := re.own i m d e hm
    refine ⟨v, e1, hv.ext kp fun b u eb eu => ?_⟩
    subst eb
    have nb : b ≠ p := fun z => no (by subst z; exact ⟨i, m, d, e, hm, e1⟩)
    exact ⟨by rw [upd_ne nb]; exact eu, re.ownB ⟨i, m, d, e, hm, e1⟩⟩
  · by_cases z : a = p
    · subst z
      exact ⟨o, upd_same, ho⟩
    · obtain ⟨u, e, w⟩ := re.trk a ha
      exact ⟨u, by rw [upd_ne z]; exact e, w⟩
  · rw [upd_ne (fun z => by rw [z, hH] at e; cases e)]
    exact s.keep a u e nb
  · by_cases z : a = p
    · subst z
      rw [upd_same]
      simp
    · rw [upd_ne z]
      exact s.grow a h
theorem snd_dis {ks : List Str} {es : List E} {keys : List (Option Expr)} {vals : List Expr} {pos : Pos} {trs : List (TE × TE)} (h3 : keyStrs ks keys = true) (pp : PPs X pos keys vals trs) (l1 : keys.length = vals.length) (l2 : keys.all (·.isSome) = true) (prs : PrOk X C G ks es trs) (hle : ks.length = es.length) :
    PE X (.Dict keys vals pos) (tE X.K C G (.ext (.dis ks) es)) := by
  by_cases hc : ks ≠ [] ∧ ks.length ≤ 15
  · have hk0 : keys ≠ [] := fun z => hc.1 (List.length_eq_zero_iff.mp (by rw [← keyStrs_len h3, z]; rfl))
    refine pe_imp (pe_disp pp l2 l1 hk0 (by rw [keyStrs_len h3]; exact hc.2)) fun σ H Q hq => ?_
    obtain ⟨g, B, r, g', re, ev, q⟩ := hq
    obtain ⟨ds, g2, e1, ev⟩ := bind2 (show (evEs C G es g).bind _ = _ from ev)
    obtain ⟨rv, e2, e3⟩ := map1 ev
    cases e3
    have hcond : ks.length = ds.length ∧ ds.length ≤ 15 ∧ ks ≠ [] := by
      by_cases z : ks.length = ds.length ∧ ds.length ≤ 15 ∧ ks ≠ []
      · exact z
      · simp only [dX, if_neg z] at e2
        cases e2
    simp only [dX, if_pos hcond] at e2
    cases e2
    intro p hp
    have nB : ¬ Own σ g p := fun z => by
      obtain ⟨u, e, _⟩ := re.trk p (re.ownB z)
      rw [hp] at e
      cases e
    have s0 := (Stp.refl re).allocNew (p := p) (o := .dK []) hp rfl
    refine prs s0.re e1 fun H2 B2 vs s1 rr => ?_
    have e5 : H2 p = some (.dK []) := s1.keep p _ upd_same nB
    have Bp : B2 p := s1.own p (.inr rfl) nB
    have no : ¬ Own σ g2 p := fun z => (s1.osub p z).elim nB fun q => by rw [upd_same] at q; cases q
    have sT := (s0.trans s1).freeX (o := .dK (mergeK [] ((ks.zip vs).map fun q => (Sum.inr q.1, q.2)))) e5 Bp no rfl hp
    have vl := rr.length
    refine ⟨e5, (ks.zip vs).map fun q => (Sum.inr q.1, q.2), by rw [List.map_map]; rfl, by rw [List.length_map, List.length_zip]; omega, ?_⟩
    have kp2 : Keep H2 B2 (upd H2 p (.dK (mergeK [] ((ks.zip vs).map fun q => (Sum.inr q.1, q.2))))) B2 := ⟨fun b u e nb => ⟨by rw [upd_ne (fun z => nb (by rw [z]; exact Bp))]; exact e, nb⟩, s1.re.trk⟩
    have rk := prs_repX (kvs := []) (es := []) hcond.1 (rr.ext kp2) rfl
    refine q _ _ _ sT ⟨⟨p, _, rfl, Bp, upd_same, .inl ⟨_, rfl, rk⟩⟩, fun a ea => ?_⟩
    cases ea
    refine ⟨no, fun b => ?_⟩
    obtain ⟨u, e, _⟩ := re.trk p b
    rw [hp] at e
    cases e
  · refine ⟨fun pins s σ H Q I hq => ?_⟩
    exfalso
    obtain ⟨g, B, r, g', re, ev, q⟩ := hq
    obtain ⟨ds, g2, e1, ev⟩ := bind2 (show (evEs C G es g).bind _ = _ from ev)
    obtain ⟨rv, e2, e3⟩ := map1 ev
    have hcond : ks.length = ds.length ∧ ds.length ≤ 15 ∧ ks ≠ [] := by
      by_cases z : ks.length = ds.length ∧ ds.length ≤ 15 ∧ ks ≠ []
      · exact z
      · simp only [dX, if_neg z] at e2
        cases e2
    exact hc ⟨hcond.2.2, by rw [hcond.1]; exact hcond.2.1⟩
end
end Ev

namespace Ev
set_option autoImplicit false
open PySem PySem.Spec PyProof.Rows L2
variable [TheW]
section
variable {X : Cx} {C : Fn} {G : Nat → Option D} {nm : Nms} {n : Nat} {st sc : Scope}
theorem snd_dis1 (ok : Ok X C G nm n st sc) {a b : E} {y z : Expr} {pos : Pos} (ha : PE X y (tE X.K C G a)) (hb : PE X z (tE X.K C G b)) : PE X (.Dict [some y] [z] pos) (tE X.K C G (.ext .dis1 [a, b])) := by
  have un : X.A.units + 64 < cLine := by have := units ok; omega
  refine ⟨fun pins s σ H Q I hq => ?_⟩
  obtain ⟨g, B, r, g', re, ev, q0⟩ := hq
  obtain ⟨ds, g1, e1, ev⟩ := bind2 (show (evEs C G [a, b] g).bind _ = _ from ev)
  obtain ⟨rv, e2, e3⟩ := map1 ev
  cases e3
  obtain ⟨ra, x1, ga, l1, p1, p2, p3, rfl⟩ := evEsC e1
  obtain ⟨rd, x3, p7, p8, rfl⟩ := evEs1 p3
  have e2' := e2
  simp only [dX] at e2'
  have hn := I.hok.fresh (Nat.le_refl s.heap.objs.size)
  have I1 := I.laid (a := s.heap.objs.size) (o := .dK []) (h' := s.heap.push { cls := .type "dict", data := .dict #[] }) (t' := s.toks) (fun _ _ q => Heap.get?_push_of_some _ q) (Nat.le_refl _) (dk_empty s.heap I.big)
  have nB : ¬ Own σ g s.heap.objs.size := fun z => by
    obtain ⟨u, e, _⟩ := re.trk _ (re.ownB z)
    rw [hn] at e
    cases e
  have s0 := (Stp.refl re).allocNew (p := s.heap.objs.size) (o := .dK []) hn rfl
  rw [arm_eval_Dict, zip_pairTrees [some y] [z] X.env pos rfl rfl, dictDisplay_pairs (pairTrees [some y] [z] X.env pos) (fun z => by cases z) (by show 1 < 17; decide)]
  refine wpAny_bind (wpAny_standAt (wpAny_bind (wpAny_subDictH (knd := nestedKind X.prog X.w) (Q := fun d s' => wpAny (model X.prog X.w) X.A (pure (Value.ref d)) (EP X pins σ Q) X.xe s') (by show X.A.units + 8 < cLine; omega) (by show 1 ≤ 15; decide) ?_)))
  refine pairTrees_cons_walk (thn (ha.run pins _ σ _ (fun v H1 => ∃ B1, Stp X.K σ g (upd H s.heap.objs.size (.dK [])) (plus B s.heap.objs.size) σ ga H1 B1 ∧ RepV X.K H1 B1 x1 v) I1 ?_) fun u s1 ⟨x, H1, I1', rx, B1, st1, hx⟩ => thn (hb.run pins s1 σ H1 (fun v H2 => ∃ B2, Stp X.K σ ga H1 B1 σ g1 H2 B2 ∧ RepV X.K H2 B2 x3 v) I1' ?_) fun w2 s2 ⟨y2, H2, I2, ry, B2, st2, hy⟩ => ?_)
  · refine tE_of s0.re p1 fun v H1 B1 s1 r1 => ?_
    obtain ⟨B1', s1', h1⟩ := r1.pure s1 p2
    exact ⟨B1', s1', h1⟩
  · refine tE_of st1.re p7 fun v H1 B1 s1 r1 => ?_
    obtain ⟨B1', s1', h1⟩ := r1.pure s1 p8
    exact ⟨B1', s1', h1⟩
  refine pairTrees_nil_walk ?_
  obtain ⟨ks, rfl⟩ : ∃ ks, x1 = PyData.tuple ks := by
    cases x1 <;> first
      | exact ⟨_, rfl⟩
      | (cases e2'; done)
  obtain ⟨kvs, e4, e5⟩ := map1 e2'
  subst e5
  have hk : keyN (.tuple ks) = true ∧ kvs = (.bool true, .none) :: nPut [] (.tuple ks) x3 := by
    unfold nSet at e4
    simp only at e4
    split at e4
    · cases e4
      exact ⟨‹_›, rfl⟩
    · cases e4
  obtain ⟨hk, rfl⟩ := hk
  obtain ⟨nk, k1, k2⟩ := key_some hk
  have sT := st1.trans st2
  have hx2 := RepV.ext st2.kp _ _ hx
  obtain ⟨q, xs, rfl, hN, hr⟩ := id hx2
  cases (show u = Value.ref q from rx)
  have hki := nk_is I2 (.tuple ks) _ _ _ k1 hx2 (rfl : RelV (V.ref q) (Value.ref q))
  have e7 : H2 s.heap.objs.size = some (.dK []) := sT.keep _ _ upd_same nB
  have Bp : B2 s.heap.objs.size := sT.own _ (.inr rfl) nB
  have no : ¬ Own σ g1 s.heap.objs.size := fun z => (sT.osub _ z).elim nB fun q => by rw [upd_same] at q; cases q
  obtain ⟨m1, m2⟩ := dk_nil I2 e7
  refine ⟨[(.tup nk, q, w2)], ⟨rfl, rfl, ⟨hki, k2⟩, trivial⟩, m1, fun h' tk hd' hs => wpAny_pure ?_⟩
  have hl' : (storedAllH [] [(NestedKey.tup nk, q, w2)]).length ≤ sizeLine := by
    refine Nat.le_trans (storedAllH_length _ []) ?_
    rw [sizeLine_eq]
    simp
  obtain ⟨ep', okd⟩ := dn_new (H' := upd H2 s.heap.objs.size (dN s.heap.objs.size (storedAllH [] [(NestedKey.tup nk, q, w2)]) 0)) ok.hw m2 hl' hd'
  have he : ∃ q, h'.get? s.heap.objs.size = some q := let ⟨q, _, _, hq, _⟩ := hd'; ⟨q, hq⟩
  have I3 := d_write (t' := tk) (ob := dN s.heap.objs.size (storedAllH [] [(NestedKey.tup nk, q, w2)]) ep') I2 (by rw [e7]; exact True.intro) hs he ⟨okd.1, okd.2.1, okd.2.2⟩
  have sF := (s0.trans sT).freeX (o := dN s.heap.objs.size (storedAllH [] [(NestedKey.tup nk, q, w2)]) ep') e7 Bp no rfl hn
  have kp2 : Keep H2 B2 (upd H2 s.heap.objs.size (dN s.heap.objs.size (storedAllH [] [(NestedKey.tup nk, q, w2)]) ep')) B2 := ⟨fun b u e nb => ⟨by rw [upd_ne (fun z => nb (by rw [z]; exact Bp))]; exact e, nb⟩, st2.re.trk⟩
  have rn : RepN1 X.K (upd H2 s.heap.objs.size (dN s.heap.objs.size (storedAllH [] [(NestedKey.tup nk, q, w2)]) ep')) B2 (nPut [] (.tuple ks) x3) (storedAllH [] [(NestedKey.tup nk, q, w2)]) :=
    n1_put k1 k2 (RepV.ext kp2 _ _ hx2) ry (RepV.ext kp2 _ _ hy) (kvs := []) (xs := []) rfl
  refine ⟨.ref s.heap.objs.size, _, I3, rfl, q0 _ _ _ sF ⟨⟨_, _, rfl, Bp, upd_same, .inr ⟨_, ep', rfl, rfl, rfl, rn⟩⟩, fun a ea => ?_⟩⟩
  cases ea
  refine ⟨no, fun b => ?_⟩
  obtain ⟨u, e, _⟩ := re.trk _ b
  rw [hn] at e
  cases e
end
end Ev

namespace Ev
set_option autoImplicit false
open PySem PySem.Spec PyProof.Rows L2
section
variable {P : Program} {w : World} {A : Around} {E : Value → Shared → Prop} {s : Shared}
/-- a new set -/
abbrev newS (w : World) : Obj := { cls := .type "set", dict := none, data := .set #[] 0 (.fresh 0 0 (!w.params.followText "set-order")) }
theorem set_ofList {l : Addr} {items : Array Value} (ns : List Int) {Q : Value → Shared → Prop} (hh : A.handled = none) (hl : s.heap.IsList l items) (hit : IntsAre items.toList ns) (hb : ns.length + 1 < scanBound)
    (h : ∀ (h' : Heap) (tk c : Nat), SetR w h' s.heap.objs.size (fun j => decide (j ∈ ns)) c → c ≤ ns.length → (∀ b o, s.heap.get? b = some o → h'.get? b = some o) → Q (.ref s.heap.objs.size) { s with heap := h', toks := tk }) :
    wpAny (model P w) A (call (.type "set") [.ref l]) Q E s := by
  have sz : items.size = ns.length := by
    have := IntsAre.length hit
    rwa [Array.length_toList] at this
  have hls : l < s.heap.objs.size := by
    obtain ⟨o, ho, _⟩ := id hl
    exact Heap.lt_size ho
  obtain ⟨c0, tl0, m0⟩ := F.called_set.mro
  have m1 := F.called_set.made
  have m2 := F.called_set.sub
  have m3 := F.called_set.notType
  have m4 := F.called_set.canCreate
  have m5 := F.typeCall_set_1 (.ref l)
  refine wpAny_call (codeAny_of_tree (show wpAny _ _ (callAny (.type "set") _) _ _ _ from wpAny_pure ⟨Code.quiet_builtin _ (by decide +kernel), codeAny_builtin F.entry_type_call ?_⟩))
  rw [Around.under_plain (weight_type_call_type "set" [.ref l] []) rfl]
  repeat (any_goals (first | wp_step | assumption))
  refine codeAny_mono (code_set_led1 (.ref l) (E := E) (Q₁ := fun obj s₁ => obj = .ref s.heap.objs.size ∧ s₁ = { s with heap := s.heap.push (newS w) }) ⟨rfl, rfl⟩) fun r1 t1 d1 => ?_
  rcases r1 with e1 | f1
  · exact d1
  cases f1 with
  | ret obj =>
    obtain ⟨rfl, rfl⟩ := d1
    have tS : Shared.TypeIs { s with heap := s.heap.push (newS w) } (.ref s.heap.objs.size) "set" := ⟨_, Heap.get?_push_size _ rfl, rfl⟩
    have i1 := F.called_set.init.lookup
    have i2 := F.called_set.init.bind (.ref s.heap.objs.size)
    repeat (any_goals (first | wp_step | assumption))
    refine codeAny_mono (codeAny_call_builtin (R := wants (fun r t => r = .none ∧ Q (.ref s.heap.objs.size) t) E) F.called_set.init.plain F.entry_set_init (check_set_init_1 tS ?_)) fun r2 t2 d2 => ?_
    · have hl1 : (s.heap.push (newS w)).IsList l items := hl.push _
      have gS : (s.heap.push (newS w)).get? s.heap.objs.size = some (newS w) := Heap.get?_push_size _ rfl
      obtain ⟨⟨oc, od, oa, os⟩, g1, g2, k, g3⟩ := id hl1
      simp only at g2 g3
      subst g2 g3
      have u1 := F.sub_list_set
      have u2 := F.sub_list_frozenset
      have u3 : (Value.type "list" == Value.type "dict") = false := by decide
      unfold Builtin.«set.__init__» noKeywords Builtin.Frozenset.updateFrom
      generalize hPI : pyIter = PI
      wp_walk
      subst hPI
      refine wpAny_pyIter_list hl1 (wpAny_bind (wpAny_runValue ?_))
      have n1 : (s.heap.push (newS w)).objs.size = s.heap.objs.size + 1 := Heap.size_push ..
      have f1 : l ≠ (s.heap.push (newS w)).objs.size := Nat.ne_of_lt (by rw [n1]; exact Nat.lt_succ_of_lt hls)
      have f2 : s.heap.objs.size ∉ [(s.heap.push (newS w)).objs.size, l] := by
        intro z
        simp only [List.mem_cons, List.not_mem_nil, or_false] at z
        rcases z with z | z
        · rw [n1] at z
          exact absurd z (Nat.ne_of_lt (Nat.lt_succ_self _))
        · exact absurd z (Nat.ne_of_gt hls)
      have at_ : ∀ (i : Nat) (v : Value), items[i]? = some v → ∃ k t, ns[i]? = some k ∧ v = .int k t := fun i v e => by
        have lt : i < ns.length := by
          have := (Array.getElem?_eq_some_iff.mp e).1
          omega
        obtain ⟨t, e2⟩ := IntsAre.int_at hit i v (by rw [Array.getElem?_toList]; exact e)
        exact ⟨ns[i], t, List.getElem?_eq_getElem lt, by rw [e2, List.getD_eq_getElem?_getD, List.getElem?_eq_getElem lt]; rfl⟩
      refine set_update_ints ((Walks.list (by simp [hh]) _ l f1 items).toS) s.heap.objs.size f2 ns sz hb at_ (items.size - 0) 0 _ (by omega) (Nat.zero_le _) ⟨⟨_, Heap.get?_push_size _ rfl, rfl, rfl⟩, hl1.push _⟩ ⟨0, Nat.le_refl 0, setR_new_at (Heap.get?_push_of_some _ gS)⟩ fun s' c' hm hc' hS' => ?_
      obtain ⟨h', g', d', tk', os'⟩ := s'
      have e1 : g' = s.gens := hm.gens
      have e2 : d' = s.drawn := hm.drawn
      have e3 : os' = s.os := hm.os
      subst e1 e2 e3
      rw [sz] at hc'
      show wpAny _ _ (pure ()) _ _ _
      refine wpAny_pure ?_
      show wpAny _ _ (ret Value.none) _ _ _
      refine wpAny_pure ⟨rfl, h h' tk' c' hS' hc' fun b o e => ?_⟩
      have lb : b < s.heap.objs.size := Heap.lt_size e
      refine hm.heap b o (fun z => ?_) (Heap.get?_push_of_some _ (Heap.get?_push_of_some _ e))
      simp only [List.mem_cons, List.not_mem_nil, or_false] at z
      rcases z with z | z
      · exact absurd z (Nat.ne_of_lt lb)
      · rw [n1] at z
        exact absurd z (Nat.ne_of_lt (Nat.lt_succ_of_lt lb))
    · rcases r2 with e2 | f2
      · exact d2
      cases f2 with
      | ret v =>
        obtain ⟨rfl, hq⟩ := d2
        repeat (any_goals (first | wp_step | assumption))
      | _ => exact d2.elim
  | _ => exact d1.elim
end
end Ev

namespace Ev
set_option autoImplicit false
open PySem PySem.Spec PyProof.Rows L2
theorem insI_mem {x k : Int} : ∀ {l : List Int}, k ∈ insI x l ↔ k = x ∨ k ∈ l
  | [] => by simp [insI]
  | y :: r => by
    unfold insI
    split
    · simp
    · split
      · rename_i h
        subst h
        simp
      · rw [List.mem_cons, insI_mem (l := r), List.mem_cons]
        constructor
        · rintro (h | h | h)
          · exact .inr (.inl h)
          · exact .inl h
          · exact .inr (.inr h)
        · rintro (h | h | h)
          · exact .inr (.inl h)
          · exact .inl h
          · exact .inr (.inr h)
theorem sstI_mem {k : Int} : ∀ {l : List Int}, k ∈ sstI l ↔ k ∈ l
  | [] => Iff.rfl
  | x :: r => by
    show k ∈ insI x (sstI r) ↔ _
    rw [insI_mem, sstI_mem (l := r), List.mem_cons]
theorem insI_rise {x : Int} : ∀ {l : List Int}, l.Pairwise (· < ·) → (insI x l).Pairwise (· < ·)
  | [], _ => by simp [insI]
  | y :: r, h => by
    obtain ⟨h1, h2⟩ := List.pairwise_cons.mp h
    unfold insI
    split
    · rename_i hx
      refine List.pairwise_cons.mpr ⟨fun z hz => ?_, h⟩
      rcases List.mem_cons.mp hz with rfl | hz
      · exact hx
      · exact Int.lt_trans hx (h1 z hz)
    · split
      · exact h
      · refine List.pairwise_cons.mpr ⟨fun z hz => ?_, insI_rise h2⟩
        rcases insI_mem.mp hz with rfl | hz
        · omega
        · exact h1 z hz
theorem sstI_rise : ∀ {l : List Int}, (sstI l).Pairwise (· < ·)
  | [] => List.Pairwise.nil
  | x :: r => insI_rise (sstI_rise (l := r))
theorem rise_one : ∀ {l m : List Int}, l.Pairwise (· < ·) → m.Pairwise (· < ·) → (∀ k, k ∈ l ↔ k ∈ m) → l = m
  | [], [], _, _, _ => rfl
  | [], y :: m, _, _, h => absurd ((h y).mpr List.mem_cons_self) List.not_mem_nil
  | x :: l, [], _, _, h => absurd ((h x).mp List.mem_cons_self) List.not_mem_nil
  | x :: l, y :: m, hl, hm, h => by
    obtain ⟨l1, l2⟩ := List.pairwise_cons.mp hl
    obtain ⟨m1, m2⟩ := List.pairwise_cons.mp hm
    have e : x = y := by
      rcases List.mem_cons.mp ((h x).mp List.mem_cons_self) with e | e
      · exact e
      · rcases List.mem_cons.mp ((h y).mpr List.mem_cons_self) with e2 | e2
        · exact e2.symm
        · have := m1 x e
          have := l1 y e2
          omega
    subst e
    rw [rise_one l2 m2 fun k => ⟨fun hk => by
      rcases List.mem_cons.mp ((h k).mp (List.mem_cons_of_mem _ hk)) with e | e
      · have := l1 k hk
        omega
      · exact e, fun hk => by
      rcases List.mem_cons.mp ((h k).mpr (List.mem_cons_of_mem _ hk)) with e | e
      · have := m1 k hk
        omega
      · exact e⟩]
theorem repsI [TheW] {K : PySem.W.Frag} {H : Hp} {B : Bs} : ∀ ns : List Int, RepVs K H B (ns.map PyData.int) (ns.map V.int)
  | [] => rfl
  | k :: r => ⟨.int k, r.map V.int, rfl, rfl, repsI r⟩
end Ev

namespace Ev
set_option autoImplicit false
open PySem PySem.Spec PyProof.Rows L2
def keyT (e : Int × Value) : Str := match e.2 with | .str k _ => k | _ => Str.ofString ""
def GoodT (w : World) (e : Int × Value) : Prop := ∃ k tk, e.2 = Value.str k tk ∧ e.1 = hashStr w k
/-- a set of texts at a -/
def SetT (w : World) (h : Heap) (a : Addr) (S : Str → Bool) (n : Nat) : Prop :=
  ∃ o es ep t, h.get? a = some o ∧ o.ExactSet ∧ o.data = .set es ep t ∧ (∀ e ∈ es.toList, GoodT w e) ∧ (es.toList.map keyT).Nodup ∧ (∀ k, S k = true ↔ k ∈ es.toList.map keyT) ∧
    es.size < scanBound ∧ t.fits es.size = true ∧ es.size = n ∧ Ris t.place.toList ∧ (w.params.followText "set-order" = true ∨ t.led = true)
section
variable {P : Program} {w : World} {h h' : Heap} {a : Addr} {S : Str → Bool} {n : Nat}
theorem SetT.at (R : SetT w h a S n) (k : ∀ o, h.get? a = some o → h'.get? a = some o) : SetT w h' a S n := by
  obtain ⟨o, es, ep, t, ho, r⟩ := R
  exact ⟨o, es, ep, t, k o ho, r⟩
theorem SetT.congr {S' : Str → Bool} (R : SetT w h a S n) (e : ∀ k, S' k = S k) : SetT w h a S' n := by
  have q : S' = S := funext e
  rw [q]; exact R
theorem goodT_elems {l : List (Int × Value)} (g : ∀ e ∈ l, GoodT w e) : ElemsOf (PySem.strKind P w) l := fun e he => by
  obtain ⟨k, tk, h1, h2⟩ := g e he
  exact ⟨⟨k, by rw [h1]; exact strKind_is P w k tk, h2⟩, by rw [h1] <;> rfl⟩
theorem goodT_is {e : Int × Value} (g : GoodT w e) (k : Str) : (PySem.strKind P w).is k e.2 = true ↔ keyT e = k := by
  obtain ⟨k0, tk, h1, _⟩ := g
  unfold keyT
  rw [h1]
  constructor
  · intro z
    obtain ⟨t, z⟩ := Value.isStrOf_shape (show Value.isStrOf k (Value.str k0 tk) = true from z)
    injection z
  · rintro rfl
    exact strKind_is P w k0 tk
theorem goodT_mem {l : List (Int × Value)} (g : ∀ e ∈ l, GoodT w e) (k : Str) : k ∈ l.map keyT ↔ ∃ e ∈ l, (PySem.strKind P w).is k e.2 = true := by
  rw [List.mem_map]
  constructor
  · rintro ⟨e, he, q⟩
    exact ⟨e, he, (goodT_is (g e he) k).2 q⟩
  · rintro ⟨e, he, q⟩
    exact ⟨e, he, (goodT_is (g e he) k).1 q⟩
end
section
variable {P : Program} {w : World} {A : Around} {E : Value → Shared → Prop} {s : Shared} {a : Addr} {S : Str → Bool} {n : Nat}
theorem setT_add_tail {g : Bool → Sem Unit} (hg : ∀ (b : Bool) (s₁ : Shared) (Q' : Unit → Shared → Prop), Q' () s₁ → wpAny (model P w) A (g b) Q' E s₁)
    {o : Obj} {es : Array (Int × Value)} {ep : Nat} {t : SetTable} (ho : s.heap.get? a = some o) (hex : o.ExactSet) (hd : o.data = .set es ep t)
    {es1 : Array (Int × Value)} {t2 : SetTable} {S' : Str → Bool} (g1 : ∀ e ∈ es1.toList, GoodT w e) (nd1 : (es1.toList.map keyT).Nodup) (m1 : ∀ k, S' k = true ↔ k ∈ es1.toList.map keyT)
    (hb1 : es1.size < scanBound) (hf2 : t2.fits es1.size = true) (hr : Ris t2.place.toList) (hl : w.params.followText "set-order" = true ∨ t2.led = true) {wasDummy : Bool} {R : Option Bool → Shared → Prop}
    (hR : ∀ h', Heap.SameBut a s.heap h' → SetT w h' a S' es1.size → R (some true) { s with heap := h' }) :
    wpAny (model P w) A (do
        storeSet a es1 t2
        if (!wasDummy && t2.tooFull) = true then do
            g (relayAll t2 es1 (SetTable.grown es1.size)).2.2
            storeSet a (relayAll t2 es1 (SetTable.grown es1.size)).1 (relayAll t2 es1 (SetTable.grown es1.size)).2.1
            pure (some true)
          else pure (some true)) R E s := by
  refine wpAny_bind (wpAny_storeSet_of ho hd ?_ (fits_of_scanBound hb1))
  have ho1 := store_at (es' := es1) (t' := t2) ho hd
  have sb1 := Heap.SameBut.update s.heap a (Obj.putSet es1 t2)
  split
  · have pm := relayAll_perm t2 es1 (SetTable.grown es1.size)
    have hf3 := relayAll_fits t2 es1 (SetTable.grown es1.size)
    have hr3 := relayAll_ris t2 es1 (SetTable.grown es1.size)
    have hl3 := relayAll_led t2 es1 (SetTable.grown es1.size)
    generalize relayAll t2 es1 (SetTable.grown es1.size) = Z at pm hf3 hr3 hl3 ⊢
    obtain ⟨es2, t3, gave⟩ := Z
    dsimp only at pm hf3 hr3 hl3 ⊢
    have hsz : es2.size = es1.size := by rw [← Array.length_toList, pm.length_eq, Array.length_toList]
    have hb2 : es2.size < scanBound := by rw [hsz]; exact hb1
    refine wpAny_bind (hg _ _ _ ?_)
    refine wpAny_bind (wpAny_storeSet_of ho1 rfl ?_ (fits_of_scanBound hb2))
    have ho2 := store_at (es' := es2) (t' := t3) ho1 rfl
    refine wpAny_pure (hR _ (sb1.trans (Heap.SameBut.update _ a _)) ?_)
    exact ⟨_, es2, _, t3, ho2, hex, rfl, fun e he => g1 e (pm.mem_iff.mp he), (pm.map keyT).nodup_iff.mpr nd1, fun k => (m1 k).trans (pm.map keyT).mem_iff.symm, hb2, hf3, hsz, hr3,
      hl.imp id fun z => by rw [hl3]; exact z⟩
  · exact wpAny_pure (hR _ sb1 ⟨_, es1, _, t2, ho1, hex, rfl, g1, nd1, m1, hb1, hf2, rfl, hr, hl⟩)
theorem setT_add_hashed {k : Str} {tk : Tok} {Q : Bool → Shared → Prop} (R : SetT w s.heap a S n) (room : n + 1 < scanBound)
    (hQ : ∀ h', Heap.SameBut a s.heap h' → SetT w h' a (fun j => S j || decide (j = k)) (if S k = true then n else n + 1) → Q (!S k) { s with heap := h' }) :
    wpAny (model P w) A (setAddHashed a (.str k tk) ((PySem.strKind P w).hash k)) Q E s := by
  obtain ⟨o, es, ep, t, ho, hex, hd, g, nd, hm, hb, hf, hn, hr, hl⟩ := R
  have hkey : (PySem.strKind P w).is k (.str k tk) = true := strKind_is P w k tk
  have hsc : (Value.str k tk).scannable = true := rfl
  have hel : ElemsOf (PySem.strKind P w) es.toList := goodT_elems g
  unfold setAddHashed setAddHashedIn
  refine wpAny_holding (wpAny_bind (wpAny_setState_of ho hd hf ?_))
  dsimp only
  rw [byScan_of hsc hb hel]
  simp only [↓reduceIte]
  unfold setAddByScan
  refine wpAny_bind ?_
  refine wpAny_bind (wpAny_rule ?_)
  refine wpAny_bind (wpAny_setScan_of hkey ho hd hf hel ?_)
  cases hfi : List.findIdx? (fun e => (PySem.strKind P w).is k e.2) es.toList with
  | some j =>
    dsimp only
    obtain ⟨hj, pj, _⟩ := List.findIdx?_eq_some_iff_getElem.mp hfi
    have hSk : S k = true := (hm k).2 ((goodT_mem (P := P) (w := w) g k).2 ⟨es.toList[j], List.getElem_mem hj, pj⟩)
    refine wpAny_pure (wpAny_pure ?_)
    have q := hQ s.heap (Heap.SameBut.refl a s.heap) ⟨o, es, ep, t, ho, hex, hd, g, nd, fun i => by
      rw [Bool.or_eq_true, decide_eq_true_eq, ← hm i]
      exact ⟨fun z => z.elim id (fun e => e ▸ hSk), .inl⟩, hb, hf, by rw [if_pos hSk]; exact hn, hr, hl⟩
    rw [hSk] at q
    exact q
  | none =>
    dsimp only
    have hnk : k ∉ es.toList.map keyT := fun z => by
      obtain ⟨e, he, q⟩ := (goodT_mem (P := P) (w := w) g k).1 z
      have c := List.findIdx?_eq_none_iff.mp hfi e he
      rw [q] at c
      cases c
    have hSk : S k = false := by
      cases q : S k with
      | false => rfl
      | true => exact absurd ((hm k).1 q) hnk
    have hgw : ∀ (b : Bool) {s₁ : Shared} {Q' : Unit → Shared → Prop}, Q' () s₁ → wpAny (model P w) A (match b with | true => rule "set.scan.the-table-gave-way" | false => pure ()) Q' E s₁ :=
      fun b s₁ Q' q => by cases b <;> first | exact wpAny_pure q | exact wpAny_rule q
    have pm := layNew_perm t es ((PySem.strKind P w).hash k) (.str k tk)
    have hf1 := layNew_fits t es ((PySem.strKind P w).hash k) (.str k tk)
    have hr1 := layNew_ris t es ((PySem.strKind P w).hash k) (.str k tk) hr
    have hl1 := layNew_led t es ((PySem.strKind P w).hash k) (.str k tk)
    generalize layNew t es ((PySem.strKind P w).hash k) (.str k tk) = Z at pm hf1 hr1 hl1 ⊢
    obtain ⟨es1, t1, wasDummy, gave⟩ := Z
    dsimp only at pm hf1 hr1 hl1 ⊢
    rw [Array.toList_push] at pm
    have pc : es1.toList.Perm (((PySem.strKind P w).hash k, Value.str k tk) :: es.toList) := pm.trans (List.perm_append_singleton _ _)
    have pk : (es1.toList.map keyT).Perm (k :: es.toList.map keyT) := pc.map keyT
    have g1 : ∀ e ∈ es1.toList, GoodT w e := fun e he => by
      rcases List.mem_cons.mp (pc.mem_iff.mp he) with z | z
      · rw [z]; exact ⟨k, tk, rfl, rfl⟩
      · exact g e z
    have nd1 : (es1.toList.map keyT).Nodup := pk.nodup_iff.mpr (List.nodup_cons.mpr ⟨hnk, nd⟩)
    have m1 : ∀ i, (S i || decide (i = k)) = true ↔ i ∈ es1.toList.map keyT := fun i => by
      rw [Bool.or_eq_true, decide_eq_true_eq, hm i, pk.mem_iff, List.mem_cons]
      exact Or.comm
    have hsz : es1.size = n + 1 := by rw [← Array.length_toList, pc.length_eq, List.length_cons, Array.length_toList, hn]
    have hb1 : es1.size < scanBound := by rw [hsz]; exact room
    have hled : w.params.followText "set-order" = true ∨ t1.led = true := hl.imp id fun z => by rw [hl1]; exact z
    have fin : ∀ h', Heap.SameBut a s.heap h' → SetT w h' a (fun j => S j || decide (j = k)) es1.size → Q true { s with heap := h' } := fun h' sb r => by
      have q := hQ h' sb
      rw [hSk] at q
      rw [hsz] at r
      exact q r
    refine wpAny_bind (hgw _ ?_)
    split
    · refine wpAny_bind ?_
      rw [hashByValue_scannable 8 hsc]
      refine wpAny_pure ?_
      refine setT_add_tail ?_ ho hex hd g1 nd1 m1 hb1 ?_ ?_ ?_ ?_
      · intro b s₁ Q' q; cases b <;> first | exact wpAny_pure q | exact wpAny_rule q
      · first | (split <;> first | exact hf1 | exact SetTable.fits_plain_off hf1) | exact hf1
      · first | (split <;> exact hr1) | exact hr1
      · first | (split <;> exact hled) | exact hled
      · intro h' sb r; dsimp only; exact wpAny_pure (fin h' sb r)
    · refine wpAny_bind (wpAny_pure ?_)
      simp only [↓reduceIte]
      refine setT_add_tail ?_ ho hex hd g1 nd1 m1 hb1 hf1 hr1 hled ?_
      · intro b s₁ Q' q; cases b <;> first | exact wpAny_pure q | exact wpAny_rule q
      · intro h' sb r; dsimp only; exact wpAny_pure (fin h' sb r)
theorem setT_new_at {h : Heap} {ns : List Str} (ho : h.get? a = some (newS w)) : SetT w h a (fun j => decide (j ∈ ns.take 0)) 0 :=
  ⟨_, #[], 0, _, ho, ⟨rfl, rfl, rfl⟩, rfl, (fun e he => by simp at he), (by simp), (fun k => by simp), (by decide), (by rfl), rfl, List.Pairwise.nil, by
    show _ ∨ (!w.params.followText "set-order") = true
    cases w.params.followText "set-order"
    · exact .inr rfl
    · exact .inl rfl⟩
theorem set_update_strs {I : Addr} {fp wr : List Addr} {G : Array GenState → Array GenState → Prop} {n : Nat} {Pv : Nat → Value → Prop} {St : Nat → Shared → Prop} {R : Result → Shared → Prop}
    (W : WalksS P w A.in1 I fp wr G n Pv St) (S : Addr) (hSf : S ∉ fp) (ns : List Str) (hn : n = ns.length) (hb : ns.length + 1 < scanBound) (hval : ∀ i v, Pv i v → ∃ k t, ns[i]? = some k ∧ v = .str k t) :
    ∀ (k i : Nat) (s : Shared), n - i = k → i ≤ n → St i s → (∃ c, c ≤ i ∧ SetT w s.heap S (fun j => decide (j ∈ ns.take i)) c) →
      (∀ s' c, Moved (S :: wr) G s s' → c ≤ n → SetT w s'.heap S (fun j => decide (j ∈ ns)) c → R (.ok (.ret .none)) s') →
      codeAny (model P w) A (.builtin "set.update.loop" ⟨[.ref S, .ref I], []⟩) R s := by
  have hSw : S ∉ wr := fun h => hSf (W.sub _ h)
  have hsub : ∀ b ∈ wr, b ∈ S :: wr := fun b hb => List.mem_cons_of_mem _ hb
  intro k
  induction k with
  | zero =>
    intro i s hk' hi hst ⟨c, hc, hS⟩ hR
    have hin : i = n := by omega
    subst hin
    refine codeAny_builtin F.entry_set_update_loop ?_
    rw [Around.under_plainId F.plain_set_update_loop _]
    show wpAny _ A.in1 (pyNext (.ref I) >>= _) _ _ s
    refine wpAny_bind (W.done s _ _ hst fun s' hm => ?_)
    show wpAny _ A.in1 (ret Value.none) _ _ s'
    have e : ns.take i = ns := List.take_of_length_le (by omega)
    rw [e] at hS
    exact wpAny_pure (hR s' c (hm.mono hsub) hc (hS.at fun o e => hm.heap S o hSw e))
  | succ k ih =>
    intro i s hk' hi hst ⟨c, hc, hS⟩ hR
    have hlt : i < n := by omega
    refine codeAny_builtin F.entry_set_update_loop ?_
    rw [Around.under_plainId F.plain_set_update_loop _]
    show wpAny _ A.in1 (pyNext (.ref I) >>= _) _ _ s
    refine wpAny_bind (W.item i s _ _ hlt hst fun v s' hP hst' hm => ?_)
    obtain ⟨z, t, hz, rfl⟩ := hval i v hP
    have hS' : SetT w s'.heap S (fun j => decide (j ∈ ns.take i)) c := hS.at fun o e => hm.heap S o hSw e
    show wpAny _ A.in1 (holding [Value.str z t] (setAdd S (.str z t)) >>= _) _ _ s'
    refine wpAny_bind (wpAny_holding ?_)
    unfold setAdd
    refine wpAny_holding ?_
    refine wpAny_bind ((PySem.strKind P w).pyHash (k := z) (strKind_is _ _ _ _) ?_)
    refine setT_add_hashed (s := { s' with toks := s'.toks + 1 }) hS' (by omega) fun h' hsb hS2 => ?_
    have hS3 : SetT w h' S (fun j => decide (j ∈ ns.take (i + 1))) (if decide (z ∈ ns.take i) = true then c else c + 1) := hS2.congr fun j => by
      rw [List.take_add_one, hz]
      simp [List.mem_append]
    have hc3 : (if decide (z ∈ ns.take i) = true then c else c + 1) ≤ i + 1 := by
      split <;> omega
    refine wpAny_pure ⟨plainId_quiet F.plain_set_update_loop _, ih (i + 1) _ (by omega) hlt (W.frame _ s' _ _ hst' (Nat.le_succ _) fun b hb o e => ?_) ⟨_, hc3, hS3⟩ fun s'' c2 hm'' hc'' hS'' => ?_⟩
    · rw [hsb.2 b (fun h : b = S => hSf (by rw [← h]; exact hb))]; exact e
    · refine hR s'' c2 (Moved.trans W.gtrans ((hm.mono hsub).then_heap (Nat.le_succ _) fun b o hb e => ?_) hm'') hc'' hS''
      rw [hsb.2 b (fun h : b = S => hb (by rw [h]; exact List.mem_cons_self))]; exact e
theorem set_ofTexts {l : Addr} {items : Array Value} (ns : List Str) {Q : Value → Shared → Prop} (hh : A.handled = none) (hl : s.heap.IsList l items) (hit : StrsAre items.toList ns) (hb : ns.length + 1 < scanBound)
    (h : ∀ (h' : Heap) (tk c : Nat), SetT w h' s.heap.objs.size (fun j => decide (j ∈ ns)) c → c ≤ ns.length → (∀ b o, s.heap.get? b = some o → h'.get? b = some o) → Q (.ref s.heap.objs.size) { s with heap := h', toks := tk }) :
    wpAny (model P w) A (call (.type "set") [.ref l]) Q E s := by
  have sz : items.size = ns.length := by
    have := hit.length
    rwa [Array.length_toList] at this
  have hls : l < s.heap.objs.size := by
    obtain ⟨o, ho, _⟩ := id hl
    exact Heap.lt_size ho
  obtain ⟨c0, tl0, m0⟩ := F.called_set.mro
  have m1 := F.called_set.made
  have m2 := F.called_set.sub
  have m3 := F.called_set.notType
  have m4 := F.called_set.canCreate
  have m5 := F.typeCall_set_1 (.ref l)
  refine wpAny_call (codeAny_of_tree (show wpAny _ _ (callAny (.type "set") _) _ _ _ from wpAny_pure ⟨Code.quiet_builtin _ (by decide +kernel), codeAny_builtin F.entry_type_call ?_⟩))
  rw [Around.under_plain (weight_type_call_type "set" [.ref l] []) rfl]
  repeat (any_goals (first | wp_step | assumption))
  refine codeAny_mono (code_set_led1 (.ref l) (E := E) (Q₁ := fun obj s₁ => obj = .ref s.heap.objs.size ∧ s₁ = { s with heap := s.heap.push (newS w) }) ⟨rfl, rfl⟩) fun r1 t1 d1 => ?_
  rcases r1 with e1 | f1
  · exact d1
  cases f1 with
  | ret obj =>
    obtain ⟨rfl, rfl⟩ := d1
    have tS : Shared.TypeIs { s with heap := s.heap.push (newS w) } (.ref s.heap.objs.size) "set" := ⟨_, Heap.get?_push_size _ rfl, rfl⟩
    have i1 := F.called_set.init.lookup
    have i2 := F.called_set.init.bind (.ref s.heap.objs.size)
    repeat (any_goals (first | wp_step | assumption))
    refine codeAny_mono (codeAny_call_builtin (R := wants (fun r t => r = .none ∧ Q (.ref s.heap.objs.size) t) E) F.called_set.init.plain F.entry_set_init (check_set_init_1 tS ?_)) fun r2 t2 d2 => ?_
    · have hl1 : (s.heap.push (newS w)).IsList l items := hl.push _
      have gS : (s.heap.push (newS w)).get? s.heap.objs.size = some (newS w) := Heap.get?_push_size _ rfl
      obtain ⟨⟨oc, od, oa, os⟩, g1, g2, k, g3⟩ := id hl1
      simp only at g2 g3
      subst g2 g3
      have u1 := F.sub_list_set
      have u2 := F.sub_list_frozenset
      have u3 : (Value.type "list" == Value.type "dict") = false := by decide
      unfold Builtin.«set.__init__» noKeywords Builtin.Frozenset.updateFrom
      generalize hPI : pyIter = PI
      wp_walk
      subst hPI
      refine wpAny_pyIter_list hl1 (wpAny_bind (wpAny_runValue ?_))
      have n1 : (s.heap.push (newS w)).objs.size = s.heap.objs.size + 1 := Heap.size_push ..
      have f1 : l ≠ (s.heap.push (newS w)).objs.size := Nat.ne_of_lt (by rw [n1]; exact Nat.lt_succ_of_lt hls)
      have f2 : s.heap.objs.size ∉ [(s.heap.push (newS w)).objs.size, l] := by
        intro z
        simp only [List.mem_cons, List.not_mem_nil, or_false] at z
        rcases z with z | z
        · rw [n1] at z
          exact absurd z (Nat.ne_of_lt (Nat.lt_succ_self _))
        · exact absurd z (Nat.ne_of_gt hls)
      have at_ : ∀ (i : Nat) (v : Value), items[i]? = some v → ∃ k t, ns[i]? = some k ∧ v = .str k t := fun i v e => by
        have lt : i < ns.length := by
          have := (Array.getElem?_eq_some_iff.mp e).1
          omega
        obtain ⟨t, e2⟩ := StrsAre.get hit i _ (List.getElem?_eq_getElem lt)
        rw [Array.getElem?_toList, e] at e2
        exact ⟨_, t, List.getElem?_eq_getElem lt, Option.some.inj e2⟩
      refine set_update_strs ((Walks.list (by simp [hh]) _ l f1 items).toS) s.heap.objs.size f2 ns sz hb at_ (items.size - 0) 0 _ (by omega) (Nat.zero_le _) ⟨⟨_, Heap.get?_push_size _ rfl, rfl, rfl⟩, hl1.push _⟩ ⟨0, Nat.le_refl 0, setT_new_at (Heap.get?_push_of_some _ gS)⟩ fun s' c' hm hc' hS' => ?_
      obtain ⟨h', g', d', tk', os'⟩ := s'
      have e1 : g' = s.gens := hm.gens
      have e2 : d' = s.drawn := hm.drawn
      have e3 : os' = s.os := hm.os
      subst e1 e2 e3
      rw [sz] at hc'
      show wpAny _ _ (pure ()) _ _ _
      refine wpAny_pure ?_
      show wpAny _ _ (ret Value.none) _ _ _
      refine wpAny_pure ⟨rfl, h h' tk' c' hS' hc' fun b o e => ?_⟩
      have lb : b < s.heap.objs.size := Heap.lt_size e
      refine hm.heap b o (fun z => ?_) (Heap.get?_push_of_some _ (Heap.get?_push_of_some _ e))
      simp only [List.mem_cons, List.not_mem_nil, or_false] at z
      rcases z with z | z
      · exact absurd z (Nat.ne_of_lt lb)
      · rw [n1] at z
        exact absurd z (Nat.ne_of_lt (Nat.lt_succ_of_lt lb))
    · rcases r2 with e2 | f2
      · exact d2
      cases f2 with
      | ret v =>
        obtain ⟨rfl, hq⟩ := d2
        repeat (any_goals (first | wp_step | assumption))
      | _ => exact d2.elim
  | _ => exact d1.elim
theorem strs_val {l : List Value} (h : ∀ v ∈ l, ∃ k tk, v = Value.str k tk) : ∃ ks, StrsAre l ks ∧ ks = l.map (fun v => keyT (0, v)) := by
  induction l with
  | nil => exact ⟨[], .nil, rfl⟩
  | cons v r ih =>
    obtain ⟨ks, h1, h2⟩ := ih fun u hu => h u (List.mem_cons_of_mem _ hu)
    obtain ⟨k, tk, rfl⟩ := h v List.mem_cons_self
    exact ⟨k :: ks, .cons k tk h1, by rw [h2, List.map_cons]; rfl⟩
theorem sorted_setT {Q : Value → Shared → Prop} (R : SetT w s.heap a S n) (hh : A.handled = none) (h64 : n < 64)
    (hQ : ∀ s' p (out : Array Value) (c : Nat) (ns : List Str), (∀ b o, s.heap.get? b = some o → s'.heap.get? b = some o) → s'.gens = s.gens → s'.os = s.os → s.heap.objs.size ≤ p →
      s'.heap.get? p = some (seqObj "list" out c) → StrsAre out.toList ns → sortedS ns = true → ns.Nodup → (∀ k, k ∈ ns ↔ S k = true) → ns.length = n → Q (.ref p) s') :
    wpAny (model P w) A (call (.builtin "sorted") [.ref a]) Q E s := by
  obtain ⟨o, es, ep, t, ho, hex, hd, g, nd, hm, hb, hf, hn, hr, hl⟩ := R
  refine Calls.call_function_entry kind_sorted plain_sorted entry_sorted (args_sorted1 _) ?_
  unfold Builtin.«sorted»
  refine wpAny_bind (m := checkCount "sorted" 1 1 _) (wpAny_pure ?_)
  refine wpAny_bind (collect_set (A := A.in1) hh ⟨o, ho, hex.1, hd⟩ hf hb hr hl fun s1 vs k1 hz g1 o1 pm => ?_)
  have hvl : vs.length = n := by rw [pm.length_eq, List.length_map, Array.length_toList]; exact hn
  obtain ⟨ks, hI, ek⟩ := strs_val (l := vs) fun v hv => by
    obtain ⟨e, he, q⟩ := List.mem_map.mp (pm.mem_iff.mp hv)
    obtain ⟨k, tk, h1, _⟩ := g e he
    exact ⟨k, tk, by rw [← q]; exact h1⟩
  have pk : ks.Perm (es.toList.map keyT) := by
    rw [ek]
    have q := pm.map (fun v => keyT (0, v))
    rw [List.map_map] at q
    exact q
  refine wpAny_bind (wpAny_newList ?_ (by rw [hvl, sizeLine_eq]; omega))
  have hoL : (s1.heap.push (seqObj "list" vs.toArray 0)).get? s1.heap.objs.size = some (seqObj "list" vs.toArray 0) := Heap.get?_push_size _ rfl
  refine wpAny_bind (wpAny_holding (wpAny_call_entry slot_list_sort ⟨_, hoL, rfl⟩ entry_list_sort (list_sort_treeK strKind_oneLt hoL hI.keysOf (fun v₁ v₂ rest e => keyKind_strs (by rw [← e]; exact hI)) (by rw [hvl]; exact h64) fun st' hp hs => ⟨_, rfl, ?_⟩) (args_list_sort _)))
  obtain ⟨ns', a1, a2, a3⟩ := sorted_out_str hI hp hs
  obtain ⟨c, hc⟩ := sortedHeap_at (vs := vs) (out := (arrOf st').map (·.2)) hoL
  have pn : ns'.Perm (es.toList.map keyT) := a2.trans pk
  refine wpAny_pure ⟨_, rfl, hQ _ s1.heap.objs.size _ c ns' (fun b u e => ?_) g1 o1 hz hc a1 a3 (pn.nodup_iff.mpr nd) (fun k => by rw [pn.mem_iff, ← hm k]) ?_⟩
  · have q := k1 b u e
    have hlt := Heap.lt_size q
    show (sortedHeap (s1.heap.push (seqObj "list" vs.toArray 0)) s1.heap.objs.size vs _).get? b = some u
    rw [sortedHeap_old (Nat.ne_of_lt hlt) (by rw [size_push']; exact Nat.lt_succ_of_lt hlt)]
    exact Heap.get?_push_of_some _ q
  · rw [pn.length_eq, List.length_map, Array.length_toList]; exact hn
end
end Ev

namespace Ev
set_option autoImplicit false
open PySem PySem.Spec PyProof.Rows L2
/-- the set of texts at a -/
def SetTO (w : World) (a : Addr) (S : Str → Bool) (n : Nat) : HO := .ext fun h => SetT w h a S n
theorem setTO_new {w : World} {P : Program} {H : Hp} {h : Heap} {a : Addr} {S : Str → Bool} {n : Nat} (R : SetT w h a S n) : ObjOk P w H h a (SetTO w a S n) := by
  have ⟨o, _, _, _, ho, _⟩ := R
  exact ⟨R, ⟨o, ho⟩, fun h1 h2 p k => SetT.at p k⟩
theorem mem_ded {k : Str} : ∀ {l : List Str}, k ∈ dedS l ↔ k ∈ l
  | [] => Iff.rfl
  | x :: r => by
    unfold dedS
    split
    · rename_i h
      rw [mem_ded (l := r), List.mem_cons]
      exact ⟨.inr, fun z => z.elim (fun e => e ▸ h) id⟩
    · rw [List.mem_cons, List.mem_cons, mem_ded (l := r)]
theorem nodup_ded : ∀ {l : List Str}, (dedS l).Nodup
  | [] => List.nodup_nil
  | x :: r => by
    unfold dedS
    split
    · exact nodup_ded (l := r)
    · rename_i h
      exact List.nodup_cons.mpr ⟨fun z => h (mem_ded.mp z), nodup_ded (l := r)⟩
theorem ded_perm {l m : List Str} (hd : m.Nodup) (h : ∀ k, k ∈ m ↔ k ∈ l) : m.Perm (dedS l) :=
  (List.perm_ext_iff_of_nodup hd nodup_ded).mpr fun k => by rw [h k, mem_ded]
theorem SetT.card {w : World} {h : Heap} {a : Addr} {ns : List Str} {n : Nat} (R : SetT w h a (fun j => decide (j ∈ ns)) n) : n = (dedS ns).length := by
  obtain ⟨o, es, ep, t, ho, hex, hd, g, nd, hm, hb, hf, hn, hr, hl⟩ := R
  have := (ded_perm (l := ns) nd fun k => (hm k).symm.trans decide_eq_true_iff).length_eq
  rw [List.length_map, Array.length_toList] at this
  omega
section
variable {X : Cx}
theorem setTO_get {pins : List (Addr × Obj)} {σ : L2.St} {H : Hp} {s : Shared} {a : Addr} {S : Str → Bool} {n : Nat} (I : Inv X pins σ H s) (ha : H a = some (SetTO X.w a S n)) : SetT X.w s.heap a S n := (I.hok a _ ha).1
def rSortedSetT (w : World) : List V → Hp → VK → Prop := fun vs H Q => ∃ (a : Addr) (S : Str → Bool) (n : Nat), vs = [V.ref a] ∧ H a = some (SetTO w a S n) ∧ n < 64 ∧
  ∀ (ns : List Str) (p : Addr), sortedS ns = true → ns.Nodup → (∀ k : Str, k ∈ ns ↔ S k = true) → ns.length = n → H p = none → Q (.ref p) (upd H p (.lst (ns.map V.str)))
theorem cr_sortedSetT (hc : X.calm = true) : CallR X (.builtin "sorted") (rSortedSetT X.w) := by
  intro pins s σ H vs us Q I r h
  obtain ⟨a, S, n, rfl, ha, h64, q⟩ := h
  have R := setTO_get I ha
  rw [Vals.ref1 r]
  refine sorted_setT R (I.ok.hd hc) h64 fun s' p out c ns k g o hp hg hi hs hd hm hl => ?_
  have hlen : (ns.map V.str).length ≤ sizeLine := by rw [List.length_map, hl, sizeLine_eq]; omega
  have hn : H p = none := I.hok.fresh hp
  have J : Inv X pins σ (upd H p (.lst (ns.map V.str))) { s with heap := s'.heap, gens := s'.gens, drawn := s'.drawn, toks := s'.toks } :=
    I.call (ch := []) (Un.laid k hp hn) (I.hok.laid k hp ⟨hlen, out.toList, c, vals_of_strs hi, hg⟩) (by rw [g]; exact I.bare) (fun _ z => nomatch z)
  have e : s' = { s with heap := s'.heap, gens := s'.gens, drawn := s'.drawn, toks := s'.toks } := by
    cases s'
    cases s
    cases o
    rfl
  rw [e]
  exact ⟨.ref p, _, J, rfl, q ns p hs hd hm hl hn⟩
def tSst2 (K : PySem.W.Frag) (w : World) (ta : TE) : TE := fun σ H Q => ta σ H fun x H1 =>
  (∃ (l : Addr) (ns : List Int), x = .ref l ∧ SqL K H1 l (ns.map V.int) ∧ ns.length < 64 ∧
    ∀ (N p : Addr) (c : Nat) (ms : List Int), H1 N = none → upd H1 N (SetO w N (fun j => decide (j ∈ ns)) c) p = none → ms.Pairwise (· < ·) → (∀ k, k ∈ ms ↔ k ∈ ns) → Q (.ref p) (upd (upd H1 N (SetO w N (fun j => decide (j ∈ ns)) c)) p (.lst (ms.map V.int)))) ∨
  (∃ (l : Addr) (ns : List Str), x = .ref l ∧ SqL K H1 l (ns.map V.str) ∧ (ns.length ≤ 1000 ∧ (dedS ns).length < 64) ∧
    ∀ (N p : Addr) (c : Nat) (ms : List Str), H1 N = none → upd H1 N (SetTO w N (fun j => decide (j ∈ ns)) c) p = none → sortedS ms = true → ms.Nodup → (∀ k, k ∈ ms ↔ k ∈ ns) → Q (.ref p) (upd (upd H1 N (SetTO w N (fun j => decide (j ∈ ns)) c)) p (.lst (ms.map V.str))))
theorem pe_sst2 {a : Expr} {ta : TE} {p p2 q pos : Pos} (hc : X.calm = true) (hg : Gl X "sorted") (hm : X.mg "sorted" = none) (hg2 : Gl X "set") (hm2 : X.mg "set" = none) (ha : PE X a ta) (na : starEach [a] X.env = (false, eval a X.env) :: starEach [] X.env) :
    PE X (.Call (.Name "sorted" p) [.Call (.Name "set" p2) [a] [] q] [] pos) (tSst2 X.K X.w ta) := by
  refine ⟨fun pins s σ H Q I h => ?_⟩
  refine Call_ (ld_blt I hg hm boot_sorted ?_)
  refine PyProof.Rows.callWith_builtin1 (PyProof.Rows.args_cons ?_ rfl) rfl rfl
  refine Call_ (ld_blt I hg2 hm2 boot_set ?_)
  have lim : (1000 : Nat) + 1 < scanBound := by decide +kernel
  refine PyProof.Rows.callWith_type1 (PyProof.Rows.args_cons (thn (ha.run pins s σ H _ I h) fun v s1 ⟨x, H1, I1, r1, q1⟩ => PyProof.Rows.args_nil ?_) na) na rfl
  rcases q1 with ⟨l, ns, rfl, hq, hl, q1⟩ | ⟨l, ns, rfl, hq, hl, q1⟩
  · cases r1
    obtain ⟨its, r, pl, hz⟩ := I1.list hq
    have hi : IntsAre its ns := Vals.ints r
    refine set_ofList ns (I1.ok.hd hc) pl.isList (by simpa using hi) (by omega) fun h' tk c hS hcl hk => ?_
    refine PyProof.Rows.args_nil ?_
    have hN : H1 s1.heap.objs.size = none := I1.hok.fresh (Nat.le_refl _)
    have I2 : Inv X pins σ (upd H1 s1.heap.objs.size (SetO X.w s1.heap.objs.size (fun j => decide (j ∈ ns)) c)) { s1 with heap := h', toks := tk } := I1.laid (t' := tk) hk (Nat.le_refl _) (setO_new hS)
    refine cr_sortedSet hc pins _ σ _ [V.ref s1.heap.objs.size] _ _ I2 (.cons rfl .nil) ⟨s1.heap.objs.size, _, c, rfl, upd_same, by omega, fun ms p hs hmm hln hp => ?_⟩
    exact q1 _ _ _ _ hN hp hs fun k => by rw [hmm k]; exact decide_eq_true_iff
  · cases r1
    obtain ⟨its, r, pl, hz⟩ := I1.list hq
    have hi : StrsAre its ns := Vals.strs r
    obtain ⟨hl, hl2⟩ := hl
    refine set_ofTexts ns (I1.ok.hd hc) pl.isList (by simpa using hi) (by omega) fun h' tk c hS hcl hk => ?_
    have hcd := hS.card
    refine PyProof.Rows.args_nil ?_
    have hN : H1 s1.heap.objs.size = none := I1.hok.fresh (Nat.le_refl _)
    have I2 : Inv X pins σ (upd H1 s1.heap.objs.size (SetTO X.w s1.heap.objs.size (fun j => decide (j ∈ ns)) c)) { s1 with heap := h', toks := tk } := I1.laid (t' := tk) hk (Nat.le_refl _) (setTO_new hS)
    refine cr_sortedSetT hc pins _ σ _ [V.ref s1.heap.objs.size] _ _ I2 (.cons rfl .nil) ⟨s1.heap.objs.size, _, c, rfl, upd_same, by omega, fun ms p hs hd hmm hln hp => ?_⟩
    exact q1 _ _ _ _ hN hp hs hd fun k => by rw [hmm k]; exact decide_eq_true_iff
end
theorem repsS [TheW] {K : PySem.W.Frag} {H : Hp} {B : Bs} : ∀ ns : List Str, RepVs K H B (ns.map PyData.str) (ns.map V.str)
  | [] => rfl
  | k :: r => ⟨.str k, r.map V.str, rfl, rfl, repsS r⟩
section
variable {X : Cx} {C : Fn} {G : Nat → Option D} {nm : Nms} {n : Nat} {st sc : Scope}
theorem snd_sst2 [TheW] (ok : Ok X C G nm n st sc) {a : E} {y : Expr} {p p2 q pos : Pos} (hg : glB sc "sorted" = true) (hg2 : glB sc "set" = true) (hy : chkE nm X.N sc a y = true) (ha : PE X y (tE X.K C G a)) :
    PE X (.Call (.Name "sorted" p) [.Call (.Name "set" p2) [y] [] q] [] pos) (tE X.K C G (.ext .sst [a])) := by
  refine pe_imp (pe_sst2 ok.calm (gl_of ok hg) (ok.blt "sorted" (by decide)) (gl_of ok hg2) (ok.blt "set" (by decide)) ha (noStar hy [])) fun σ H Q hq => ?_
  obtain ⟨g, B, r, g', re, ev, q0⟩ := hq
  obtain ⟨ds, g1, e1, ev⟩ := bind2 (show (evEs C G [a] g).bind _ = _ from ev)
  obtain ⟨rv, e2, e3⟩ := map1 ev
  cases e3
  obtain ⟨rd, x, p7, p8, rfl⟩ := evEs1 e1
  obtain ⟨xs, rfl⟩ : ∃ xs, x = PyData.list xs := by
    cases x <;> first
      | exact ⟨_, rfl⟩
      | (cases e2; done)
  refine tE_of re p7 fun v H1 B1 s1 r1 => ?_
  obtain ⟨B1', s1', h1⟩ := r1.pure s1 p8
  obtain ⟨l, vs, rfl, hs, hv⟩ := h1
  replace e2 : (match ints? xs with
    | some is => if is.length < 64 then some (Rv.new (.list ((sstI is).map .int))) else none
    | none => (strs? xs).bind fun ss => if ss.length ≤ 1000 ∧ (dedS ss).length < 64 then some (Rv.new (.list ((sortS (dedS ss)).map .str))) else none) = some _ := e2
  cases e4 : ints? xs with
  | some is =>
    rw [e4] at e2
    replace e2 : (if is.length < 64 then some (Rv.new (.list ((sstI is).map .int))) else none) = some _ := e2
    split at e2
    rotate_left
    · cases e2
    rename_i hlt
    cases e2
    have ev' := ints_map xs hv e4
    subst ev'
    refine .inl ⟨l, is, rfl, hs.sql, hlt, fun N p c ms hN hp hr hm => ?_⟩
    have em : ms = sstI is := rise_one hr sstI_rise fun k => by rw [hm k, sstI_mem]
    subst em
    have S := s1'.alloc (p := N) (o := SetO X.w N (fun j => decide (j ∈ is)) c) hN
    have := S.newList (ds := (sstI is).map .int) hp (repsI _)
    exact q0 _ _ _ this.1 this.2
  | none =>
    rw [e4] at e2
    obtain ⟨is, e4, e5⟩ := bind1 (show (strs? xs).bind _ = some _ from e2)
    split at e5
    rotate_left
    · cases e5
    rename_i hlt
    cases e5
    obtain ⟨ev', -⟩ := strs_map xs hv e4
    subst ev'
    refine .inr ⟨l, is, rfl, hs.sql, hlt, fun N p c ms hN hp hr hd hm => ?_⟩
    have em : ms = sortS (dedS is) := sort_uniq (ded_perm hd hm) hr
    subst em
    have S := s1'.alloc (p := N) (o := SetTO X.w N (fun j => decide (j ∈ is)) c) hN
    have := S.newList (ds := (sortS (dedS is)).map .str) hp (repsS _)
    exact q0 _ _ _ this.1 this.2
end
end Ev

namespace Ev
set_option autoImplicit false
open PySem PySem.Spec PyProof.Rows L2
variable [TheW]
/-- each n-th of any list -/
def pickN {α : Type} (n : Nat) (xs : List α) : List α := (List.range ((xs.length + n - 1) / n)).filterMap fun k => xs[k * n]?
omit [TheW] in
theorem pickN_one {α : Type} (xs : List α) : pickN 1 xs = xs := by
  unfold pickN
  have gen : ∀ l : List α, (List.range l.length).filterMap (fun k => l[k]?) = l := by
    intro l
    induction l with
    | nil => rfl
    | cons x r ih =>
      rw [List.length_cons, List.range_succ_eq_map, List.filterMap_cons]
      simp only [List.getElem?_cons_zero, List.filterMap_map]
      congr 1
  have := gen xs
  simpa using this
omit [TheW] in
theorem vals_fm {xs : List V} {us : List Value} (h : Vals xs us) : ∀ (ks : List Nat) (f : Nat → Nat), Vals (ks.filterMap fun k => xs[f k]?) (ks.filterMap fun k => us[f k]?)
  | [], _ => .nil
  | k :: ks, f => by
    have ih := vals_fm h ks f
    have hl := h.length
    rw [List.filterMap_cons, List.filterMap_cons]
    cases e : xs[f k]? with
    | none =>
      have : us[f k]? = none := by
        rw [List.getElem?_eq_none_iff] at e ⊢
        omega
      rw [this]
      exact ih
    | some v =>
      have hlt : f k < xs.length := (List.getElem?_eq_some_iff.mp e).1
      obtain ⟨u, e2, r⟩ : ∃ u, us[f k]? = some u ∧ RelV v u := by
        have gen : ∀ {xs : List V} {us : List Value} {i : Nat} {v : V}, Vals xs us → xs[i]? = some v → ∃ u, us[i]? = some u ∧ RelV v u := by
          intro xs us i v h
          induction h generalizing i with
          | nil => intro z; simp at z
          | cons r t ih =>
            intro z
            cases i with
            | zero =>
              simp only [List.getElem?_cons_zero, Option.some.injEq] at z
              subst z
              exact ⟨_, rfl, r⟩
            | succ i =>
              simp only [List.getElem?_cons_succ] at z ⊢
              exact ih z
        exact gen h e
      rw [e2]
      exact .cons r ih
theorem vals_pick {xs : List V} {us : List Value} (h : Vals xs us) (n : Nat) : Vals (pickN n xs) (pickN n us) := by
  unfold pickN
  rw [h.length]
  exact vals_fm h _ _
omit [TheW] in
theorem pick_len {α : Type} (n : Nat) (xs : List α) (hn : 1 ≤ n) : (pickN n xs).length ≤ xs.length := by
  unfold pickN
  refine Nat.le_trans (List.length_filterMap_le ..) ?_
  rw [List.length_range]
  rcases Nat.lt_or_ge 0 xs.length with h | h
  · refine Nat.le_trans (Nat.div_le_div_right (c := n) (b := xs.length * n) ?_) (by rw [Nat.mul_div_cancel _ (by omega)]; exact Nat.le_refl _)
    have : (xs.length - 1) * (n - 1) ≥ 0 := Nat.zero_le _
    obtain ⟨a, ha⟩ : ∃ a, xs.length = a + 1 := ⟨xs.length - 1, by omega⟩
    obtain ⟨b, hb⟩ : ∃ b, n = b + 1 := ⟨n - 1, by omega⟩
    rw [ha, hb, Nat.add_mul, Nat.mul_add]
    have : 0 ≤ a * b := Nat.zero_le _
    omega
  · have : xs.length = 0 := by omega
    rw [this, Nat.zero_add, Nat.div_eq_of_lt (by omega)]
    exact Nat.zero_le _
section
variable {prog : Program} {w : World} {A : Around} {E : Value → Shared → Prop} {s : Shared}
/-- what x[::j] tells of a value's items -/
def stepV {α : Type} (xs : List α) (j : Int) : List α := if j = -1 then xs.reverse else pickN j.toNat xs
omit [TheW] in
theorem count_eq (n : Nat) {j : Int} (h : 1 ≤ j) : (((n : Int) + j - 1) / j).toNat = (n + j.toNat - 1) / j.toNat := by
  obtain ⟨m, rfl⟩ : ∃ m : Nat, j = (m : Int) := ⟨j.toNat, by omega⟩
  have hm : 1 ≤ m := by omega
  rw [show ((n : Int) + (m : Int) - 1) = ((n + m - 1 : Nat) : Int) by omega, ← Int.natCast_ediv]
  exact Int.toNat_natCast _
theorem slice_pos (items : Array Value) {j : Int} (h : 1 ≤ j) : (sliceRange 0 (items.size : Int) j).filterMap (items[·]?) = pickN j.toNat items.toList := by
  unfold sliceRange pickN
  simp only []
  rw [if_pos (by omega)]
  by_cases h0 : (0 : Int) < (items.size : Int)
  · rw [if_pos h0, List.filterMap_map, Array.length_toList]
    rw [show ((items.size : Int) - 0 + j - 1) = (items.size : Int) + j - 1 by omega, count_eq _ h]
    refine fm_congr _ fun k _ => ?_
    simp only [Function.comp]
    rw [show ((0 : Int) + j * (k : Int)).toNat = k * j.toNat by
      rw [Int.zero_add, Int.mul_comm]
      obtain ⟨m, rfl⟩ : ∃ m : Nat, j = (m : Int) := ⟨j.toNat, by omega⟩
      rw [show ((k : Int) * (m : Int)) = ((k * m : Nat) : Int) from (Int.natCast_mul k m).symm, Int.toNat_natCast, Int.toNat_natCast], Array.getElem?_toList]
  · rw [if_neg h0]
    have hz : items.size = 0 := by omega
    rw [Array.length_toList, hz]
    rw [show (0 + j.toNat - 1) / j.toNat = 0 from Nat.div_eq_of_lt (by omega)]
    rfl
theorem slice_any (items : Array Value) {j : Int} (h : j = -1 ∨ 1 ≤ j) : slicePick items none none (some j) = (stepV items.toList j).toArray := by
  rcases h with rfl | h
  · rw [PySem.W.krv_pick]
    rfl
  · unfold slicePick stepV
    rw [if_neg (by omega)]
    have e : sliceBounds none none (some j) items.size = (0, (items.size : Int), j) := by
      unfold sliceBounds
      simp only [Option.getD_some]
      rw [if_pos (by omega), if_pos (by omega)]
    rw [e]
    show ((sliceRange 0 (items.size : Int) j).filterMap (items[·]?)).toArray = _
    rw [slice_pos items h]
theorem places_pos (n : Nat) {j : Int} (h : 1 ≤ j) : Builtin.Slice.slicePlaces 0 (n : Int) j = (n + j.toNat - 1) / j.toNat := by
  unfold Builtin.Slice.slicePlaces
  rw [if_pos (by omega)]
  by_cases h0 : (0 : Int) < (n : Int)
  · rw [if_pos h0]
    rw [show ((n : Int) - 0 - 1) / j + 1 = ((n : Int) + j - 1) / j by
      rw [show (n : Int) + j - 1 = ((n : Int) - 0 - 1) + 1 * j by omega, Int.add_mul_ediv_right _ _ (by omega)]]
    exact count_eq n h
  · rw [if_neg h0]
    have hz : n = 0 := by omega
    subst hz
    rw [Nat.zero_add, Nat.div_eq_of_lt (by omega)]
    rfl
theorem stepApplied {sl : Addr} {vs : Value} {n : Nat} {j : Int} {Q : Int × Int × Nat → Shared → Prop} (hs : s.heap.IsSliceOf sl .none .none vs) (ps : IsPart vs (some j)) (hj : 1 ≤ j) (h : Q (0, j, (n + j.toNat - 1) / j.toNat) s) :
    wpAny (model prog w) A (Builtin.Slice.sliceApplied (.ref sl) (pure (n : Int))) Q E s := by
  obtain ⟨os, hos, hcs, hds⟩ := id hs
  unfold Builtin.Slice.sliceApplied Builtin.Slice.sliceFields
  refine wpAny_bind (wpAny_bind (wpAny_field hos hds (x := .none) rfl (wpAny_bind (wpAny_field hos hds (x := .none) rfl (wpAny_bind (wpAny_field hos hds (x := vs) rfl (wpAny_pure ?_)))))))
  refine wpAny_bind (HT.slicePart_ ps ?_)
  show wpAny _ _ (if (j == 0) = true then _ else _) _ _ s
  rw [if_neg (by simp; omega)]
  refine wpAny_bind (HT.slicePart_ .none (wpAny_bind (HT.slicePart_ .none (wpAny_bind (wpAny_pure ?_)))))
  show wpAny _ _ (match Builtin.Slice.sliceAdjust none none j (n : Int) with | (lo, hi) => pure (lo, j, Builtin.Slice.slicePlaces lo hi j)) _ _ s
  have e : Builtin.Slice.sliceAdjust none none j (n : Int) = (0, (n : Int)) := by
    unfold Builtin.Slice.sliceAdjust
    simp only [if_neg (show ¬ j < 0 by omega)]
  rw [e]
  show wpAny _ _ (pure ((0 : Int), j, Builtin.Slice.slicePlaces 0 (n : Int) j)) _ _ s
  rw [places_pos n hj]
  exact wpAny_pure h
theorem pick_tup (xs : Array Value) {j : Int} (h : 1 ≤ j) : ((List.range ((xs.size + j.toNat - 1) / j.toNat)).filterMap fun (k : Nat) => xs[((0 : Int) + (k : Int) * j).toNat]?) = pickN j.toNat xs.toList := by
  unfold pickN
  rw [Array.length_toList]
  refine fm_congr _ fun k _ => ?_
  rw [show ((0 : Int) + (k : Int) * j).toNat = k * j.toNat by
    rw [Int.zero_add]
    obtain ⟨m, rfl⟩ : ∃ m : Nat, j = (m : Int) := ⟨j.toNat, by omega⟩
    rw [show ((k : Int) * (m : Int)) = ((k * m : Nat) : Int) from (Int.natCast_mul k m).symm, Int.toNat_natCast, Int.toNat_natCast], Array.getElem?_toList]
theorem getItem_tuple_step {t sl : Addr} {items : Array Value} {vs : Value} {j : Int} {Q : Value → Shared → Prop} (ht : IsTup s.heap t items) (hs : s.heap.IsSliceOf sl .none .none vs) (ps : IsPart vs (some j)) (hj : 1 ≤ j) (hz : items.size ≤ sizeLine)
    (h1 : j = 1 → Q (.ref t) s)
    (h : j ≠ 1 → Q (.ref s.heap.objs.size) { s with heap := s.heap.push { cls := .type "tuple", data := .seq (pickN j.toNat items.toList).toArray } }) : wpAny (model prog w) A (getItem (.ref t) (.ref sl)) Q E s := by
  have hd : sizeOk (.seq (pickN j.toNat items.toList).toArray) := by
    show (pickN j.toNat items.toList).toArray.size ≤ sizeLine
    have := pick_len j.toNat items.toList (by omega)
    have h2 : items.toList.length = items.size := Array.length_toList
    rw [List.size_toArray]
    omega
  obtain ⟨os, hos, hcs, hds⟩ := id hs
  have hTs : s.TypeIs (.ref sl) "slice" := ⟨os, hos, hcs⟩
  unfold getItem
  try with_reducible refine wpAny_holding ?_
  first | refine wpAny_bind (wpAny_pure ?_) | skip
  refine wpAny_bind (wpAny_sequenceKey ht.typeIs (by decide) ?_)
  refine wpAny_bind (wpAny_callSpecial?_slot (name := Str.ofString "__getitem__") ht.typeIs PyProof.Rows.slot_tuple_getitem
    (wpAny_call_entry PyProof.Rows.slot_tuple_getitem ht.typeIs entry_tuple_getitem ?_ (args_tuple_getitem _ _)))
  show wpAny _ _ (Builtin.Tuple.tupleItemsOf (.ref t) >>= _) _ _ s
  refine wpAny_bind (tupleItemsOf_ ht ?_)
  refine wpAny_bind (wpAny_typeOf hTs ?_)
  rw [if_pos (by decide)]
  refine wpAny_bind (stepApplied hs ps hj ?_)
  by_cases j1 : j = 1
  · subst j1
    show wpAny _ _ (if ((0 : Int) == 0 && (1 : Int) == 1 && (items.size + (1 : Int).toNat - 1) / (1 : Int).toNat == items.size) = true then _ else _) _ _ s
    rw [if_pos (by simp)]
    unfold Builtin.Tuple.tupleIsExact
    refine wpAny_bind (wpAny_bind (wpAny_typeOf ht.typeIs (wpAny_pure ?_)))
    rw [if_pos (by decide)]
    refine wpAny_bind ?_
    repeat (any_goals (first | wp_step | assumption))
    exact ⟨_, rfl, wpAny_pure (h1 rfl)⟩
  · show wpAny _ _ (if ((0 : Int) == 0 && j == 1 && (items.size + j.toNat - 1) / j.toNat == items.size) = true then _ else _) _ _ s
    rw [if_neg (by simp [j1]), pick_tup items hj]
    have h := h j1
    first
      | exact wpAny_bind (m := Builtin.Tuple.tupleExact _) (wpAny_newObj_type (wpAny_pure ⟨_, rfl, wpAny_pure h⟩) hd)
      | exact wpAny_bind (m := Builtin.Tuple.tupleExact _) (wpAny_newObj_type (wpAny_bind (wpAny_pure (wpAny_pure ⟨_, rfl, wpAny_pure h⟩))) hd)
      | exact wpAny_bind (wpAny_bind (m := Builtin.Tuple.tupleExact _) (wpAny_newObj_type (wpAny_pure (wpAny_pure ⟨_, rfl, wpAny_pure h⟩)) hd))
      | exact wpAny_bind (wpAny_bind (m := Builtin.Tuple.tupleExact _) (wpAny_newObj_type (wpAny_pure ⟨_, rfl, wpAny_pure h⟩) hd))
end
section
variable {X : Cx}
def sStp (K : PySem.W.Frag) (x : V) (Q : VK) : Option Int → Hp → Prop := fun o H2 => ∃ j : Int, o = some j ∧ (j = -1 ∨ 1 ≤ j) ∧
  ((∃ a xs, x = .ref a ∧ SqL K H2 a xs ∧ ∀ p, H2 p = none → Q (.ref p) (upd H2 p (.lst (stepV xs j)))) ∨
   (∃ a xs, x = .ref a ∧ SqT K H2 a xs ∧ (j = 1 → Q (.ref a) H2) ∧ ∀ p ob, H2 p = none → ob.dict = none → j ≠ 1 → Q (.ref p) (upd H2 p (.frz ob (.tup (stepV xs j))))))
def tStp (K : PySem.W.Frag) (te tj : TE) : TE := fun σ H Q => te σ H fun x H1 => tPart tj σ H1 (sStp K x Q)
theorem vals_step {xs : List V} {us : List Value} (h : Vals xs us) (j : Int) : Vals (stepV xs j) (stepV us j) := by
  unfold stepV
  split
  · exact h.reverse
  · exact vals_pick h _
theorem step_len {α : Type} (xs : List α) {j : Int} (h : j = -1 ∨ 1 ≤ j) : (stepV xs j).length ≤ xs.length := by
  unfold stepV
  split
  · rw [List.length_reverse]
    exact Nat.le_refl _
  · exact pick_len _ _ (by omega)
theorem pe_stp {e f : Expr} {te tj : TE} {p3 pos : Pos} (he : PE X e te) (hf : PE X f tj) : PE X (.Subscript e (.Slice none none (some f) p3) pos) (tStp X.K te tj) := by
  refine ⟨fun pins s σ H Q I h => ?_⟩
  refine Subscript_ (thn (he.run pins s σ H _ I h) fun v s1 ⟨x, H1, I1, r1, q1⟩ => ?_)
  have hst : PO X (some f) (tPart tj) := po_some hf
  refine wpAny_Slice (thn (po_none.run pins s1 σ H1 (fun o H2 => o = none ∧ H2 = H1) I1 ⟨rfl, rfl⟩) fun vl s2 ⟨l, H2, I2, pl, el, e2⟩ => ?_)
  subst el e2
  refine thn (po_none.run pins s2 σ H2 (fun o H3 => o = none ∧ H3 = H2) I2 ⟨rfl, rfl⟩) fun vu s3 ⟨u, H3, I3, pu, eu, e3⟩ => ?_
  subst eu e3
  refine thn (hst.run pins s3 σ H3 (sStp X.K x Q) I3 q1) fun vs s4 ⟨o, H4, I4, ps, j, eo, hj, q4⟩ => ?_
  subst eo
  have I5 : Inv X pins σ H4 { s4 with heap := s4.heap.push { cls := .type "slice", data := .fields #[vl, vu, vs] } } := I4.kept (t' := s4.toks) fun b ob q => Heap.get?_push_of_some _ q
  have lay : ∀ (o : HO) (ob : Obj), ObjOk X.prog X.w (upd H4 (s4.heap.push { cls := .type "slice", data := .fields #[vl, vu, vs] }).objs.size o) ((s4.heap.push { cls := .type "slice", data := .fields #[vl, vu, vs] }).push ob) (s4.heap.push { cls := .type "slice", data := .fields #[vl, vu, vs] }).objs.size o →
      Q (.ref (s4.heap.push { cls := .type "slice", data := .fields #[vl, vu, vs] }).objs.size) (upd H4 (s4.heap.push { cls := .type "slice", data := .fields #[vl, vu, vs] }).objs.size o) →
      EP X pins σ Q (.ref (s4.heap.push { cls := .type "slice", data := .fields #[vl, vu, vs] }).objs.size) { s4 with heap := (s4.heap.push { cls := .type "slice", data := .fields #[vl, vu, vs] }).push ob } := fun o ob hok hq =>
    ⟨.ref _, _, I5.laid (t' := s4.toks) (o := o) (fun b ob q => Heap.get?_push_of_some _ q) (Nat.le_refl _) hok, rfl, hq⟩
  rcases q4 with ⟨a, xs, ex, hx, q⟩ | ⟨a, xs, ex, hx, qs, q⟩
  · subst ex
    cases r1
    obtain ⟨its, r, ht, hz⟩ := I5.list hx
    have hlen := r.length
    show wpAny (model X.prog X.w) X.A (subscriptTail e (.Slice none none (some f) p3) (.ref a) (.ref s4.heap.objs.size)) (EP X pins σ Q) X.xe { s4 with heap := s4.heap.push { cls := .type "slice", data := .fields #[vl, vu, vs] } }
    refine tail_any (ops := [.ref a, .ref s4.heap.objs.size]) ht.isList.typeIs (PySem.slot_list_getitem.lookup) ?_ (by with_unfolding_all rfl)
    refine wpAny_getItem_list_slice ht.isList (Heap.IsSliceOf.new _ vl vu vs) pl pu ps (by intro z; cases z; omega) ?_ (by rw [List.size_toArray]; omega)
    rw [slice_any _ hj]
    exact lay (.lst (stepV xs j)) _ ⟨Nat.le_trans (step_len xs hj) hz, _, 0, vals_step r j, Heap.get?_push_size _ rfl⟩ (q _ (I5.hok.fresh (Nat.le_refl _)))
  · subst ex
    cases r1
    cases pl
    cases pu
    obtain ⟨its, r, ht, hz⟩ := I5.tuple hx
    have hlen := r.length
    show wpAny (model X.prog X.w) X.A (subscriptTail e (.Slice none none (some f) p3) (.ref a) (.ref s4.heap.objs.size)) (EP X pins σ Q) X.xe { s4 with heap := s4.heap.push { cls := .type "slice", data := .fields #[.none, .none, vs] } }
    refine tail_any (ops := [.ref a, .ref s4.heap.objs.size]) ht.typeIs (PyProof.Rows.slot_tuple_getitem.lookup) ?_ (by with_unfolding_all rfl)
    have fin : ∀ ts : List Value, Vals (stepV xs j) ts → j ≠ 1 → EP X pins σ Q (.ref (s4.heap.push { cls := .type "slice", data := .fields #[.none, .none, vs] }).objs.size) { s4 with heap := (s4.heap.push { cls := .type "slice", data := .fields #[.none, .none, vs] }).push (tupO ts) } := fun ts hv j1 =>
      lay (.frz (tupO ts) (.tup (stepV xs j))) _ (ok_tupN (Heap.get?_push_size _ rfl) hv (Nat.le_trans (step_len xs hj) hz)) (q _ _ (I5.hok.fresh (Nat.le_refl _)) rfl j1)
    rcases hj with rfl | hj
    · refine getItem_tuple_back ht (Heap.IsSliceOf.new _ .none .none vs) ps (by rw [List.size_toArray]; omega) ?_
      have er : its.toArray.toList.reverse.toArray = its.reverse.toArray := by simp
      rw [er]
      exact fin its.reverse (vals_step r (-1)) (by decide)
    · refine getItem_tuple_step ht (Heap.IsSliceOf.new _ .none .none vs) ps hj (by rw [List.size_toArray]; omega) (fun j1 => ⟨.ref a, H4, I5, rfl, qs j1⟩) fun j1 => ?_
      have hv := vals_step r j
      unfold stepV at hv
      rw [if_neg (by omega), if_neg (by omega)] at hv
      have := fin (pickN j.toNat its) (by unfold stepV; rw [if_neg (by omega)]; exact hv) j1
      exact this
end
section
theorem rep_fm {K : PySem.W.Frag} {H : Hp} {B : Bs} {ds : List D} {xs : List V} (h : RepVs K H B ds xs) (f : Nat → Nat) : ∀ (ks : List Nat), RepVs K H B (ks.filterMap fun k => ds[f k]?) (ks.filterMap fun k => xs[f k]?)
  | [] => rfl
  | k :: ks => by
    have ih := rep_fm h f ks
    have hl := h.length
    rw [List.filterMap_cons, List.filterMap_cons]
    cases e : ds[f k]? with
    | none =>
      have : xs[f k]? = none := by
        rw [List.getElem?_eq_none_iff] at e ⊢
        omega
      rw [this]
      exact ih
    | some d =>
      obtain ⟨v, e2, r⟩ := h.get e
      rw [e2]
      exact ⟨v, _, rfl, r, ih⟩
theorem rep_step {K : PySem.W.Frag} {H : Hp} {B : Bs} {ds : List D} {xs : List V} (h : RepVs K H B ds xs) (j : Int) : RepVs K H B (stepV ds j) (stepV xs j) := by
  unfold stepV
  split
  · exact h.reverse
  · unfold pickN
    rw [h.length]
    exact rep_fm h _ _
theorem dStep_eq {ds ys : List D} {j : Int} (h : dStep ds j = some ys) : (j = -1 ∨ 1 ≤ j) ∧ ys = stepV ds j := by
  unfold dStep at h
  unfold stepV
  split at h
  · cases h
    rename_i e
    exact ⟨.inl e, by rw [if_pos e]⟩
  · split at h
    · cases h
      rename_i e1 e2
      exact ⟨.inr e2.1, by rw [if_neg e1]; rfl⟩
    · cases h
variable {X : Cx} {C : Fn} {G : Nat → Option D} {nm : Nms} {n : Nat} {st sc : Scope}
theorem snd_stp (ok : Ok X C G nm n st sc) {a b : E} {y z : Expr} {p pos : Pos} (ha : PE X y (tE X.K C G a)) (hb : PE X z (tE X.K C G b)) : PE X (.Subscript y (.Slice none none (some z) p) pos) (tE X.K C G (.ext .stp [a, b])) := by
  refine pe_imp (pe_stp ha hb) fun σ H Q hq => ?_
  obtain ⟨g, B, r, g', re, ev, q0⟩ := hq
  obtain ⟨ds, g1, e1, ev⟩ := bind2 (show (evEs C G [a, b] g).bind _ = _ from ev)
  obtain ⟨rv, e2, e3⟩ := map1 ev
  cases e3
  obtain ⟨ra, x1, ga, l1, p1, p2, p3, rfl⟩ := evEsC e1
  obtain ⟨rd, x3, p7, p8, rfl⟩ := evEs1 p3
  refine tE_of re p1 fun v H1 B1 s1 r1 => ?_
  obtain ⟨B1', s1', h1⟩ := r1.pure s1 p2
  refine tE_of s1'.re p7 fun v3 H3 B3 s3 r3 => ?_
  obtain ⟨B3', s3', h3⟩ := r3.pure s3 p8
  have h1' := RepV.ext s3'.kp _ _ h1
  have sT := s1'.trans s3'
  cases x1 <;> cases x3 <;> simp only [dX, reduceCtorEq] at e2
  · rename_i ds j _
    obtain ⟨ys, e4, e5⟩ := map1 e2
    subst e5
    obtain ⟨hj, rfl⟩ := dStep_eq e4
    obtain ⟨l, xs, rfl, hs, hv⟩ := h1'
    cases (show v3 = .int j from h3)
    refine ⟨j, rfl, j, rfl, hj, .inl ⟨l, xs, rfl, hs.sql, fun p hp => ?_⟩⟩
    have := sT.newList (ds := stepV ds j) hp (rep_step hv j)
    exact q0 _ _ _ this.1 this.2
  · rename_i ds j _
    obtain ⟨ys, e4, e5⟩ := map1 e2
    subst e5
    obtain ⟨hj, rfl⟩ := dStep_eq e4
    obtain ⟨l, xs, rfl, hs, hv⟩ := h1'
    cases (show v3 = .int j from h3)
    refine ⟨j, rfl, j, rfl, hj, .inr ⟨l, xs, rfl, hs.sqt, fun j1 => ?_, fun p ob hp ho j1 => ?_⟩⟩
    · refine q0 _ _ _ sT ⟨l, xs, rfl, hs, ?_⟩
      have e : stepV ds j = ds := by
        subst j1
        exact pickN_one ds
      rw [e]
      exact hv
    · have := sT.newTup (ds := stepV ds j) hp ho (rep_step hv j)
      exact q0 _ _ _ this.1 this.2
end
end Ev

namespace Ev
set_option autoImplicit false
open PySem PySem.Spec PyProof.Rows L2
variable [TheW]
variable {C : Fn} {G : Nat → Option D} {nm : Nms} {n : Nat}
section
variable {X : Cx} {σ : L2.St} {g g1 g2 : Sg} {H : Hp} {K : PySem.W.Frag}
theorem evT_of {a : E} {r : Rv} {g g1 : Sg} {d : D} {t : Bool} (h : evE C G a g = some (r, g1)) (h2 : r.data g1 = some d) (h3 : dTru d = some t) : evT C G a g = some (t, g1) := by
  show (evE C G a g).bind _ = _
  rw [h]
  show (r.data g1).bind _ = _
  rw [h2]
  show (dTru d).map _ = _
  rw [h3]
  rfl
theorem evT_inv {a : E} {g g' : Sg} {b : Bool} (h : evT C G a g = some (b, g')) : ∃ r d, evE C G a g = some (r, g') ∧ r.data g' = some d ∧ dTru d = some b := by
  obtain ⟨r, g1, e1, ev⟩ := bind2 (show (evE C G a g).bind _ = _ from h)
  obtain ⟨d, e2, ev⟩ := bind1 ev
  obtain ⟨t, e3, e4⟩ := map1 ev
  cases e4
  exact ⟨r, d, e1, e2, e3⟩
theorem tE_cmp {o : COp} {a b : E} {Q : VK} (hq : tE K C G (.cmp o a b) σ H Q) : tOp (rOp2 K (fB (dCmp o))) (tE K C G a) (tE K C G b) σ H Q := by
  obtain ⟨g, B, r, g', re, ev, q⟩ := hq
  obtain ⟨ra, g1, e1, ev⟩ := bind2 (show (evE C G a g).bind _ = _ from ev)
  obtain ⟨rb, g2, e2, ev⟩ := bind2 ev
  obtain ⟨dx, e3, ev⟩ := bind1 ev
  obtain ⟨dy, e4, ev⟩ := bind1 ev
  obtain ⟨rv, e5, e6⟩ := map1 ev
  cases e6
  exact tOp_of (f := fB (dCmp o)) re e1 e2 e3 e4 (by unfold fB; rw [e5]; rfl) q
theorem tE_chn {o o' : COp} {a b c : E} {Q : VK} (hq : tE K C G (.chn o o' a b c) σ H Q) : tChain (rOp2 K (fB (dCmp o))) (rOp2 K (fB (dCmp o'))) (tE K C G a) (tE K C G b) (tE K C G c) σ H Q := by
  obtain ⟨g, B, r, g', re, ev, q⟩ := hq
  obtain ⟨ra, g1, e1, ev⟩ := bind2 (show (evE C G a g).bind _ = _ from ev)
  obtain ⟨rb, g2, e2, ev⟩ := bind2 ev
  obtain ⟨dx, e3, ev⟩ := bind1 ev
  obtain ⟨dy, e4, ev⟩ := bind1 ev
  obtain ⟨t, e5, ev⟩ := bind1 ev
  refine tE_of re e1 fun x H1 B1 s1 r1 => tE_of s1.re e2 fun y H2 B2 s2 r2 => ?_
  have s12 := s1.trans s2
  refine ⟨B2, dx, dy, .pur (.bool t), r1.later s1.re s2 e3, r2.data s2.re e4, by unfold fB; rw [e5]; rfl, fun v H3 hres => ?_⟩
  rcases hres with ⟨rfl, d, ed, hd⟩ | ⟨_, _, _, _, _, _, _, _, z, _⟩ | ⟨_, _, _, _, _, _, z, _⟩ | ⟨_, _, _, _, _, _, z, _⟩
  · cases ed
    refine ⟨t, hd, ?_⟩
    cases t with
    | true =>
      rw [if_pos rfl] at ev ⊢
      obtain ⟨rc, g3, e6, ev⟩ := bind2 ev
      obtain ⟨dy', e7, ev⟩ := bind1 ev
      obtain ⟨dz, e8, ev⟩ := bind1 ev
      obtain ⟨t', e9, e10⟩ := map1 ev
      cases e10
      refine tE_of s2.re e6 fun w H4 B4 s4 r4 => ?_
      exact ⟨B4, dy', dz, .pur (.bool t'), r2.later s2.re s4 e7, r4.data s4.re e8, by unfold fB; rw [e9]; rfl, res_q (s12.trans s4) q⟩
    | false =>
      rw [if_neg Bool.false_ne_true] at ev ⊢
      cases ev
      exact q _ _ B2 s12 rfl
  · cases z
  · cases z
  · cases z
theorem pt_ifT {c a b : Expr} {pos : Pos} {tc ta tb : TT} (hc : PT X c tc) (ha : PT X a ta) (hb : PT X b tb) : PT X (.IfExp c a b pos) (fun σ H Q => tc σ H fun d H1 => if d = true then ta σ H1 Q else tb σ H1 Q) := by
  refine ⟨fun pins s σ H Q I h => ?_⟩
  refine isTrue_IfExp (thn (hc.run pins s σ H _ I h) fun d s1 ⟨H1, I1, q1⟩ => ?_)
  cases d with
  | true => exact ha.run pins s1 σ H1 Q I1 q1
  | false => exact hb.run pins s1 σ H1 Q I1 q1
theorem pt_pw {op : BoolOp} {xs : List Expr} {pos : Pos} {t : TT} (h : PT X (.BoolOp op xs pos) t) : PW X (.BoolOp op xs pos) t := ⟨fun _ pins s σ H Q I q => h.run pins s σ H Q I q⟩
theorem tT_and {a b : E} {Q : Bool → Hp → Prop} (hq : tT K C G (.and a b) σ H Q) : tAnd (tT K C G a) (tT K C G b) σ H Q := by
  obtain ⟨g, B, t, g', re, ev, q⟩ := hq
  obtain ⟨r, d, e1, e2, e3⟩ := evT_inv ev
  obtain ⟨ra, g1, e4, e5⟩ := bind2 (show (evE C G a g).bind _ = _ from e1)
  simp only at e5
  split at e5
  · rename_i hd
    refine ⟨g, B, true, g1, re, evT_of e4 hd rfl, fun H1 B1 s => ?_⟩
    exact ⟨g1, B1, t, g', s.re, evT_of e5 e2 e3, fun H2 B2 s2 => q H2 B2 (s.trans s2)⟩
  · rename_i hd
    cases e5
    cases (show some (PyData.bool false) = some d from e2)
    cases (show some false = some t from e3)
    refine ⟨g, B, false, _, re, evT_of e4 hd rfl, fun H1 B1 s => ?_⟩
    exact q H1 B1 s
  · cases e5
theorem tT_or {a b : E} {Q : Bool → Hp → Prop} (hq : tT K C G (.or a b) σ H Q) : tOr (tT K C G a) (tT K C G b) σ H Q := by
  obtain ⟨g, B, t, g', re, ev, q⟩ := hq
  obtain ⟨r, d, e1, e2, e3⟩ := evT_inv ev
  obtain ⟨ra, g1, e4, e5⟩ := bind2 (show (evE C G a g).bind _ = _ from e1)
  simp only at e5
  split at e5
  · rename_i hd
    refine ⟨g, B, false, g1, re, evT_of e4 hd rfl, fun H1 B1 s => ?_⟩
    exact ⟨g1, B1, t, g', s.re, evT_of e5 e2 e3, fun H2 B2 s2 => q H2 B2 (s.trans s2)⟩
  · rename_i hd
    cases e5
    cases (show some (PyData.bool true) = some d from e2)
    cases (show some true = some t from e3)
    refine ⟨g, B, true, _, re, evT_of e4 hd rfl, fun H1 B1 s => ?_⟩
    exact q H1 B1 s
  · cases e5
end
/-- (e, ..), a new tuple -/
theorem pe_tupN {X : Cx} {es : List Expr} {t : TA} {c} {pos : Pos} (h : PA X es t) : PE X (.Tuple es c pos) (fun σ H Q => t σ H fun xs H1 => xs.length ≤ sizeLine ∧ ∀ p o, H1 p = none → o.dict = none → Q (.ref p) (upd H1 p (.frz o (.tup xs)))) := by
  constructor
  intro pins s σ H Q I hq
  apply wpAny_Tuple_spliced
  refine thn (h.run pos pins s σ H _ I hq) ?_
  rintro us s1 ⟨xs, H1, I1, r, z, q⟩
  refine ⟨by rw [← r.length]; exact z, ?_⟩
  exact ⟨.ref s1.heap.objs.size, _, I1.laid (t' := s1.toks) (o := .frz (tupO us) (.tup xs)) (fun c u z => Heap.get?_push_of_some _ z) (Nat.le_refl _) (ok_tupN (Heap.get?_push_size _ rfl) r z), rfl, q _ _ (I1.hok.fresh (Nat.le_refl _)) rfl⟩
mutual
theorem sndE : ∀ (a : E) (X : Cx) (st sc : Scope) (e : Expr), Ok X C G nm n st sc → chkE nm X.N sc a e = true → PE X e (tE X.K C G a)
  | .var i, X, st, sc, e, ok, h => by
    cases e <;> simp only [chkE, Bool.false_eq_true] at h
    simp only [Bool.and_eq_true, decide_eq_true_eq] at h
    obtain ⟨⟨h1, h2⟩, h3⟩ := h
    obtain ⟨n1, n2⟩ := nm_of h2
    refine pe_imp (pe_var h3 (vis_of ok.sc h1) n1 n2) fun σ H Q hq => ?_
    obtain ⟨g, B, r, g', re, ev, q⟩ := hq
    rw [evE] at ev
    split at ev
    · cases ev
      obtain ⟨v, e1, hv⟩ := re.val i _ ‹_›
      exact ⟨v, e1, q v H B (Stp.refl re) hv⟩
    · cases ev
      rename_i m d hne e0
      obtain ⟨v, e1, hv⟩ := re.own i m d e0 (fun z => by subst z; exact hne rfl)
      exact ⟨v, e1, q v H B (Stp.refl re) ⟨e1, m, d, e0, fun z => by subst z; exact hne rfl⟩⟩
    · cases ev
  | .mv i, X, st, sc, e, ok, h => by
    cases e <;> simp only [chkE, Bool.false_eq_true] at h
    simp only [Bool.and_eq_true, decide_eq_true_eq] at h
    obtain ⟨⟨h1, h2⟩, h3⟩ := h
    obtain ⟨n1, n2⟩ := nm_of h2
    refine pe_imp (pe_var h3 (vis_of ok.sc h1) n1 n2) fun σ H Q hq => ?_
    obtain ⟨g, B, r, g', re, ev, q⟩ := hq
    rw [evE] at ev
    split at ev
    · rename_i d e0
      cases ev
      obtain ⟨v, e1, hv⟩ := re.own i .own d e0 (fun z => nomatch z)
      refine ⟨v, e1, q v H B (Stp.moved re e0) ⟨hv, fun a ea => ?_⟩⟩
      subst ea
      have o : Own σ g a := ⟨i, .own, d, e0, (fun z => nomatch z), e1⟩
      refine ⟨fun ⟨j, m, f, ej, hm, sj⟩ => ?_, fun _ => o⟩
      by_cases z : i = j
      · subst z
        rw [List.getElem?_set_self (List.getElem?_eq_some_iff.mp e0).1] at ej
        cases ej
      · rw [List.getElem?_set_ne z] at ej
        exact z (re.dist i j .own m d f a e0 (fun z => nomatch z) ej hm e1 sj)
    · cases ev
  | .glo k, X, st, sc, e, ok, h => by
    cases e <;> simp only [chkE, Bool.false_eq_true] at h
    simp only [Bool.and_eq_true, decide_eq_true_eq] at h
    obtain ⟨⟨h1, h2⟩, h3⟩ := h
    refine ⟨fun pins s σ H Q I hq => ?_⟩
    obtain ⟨g, B, r, g', re, ev, q⟩ := hq
    obtain ⟨d, e0, e1⟩ := bind1 (show (G k).bind (fun d => if notDict d then some (Rv.pur d, g) else none) = some (r, g') from ev)
    split at e1
    rotate_left
    · cases e1
    cases e1
    obtain ⟨v, u, m1, m2, m3, _⟩ := ok.glo k _ d h3 e0 ‹_›
    exact (pe_glob (gl_of ok h1) m1 m2 (nm_of h2).1).run pins s σ H Q I (q v H B (Stp.refl re) (m3 H B))
  | .cst c, X, st, sc, e, ok, h => by
    cases e <;> simp only [chkE, Bool.false_eq_true] at h
    obtain ⟨v, p, hv⟩ := cst_pe (X := X) h
    refine pe_imp p fun σ H Q hq => ?_
    obtain ⟨g, B, r, g', re, ev, q⟩ := hq
    cases (show some (Rv.pur c.d, g) = some (r, g') from ev)
    exact q v H B (Stp.refl re) (hv _ H B)
  | .neg a, X, st, sc, e, ok, h => by
    cases e <;> simp only [chkE, Bool.false_eq_true] at h
    split at h
    · rename_i x pos heq
      cases heq
      refine pe_imp (pe_un un_neg (sndE a X st sc _ ok h)) fun σ H Q hq => ?_
      obtain ⟨g, B, r, g', re, ev, q⟩ := hq
      obtain ⟨ra, g1, e1, ev⟩ := bind2 (show (evE C G a g).bind _ = _ from ev)
      simp only at ev
      split at ev
      · cases ev
        refine tE_of re e1 fun v H1 B1 s hr => ?_
        cases rI_int (hr.data s.re ‹_›)
        exact ⟨_, rfl, q _ H1 B1 s rfl⟩
      · cases ev
    · cases h
  | .not a, X, st, sc, e, ok, h => by
    cases e <;> simp only [chkE, Bool.false_eq_true] at h
    split at h
    · rename_i x pos heq
      cases heq
      refine pe_imp (pe_notT (sndE a X st sc _ ok h)) fun σ H Q hq => ?_
      obtain ⟨g, B, r, g', re, ev, q⟩ := hq
      obtain ⟨ra, g1, e1, ev⟩ := bind2 (show (evE C G a g).bind _ = _ from ev)
      obtain ⟨d, e2, ev⟩ := bind1 ev
      obtain ⟨b, e3, e4⟩ := map1 ev
      cases e4
      refine tE_of re e1 fun v H1 B1 s hr => ?_
      exact ⟨b, truD (hr.data s.re e2) e3, q _ H1 B1 s rfl⟩
    · cases h
  | .bin o a b, X, st, sc, e, ok, h => by
    cases e <;> simp only [chkE, Bool.false_eq_true] at h
    simp only [Bool.and_eq_true, decide_eq_true_eq] at h
    obtain ⟨⟨h1, h2⟩, h3⟩ := h
    subst h1
    have hu : X.A.units + 64 < cLine := by
      have := units ok
      omega
    refine pe_imp (pe_op (opB' hu o) (sndE a X st sc _ ok h2) (sndE b X st sc _ ok h3)) fun σ H Q hq => ?_
    obtain ⟨g, B, r, g', re, ev, q⟩ := hq
    obtain ⟨ra, g1, e1, ev⟩ := bind2 (show (evE C G a g).bind _ = _ from ev)
    obtain ⟨rb, g2, e2, ev⟩ := bind2 ev
    obtain ⟨dx, e3, ev⟩ := bind1 ev
    obtain ⟨dy, e4, ev⟩ := bind1 ev
    obtain ⟨rv, e5, e6⟩ := map1 ev
    cases e6
    exact tOp_of re e1 e2 e3 e4 e5 q
  | .cmp o a b, X, st, sc, e, ok, h => by
    cases e <;> simp only [chkE, Bool.false_eq_true] at h
    split at h
    · rename_i x p y pos heq
      cases heq
      simp only [Bool.and_eq_true, decide_eq_true_eq, Bool.not_eq_true'] at h
      obtain ⟨⟨⟨h1, h2⟩, h3⟩, h4⟩ := h
      subst h1
      refine pe_imp (pe_cmpR (opC (units ok) ok.hw o) (sndE a X st sc _ ok h3) (sndE b X st sc _ ok h4) h2) fun σ H Q hq => ?_
      obtain ⟨g, B, r, g', re, ev, q⟩ := hq
      obtain ⟨ra, g1, e1, ev⟩ := bind2 (show (evE C G a g).bind _ = _ from ev)
      obtain ⟨rb, g2, e2, ev⟩ := bind2 ev
      obtain ⟨dx, e3, ev⟩ := bind1 ev
      obtain ⟨dy, e4, ev⟩ := bind1 ev
      obtain ⟨rv, e5, e6⟩ := map1 ev
      cases e6
      exact tOp_of (f := fB (dCmp o)) re e1 e2 e3 e4 (by unfold fB; rw [e5]; rfl) q
    · cases h
  | .chn o o' a b c, X, st, sc, e, ok, h => by
    cases e <;> simp only [chkE, Bool.false_eq_true] at h
    split at h
    · rename_i x p p' y z pos heq
      cases heq
      simp only [Bool.and_eq_true, decide_eq_true_eq, Bool.not_eq_true'] at h
      obtain ⟨⟨⟨⟨⟨h1, h2⟩, h3⟩, h4⟩, h5⟩, h6⟩ := h
      subst h1 h2
      refine pe_imp (pe_chain (opC (units ok) ok.hw o) (opC (units ok) ok.hw o') (sndE a X st sc _ ok h4) (sndE b X st sc _ ok h5) (sndE c X st sc _ ok h6) h3) fun σ H Q hq => tE_chn hq
    · cases h
  | .and a b, X, st, sc, e, ok, h => by
    cases e <;> simp only [chkE, Bool.false_eq_true] at h
    split at h
    · rename_i x y pos heq
      cases heq
      obtain ⟨h1, h2⟩ := Bool.and_eq_true_iff.mp h
      refine pe_imp (pe_and (sndE a X st sc x ok h1) (pe_one (sndE b X st sc y ok h2))) fun σ H Q hq => ?_
      obtain ⟨g, B, r, g', re, ev, q⟩ := hq
      obtain ⟨ra, g1, e1, ev⟩ := bind2 (show (evE C G a g).bind _ = _ from ev)
      refine tE_of re e1 fun v H1 B1 s hr => ?_
      simp only at ev
      split at ev
      · cases rI_bl (hr.data s.re ‹_›)
        refine ⟨true, rfl, ?_⟩
        rw [if_pos rfl]
        exact tE_of s.re ev fun w H2 B2 s2 r2 => q w H2 B2 (s.trans s2) (rvr_shift r2 s)
      · cases ev
        cases rI_bl (hr.data s.re ‹_›)
        refine ⟨false, rfl, ?_⟩
        rw [if_neg Bool.false_ne_true]
        exact q _ H1 B1 s rfl
      · cases ev
    · rename_i x y z rr pos heq
      cases heq
      obtain ⟨h1, h2⟩ := Bool.and_eq_true_iff.mp h
      refine pe_imp (pe_and (sndE a X st sc x ok h1) (sndE b X st sc _ ok h2)) fun σ H Q hq => ?_
      obtain ⟨g, B, r, g', re, ev, q⟩ := hq
      obtain ⟨ra, g1, e1, ev⟩ := bind2 (show (evE C G a g).bind _ = _ from ev)
      refine tE_of re e1 fun v H1 B1 s hr => ?_
      simp only at ev
      split at ev
      · cases rI_bl (hr.data s.re ‹_›)
        refine ⟨true, rfl, ?_⟩
        rw [if_pos rfl]
        exact tE_of s.re ev fun w H2 B2 s2 r2 => q w H2 B2 (s.trans s2) (rvr_shift r2 s)
      · cases ev
        cases rI_bl (hr.data s.re ‹_›)
        refine ⟨false, rfl, ?_⟩
        rw [if_neg Bool.false_ne_true]
        exact q _ H1 B1 s rfl
      · cases ev
    · cases h
  | .or a b, X, st, sc, e, ok, h => by
    cases e <;> simp only [chkE, Bool.false_eq_true] at h
    split at h
    · rename_i x y pos heq
      cases heq
      obtain ⟨h1, h2⟩ := Bool.and_eq_true_iff.mp h
      refine pe_imp (pe_or (sndE a X st sc x ok h1) (pe_one (sndE b X st sc y ok h2))) fun σ H Q hq => ?_
      obtain ⟨g, B, r, g', re, ev, q⟩ := hq
      obtain ⟨ra, g1, e1, ev⟩ := bind2 (show (evE C G a g).bind _ = _ from ev)
      refine tE_of re e1 fun v H1 B1 s hr => ?_
      simp only at ev
      split at ev
      · cases rI_bl (hr.data s.re ‹_›)
        refine ⟨false, rfl, ?_⟩
        rw [if_neg Bool.false_ne_true]
        exact tE_of s.re ev fun w H2 B2 s2 r2 => q w H2 B2 (s.trans s2) (rvr_shift r2 s)
      · cases ev
        cases rI_bl (hr.data s.re ‹_›)
        refine ⟨true, rfl, ?_⟩
        rw [if_pos rfl]
        exact q _ H1 B1 s rfl
      · cases ev
    · rename_i x y z rr pos heq
      cases heq
      obtain ⟨h1, h2⟩ := Bool.and_eq_true_iff.mp h
      refine pe_imp (pe_or (sndE a X st sc x ok h1) (sndE b X st sc _ ok h2)) fun σ H Q hq => ?_
      obtain ⟨g, B, r, g', re, ev, q⟩ := hq
      obtain ⟨ra, g1, e1, ev⟩ := bind2 (show (evE C G a g).bind _ = _ from ev)
      refine tE_of re e1 fun v H1 B1 s hr => ?_
      simp only at ev
      split at ev
      · cases rI_bl (hr.data s.re ‹_›)
        refine ⟨false, rfl, ?_⟩
        rw [if_neg Bool.false_ne_true]
        exact tE_of s.re ev fun w H2 B2 s2 r2 => q w H2 B2 (s.trans s2) (rvr_shift r2 s)
      · cases ev
        cases rI_bl (hr.data s.re ‹_›)
        refine ⟨true, rfl, ?_⟩
        rw [if_pos rfl]
        exact q _ H1 B1 s rfl
      · cases ev
    · cases h
  | .ite c a b, X, st, sc, e, ok, h => by
    cases e <;> simp only [chkE, Bool.false_eq_true] at h
    simp only [Bool.and_eq_true] at h
    obtain ⟨⟨h1, h2⟩, h3⟩ := h
    refine pe_imp (pe_ifExp (sndT c X st sc _ ok h1) (sndE a X st sc _ ok h2) (sndE b X st sc _ ok h3)) fun σ H Q hq => ?_
    obtain ⟨g, B, r, g', re, ev, q⟩ := hq
    obtain ⟨rc, g1, e1, ev⟩ := bind2 (show (evE C G c g).bind _ = _ from ev)
    obtain ⟨d, e2, ev⟩ := bind1 ev
    obtain ⟨t, e3, ev⟩ := bind1 ev
    refine ⟨g, B, t, g1, re, ?_, fun H1 B1 s => ?_⟩
    · show (evE C G c g).bind _ = _
      rw [e1]
      show (rc.data g1).bind _ = _
      rw [show rc.data g1 = some d from e2]
      show (dTru d).map _ = _
      rw [e3]
      rfl
    · cases t with
      | true =>
        rw [if_pos rfl] at ev ⊢
        exact tE_of s.re ev fun w H2 B2 s2 r2 => q w H2 B2 (s.trans s2) (rvr_shift r2 s)
      | false =>
        rw [if_neg Bool.false_ne_true] at ev ⊢
        exact tE_of s.re ev fun w H2 B2 s2 r2 => q w H2 B2 (s.trans s2) (rvr_shift r2 s)
  | .tup es, X, st, sc, e, ok, h => by
    cases e <;> simp only [chkE, Bool.false_eq_true] at h
    refine pe_imp (pe_tupN (sndEs es X st sc _ ok h)) fun σ H Q hq => ?_
    obtain ⟨g, B, r, g', re, ev, q⟩ := hq
    obtain ⟨ds, g1, e1, ev⟩ := bind2 (show (evEs C G es g).bind _ = _ from ev)
    simp only at ev
    split at ev
    · cases ev
      refine ⟨g, B, ds, _, re, e1, fun vs H1 B1 s hr => ⟨by rw [hr.length]; assumption, fun p o hp ho => ?_⟩⟩
      exact q _ _ B1 (s.newTup hp ho hr).1 (s.newTup hp ho hr).2
    · cases ev
  | .lst es, X, st, sc, e, ok, h => by
    cases e <;> simp only [chkE, Bool.false_eq_true] at h
    refine pe_imp (pe_lst (sndEs es X st sc _ ok h)) fun σ H Q hq => ?_
    obtain ⟨g, B, r, g', re, ev, q⟩ := hq
    obtain ⟨ds, g1, e1, ev⟩ := bind2 (show (evEs C G es g).bind _ = _ from ev)
    simp only at ev
    split at ev
    · cases ev
      refine ⟨g, B, ds, _, re, e1, fun vs H1 B1 s hr => ⟨by rw [hr.length]; assumption, fun p hp => ?_⟩⟩
      exact q _ _ _ (s.newList hp hr).1 (s.newList hp hr).2
    · cases ev
  | .idx a i, X, st, sc, e, ok, h => by
    cases e <;> simp only [chkE, Bool.false_eq_true] at h
    obtain ⟨h1, h2⟩ := Bool.and_eq_true_iff.mp h
    have hu : X.A.units + 1 < cLine := by
      have := units ok
      omega
    refine pe_imp (pe_ix (ixD (units ok) ok.hw) (sndE a X st sc _ ok h1) (sndE i X st sc _ ok h2) (plainIx h2)) fun σ H Q hq => ?_
    obtain ⟨g, B, r, g', re, ev, q⟩ := hq
    obtain ⟨ra, g1, e1, ev⟩ := bind2 (show (evE C G a g).bind _ = _ from ev)
    obtain ⟨rb, g2, e2, ev⟩ := bind2 ev
    obtain ⟨dx, e3, ev⟩ := bind1 ev
    obtain ⟨dy, e4, ev⟩ := bind1 ev
    obtain ⟨d, e5, e6⟩ := map1 ev
    cases e6
    exact tOp_of (f := fun x y => (dIdx x y).map Rv.pur) re e1 e2 e3 e4 (by show (dIdx dx dy).map Rv.pur = _; rw [e5]; rfl) q
  | .kix k i, X, st, sc, e, ok, h => by
    cases e <;> simp only [chkE, Bool.false_eq_true] at h
    split at h
    · rename_i x px y pos heq
      cases heq
      simp only [Bool.and_eq_true, decide_eq_true_eq] at h
      obtain ⟨⟨⟨h1, h2⟩, h3⟩, h4⟩ := h
      refine ⟨fun pins s σ H Q I hq => ?_⟩
      obtain ⟨g, B, r, g', re, ev, q⟩ := hq
      obtain ⟨ri, g1, e1, ev⟩ := bind2 (show (evE C G i g).bind _ = _ from ev)
      obtain ⟨dy, e2, ev⟩ := bind1 ev
      obtain ⟨dx, e3, ev⟩ := bind1 ev
      have key : ∃ kvs z d, dx = .dict kvs ∧ dy = .str z ∧ dGet kvs z = some d ∧ r = .pur d ∧ g' = g1 := by
        cases dx <;> first
          | (cases ev; done)
          | (cases dy <;> first
              | (cases ev; done)
              | (obtain ⟨d, e4, e5⟩ := map1 ev
                 cases e5
                 exact ⟨_, _, d, rfl, rfl, e4, rfl, rfl⟩))
      obtain ⟨kvs, z, d, rfl, rfl, e4, rfl, rfl⟩ := key
      obtain ⟨p, m1, m2⟩ := ok.dic k _ kvs h3 e3
      obtain ⟨v, m3, m4⟩ := m2 z d e4
      refine (pe_ix ix_kdict (pe_glob (gl_of ok h1) m1 (v := .ref p) rfl (nm_of h2).1) (sndE i X st sc _ ok h4) (plainIx h4)).run pins s σ H Q I ?_
      refine tE_of re e1 fun u H1 B1 s1 r1 => ?_
      cases rI_str (r1.data s1.re e2)
      exact ⟨p, z, v, rfl, rfl, m3, q v H1 B1 s1 (m4 H1 B1)⟩
    · cases h
  | .dget i k, X, st, sc, e, ok, h => by
    cases e <;> simp only [chkE, Bool.false_eq_true] at h
    split at h
    · rename_i x px y pos heq
      cases heq
      simp only [Bool.and_eq_true, decide_eq_true_eq] at h
      obtain ⟨⟨⟨h1, h2⟩, h3⟩, h4⟩ := h
      exact snd_dget ok h1 h2 h3 h4 (sndE k X st sc _ ok h4)
    · cases h
  | .dhas t i k, X, st, sc, e, ok, h => by
    cases e <;> simp only [chkE, Bool.false_eq_true] at h
    split at h
    · rename_i y p x px pos heq
      cases heq
      simp only [Bool.and_eq_true, decide_eq_true_eq] at h
      obtain ⟨⟨⟨⟨h0, h1⟩, h2⟩, h3⟩, h4⟩ := h
      exact pe_cmp (dhas_pc ok h0 h1 h2 h3 (sndE k X st sc _ ok h4)) (by cases p <;> rfl)
    · cases h
  | .dlen i, X, st, sc, e, ok, h => by
    cases e <;> simp only [chkE, Bool.false_eq_true] at h
    split at h
    · rename_i f pf x px pos heq
      cases heq
      simp only [Bool.and_eq_true, decide_eq_true_eq] at h
      obtain ⟨⟨⟨⟨h0, h1⟩, h2⟩, h3⟩, h4⟩ := h
      exact snd_dlen ok h0 h1 h2 h3 h4
    · cases h
  | .tix o a, X, st, sc, e, ok, h => by
    unfold chkE at h
    split at h
    · rename_i x q at_ apos z cpos
      simp only [Bool.and_eq_true, decide_eq_true_eq] at h
      obtain ⟨⟨⟨h1, h2⟩, h3⟩, h4⟩ := h
      subst h1
      exact snd_tix ok h2 h4 ⟨x, q, rfl⟩ (sndE o X st sc _ ok h3) (sndE a X st sc z ok h4)
    · cases h
  | .pop i a, X, st, sc, e, ok, h => by
    unfold chkE at h
    split at h
    · rename_i x q at_ apos z cpos
      simp only [Bool.and_eq_true, decide_eq_true_eq] at h
      obtain ⟨⟨⟨⟨⟨h1, h2⟩, h3⟩, h4⟩, h5⟩, h6⟩ := h
      subst h1
      exact snd_pop ok h2 h3 h4 h5 h6 (sndE a X st sc z ok h6)
    · cases h
  | .lrng one i j, X, st, sc, e, ok, h => by
    cases e <;> simp only [chkE, Bool.false_eq_true] at h
    split at h
    · rename_i f pf r pr xs pos2 pos heq
      cases heq
      simp only [Bool.and_eq_true, decide_eq_true_eq] at h
      obtain ⟨⟨⟨⟨h0, hf⟩, h1⟩, hr⟩, h2⟩ := h
      exact snd_lrng ok h0 hf h1 hr h2
    · cases h
  | .rg1 t a, X, st, sc, e, ok, h => by
    cases e <;> simp only [chkE, Bool.false_eq_true] at h
    split at h
    · rename_i f pf r pr x p2 pos heq
      cases heq
      simp only [Bool.and_eq_true, decide_eq_true_eq] at h
      obtain ⟨⟨⟨⟨h0, hf⟩, h1⟩, hr⟩, h2⟩ := h
      exact snd_rg1 ok h0 hf h1 hr h2 (sndE a X st sc _ ok h2)
    · cases h
  | .zpt a b, X, st, sc, e, ok, h => by
    cases e <;> simp only [chkE, Bool.false_eq_true] at h
    split at h
    · rename_i f pf z pz x y p2 pos heq
      cases heq
      simp only [Bool.and_eq_true, decide_eq_true_eq] at h
      obtain ⟨⟨⟨⟨⟨h0, hf⟩, h1⟩, hz⟩, h2⟩, h3⟩ := h
      exact snd_zpt ok h0 hf h1 hz h2 h3 (sndE a X st sc _ ok h2) (sndE b X st sc _ ok h3)
    · cases h
  | .slc a lo hi, X, st, sc, e, ok, h => by
    cases e <;> simp only [chkE, Bool.false_eq_true] at h
    split at h
    · rename_i x l u p2 pos heq
      cases heq
      simp only [Bool.and_eq_true] at h
      obtain ⟨⟨h1, h2⟩, h3⟩ := h
      refine pe_imp (pe_slice slD (sndE a X st sc _ ok h1) (sndO lo X st sc _ ok h2) (sndO hi X st sc _ ok h3)) fun σ H Q hq => ?_
      obtain ⟨g, B, r, g', re, ev, q⟩ := hq
      obtain ⟨ra, g1, e1, ev⟩ := bind2 (show (evE C G a g).bind _ = _ from ev)
      obtain ⟨li, g2, e2, ev⟩ := bind2 ev
      obtain ⟨ui, g3, e3, ev⟩ := bind2 ev
      obtain ⟨dx, e4, ev⟩ := bind1 ev
      obtain ⟨rv, e5, e6⟩ := map1 ev
      cases e6
      refine tE_of re e1 fun x H1 B1 s1 r1 => ⟨g1, B1, li, g2, s1.re, e2, fun H2 B2 s2 => ⟨g2, B2, ui, _, s2.re, e3, fun H3 B3 s3 => ?_⟩⟩
      exact ⟨B3, dx, _, r1.later s1.re (s2.trans s3) e4, e5, res_q (s1.trans (s2.trans s3)) q⟩
    · cases h
  | .rev a, X, st, sc, e, ok, h => by
    cases e <;> simp only [chkE, Bool.false_eq_true] at h
    split at h
    · rename_i x i k p1 p2 p3 pos heq
      cases heq
      obtain ⟨h1, h2⟩ := Bool.and_eq_true_iff.mp h
      cases of_decide_eq_true h1
      refine pe_imp (pe_back (sndE a X st sc _ ok h2)) fun σ H Q hq => ?_
      obtain ⟨g, B, r, g', re, ev, q⟩ := hq
      obtain ⟨ra, g1, e1, ev⟩ := bind2 (show (evE C G a g).bind _ = _ from ev)
      obtain ⟨dx, e2, ev⟩ := bind1 ev
      refine tE_of re e1 fun x H1 B1 s hr => ?_
      have hd := hr.data s.re e2
      cases dx <;> simp only [reduceCtorEq] at ev
      · cases ev
        obtain ⟨b, xs, rfl, i1, i2⟩ := rI_lst hd
        exact .inl ⟨b, xs, rfl, i1, fun p hp => q _ _ _ (s.newList hp i2.reverse).1 (s.newList hp i2.reverse).2⟩
      · cases ev
        obtain ⟨b, xs, rfl, i1, i2⟩ := rI_tup hd
        exact .inr ⟨b, xs, rfl, i1.sqt, fun p o hp ho => q _ _ _ (s.newTup hp ho i2.reverse).1 (s.newTup hp ho i2.reverse).2⟩
    · cases h
  | .tk c a, X, st, sc, e, ok, h => by
    cases e <;> simp only [chkE, Bool.false_eq_true] at h
    split at h
    · rename_i x j k0 p0 i k p1 p2 p3 pos heq
      cases heq
      simp only [Bool.and_eq_true, decide_eq_true_eq] at h
      obtain ⟨⟨h1, h3⟩, h2⟩ := h
      subst h1 h3
      refine pe_imp (pe_tk (sndE a X st sc _ ok h2)) fun σ H Q hq => ?_
      obtain ⟨g, B, r, g', re, ev, q⟩ := hq
      obtain ⟨ra, g1, e1, ev⟩ := bind2 (show (evE C G a g).bind _ = _ from ev)
      obtain ⟨dx, e2, ev⟩ := bind1 ev
      refine tE_of re e1 fun x H1 B1 s hr => ?_
      have hd := hr.data s.re e2
      cases dx <;> simp only [reduceCtorEq] at ev
      split at ev <;> cases ev
      obtain ⟨b, xs, rfl, i1, i2⟩ := rI_tup hd
      exact ⟨b, xs, rfl, i1.sqt, by rw [i2.length]; assumption, fun p o hp ho => q _ _ _ (s.newTup hp ho (i2.take (c + 1)).reverse).1 (s.newTup hp ho (i2.take (c + 1)).reverse).2⟩
    · cases h
  | .call f es, X, st, sc, e, ok, h => by
    cases e <;> simp only [chkE, Bool.false_eq_true] at h
    split at h
    · rename_i z p xs pos heq
      cases heq
      simp only [Bool.and_eq_true, decide_eq_true_eq] at h
      obtain ⟨⟨⟨h1, h2⟩, h3⟩, h4⟩ := h
      exact snd_call ok h1 h2 h3 h4 (sndAs es X st sc _ ok h4)
    · cases h
  | .cd f es, X, st, sc, e, ok, h => by
    obtain ⟨x, p, dp, xs, pos, rfl, h1, h2, h3, h4⟩ := cd_form h
    exact snd_cd ok h1 h2 h3 h4 (sndAs es X st sc _ ok h4)
  | .rd f es, X, st, sc, e, ok, h => by
    obtain ⟨x, p, xs, pos, rfl, h1, h2, h3, h4⟩ := rd_form h
    exact snd_rd ok h1 h2 h3 h4 (sndAs es X st sc _ ok h4)
  | .blt b es, X, st, sc, e, ok, h => by
    cases e <;> simp only [chkE, Bool.false_eq_true] at h
    split at h
    · rename_i z p xs0 pos0 heq
      cases heq
      rename_i xs pos e0
      simp only [Bool.and_eq_true, decide_eq_true_eq, Bool.not_eq_true'] at h
      obtain ⟨⟨⟨h1, h2⟩, h3⟩, h4⟩ := h
      have pa := sndAs es X st sc xs ok h4
      have go : ∀ σ H Q, tE X.K C G (.blt b es) σ H Q → tCB (rCall X.K (dBlt b)) (tAs X.K C G es) σ H Q := fun σ H Q hq => by
        obtain ⟨g, B, r, g', re, ev, q⟩ := hq
        obtain ⟨rs, g1, e1, ev⟩ := bind2 (show (evAs C G es g).bind _ = _ from ev)
        obtain ⟨ds, e2, ev⟩ := bind1 ev
        obtain ⟨rv, e3, e4⟩ := map1 ev
        cases e4
        exact tcb re e1 e2 e3 q
      cases xs with
      | nil => cases h3
      | cons x xs =>
        cases es with
        | nil => cases h4
        | cons a es =>
          obtain ⟨k1, k2⟩ := Bool.and_eq_true_iff.mp (show (chkE nm X.N sc a x && chkEs nm X.N sc es xs) = true from h4)
          exact pe_imp (rcall_ty ok b h1 h2 pa (noStar k1 xs) (noStars pos k2)) go
    · cases h
  | .isi a ts, X, st, sc, e, ok, h => by
    cases e <;> simp only [chkE, Bool.false_eq_true] at h
    split at h
    · rename_i z p y t pos heq
      cases heq
      obtain ⟨h0, h4⟩ := Bool.and_eq_true_iff.mp h
      simp only [Bool.and_eq_true, decide_eq_true_eq] at h0
      obtain ⟨⟨h1, h2⟩, h3⟩ := h0
      exact snd_isi ok h1 h2 h3 h4 (sndE a X st sc y ok h3)
    · cases h
  | .mth m o es, X, st, sc, e, ok, h => by
    unfold chkE at h
    split at h
    · rename_i y at_ apos z cpos
      split at h
      · rename_i a
        simp only [Bool.and_eq_true, decide_eq_true_eq] at h
        obtain ⟨⟨⟨⟨h1, h2⟩, h3⟩, h4⟩, h5⟩ := h
        subst h1
        refine snd_index ok h2 h3 h4 ?_ (sndE o X st sc y ok h3) (sndE a X st sc z ok h4)
        cases y <;> first
          | exact .inl ⟨_, _, rfl⟩
          | exact .inr ⟨_, _, _, _, rfl⟩
          | (exfalso; exact Bool.false_ne_true h5)
      · rename_i k a
        simp only [Bool.and_eq_true, decide_eq_true_eq] at h
        obtain ⟨⟨⟨h1, h2⟩, h3⟩, h4⟩ := h
        subst h1
        cases y <;> simp only [Bool.false_eq_true] at h4
        simp only [Bool.and_eq_true, decide_eq_true_eq] at h4
        exact snd_tindex ok h2 h4.1.1 h4.1.2 h4.2 h3 (sndE a X st sc z ok h3)
      · rename_i a b
        simp only [Bool.and_eq_true, decide_eq_true_eq] at h
        obtain ⟨⟨⟨h1, h2⟩, h3⟩, h4⟩ := h
        subst h1
        split at h4
        rotate_left
        · cases h4
        have h5 := of_decide_eq_true h4
        subst h5
        exact snd_join ok h2 h3 (sndE b X st sc z ok h3)
      · cases h
    · cases h
  | .rng _, X, st, sc, e, ok, h => by cases h
  | .enu _, X, st, sc, e, ok, h => by cases h
  | .zip _ _, X, st, sc, e, ok, h => by cases h
  | .comp el p it c own, X, st, sc, e, ok, h => by
    unfold chkE at h
    split at h
    · rename_i x tg iter ifs a scope pos
      simp only [Bool.and_eq_true, decide_eq_true_eq] at h
      obtain ⟨⟨⟨⟨⟨h1, h2⟩, h3⟩, h4⟩, h5⟩, h6⟩ := h
      subst h1
      rcases Bool.or_eq_true_iff.mp h3 with h3 | h3
      · refine snd_comp ok h2 (sndI it p tg X st sc iter ok h3) h4 (fun X' ok' eN eK => by rw [← eK]; exact sndE el X' _ _ x ok' (by rw [eN]; exact h5)) (fun X' ok' eN eK => ?_) (notSetI h3) (ez_tp h3 h4)
        rw [← eK]
        cases c with
        | none =>
          cases ifs with
          | nil => exact pts_nil
          | cons _ _ => cases h6
        | some c =>
          rcases ifs with _ | ⟨y, _ | ⟨y', r⟩⟩
          · cases h6
          · exact pts_one (sndT c X' _ _ y ok' (by rw [eN]; exact h6))
          · cases h6
      · refine snd_comp ok h2 (snd_I0 (sndE it X st sc iter ok h3)) h4 (fun X' ok' eN eK => by rw [← eK]; exact sndE el X' _ _ x ok' (by rw [eN]; exact h5)) (fun X' ok' eN eK => ?_) (notSet h3) (ez_no h3)
        rw [← eK]
        cases c with
        | none =>
          cases ifs with
          | nil => exact pts_nil
          | cons _ _ => cases h6
        | some c =>
          rcases ifs with _ | ⟨y, _ | ⟨y', r⟩⟩
          · cases h6
          · exact pts_one (sndT c X' _ _ y ok' (by rw [eN]; exact h6))
          · cases h6
    · cases h
  | .ext x es, X, st, sc, e, ok, h => by
    cases x with
    | dis ks =>
      obtain ⟨keys, vals, pos, rfl, h1, h2, h3⟩ := ext_dis h
      obtain ⟨trs, pp, l1, l2, pr⟩ := sndPr es ks X st sc pos keys vals ok h1 h3 h2
      exact snd_dis h1 pp l1 l2 pr h2
    | get =>
      obtain ⟨a, k, d, y, q, apos, z, w, cpos, rfl, rfl, h2, h3, h4, h5⟩ := ext_get h
      exact snd_get ok h2 h4 h5 (sndE a X st sc _ ok h3) (sndE k X st sc _ ok h4) (sndE d X st sc _ ok h5)
    | split =>
      obtain ⟨a, b, y, apos, z, cpos, rfl, rfl, h2, h3, h4, h5⟩ := ext_split h
      exact snd_split ok (by rcases h3 with ⟨_, _, rfl⟩ | ⟨_, _, _, rfl⟩ <;> rfl) h2 h5 (sndE a X st sc _ ok h4) (sndE b X st sc _ ok h5)
    | starts =>
      obtain ⟨a, b, y, apos, z, cpos, rfl, rfl, h2, h3, h4, h5⟩ := ext_starts h
      exact snd_starts ok (by rcases h3 with ⟨_, _, rfl⟩ | ⟨_, _, _, rfl⟩ <;> rfl) h2 h5 (sndE a X st sc _ ok h4) (sndE b X st sc _ ok h5)
    | dis1 =>
      obtain ⟨k, d, z, w, pos, rfl, rfl, h1, h2⟩ := ext_dis1 h
      exact snd_dis1 ok (sndE k X st sc _ ok h1) (sndE d X st sc _ ok h2)
    | sst =>
      obtain ⟨a, p, y, p2, q, pos, rfl, rfl, h1, h2, h3⟩ := ext_sst h
      exact snd_sst2 ok h1 h2 h3 (sndE a X st sc _ ok h3)
    | stp =>
      obtain ⟨a, j, y, z, p, pos, rfl, rfl, h1, h2⟩ := ext_stp h
      exact snd_stp ok (sndE a X st sc _ ok h1) (sndE j X st sc _ ok h2)
termination_by a => (sizeOf a, 0)
theorem sndEs : ∀ (es : List E) (X : Cx) (st sc : Scope) (xs : List Expr), Ok X C G nm n st sc → chkEs nm X.N sc es xs = true → PA X xs (tEs X.K C G es)
  | [], X, st, sc, xs, ok, h => by
    have e : xs = [] := List.isEmpty_iff.mp h
    subst e
    refine ⟨fun pos pins s σ H Q I hq => pa_nil.run pos pins s σ H Q I ?_⟩
    obtain ⟨g, B, ds, g', re, ev, q⟩ := hq
    cases (show some (([] : List D), g) = some (ds, g') from ev)
    exact q [] H B (Stp.refl re) rfl
  | a :: es, X, st, sc, [], ok, h => by cases h
  | a :: es, X, st, sc, x :: xs, ok, h => by
    obtain ⟨h1, h2⟩ := Bool.and_eq_true_iff.mp (show (chkE nm X.N sc a x && chkEs nm X.N sc es xs) = true from h)
    have pa := pa_cons (sndE a X st sc x ok h1) (sndEs es X st sc xs ok h2) (noStar h1 xs)
    refine ⟨fun pos pins s σ H Q I hq => pa.run pos pins s σ H Q I ?_⟩
    obtain ⟨g, B, ds, g', re, ev, q⟩ := hq
    obtain ⟨r, g1, e1, ev⟩ := bind2 (show (evE C G a g).bind _ = _ from ev)
    obtain ⟨d, e2, ev⟩ := bind1 ev
    obtain ⟨⟨fs, g2⟩, e3, e4⟩ := map1 ev
    cases e4
    refine tE_of re e1 fun v H1 B1 s1 r1 => ?_
    obtain ⟨B2, s2, hv⟩ := r1.pure s1 e2
    exact ⟨g1, B2, fs, _, s2.re, e3, fun vs H3 B3 s3 hs => q (v :: vs) H3 B3 (s2.trans s3) ⟨v, vs, rfl, RepV.ext s3.kp d v hv, hs⟩⟩
termination_by es => (sizeOf es, 0)
theorem sndAs : ∀ (es : List E) (X : Cx) (st sc : Scope) (xs : List Expr), Ok X C G nm n st sc → chkEs nm X.N sc es xs = true → PA X xs (tAs X.K C G es)
  | [], X, st, sc, xs, ok, h => by
    have e : xs = [] := List.isEmpty_iff.mp h
    subst e
    refine ⟨fun pos pins s σ H Q I hq => pa_nil.run pos pins s σ H Q I ?_⟩
    obtain ⟨g, B, ds, g', re, ev, q⟩ := hq
    cases (show some (([] : List Rv), g) = some (ds, g') from ev)
    exact q [] H B (Stp.refl re) rfl
  | a :: es, X, st, sc, [], ok, h => by cases h
  | a :: es, X, st, sc, x :: xs, ok, h => by
    obtain ⟨h1, h2⟩ := Bool.and_eq_true_iff.mp (show (chkE nm X.N sc a x && chkEs nm X.N sc es xs) = true from h)
    have pa := pa_cons (sndE a X st sc x ok h1) (sndAs es X st sc xs ok h2) (noStar h1 xs)
    refine ⟨fun pos pins s σ H Q I hq => pa.run pos pins s σ H Q I ?_⟩
    obtain ⟨g, B, rs, g', re, ev, q⟩ := hq
    obtain ⟨r, g1, e1, ev⟩ := bind2 (show (evE C G a g).bind _ = _ from ev)
    obtain ⟨⟨fs, g2⟩, e3, e4⟩ := map1 ev
    cases e4
    refine tE_of re e1 fun v H1 B1 s1 r1 => ?_
    have key : ∀ {B2 : Bs}, Stp X.K σ g H B σ g1 H1 B2 → (∀ {g2 H3 B3}, Stp X.K σ g1 H1 B2 σ g2 H3 B3 → RvO X.K σ g2 H3 B3 r.op v) → tAs X.K C G es σ H1 fun xs H2 => Q (v :: xs) H2 := fun {B2} s2 hv =>
      ⟨g1, B2, fs, _, s2.re, e3, fun vs H3 B3 s3 hs => q (v :: vs) H3 B3 (s2.trans s3) ⟨v, vs, rfl, hv s3, hs⟩⟩
    cases r with
    | pur d => exact key s1 fun s3 => RepV.ext s3.kp d v r1
    | new d =>
      obtain ⟨B2, s2, hv⟩ := r1.pure s1 (d := d) rfl
      exact key s2 fun s3 => RepV.ext s3.kp d v hv
    | loc i =>
      exact key s1 fun {g2 H3 B3} s3 => ⟨r1.1, True.intro⟩
termination_by es => (sizeOf es, 0)
theorem sndPr : ∀ (es : List E) (ks : List Str) (X : Cx) (st sc : Scope) (pos : Pos) (keys : List (Option Expr)) (vals : List Expr), Ok X C G nm n st sc → keyStrs ks keys = true → chkEs nm X.N sc es vals = true → ks.length = es.length → ∃ trs, PPs X pos keys vals trs ∧ keys.length = vals.length ∧ keys.all (·.isSome) = true ∧ PrOk X C G ks es trs
  | [], [], X, st, sc, pos, keys, vals, ok, h1, h2, _ => by
    have e1 : keys = [] := List.isEmpty_iff.mp h1
    have e2 : vals = [] := List.isEmpty_iff.mp h2
    subst e1 e2
    refine ⟨[], pps_nil, rfl, rfl, fun {σ H B g g' ds Q} re ev q => ?_⟩
    cases (show some ([], g) = some (ds, g') from ev)
    exact q H B [] (Stp.refl re) rfl
  | _ :: _, [], _, _, _, _, _, _, _, _, _, h => by cases h
  | [], _ :: _, _, _, _, _, _, _, _, _, _, h => by cases h
  | e :: es, k :: ks, X, st, sc, pos, keys, vals, ok, h1, h2, hl => by
    unfold keyStrs at h1
    split at h1
    · rename_i z kk pz r
      obtain ⟨c1, c2⟩ := Bool.and_eq_true_iff.mp h1
      cases of_decide_eq_true c1
      cases vals with
      | nil => cases h2
      | cons y vals =>
        obtain ⟨c3, c4⟩ := Bool.and_eq_true_iff.mp (show (chkE nm X.N sc e y && chkEs nm X.N sc es vals) = true from h2)
        obtain ⟨trs, pp, l1, l2, pr⟩ := sndPr es ks X st sc pos r vals ok c2 c4 (by simpa using hl)
        refine ⟨_, pps_cons pe_str (sndE e X st sc y ok c3) pp, by simp [l1], by simpa using l2, fun {σ H B g g' ds Q} re ev q => ?_⟩
        obtain ⟨rv, d, g1, l, p1, p2, p3, rfl⟩ := evEsC ev
        show tE X.K C G e σ H _
        refine tE_of re p1 fun v H1 B1 s1 r1 => ?_
        obtain ⟨B1', s1', hv⟩ := r1.pure s1 p2
        refine pr s1'.re p3 fun H2 B2 vs s2 rr => ?_
        exact q H2 B2 (v :: vs) (s1'.trans s2) ⟨v, vs, rfl, hv.ext s2.kp, rr⟩
    · cases h1
termination_by es => (sizeOf es, 0)
theorem sndO : ∀ (o : Option E) (X : Cx) (st sc : Scope) (x : Option Expr), Ok X C G nm n st sc → chkO nm X.N sc o x = true → PO X x (tO X.K C G o)
  | none, X, st, sc, x, ok, h => by
    cases x with
    | some _ => cases h
    | none =>
      refine ⟨fun pins s σ H Q I hq => po_none.run pins s σ H Q I ?_⟩
      obtain ⟨g, B, i, g', re, ev, q⟩ := hq
      cases (show some ((none : Option Int), g) = some (i, g') from ev)
      exact q H B (Stp.refl re)
  | some a, X, st, sc, x, ok, h => by
    cases x with
    | none => cases h
    | some x =>
      refine ⟨fun pins s σ H Q I hq => (po_some (sndE a X st sc x ok h)).run pins s σ H Q I ?_⟩
      obtain ⟨g, B, i, g', re, ev, q⟩ := hq
      obtain ⟨r, g1, e1, ev⟩ := bind2 (show (evE C G a g).bind _ = _ from ev)
      have no : ∀ {z : Option (Option Int × Sg)}, z = some (i, g') → z = none → False := fun h1 h2 => by rw [h1] at h2; cases h2
      cases r with
      | pur d =>
        cases d with
        | int j =>
          cases (show some (some j, g1) = some (i, g') from ev)
          exact tE_of re e1 fun v H1 B1 s hr => ⟨j, hr, q H1 B1 s⟩
        | none => exact (no ev rfl).elim
        | bool _ => exact (no ev rfl).elim
        | str _ => exact (no ev rfl).elim
        | list _ => exact (no ev rfl).elim
        | tuple _ => exact (no ev rfl).elim
        | dict _ => exact (no ev rfl).elim
      | loc _ => exact (no ev rfl).elim
      | new _ => exact (no ev rfl).elim
termination_by o => (sizeOf o, 0)
theorem sndI : ∀ (it : E) (p : Pat) (tg : Expr) (X : Cx) (st sc : Scope) (e : Expr), Ok X C G nm n st sc → chkI nm X.N sc p it tg e = true → PI X tg e (tI X.K C G it)
  | .rng es, p, tg, X, st, sc, e, ok, h => by
    cases e <;> simp only [chkI, Bool.false_eq_true] at h
    split at h
    · rename_i z q xs pos heq
      cases heq
      simp only [Bool.and_eq_true, decide_eq_true_eq] at h
      obtain ⟨⟨⟨h1, h2⟩, h3⟩, h4⟩ := h
      exact snd_rng ok h1 h2 h3 h4 (sndEs es X st sc _ ok h3)
    · cases h
  | .enu a, p, tg, X, st, sc, e, ok, h => by
    cases tg <;> cases e <;> simp only [chkI, Bool.false_eq_true] at h
    split at h
    · rename_i elts kk tpos z q y pos heq1 heq2
      cases heq1
      cases heq2
      simp only [Bool.and_eq_true, decide_eq_true_eq] at h
      obtain ⟨⟨h1, h2⟩, h3⟩ := h
      exact snd_enu ok h1 h2 h3 (sndE a X st sc y ok h3)
    · cases h
  | .zip a b, p, tg, X, st, sc, e, ok, h => by
    cases tg <;> cases e <;> simp only [chkI, Bool.false_eq_true] at h
    split at h
    · rename_i elts kk tpos z q y y2 pos heq1 heq2
      cases heq1
      cases heq2
      simp only [Bool.and_eq_true, decide_eq_true_eq] at h
      obtain ⟨⟨⟨h1, h2⟩, h3⟩, h4⟩ := h
      exact snd_zip ok h1 h2 h3 h4 (sndE a X st sc y ok h3) (sndE b X st sc y2 ok h4)
    · cases h
  | .var _, p, tg, X, st, sc, e, ok, h => by cases h
  | .mv _, p, tg, X, st, sc, e, ok, h => by cases h
  | .glo _, p, tg, X, st, sc, e, ok, h => by cases h
  | .cst _, p, tg, X, st, sc, e, ok, h => by cases h
  | .neg _, p, tg, X, st, sc, e, ok, h => by cases h
  | .not _, p, tg, X, st, sc, e, ok, h => by cases h
  | .bin _ _ _, p, tg, X, st, sc, e, ok, h => by cases h
  | .cmp _ _ _, p, tg, X, st, sc, e, ok, h => by cases h
  | .chn _ _ _ _ _, p, tg, X, st, sc, e, ok, h => by cases h
  | .and _ _, p, tg, X, st, sc, e, ok, h => by cases h
  | .or _ _, p, tg, X, st, sc, e, ok, h => by cases h
  | .ite _ _ _, p, tg, X, st, sc, e, ok, h => by cases h
  | .tup _, p, tg, X, st, sc, e, ok, h => by cases h
  | .lst _, p, tg, X, st, sc, e, ok, h => by cases h
  | .idx _ _, p, tg, X, st, sc, e, ok, h => by cases h
  | .kix _ _, p, tg, X, st, sc, e, ok, h => by cases h
  | .dget _ _, p, tg, X, st, sc, e, ok, h => by cases h
  | .dhas _ _ _, p, tg, X, st, sc, e, ok, h => by cases h
  | .dlen _, p, tg, X, st, sc, e, ok, h => by cases h
  | .lrng _ _ _, p, tg, X, st, sc, e, ok, h => by cases h
  | .rg1 _ _, p, tg, X, st, sc, e, ok, h => by cases h
  | .zpt _ _, p, tg, X, st, sc, e, ok, h => by cases h
  | .tix _ _, p, tg, X, st, sc, e, ok, h => by cases h
  | .pop _ _, p, tg, X, st, sc, e, ok, h => by cases h
  | .slc _ _ _, p, tg, X, st, sc, e, ok, h => by cases h
  | .rev _, p, tg, X, st, sc, e, ok, h => by cases h
  | .tk _ _, p, tg, X, st, sc, e, ok, h => by cases h
  | .call _ _, p, tg, X, st, sc, e, ok, h => by cases h
  | .cd _ _, p, tg, X, st, sc, e, ok, h => by cases h
  | .rd _ _, p, tg, X, st, sc, e, ok, h => by cases h
  | .blt _ _, p, tg, X, st, sc, e, ok, h => by cases h
  | .isi _ _, p, tg, X, st, sc, e, ok, h => by cases h
  | .mth _ _ _, p, tg, X, st, sc, e, ok, h => by cases h
  | .comp _ _ _ _ _, p, tg, X, st, sc, e, ok, h => by cases h
  | .ext _ _, p, tg, X, st, sc, e, ok, h => by cases h
termination_by it => (sizeOf it, 0)
theorem sndT : ∀ (a : E) (X : Cx) (st sc : Scope) (e : Expr), Ok X C G nm n st sc → chkE nm X.N sc a e = true → PT X e (tT X.K C G a)
  | .not a, X, st, sc, e, ok, h => by
    cases e <;> simp only [chkE, Bool.false_eq_true] at h
    split at h
    · rename_i x pos heq
      cases heq
      refine pt_imp (pt_not (sndT a X st sc _ ok h)) fun σ H Q hq => ?_
      obtain ⟨g, B, b, g', re, ev, q⟩ := hq
      obtain ⟨r, g1, e1, ev⟩ := bind2 (show (evE C G (.not a) g).bind _ = _ from ev)
      obtain ⟨d, e2, ev⟩ := bind1 ev
      obtain ⟨t, e3, e4⟩ := map1 ev
      cases e4
      obtain ⟨ra, g2, e5, e6⟩ := bind2 (show (evE C G a g).bind _ = _ from e1)
      obtain ⟨d2, e7, e8⟩ := bind1 e6
      obtain ⟨c, e9, e10⟩ := map1 e8
      cases e10
      cases (show some (PyData.bool (!c)) = some d from e2)
      cases (show some (!c) = some b from e3)
      refine ⟨g, B, c, _, re, ?_, fun H1 B1 s => q H1 B1 s⟩
      show (evE C G a g).bind _ = _
      rw [e5]
      show (ra.data g2).bind _ = _
      rw [show ra.data g2 = some d2 from e7]
      show (dTru d2).map _ = _
      rw [e9]
      rfl
    · cases h
  | .and a b, X, st, sc, e, ok, h => by
    cases e <;> simp only [chkE, Bool.false_eq_true] at h
    split at h
    · rename_i x y pos heq
      cases heq
      obtain ⟨h1, h2⟩ := Bool.and_eq_true_iff.mp h
      exact pt_imp (pw_and (sndT a X st sc x ok h1) (pw_and1 (sndT b X st sc y ok h2))).pt fun σ H Q hq => tT_and hq
    · rename_i x y z rr pos heq
      cases heq
      obtain ⟨h1, h2⟩ := Bool.and_eq_true_iff.mp h
      exact pt_imp (pw_and (sndT a X st sc x ok h1) (pt_pw (sndT b X st sc _ ok h2))).pt fun σ H Q hq => tT_and hq
    · cases h
  | .or a b, X, st, sc, e, ok, h => by
    cases e <;> simp only [chkE, Bool.false_eq_true] at h
    split at h
    · rename_i x y pos heq
      cases heq
      obtain ⟨h1, h2⟩ := Bool.and_eq_true_iff.mp h
      exact pt_imp (pw_or (sndT a X st sc x ok h1) (pw_or1 (sndT b X st sc y ok h2))).pt fun σ H Q hq => tT_or hq
    · rename_i x y z rr pos heq
      cases heq
      obtain ⟨h1, h2⟩ := Bool.and_eq_true_iff.mp h
      exact pt_imp (pw_or (sndT a X st sc x ok h1) (pt_pw (sndT b X st sc _ ok h2))).pt fun σ H Q hq => tT_or hq
    · cases h
  | .cmp o a b, X, st, sc, e, ok, h => by
    cases e <;> simp only [chkE, Bool.false_eq_true] at h
    split at h
    · rename_i x p y pos heq
      cases heq
      simp only [Bool.and_eq_true, decide_eq_true_eq, Bool.not_eq_true'] at h
      obtain ⟨⟨⟨h1, h2⟩, h3⟩, h4⟩ := h
      subst h1
      refine pt_bool (a := .cmp o a b) (pt_cmpR (opC (units ok) ok.hw o) (sndE a X st sc _ ok h3) (sndE b X st sc _ ok h4) h2) (fun σ H Q hq => tE_cmp hq) fun g r g' d e1 e2 => ?_
      obtain ⟨ra, g1, e1, ev⟩ := bind2 (show (evE C G a g).bind _ = _ from e1)
      obtain ⟨rb, g2, e3, ev⟩ := bind2 ev
      obtain ⟨dx, e4, ev⟩ := bind1 ev
      obtain ⟨dy, e5, ev⟩ := bind1 ev
      obtain ⟨rv, e6, e7⟩ := map1 ev
      cases e7
      exact ⟨rv, (Option.some.inj e2).symm⟩
    · cases h
  | .chn o o' a b c, X, st, sc, e, ok, h => by
    cases e <;> simp only [chkE, Bool.false_eq_true] at h
    split at h
    · rename_i x p p' y z pos heq
      cases heq
      simp only [Bool.and_eq_true, decide_eq_true_eq, Bool.not_eq_true'] at h
      obtain ⟨⟨⟨⟨⟨h1, h2⟩, h3⟩, h4⟩, h5⟩, h6⟩ := h
      subst h1 h2
      refine pt_bool (a := .chn o o' a b c) (pt_chain (opC (units ok) ok.hw o) (opC (units ok) ok.hw o') (sndE a X st sc _ ok h4) (sndE b X st sc _ ok h5) (sndE c X st sc _ ok h6) h3) (fun σ H Q hq => tE_chn hq) fun g r g' d e1 e2 => ?_
      obtain ⟨ra, g1, e1, ev⟩ := bind2 (show (evE C G a g).bind _ = _ from e1)
      obtain ⟨rb, g2, e3, ev⟩ := bind2 ev
      obtain ⟨dx, e4, ev⟩ := bind1 ev
      obtain ⟨dy, e5, ev⟩ := bind1 ev
      obtain ⟨t, e6, ev⟩ := bind1 ev
      simp only at ev
      split at ev
      · obtain ⟨rc, g3, e6, ev⟩ := bind2 ev
        obtain ⟨dy', e7, ev⟩ := bind1 ev
        obtain ⟨dz, e8, ev⟩ := bind1 ev
        obtain ⟨t', e9, e10⟩ := map1 ev
        cases e10
        exact ⟨t', (Option.some.inj e2).symm⟩
      · cases ev
        exact ⟨false, (Option.some.inj e2).symm⟩
    · cases h
  | .ite c a b, X, st, sc, e, ok, h => by
    cases e <;> simp only [chkE, Bool.false_eq_true] at h
    simp only [Bool.and_eq_true] at h
    obtain ⟨⟨h1, h2⟩, h3⟩ := h
    refine pt_imp (pt_ifT (sndT c X st sc _ ok h1) (sndT a X st sc _ ok h2) (sndT b X st sc _ ok h3)) fun σ H Q hq => ?_
    obtain ⟨g, B, b', g', re, ev, q⟩ := hq
    obtain ⟨r, g1, e1, ev⟩ := bind2 (show (evE C G (.ite c a b) g).bind _ = _ from ev)
    obtain ⟨d, e2, ev⟩ := bind1 ev
    obtain ⟨t, e3, e4⟩ := map1 ev
    cases e4
    obtain ⟨rc, g2, e5, e6⟩ := bind2 (show (evE C G c g).bind _ = _ from e1)
    obtain ⟨dc, e7, e8⟩ := bind1 e6
    obtain ⟨tc, e9, e10⟩ := bind1 e8
    refine ⟨g, B, tc, g2, re, evT_of e5 e7 e9, fun H1 B1 s => ?_⟩
    cases tc with
    | true =>
      rw [if_pos rfl] at e10 ⊢
      exact ⟨g2, B1, _, _, s.re, evT_of e10 e2 e3, fun H2 B2 s2 => q H2 B2 (s.trans s2)⟩
    | false =>
      rw [if_neg Bool.false_ne_true] at e10 ⊢
      exact ⟨g2, B1, _, _, s.re, evT_of e10 e2 e3, fun H2 B2 s2 => q H2 B2 (s.trans s2)⟩
  | .var i, X, st, sc, e, ok, h => pt_of ok (sndE (.var i) X st sc e ok h) (isTrue_plain_of h nofun nofun nofun nofun nofun nofun nofun)
  | .mv i, X, st, sc, e, ok, h => pt_of ok (sndE (.mv i) X st sc e ok h) (isTrue_plain_of h nofun nofun nofun nofun nofun nofun nofun)
  | .glo i, X, st, sc, e, ok, h => pt_of ok (sndE (.glo i) X st sc e ok h) (isTrue_plain_of h nofun nofun nofun nofun nofun nofun nofun)
  | .cst i, X, st, sc, e, ok, h => pt_of ok (sndE (.cst i) X st sc e ok h) (isTrue_plain_of h nofun nofun nofun nofun nofun nofun nofun)
  | .neg i, X, st, sc, e, ok, h => pt_of ok (sndE (.neg i) X st sc e ok h) (isTrue_plain_of h nofun nofun nofun nofun nofun nofun nofun)
  | .bin o i j, X, st, sc, e, ok, h => pt_of ok (sndE (.bin o i j) X st sc e ok h) (isTrue_plain_of h nofun nofun nofun nofun nofun nofun nofun)
  | .tup i, X, st, sc, e, ok, h => pt_of ok (sndE (.tup i) X st sc e ok h) (isTrue_plain_of h nofun nofun nofun nofun nofun nofun nofun)
  | .lst i, X, st, sc, e, ok, h => pt_of ok (sndE (.lst i) X st sc e ok h) (isTrue_plain_of h nofun nofun nofun nofun nofun nofun nofun)
  | .idx i j, X, st, sc, e, ok, h => pt_of ok (sndE (.idx i j) X st sc e ok h) (isTrue_plain_of h nofun nofun nofun nofun nofun nofun nofun)
  | .kix i j, X, st, sc, e, ok, h => pt_of ok (sndE (.kix i j) X st sc e ok h) (isTrue_plain_of h nofun nofun nofun nofun nofun nofun nofun)
  | .dget i j, X, st, sc, e, ok, h => pt_of ok (sndE (.dget i j) X st sc e ok h) (isTrue_plain_of h nofun nofun nofun nofun nofun nofun nofun)
  | .dlen i, X, st, sc, e, ok, h => pt_of ok (sndE (.dlen i) X st sc e ok h) (isTrue_plain_of h nofun nofun nofun nofun nofun nofun nofun)
  | .lrng i j k, X, st, sc, e, ok, h => pt_of ok (sndE (.lrng i j k) X st sc e ok h) (isTrue_plain_of h nofun nofun nofun nofun nofun nofun nofun)
  | .rg1 i j, X, st, sc, e, ok, h => pt_of ok (sndE (.rg1 i j) X st sc e ok h) (isTrue_plain_of h nofun nofun nofun nofun nofun nofun nofun)
  | .zpt i j, X, st, sc, e, ok, h => pt_of ok (sndE (.zpt i j) X st sc e ok h) (isTrue_plain_of h nofun nofun nofun nofun nofun nofun nofun)
  | .tix i j, X, st, sc, e, ok, h => pt_of ok (sndE (.tix i j) X st sc e ok h) (isTrue_plain_of h nofun nofun nofun nofun nofun nofun nofun)
  | .pop i j, X, st, sc, e, ok, h => pt_of ok (sndE (.pop i j) X st sc e ok h) (isTrue_plain_of h nofun nofun nofun nofun nofun nofun nofun)
  | .dhas t i k, X, st, sc, e, ok, h => by
    cases e <;> simp only [chkE, Bool.false_eq_true] at h
    split at h
    · rename_i y p x px pos heq
      cases heq
      simp only [Bool.and_eq_true, decide_eq_true_eq] at h
      obtain ⟨⟨⟨⟨h0, h1⟩, h2⟩, h3⟩, h4⟩ := h
      refine pt_bool (a := .dhas t i k) (pt_cmp (dhas_pc ok h0 h1 h2 h3 (sndE k X st sc _ ok h4)) (by cases p <;> rfl)) (fun σ H Q hq => hq) fun g r g' d e1 e2 => ?_
      obtain ⟨rk, g1, e3, ev⟩ := bind2 (show (evE C G k g).bind _ = _ from e1)
      obtain ⟨dy, e4, ev⟩ := bind1 ev
      obtain ⟨o, e5, ev⟩ := bind1 ev
      cases dy with
      | str z =>
        have ev' : (if isN o.2 = true then none else some (Rv.pur (.bool ((dGet o.2 z).isSome == t)), g1)) = some (r, g') := ev
        split at ev' <;> cases ev'
        exact ⟨_, (Option.some.inj e2).symm⟩
      | tuple ks =>
        obtain ⟨c, e6, e7⟩ := map1 (show (nHas o.2 (.tuple ks)).map (fun c => (Rv.pur (.bool (c == t)), g1)) = some (r, g') from ev)
        cases e7
        exact ⟨_, (Option.some.inj e2).symm⟩
      | none => cases ev
      | bool _ => cases ev
      | int _ => cases ev
      | list _ => cases ev
      | dict _ => cases ev
    · cases h
  | .slc i j k, X, st, sc, e, ok, h => pt_of ok (sndE (.slc i j k) X st sc e ok h) (isTrue_plain_of h nofun nofun nofun nofun nofun nofun nofun)
  | .rev i, X, st, sc, e, ok, h => pt_of ok (sndE (.rev i) X st sc e ok h) (isTrue_plain_of h nofun nofun nofun nofun nofun nofun nofun)
  | .tk j i, X, st, sc, e, ok, h => pt_of ok (sndE (.tk j i) X st sc e ok h) (isTrue_plain_of h nofun nofun nofun nofun nofun nofun nofun)
  | .call i j, X, st, sc, e, ok, h => pt_of ok (sndE (.call i j) X st sc e ok h) (isTrue_plain_of h nofun nofun nofun nofun nofun nofun nofun)
  | .cd i j, X, st, sc, e, ok, h => pt_of ok (sndE (.cd i j) X st sc e ok h) (isTrue_plain_of h nofun nofun nofun nofun nofun nofun nofun)
  | .rd i j, X, st, sc, e, ok, h => pt_of ok (sndE (.rd i j) X st sc e ok h) (isTrue_plain_of h nofun nofun nofun nofun nofun nofun nofun)
  | .blt i j, X, st, sc, e, ok, h => pt_of ok (sndE (.blt i j) X st sc e ok h) (isTrue_plain_of h nofun nofun nofun nofun nofun nofun nofun)
  | .isi i j, X, st, sc, e, ok, h => pt_of ok (sndE (.isi i j) X st sc e ok h) (isTrue_plain_of h nofun nofun nofun nofun nofun nofun nofun)
  | .mth i j k, X, st, sc, e, ok, h => pt_of ok (sndE (.mth i j k) X st sc e ok h) (isTrue_plain_of h nofun nofun nofun nofun nofun nofun nofun)
  | .rng i, X, st, sc, e, ok, h => by cases h
  | .enu i, X, st, sc, e, ok, h => by cases h
  | .zip i j, X, st, sc, e, ok, h => by cases h
  | .comp i j k l m, X, st, sc, e, ok, h => pt_of ok (sndE (.comp i j k l m) X st sc e ok h) (isTrue_plain_of h nofun nofun nofun nofun nofun nofun nofun)
  | .ext i j, X, st, sc, e, ok, h => pt_of ok (sndE (.ext i j) X st sc e ok h) (isTrue_plain_of h nofun nofun nofun nofun nofun nofun nofun)
termination_by a => (sizeOf a, 1)
end
end Ev

namespace Ev
set_option autoImplicit false
open PySem PySem.Spec PyProof.Rows L2
variable [TheW]
section
variable {K : PySem.W.Frag} {σ σ' σ2 : L2.St} {g g' g2 : Sg} {H H' H2 : Hp} {B B' B2 : Bs} {v : V} {d d' : D} {i : Nat} {sl : Slot} {m : Md}
/-- a new value becomes a slot's own -/
theorem Stp.setOwn (st : Stp K σ g H B σ' g' H' B') (hs : g'[i]? = some sl) (hb : isBor sl = false) (hr : RepW K H' B' d v) (hn : ∀ a, v = .ref a → ¬ Own σ' g' a ∧ (B a → Own σ g a)) : Stp K σ g H B (σ'.set i (some v)) (g'.set i (some (.own, d))) H' B' := by
  have re := st.re
  have hi : i < g'.length := (List.getElem?_eq_some_iff.mp hs).1
  have hσ : i < σ'.length := by rw [← re.len]; exact hi
  -- an own slot of the new state
  have cases_ : ∀ {j : Nat} {n : Md} {e : D}, (g'.set i (some (.own, d)))[j]? = some (some (n, e)) → (i = j ∧ n = .own ∧ e = d ∧ (σ'.set i (some v))[j]? = some (some v)) ∨ (i ≠ j ∧ g'[j]? = some (some (n, e)) ∧ (σ'.set i (some v))[j]? = σ'[j]?) := fun {j n e} h => by
    by_cases z : i = j
    · subst z
      rw [List.getElem?_set_self hi] at h
      cases h
      exact .inl ⟨rfl, rfl, rfl, List.getElem?_set_self hσ⟩
    · rw [List.getElem?_set_ne z] at h
      exact .inr ⟨z, h, List.getElem?_set_ne z⟩
  refine ⟨⟨by rw [List.length_set, List.length_set]; exact re.len, fun j e h => ?_, fun j n e h hm => ?_, fun j k n n' e f a hj hm hk hn' sj sk => ?_, re.trk⟩, st.trk, st.ownB, st.keep, st.own, st.new, fun a o => ?_, st.grow, fun j e h => ?_⟩
  · rcases cases_ h with ⟨_, z, _, _⟩ | ⟨z, h', hv⟩
    · cases z
    · rw [hv]
      exact re.val j e h'
  · rcases cases_ h with ⟨_, rfl, rfl, hv⟩ | ⟨z, h', hv⟩
    · exact ⟨v, hv, hr⟩
    · rw [hv]
      exact re.own j n e h' hm
  · rcases cases_ hj with ⟨rfl, _, _, hv⟩ | ⟨z, h1, hv⟩
    · rcases cases_ hk with ⟨rfl, _, _, _⟩ | ⟨z2, h2, hv2⟩
      · rfl
      · rw [hv] at sj
        cases sj
        rw [hv2] at sk
        exact ((hn a rfl).1 ⟨k, n', f, h2, hn', sk⟩).elim
    · rcases cases_ hk with ⟨rfl, _, _, hv2⟩ | ⟨z2, h2, hv2⟩
      · rw [hv2] at sk
        cases sk
        rw [hv] at sj
        exact ((hn a rfl).1 ⟨j, n, e, h1, hm, sj⟩).elim
      · rw [hv] at sj
        rw [hv2] at sk
        exact re.dist j k n n' e f a h1 hm h2 hn' sj sk
  · obtain ⟨j, n, e, h, hm, sj⟩ := o
    rcases cases_ h with ⟨rfl, _, _, hv⟩ | ⟨z, h', hv⟩
    · rw [hv] at sj
      cases sj
      obtain ⟨b, o, e1, hB, _⟩ := hr.ref
      cases e1
      rcases st.new a hB with z | z
      · exact .inl ((hn a rfl).2 z)
      · exact .inr z
    · rw [hv] at sj
      exact st.osub a ⟨j, n, e, h', hm, sj⟩
  · obtain ⟨e1, d1, e2⟩ := st.bfix j e h
    have z : i ≠ j := fun z => by
      subst z
      rw [hs] at e2
      cases e2
      cases hb
    rw [List.getElem?_set_ne z, List.getElem?_set_ne z]
    exact ⟨e1, d1, e2⟩
/-- an own value is shared from here on -/
theorem Stp.frz (re : RE K H B σ g) (hs : g[i]? = some (some (Md.own, d))) : ∃ B', Stp K σ g H B σ (g.set i (some (.val, d))) H B' := by
  have hi : i < g.length := (List.getElem?_eq_some_iff.mp hs).1
  obtain ⟨v, hv, hr⟩ := re.own i .own d hs (fun z => nomatch z)
  obtain ⟨a, o, rfl, Ba, Ha, _⟩ := hr.ref
  have oa : Own σ g a := ⟨i, .own, d, hs, (fun z => nomatch z), hv⟩
  have kp : Keep H B H (but B (.ref a)) := but_keep re.trk
  have cases_ : ∀ {j : Nat} {n : Md} {e : D}, (g.set i (some (.val, d)))[j]? = some (some (n, e)) → (i = j ∧ n = .val ∧ e = d) ∨ (i ≠ j ∧ g[j]? = some (some (n, e))) := fun {j n e} h => by
    by_cases z : i = j
    · subst z
      rw [List.getElem?_set_self hi] at h
      cases h
      exact .inl ⟨rfl, rfl, rfl⟩
    · rw [List.getElem?_set_ne z] at h
      exact .inr ⟨z, h⟩
  have own_ : ∀ {j : Nat} {n : Md} {e : D}, (g.set i (some (.val, d)))[j]? = some (some (n, e)) → n ≠ Md.val → i ≠ j ∧ g[j]? = some (some (n, e)) := fun {j n e} h hn => by
    rcases cases_ h with ⟨rfl, rfl, rfl⟩ | ⟨z, h⟩
    · exact absurd rfl hn
    · exact ⟨z, h⟩
  refine ⟨but B (.ref a), ⟨by rw [List.length_set]; exact re.len, fun j e h => ?_, fun j n e h hn => ?_, fun j k n n' e f b hj hm1 hk hn' sj sk => ?_, fun b hb => re.trk b hb.1⟩, re.trk, fun b o => re.ownB o, fun b u e nb => e, fun b hb nb => ⟨hb, fun z => nb (by cases z; exact oa)⟩, fun b hb => .inl hb.1, fun b ob => ?_, fun b nb => nb, fun j e h => ?_⟩
  · rcases cases_ h with ⟨rfl, _, rfl⟩ | ⟨z, h'⟩
    · refine ⟨_, hv, ?_⟩
      cases e with
      | list ds =>
        obtain ⟨b, xs, e1, _, e2, e3⟩ := hr
        cases e1
        exact ⟨a, xs, rfl, .inl ⟨e2, fun z => z.2 rfl⟩, e3.ext kp⟩
      | none => exact hr.elim
      | bool _ => exact hr.elim
      | int _ => exact hr.elim
      | str _ => exact hr.elim
      | tuple _ => exact hr.elim
      | dict kvs =>
        obtain ⟨b, ob, e1, _, e2, e3⟩ := hr
        cases e1
        exact ⟨a, ob, rfl, ⟨e2, fun z => z.2 rfl⟩, (e3.ext kp).v⟩
    · obtain ⟨w, e1, hw⟩ := re.val j e h'
      exact ⟨w, e1, RepV.ext kp e w hw⟩
  · obtain ⟨z, h'⟩ := own_ h hn
    obtain ⟨w, e1, hw⟩ := re.own j n e h' hn
    refine ⟨w, e1, hw.ext kp fun b u eb eu => ?_⟩
    subst eb
    refine ⟨eu, re.ownB ⟨j, n, e, h', hn, e1⟩, fun zz => z ?_⟩
    cases zz
    exact re.dist i j .own n d e a hs (fun z => nomatch z) h' hn hv e1
  · obtain ⟨_, h1⟩ := own_ hj hm1
    obtain ⟨_, h2⟩ := own_ hk hn'
    exact re.dist j k n n' e f b h1 hm1 h2 hn' sj sk
  · obtain ⟨j, n, e, h, hn, sj⟩ := ob
    obtain ⟨_, h1⟩ := own_ h hn
    exact .inl ⟨j, n, e, h1, hn, sj⟩
  · have z : i ≠ j := fun z => by
      subst z
      rw [hs] at h
      cases h
    rw [List.getElem?_set_ne z]
    exact ⟨rfl, e, h⟩
/-- an own dict of texts is locked and shared from here on -/
theorem Stp.lck {kvs : List (D × D)} (re : RE K H B σ g) (hs : g[i]? = some (some (Md.own, .dict kvs))) (hn : isN kvs = false) : ∃ a ks, H a = some (.dK ks) ∧ ∀ od : Obj, ∃ B', Stp K σ g H B σ (g.set i (some (.val, tL kvs))) (upd H a (.frz od (.dK ks))) B' := by
  have hi : i < g.length := (List.getElem?_eq_some_iff.mp hs).1
  obtain ⟨v, hv, hr⟩ := re.own i .own _ hs (fun z => nomatch z)
  obtain ⟨a, o, rfl, Ba, Ha, hd⟩ := hr.dct
  obtain ⟨ks, rfl, h2⟩ := hd.k hn
  have oa : Own σ g a := ⟨i, .own, _, hs, (fun z => nomatch z), hv⟩
  refine ⟨a, ks, Ha, fun od => ?_⟩
  have ne_ : ∀ {b : Addr}, ¬ B b → b ≠ a := fun {b} n z => n (by rw [z]; exact Ba)
  have kp : Keep H B (upd H a (.frz od (.dK ks))) (but B (.ref a)) := ⟨fun b u e nb => ⟨by rw [upd_ne (ne_ nb)]; exact e, fun z => nb z.1⟩, re.trk⟩
  have cases_ : ∀ {j : Nat} {n : Md} {e : D}, (g.set i (some (.val, tL kvs)))[j]? = some (some (n, e)) → (i = j ∧ n = .val ∧ e = tL kvs) ∨ (i ≠ j ∧ g[j]? = some (some (n, e))) := fun {j n e} h => by
    by_cases z : i = j
    · subst z
      rw [List.getElem?_set_self hi] at h
      cases h
      exact .inl ⟨rfl, rfl, rfl⟩
    · rw [List.getElem?_set_ne z] at h
      exact .inr ⟨z, h⟩
  have own_ : ∀ {j : Nat} {n : Md} {e : D}, (g.set i (some (.val, tL kvs)))[j]? = some (some (n, e)) → n ≠ Md.val → i ≠ j ∧ g[j]? = some (some (n, e)) := fun {j n e} h hn => by
    rcases cases_ h with ⟨rfl, rfl, rfl⟩ | ⟨z, h⟩
    · exact absurd rfl hn
    · exact ⟨z, h⟩
  refine ⟨but B (.ref a), ⟨by rw [List.length_set]; exact re.len, fun j e h => ?_, fun j n e h hn => ?_, fun j k n n' e f b hj hm1 hk hn' sj sk => ?_, fun b hb => ?_⟩, re.trk, fun b o => re.ownB o, fun b u e nb => ?_, fun b hb nb => ⟨hb, fun z => nb (by cases z; exact oa)⟩, fun b hb => .inl hb.1, fun b ob => ?_, fun b nb => ?_, fun j e h => ?_⟩
  · rcases cases_ h with ⟨rfl, _, rfl⟩ | ⟨z, h'⟩
    · exact ⟨_, hv, a, _, rfl, ⟨upd_same, fun z => z.2 rfl⟩, .inr (.inr ⟨od, ks, rfl, rfl, rfl, RepKs.ext kp _ _ h2⟩)⟩
    · obtain ⟨w, e1, hw⟩ := re.val j e h'
      exact ⟨w, e1, RepV.ext kp e w hw⟩
  · obtain ⟨z, h'⟩ := own_ h hn
    obtain ⟨w, e1, hw⟩ := re.own j n e h' hn
    refine ⟨w, e1, hw.ext kp fun b u eb eu => ?_⟩
    subst eb
    have nb : b ≠ a := fun zz => z (by
      subst zz
      exact re.dist i j .own n _ e b hs (fun z => nomatch z) h' hn hv e1)
    exact ⟨by rw [upd_ne nb]; exact eu, re.ownB ⟨j, n, e, h', hn, e1⟩, fun zz => nb (by cases zz; rfl)⟩
  · obtain ⟨_, h1⟩ := own_ hj hm1
    obtain ⟨_, h2⟩ := own_ hk hn'
    exact re.dist j k n n' e f b h1 hm1 h2 hn' sj sk
  · have nb : b ≠ a := fun z => hb.2 (by rw [z])
    rw [upd_ne nb]
    exact re.trk b hb.1
  · rw [upd_ne (fun z => nb (by rw [z]; exact oa))]
    exact e
  · obtain ⟨j, n, e, h, hn, sj⟩ := ob
    obtain ⟨_, h1⟩ := own_ h hn
    exact .inl ⟨j, n, e, h1, hn, sj⟩
  · by_cases z : b = a
    · subst z
      rw [upd_same]
      exact fun z => nomatch z
    · rw [upd_ne z]
      exact nb
  · have z : i ≠ j := fun z => by
      subst z
      rw [hs] at h
      cases h
    rw [List.getElem?_set_ne z]
    exact ⟨rfl, e, h⟩
end
/-- what a return gives -/
def RvT (K : PySem.W.Frag) (σ : L2.St) (g : Sg) (B : Bs) (σ' : L2.St) (g' : Sg) (H' : Hp) (B' : Bs) : Rv → V → Prop
  | .pur d, v => RepV K H' B' d v
  | .new d, v => RepO K H' B' d v ∧ ∀ a, v = .ref a → ¬ Own σ' g' a ∧ (B a → Own σ g a)
  | .loc _, _ => False
def Fin (K : PySem.W.Frag) (D : Ends) (σ : L2.St) (g : Sg) (H : Hp) (B : Bs) : Out → Prop
  | .nx g' => ∀ σ' H' B', Stp K σ g H B σ' g' H' B' → D.nx σ' H'
  | .bk g' => ∀ σ' H' B', Stp K σ g H B σ' g' H' B' → D.bk σ' H'
  | .ct g' => ∀ σ' H' B', Stp K σ g H B σ' g' H' B' → D.ct σ' H'
  | .rt r g' => ∀ v σ' H' B', Stp K σ g H B σ' g' H' B' → RvT K σ g B σ' g' H' B' r v → D.rt v H'
def tS (K : PySem.W.Frag) (f : Sg → Option Out) : TS := fun D σ H => ∃ (g : Sg) (B : Bs) (o : Out), RE K H B σ g ∧ f g = some o ∧ Fin K D σ g H B o
section
variable {K : PySem.W.Frag} {D : Ends} {σ σ1 σ2 : L2.St} {g g1 g2 : Sg} {H H1 H2 : Hp} {B B1 B2 : Bs} {r : Rv} {v : V} {o : Out}
theorem RvT.shift (h : RvT K σ1 g1 B1 σ2 g2 H2 B2 r v) (s : Stp K σ g H B σ1 g1 H1 B1) : RvT K σ g B σ2 g2 H2 B2 r v := by
  cases r with
  | pur d => exact h
  | loc i => exact h
  | new d =>
    refine ⟨h.1, fun a e => ⟨(h.2 a e).1, fun b => ?_⟩⟩
    by_cases o : Own σ g a
    · exact o
    · exact (s.osub a ((h.2 a e).2 (s.own a b o))).elim id fun z => by
        obtain ⟨u, eu, _⟩ := s.trk a b
        rw [z] at eu
        cases eu
theorem Fin.shift (h : Fin K D σ g H B o) (s : Stp K σ g H B σ1 g1 H1 B1) : Fin K D σ1 g1 H1 B1 o := by
  cases o with
  | nx g' => exact fun σ' H' B' s' => h σ' H' B' (s.trans s')
  | bk g' => exact fun σ' H' B' s' => h σ' H' B' (s.trans s')
  | ct g' => exact fun σ' H' B' s' => h σ' H' B' (s.trans s')
  | rt r g' => exact fun v σ' H' B' s' hr => h v σ' H' B' (s.trans s') (hr.shift s)
/-- another wish for the end that is not reached -/
theorem Fin.to {D' : Ends} (h : Fin K D σ g H B o) (hn : ∀ g', o = .nx g' → ∀ σ' H' B', Stp K σ g H B σ' g' H' B' → D.nx σ' H' → D'.nx σ' H') (hb : ∀ g', o = .bk g' → ∀ σ' H' B', Stp K σ g H B σ' g' H' B' → D.bk σ' H' → D'.bk σ' H')
    (hc : ∀ g', o = .ct g' → ∀ σ' H' B', Stp K σ g H B σ' g' H' B' → D.ct σ' H' → D'.ct σ' H') (hr : ∀ v H, D.rt v H → D'.rt v H) : Fin K D' σ g H B o := by
  cases o with
  | nx g' => exact fun σ' H' B' s => hn g' rfl σ' H' B' s (h σ' H' B' s)
  | bk g' => exact fun σ' H' B' s => hb g' rfl σ' H' B' s (h σ' H' B' s)
  | ct g' => exact fun σ' H' B' s => hc g' rfl σ' H' B' s (h σ' H' B' s)
  | rt r g' => exact fun v σ' H' B' s q => hr v H' (h v σ' H' B' s q)
end
def isLc : Expr → Bool
  | .ListComp _ _ _ _ => true
  | .SetComp _ _ _ _ => true
  | .DictComp _ _ _ _ _ => true
  | _ => false
def isFnB (sc : Scope) : Bool := match sc.kind with
  | .function => true
  | _ => false
def celN (sc : Scope) (x : Str) : Bool := decide (sc.names.lookup x = some .cell)
def locN (sc : Scope) (x : Str) : Bool := decide (sc.names.lookup x = some .local)
/-- name = [..] on the line: the list is stored before the block's frame is left -/
def lcTo (sc : Scope) (y : Str) (py : Pos) : Expr → Bool
  | .ListComp _ _ scope pos => isFnB sc && locN sc y && (py.line == pos.line) && !(scope.names.any fun (n, k) => n == y && (k == .local || k == .cell))
  | _ => false
/-- a pair of a pair, no swapped stores -/
def noSw (sc : Scope) : Expr → Expr → Bool
  | .Tuple ts _ _, .Tuple vs _ _ => !(ts.length == 2 || ts.length == 3) || vs.length != ts.length
  | .List _ _, _ => false
  | _, _ => true
def aug? : BOp → Operator → Bool
  | .add, .Add => true
  | .sub, .Sub => true
  | _, _ => false
def notSlc : Expr → Bool
  | .Slice _ _ _ _ => false
  | _ => true
def starred : Expr → Bool
  | .Starred _ _ => true
  | _ => false
/-- keys that are texts, written -/
def keysOk (nm : Nms) (N : List Str) (sc : Scope) : List Str → List (Option Expr) → Bool
  | [], keys => keys.isEmpty
  | k :: ks, keys => match keys with
    | some x :: r => chkE nm N sc (.cst (.str k)) x && keysOk nm N sc ks r
    | _ => false
mutual
def chkS (nm : Nms) (N : List Str) (sc : Scope) : S → Stmt → Bool
  | .asg p e, s => match s with
    | .Assign [tg] x _ => chkE nm N sc e x && chkP N sc sc p tg && (match tg, x with
      | .Name y py, x => (!isLc x || celN sc y) || lcTo sc y py x
      | tg, x => !isLc x && noSw sc tg x) || (match p, e, tg, x with
      | .tp [.nm i, .nm j], .tup es, .Tuple [.Name y py, .Name z pz] _ _, .Tuple [a, b] _ _ => decide (N[i]? = some y) && decide (N[j]? = some z) && decide (i ≠ j) && locN sc y && locN sc z && isFnB sc && (pz.line == py.line) && decide (y ≠ z) && chkEs nm N sc es [a, b]
          && !starred a && !starred b && !(foldedForSure 8 a && foldedForSure 8 b) && !(constantsAlone 8 a && constantsAlone 8 b)
      | _, _, _, _ => false)
    | _ => false
  | .own i e, s => match s with
    | .Assign [.Name y py] x _ => chkE nm N sc e x && locB sc sc y && decide (N[i]? = some y) && ((!isLc x || celN sc y) || lcTo sc y py x)
    | _ => false
  | .setI i ix e, s => match s with
    | .Assign [.Subscript (.Name y _) z _] x _ => visB sc y && okNm y && decide (N[i]? = some y) && chkE nm N sc ix z && chkE nm N sc e x && notSlc z
    | _ => false
  | .aug i o e, s => match s with
    | .AugAssign (.Name y _) op x _ => locB sc sc y && decide (N[i]? = some y) && chkE nm N sc e x && aug? o op
    | _ => false
  | .mut m i e, s => match s with
    | .Expr (.Call (.Attribute (.Name y _) at_ apos) [x] [] cpos) _ => visB sc y && okNm y && decide (N[i]? = some y) && chkE nm N sc e x && (apos.endLine == cpos.line) && (match m with
      | .append => decide (at_ = "append")
      | .extend => decide (at_ = "extend"))
    | _ => false
  | .expr e, s => match s with
    | .Expr x _ => chkE nm N sc e x && !isLc x
    | _ => false
  | .ite c a b, s => match s with
    | .If t xs ys _ => chkE nm N sc c t && chkSs nm N sc a xs && chkSs nm N sc b ys
    | _ => false
  | .for_ p it b, s => match s with
    | .For tg iter xs [] _ => (chkI nm N sc p it tg iter || chkE nm N sc it iter) && chkP N sc sc p tg && chkSs nm N sc b xs
    | _ => false
  | .while_ c b, s => match s with
    | .While t xs [] _ => chkE nm N sc c t && chkSs nm N sc b xs
    | _ => false
  | .ret e, s => match s with
    | .Return (some x) _ => chkE nm N sc e x
    | _ => false
  | .retN, s => match s with
    | .Return none _ => true
    | _ => false
  | .brk, s => match s with
    | .Break _ => true
    | _ => false
  | .cont, s => match s with
    | .Continue _ => true
    | _ => false
  | .pass, s => match s with
    | .Pass _ => true
    | .Expr (.Constant (.str _) _ _) _ => true
    | _ => false
  | .frz _, _ => false
  | .lck _, _ => false
  | .dnew i, s => match s with
    | .Assign [.Name y _] (.Dict [] [] _) _ => locB sc sc y && decide (N[i]? = some y)
    | _ => false
  | .dset i k e, s => match s with
    | .Assign [.Subscript (.Name y _) z _] x _ => visB sc y && okNm y && decide (N[i]? = some y) && chkE nm N sc k z && chkE nm N sc e x && notSlc z
    | _ => false
  | .ddis i ks es, s => match s with
    | .Assign [.Name y _] (.Dict keys vals _) _ => locB sc sc y && decide (N[i]? = some y) && keysOk nm N sc ks keys && chkEs nm N sc es vals && decide (ks.length = es.length)
    | _ => false
  | .dupd i ks es, s => match s with
    | .Expr (.Call (.Attribute (.Name y q) at_ apos) [.Dict keys vals _] [] cpos) _ => visB sc y && okNm y && decide (N[i]? = some y) && decide (at_ = "update") && (apos.endLine == cpos.line) && keysOk nm N sc ks keys && chkEs nm N sc es vals && decide (ks.length = es.length)
    | _ => false
  | .mux _ _ _, _ => false
  | .nev, _ => true
def chkSs (nm : Nms) (N : List Str) (sc : Scope) : List S → List Stmt → Bool
  | [], xs => xs.isEmpty
  | .frz _ :: ss, xs => chkSs nm N sc ss xs
  | .lck _ :: ss, xs => chkSs nm N sc ss xs
  | s :: ss, xs => match xs with
    | x :: xs => chkS nm N sc s x && chkSs nm N sc ss xs
    | [] => false
end
end Ev

namespace Ev
set_option autoImplicit false
open PySem PySem.Spec PyProof.Rows L2
variable [TheW]
theorem sw_false {x : Expr} {t : Option Expr} {l : Nat} {env : PySem.Env} (h : isLc x = false) : swapsWith x t l env = pure false := by
  cases x <;> first
    | rfl
    | (cases h; done)
theorem sole_false {tg x : Expr} {l : Nat} {env : PySem.Env} (h : isLc x = false) : swapsWithSole [tg] x l env = pure false := sw_false h
theorem sw_cell {x : Expr} {y : Str} {py : Pos} {l : Nat} {env : PySem.Env} (h : env.scope.names.lookup y = some .cell) : swapsWith x (some (.Name y py)) l env = pure false := by
  have ky : env.kindOf y = some .cell := h
  cases x <;> first
    | rfl
    | (unfold swapsWith
       simp only [ky]
       cases env.blockKind == .function <;> rfl)
theorem sw_name {sc : Scope} {x : Expr} {y : Str} {py : Pos} {l : Nat} {env : PySem.Env} (e : env.scope = sc) (h : (!isLc x || celN sc y) = true) : swapsWith x (some (.Name y py)) l env = pure false := by
  rcases Bool.or_eq_true_iff.mp h with h | h
  · exact sw_false (by simpa using h)
  · exact sw_cell (by rw [e]; exact of_decide_eq_true h)
theorem st_none {sc : Scope} {tg x : Expr} {env : PySem.Env} (h : noSw sc tg x = true) : swappedStores [tg] x env = pure none := by
  cases tg <;> first
    | rfl
    | (cases h; done)
    | (cases x <;> first
        | rfl
        | (rename_i ts k p vs k2 p2
           unfold noSw at h
           unfold swappedStores
           simp only [pure_bind]
           rw [if_pos (by rw [Bool.or_eq_true]; exact .inl h)]))
section
variable {X : Cx} {C : Fn} {G : Nat → Option D} {nm : Nms} {n : Nat} {sc : Scope} {W : Nat}
theorem ps_imp {s : Stmt} {t t' : TS} (h : PS X s t) (hi : ∀ D σ H, t' D σ H → t D σ H) : PS X s t' := ⟨fun pins sh σ H D I q => h.run pins sh σ H D I (hi D σ H q)⟩
theorem pss_imp {s : List Stmt} {t t' : TS} (h : PSs X s t) (hi : ∀ D σ H, t' D σ H → t D σ H) : PSs X s t' := ⟨fun pins sh σ H D I q => h.run pins sh σ H D I (hi D σ H q)⟩
/-- name = [..] -/
theorem snd_setLc (ok : Ok X C G nm n sc sc) {el it : E} {p : Pat} {c : Option E} {own : List (Str × Nat)} {x : Expr} {gens : List Comprehension} {scope : Scope} {pos spos py : Pos} {y : Str} {i : Nat}
    (h : chkE nm X.N sc (.comp el p it c own) (.ListComp x gens scope pos) = true) (hy : X.N[i]? = some y) (hl : lcTo sc y py (.ListComp x gens scope pos) = true) :
    PS X (.Assign [.Name y py] (.ListComp x gens scope pos) spos) (tAsg (tE X.K C G (.comp el p it c own)) (gName i)) := by
  have hl' : (((isFnB sc && locN sc y) && (py.line == pos.line)) && !(scope.names.any fun (n, k) => n == y && (k == .local || k == .cell))) = true := hl
  simp only [Bool.and_eq_true, Bool.not_eq_true'] at hl'
  obtain ⟨⟨⟨f1, f2⟩, f3⟩, f4⟩ := hl'
  have yl : X.env.scope.names.lookup y = some .local := by
    rw [ok.sc]
    exact of_decide_eq_true f2
  have fk : X.env.scope.kind = .function := by
    rw [ok.sc]
    unfold isFnB at f1
    split at f1
    · assumption
    · cases f1
  unfold chkE at h
  split at h
  · rename_i x tg iter ifs a scope pos heq
    cases heq
    simp only [Bool.and_eq_true, decide_eq_true_eq] at h
    obtain ⟨⟨⟨⟨⟨h1, h2⟩, h3⟩, h4⟩, h5⟩, h6⟩ := h
    subst h1
    have bk : BlkOk X.N X.env.scope scope own := by
      rw [ok.sc]
      exact blkOk_by h2
    have go : PI X tg iter (tI X.K C G it) ∧ (∀ z, foldedSetIterable iter X.env z = pure z) ∧ (ezE it = true → ∃ ps, p = .tp ps) := by
      rcases Bool.or_eq_true_iff.mp h3 with h3 | h3
      · exact ⟨sndI it p tg X sc sc iter ok h3, notSetI h3, ez_tp h3 h4⟩
      · exact ⟨snd_I0 (sndE it X sc sc iter ok h3), notSet h3, ez_no h3⟩
    refine ps_imp (ps_setLc (g := tP X.K p) (tt := tTc X.K C G c) (te := tE X.K C G el) (own := own) ok.calm ok.nd hy yl (sw_true fk yl f3 f4) go.1 bk (fun s H A cl fp => snd_P (ok.blk s H scope A cl fp) p tg h4) (fun s H A cl fp => ?_)
      (fun s H A cl fp => sndE el _ _ _ x (ok.blk s H scope A cl fp) h5) go.2.1) fun D σ H q => comp_imp ok h2 h4 go.2.2 σ H _ q
    cases c with
    | none =>
      cases ifs with
      | nil => exact pts_nil
      | cons _ _ => cases h6
    | some c =>
      rcases ifs with _ | ⟨y, _ | ⟨y', r⟩⟩
      · cases h6
      · exact pts_one (sndT c _ _ _ y (ok.blk s H scope A cl fp) h6)
      · cases h6
  · cases h
theorem snd_setI (ok : Ok X C G nm n sc sc) {i : Nat} {ix e : E} {y : Str} {z x : Expr} {p1 p2 pos : Pos} (h1 : visB sc y = true) (h2 : okNm y = true) (h3 : X.N[i]? = some y) (h4 : chkE nm X.N sc ix z = true) (h5 : chkE nm X.N sc e x = true) (h6 : notSlc z = true) : PS X (.Assign [.Subscript (.Name y p1) z p2] x pos) (tS X.K (evS C G W (.setI i ix e))) := by
  have hsw : swapsWithSole [.Subscript (.Name y p1) z p2] x pos.line X.env = pure false := by
    cases x <;> rfl
  refine ps_imp (ps_asg (sndE e X sc sc x ok h5) (pg_sub (pe_var h3 (vis_of ok.sc h1) (nm_of h2).1 (nm_of h2).2) (sndE ix X sc sc z ok h4) set_list (by intro v; cases z <;> first | rfl | (cases h6; done))) hsw) fun D σ H h => ?_
  obtain ⟨g, B, o, re, ev, fin⟩ := h
  obtain ⟨ow0, e0, ev⟩ := bind1 (show (lstAt g i).bind _ = _ from ev)
  obtain ⟨r, g1, e1, ev⟩ := bind2 ev
  obtain ⟨d, e2, ev⟩ := bind1 ev
  obtain ⟨q, g2, e3, ev⟩ := bind2 ev
  obtain ⟨k, e4, ev⟩ := bind1 ev
  obtain ⟨ow, e5, ev⟩ := bind1 ev
  obtain ⟨zz, e6, e7⟩ := map1 ev
  subst e7
  obtain ⟨a, _, _, _, _, _, sa, _, _⟩ := own_v re e0
  refine tE_of re e1 fun v H1 B1 s1 r1 => ?_
  obtain ⟨B1', s1', hv⟩ := r1.pure s1 e2
  refine ⟨.ref a, sa, tE_of s1'.re e3 fun u H2 B2 s2 r2 => ?_⟩
  obtain ⟨B2', s2', hu⟩ := r2.pure s2 e4
  obtain ⟨b, ds, xs, od, eg, hm, sb, hb, hr⟩ := own_v s2'.re e5
  rw [sa] at sb
  cases sb
  obtain ⟨m, dd⟩ := ow
  cases (show dd = .list ds from od)
  have hv2 := RepV.ext s2'.kp d v hv
  obtain ⟨kk, rfl⟩ : ∃ kk, k = .int kk := by
    cases k <;> simp only [dSet, reduceCtorEq] at e6
    exact ⟨_, rfl⟩
  obtain ⟨j, ej, rfl⟩ := map1 (show (L2.ixN ds.length kk).map (fun j => PyData.list (ds.set j d)) = some zz from e6)
  cases (show u = .int kk from hu)
  refine ⟨a, xs, kk, j, rfl, rfl, hb, ixN_eq hr.length ej, ?_⟩
  have Ba := s2'.re.ownB ⟨i, m, _, eg, hm, sa⟩
  exact fin _ _ _ ((s1'.trans s2').trans (Stp.write s2'.re eg hm sa rfl (rep_own Ba (hr.set j hv2))))
theorem list_extendW (l : Addr) (items : Array Value) (n : Nat) (b : Addr) (items2 : Array Value) (n2 : Nat) (dd2 : Option Addr) (sl2 : Array (Option Value)) (hc0 : ¬(!items.isEmpty && Builtin.List.listTooLong (items.size + items2.size)) = true) (hc1 : items.size ≤ sizeLine) (hs2 : items.size + items2.size ≤ sizeLine + 1) :
    Meets (Builtin.«list.extend» ⟨[.ref l, .ref b], []⟩) (fun _ R s => s.heap.get? l = some { cls := .type "list", dict := none, data := .seq items n, slots := #[] } ∧ s.heap.get? b = some { cls := .type "list", dict := dd2, data := .seq items2 n2, slots := sl2 } ∧ R (.ok (.ret Value.none)) { s with heap := s.heap.update l (Obj.mapSeq fun x => x ++ items2), toks := s.toks }) :=
  .of_wp fun prog w A R s h => by
    obtain ⟨hp, g, d, tk, os⟩ := s; obtain ⟨hl, hb, h⟩ := h; have f1 := AutoSeq1.idx_int; have f2 := AutoSeq1.sub_tuple_tuple; have f3 := AutoSeq1.sub_list_list; have f4 := AutoSeq1.sub_tuple_list; have f5 := AutoSeq1.sub_list_tuple;
    have hz' : (items ++ items2).size ≤ sizeLine + 1 := by rw [Array.size_append]; exact hs2
    wp_walk using (wpAny_updateSeq hl rfl (hz := hc1) (_hz' := hz')), AutoSeq1.wpAny_loadPart' hl, AutoSeq1.wpAny_loadPart' hb; exact ⟨_, rfl, h⟩
theorem list_extendT (l : Addr) (items : Array Value) (n : Nat) (b : Addr) (items2 : Array Value) (n2 : Nat) (dd2 : Option Addr) (sl2 : Array (Option Value)) (hc0 : ¬(!items.isEmpty && Builtin.List.listTooLong (items.size + items2.size)) = true) (hc1 : items.size ≤ sizeLine) (hs2 : items.size + items2.size ≤ sizeLine + 1) :
    Meets (Builtin.«list.extend» ⟨[.ref l, .ref b], []⟩) (fun _ R s => s.heap.get? l = some { cls := .type "list", dict := none, data := .seq items n, slots := #[] } ∧ s.heap.get? b = some { cls := .type "tuple", dict := dd2, data := .seq items2 n2, slots := sl2 } ∧ R (.ok (.ret Value.none)) { s with heap := s.heap.update l (Obj.mapSeq fun x => x ++ items2), toks := s.toks }) :=
  .of_wp fun prog w A R s h => by
    obtain ⟨hp, g, d, tk, os⟩ := s; obtain ⟨hl, hb, h⟩ := h; have f1 := AutoSeq1.idx_int; have f2 := AutoSeq1.sub_tuple_tuple; have f3 := AutoSeq1.sub_list_list; have f4 := AutoSeq1.sub_tuple_list; have f5 := AutoSeq1.sub_list_tuple;
    have hz' : (items ++ items2).size ≤ sizeLine + 1 := by rw [Array.size_append]; exact hs2
    wp_walk using (wpAny_updateSeq hl rfl (hz := hc1) (_hz' := hz')), AutoSeq1.wpAny_loadPart' hl, AutoSeq1.wpAny_loadPart' hb; exact ⟨_, rfl, h⟩
def rExtendR (K : PySem.W.Frag) : V → List V → Hp → VK → Prop := fun x vs H Q => ∃ l b xs zs, x = .ref l ∧ vs = [.ref b] ∧ H l = some (.lst xs) ∧ (SqL K H b zs ∨ SqT K H b zs) ∧ xs.length + zs.length ≤ sizeLine ∧ Q .non (upd H l (.lst (xs ++ zs)))
theorem mt_extendR : MtM X "list.extend" (rExtendR X.K) := by
  intro pins s σ H x vs v us Q I rx rv h
  obtain ⟨l, b, xs, zs, rfl, rfl, hH, hB, hz, q⟩ := h
  cases rx
  obtain ⟨u, rfl, ru⟩ := rv.one
  cases ru
  obtain ⟨z, its, n, r, hl, e⟩ := I.lstM hH
  rcases hB with hB | hB
  · obtain ⟨its2, r2, p2, _⟩ := I.list hB
    obtain ⟨⟨c2, d2, t2, l2⟩, n2, g2, k2, _, e2⟩ := p2
    simp only at k2 e2
    subst k2 e2
    have hl2 := r2.length
    have hsz : its.toArray.size + its2.toArray.size ≤ sizeLine := by rw [List.size_toArray, List.size_toArray]; omega
    have hlong : ¬ (!its.toArray.isEmpty && Builtin.List.listTooLong (its.toArray.size + its2.toArray.size)) = true := by
      rw [notLongL hsz, Bool.and_false]
      exact Bool.false_ne_true
    refine call_meets PySem.F.slot_list_extend ⟨_, e, rfl⟩ PySem.F.entry_list_extend (PySem.F.args_list_extend_2 _ _)
      (list_extendW l its.toArray n b its2.toArray n2 d2 l2 hlong (by rw [List.size_toArray]; omega) (by omega)) ⟨e, g2, ?_⟩
    refine ⟨.non, _, I.lset (its' := its ++ its2) hH e (by simp) (r.append r2) ?_, rfl, q⟩
    rw [List.length_append]
    omega
  · obtain ⟨its2, r2, p2, _⟩ := I.tuple hB
    obtain ⟨⟨c2, d2, t2, l2⟩, g2, k2, n2, e2⟩ := p2
    simp only at k2 e2
    subst k2 e2
    have hl2 := r2.length
    have hsz : its.toArray.size + its2.toArray.size ≤ sizeLine := by rw [List.size_toArray, List.size_toArray]; omega
    have hlong : ¬ (!its.toArray.isEmpty && Builtin.List.listTooLong (its.toArray.size + its2.toArray.size)) = true := by
      rw [notLongL hsz, Bool.and_false]
      exact Bool.false_ne_true
    refine call_meets PySem.F.slot_list_extend ⟨_, e, rfl⟩ PySem.F.entry_list_extend (PySem.F.args_list_extend_2 _ _)
      (list_extendT l its.toArray n b its2.toArray n2 d2 l2 hlong (by rw [List.size_toArray]; omega) (by omega)) ⟨e, g2, ?_⟩
    refine ⟨.non, _, I.lset (its' := its ++ its2) hH e (by simp) (r.append r2) ?_, rfl, q⟩
    rw [List.length_append]
    omega
/-- list.append, list.extend -/
theorem snd_mut (ok : Ok X C G nm n sc sc) {m : Mu} {i : Nat} {e : E} {y at_ : Str} {x : Expr} {p1 apos cpos pos : Pos} (h1 : visB sc y = true) (h2 : okNm y = true) (h3 : X.N[i]? = some y) (h4 : chkE nm X.N sc e x = true) (hl : (apos.endLine == cpos.line) = true) (h6 : (match m with
      | .append => decide (at_ = "append")
      | .extend => decide (at_ = "extend")) = true) : PS X (.Expr (.Call (.Attribute (.Name y p1) at_ apos) [x] [] cpos) pos) (tS X.K (evS C G W (.mut m i e))) := by
  have sz : starEach [x] X.env = (false, eval x X.env) :: starEach [] X.env := noStar h4 []
  have few : ((backTo cpos (starEach [x] X.env)).all (fun x => !x.1) && (backToKw cpos (keywordEach [] X.env)).all (fun x => x.1.isSome) && decide (([x] : List Expr).length + ([] : List Keyword).length + (if ([] : List Keyword).isEmpty then 0 else 1) < 30)) = true := by
    rw [sz]
    rfl
  have ho := pe_var (X := X) (pos := p1) h3 (vis_of ok.sc h1) (nm_of h2).1 (nm_of h2).2
  have ha := pa_cons (sndE e X sc sc x ok h4) (pa_nil (X := X)) sz
  cases m with
  | append =>
    cases (of_decide_eq_true h6 : at_ = "append")
    refine ps_imp (ps_expr (pe_bm PySem.F.plainAttrs_list PySem.F.slot_list_append PySem.F.type_list_append mt_append ho ha (by rfl) few hl sz (by rfl))) fun D σ H h => ?_
    obtain ⟨g, B, o, re, ev, fin⟩ := h
    obtain ⟨ow0, e0, ev⟩ := bind1 (show (lstAt g i).bind _ = _ from ev)
    obtain ⟨r, g1, e1, ev⟩ := bind2 ev
    obtain ⟨d, e2, ev⟩ := bind1 ev
    obtain ⟨ow, e5, ev⟩ := bind1 ev
    obtain ⟨zz, e6, e7⟩ := map1 ev
    subst e7
    obtain ⟨a, _, xs0, _, _, _, sa, ha0, _⟩ := own_v re e0
    refine ⟨.ref a, sa, .inl ⟨rfl, xs0, .of ha0⟩, tE_of re e1 fun v H1 B1 s1 r1 => ?_⟩
    obtain ⟨B1', s1', hv⟩ := r1.pure s1 e2
    obtain ⟨b, ds, xs, od, eg, hm, sb, hb, hr⟩ := own_v s1'.re e5
    rw [sa] at sb
    cases sb
    obtain ⟨m, dd⟩ := ow
    cases (show dd = .list ds from od)
    have Ba := s1'.re.ownB ⟨i, m, _, eg, hm, sa⟩
    have e6' : (if ds.length < sizeLine then some (PyData.list (ds ++ [d])) else none) = some zz := e6
    split at e6'
    · cases e6'
      refine ⟨a, xs, v, rfl, rfl, hb, by rw [hr.length]; assumption, ?_⟩
      exact fin _ _ _ (s1'.trans (Stp.write s1'.re eg hm sa rfl (rep_own Ba (hr.append (RepVs.single hv)))))
    · cases e6'
  | extend =>
    cases (of_decide_eq_true h6 : at_ = "extend")
    refine ps_imp (ps_expr (pe_bm PySem.F.plainAttrs_list PySem.F.slot_list_extend PySem.F.type_list_extend mt_extendR ho ha (by rfl) few hl sz (by rfl))) fun D σ H h => ?_
    obtain ⟨g, B, o, re, ev, fin⟩ := h
    obtain ⟨ow0, e0, ev⟩ := bind1 (show (lstAt g i).bind _ = _ from ev)
    obtain ⟨r, g1, e1, ev⟩ := bind2 ev
    obtain ⟨d, e2, ev⟩ := bind1 ev
    obtain ⟨ow, e5, ev⟩ := bind1 ev
    obtain ⟨zz, e6, e7⟩ := map1 ev
    subst e7
    obtain ⟨a, _, xs0, _, _, _, sa, ha0, _⟩ := own_v re e0
    refine ⟨.ref a, sa, .inl ⟨rfl, xs0, .of ha0⟩, tE_of re e1 fun v H1 B1 s1 r1 => ?_⟩
    obtain ⟨B1', s1', hv⟩ := r1.pure s1 e2
    obtain ⟨b, ds, xs, od, eg, hm, sb, hb, hr⟩ := own_v s1'.re e5
    rw [sa] at sb
    cases sb
    obtain ⟨m, dd⟩ := ow
    cases (show dd = .list ds from od)
    have Ba := s1'.re.ownB ⟨i, m, _, eg, hm, sa⟩
    have key : ∃ es, (d = .list es ∨ d = .tuple es) := by
      cases d <;> simp only [dMut, reduceCtorEq] at e6
      · exact ⟨_, .inl rfl⟩
      · exact ⟨_, .inr rfl⟩
    obtain ⟨es, hd⟩ := key
    have e6' : (if ds.length + es.length ≤ sizeLine then some (PyData.list (ds ++ es)) else none) = some zz := by
      rcases hd with rfl | rfl <;> exact e6
    split at e6'
    · cases e6'
      have hq : ∃ b ys, v = .ref b ∧ (SqL X.K H1 b ys ∨ SqT X.K H1 b ys) ∧ RepVs X.K H1 B1' es ys := by
        rcases hd with rfl | rfl
        · obtain ⟨b, ys, e, hs, hy⟩ := hv
          exact ⟨b, ys, e, .inl hs.sql, hy⟩
        · obtain ⟨b, ys, e, hs, hy⟩ := hv
          exact ⟨b, ys, e, .inr hs.sqt, hy⟩
      obtain ⟨b, ys, rfl, hs, hy⟩ := hq
      refine ⟨a, b, xs, ys, rfl, rfl, hb, hs, by rw [hr.length, hy.length]; assumption, ?_⟩
      exact fin _ _ _ (s1'.trans (Stp.write s1'.re eg hm sa rfl (rep_own Ba (hr.append hy))))
    · cases e6'
/-- name op= e -/
theorem snd_aug (ok : Ok X C G nm n sc sc) {i : Nat} {o : BOp} {op : Operator} {e : E} {y : Str} {x : Expr} {p1 pos : Pos} (h1 : locB sc sc y = true) (h3 : X.N[i]? = some y) (h4 : chkE nm X.N sc e x = true) (h5 : aug? o op = true) : PS X (.AugAssign (.Name y p1) op x pos) (tS X.K (evS C G W (.aug i o e))) := by
  obtain ⟨q1, q2⟩ := pos_of (i := i) h1 ok
  have key : ∀ (f : Int → Int → Int), PIp X op (ipI f) → (∀ d1 d2 z, dAug o d1 d2 = some z → ∃ i j, d1 = .int i ∧ d2 = .int j ∧ z = .int (f i j)) → PS X (.AugAssign (.Name y p1) op x pos) (tS X.K (evS C G W (.aug i o e))) := fun f hf hd => by
    refine ps_imp (ps_aug ok.nd h3 q1 (sndE e X sc sc x ok h4) hf q2) fun D σ H h => ?_
    obtain ⟨g, B, oo, re, ev, fin⟩ := h
    rw [evS] at ev
    split at ev
    · rename_i d0 e0
      obtain ⟨r, g1, e1, ev⟩ := bind2 ev
      obtain ⟨d, e2, ev⟩ := bind1 ev
      obtain ⟨z, e3, ev⟩ := bind1 ev
      obtain ⟨g', e4, e5⟩ := map1 ev
      subst e5
      obtain ⟨k, j, rfl, rfl, rfl⟩ := hd _ _ _ e3
      obtain ⟨w, sw, hw⟩ := re.val i _ e0
      cases (show w = .int k from hw)
      refine ⟨_, sw, tE_of re e1 fun v H1 B1 s1 r1 => ?_⟩
      obtain ⟨B1', s1', hv⟩ := r1.pure s1 e2
      cases (show v = .int j from hv)
      obtain ⟨sl, a1, a2, rfl⟩ := setV_some e4
      exact ⟨k, j, rfl, rfl, fin _ _ _ (s1'.trans (Stp.setVal s1'.re a1 a2 rfl))⟩
    · cases ev
  cases o <;> cases op <;> first
    | (cases h5; done)
    | exact key _ ip_add fun d1 d2 z e => by
        cases d1 <;> cases d2 <;> simp only [dAug, reduceCtorEq] at e
        cases e
        exact ⟨_, _, rfl, rfl, rfl⟩
    | exact key _ ip_sub fun d1 d2 z e => by
        cases d1 <;> cases d2 <;> simp only [dAug, reduceCtorEq] at e
        cases e
        exact ⟨_, _, rfl, rfl, rfl⟩
/-- d[k] = v -/
theorem snd_dset (ok : Ok X C G nm n sc sc) {i : Nat} {k e : E} {y : Str} {z x : Expr} {p1 p2 pos : Pos} (h1 : visB sc y = true) (h2 : okNm y = true) (h3 : X.N[i]? = some y) (h4 : chkE nm X.N sc k z = true) (h5 : chkE nm X.N sc e x = true) (h6 : notSlc z = true) : PS X (.Assign [.Subscript (.Name y p1) z p2] x pos) (tS X.K (evS C G W (.dset i k e))) := by
  have hu : X.A.units + 64 < cLine := by
    have := units ok
    omega
  have hsw : swapsWith x (some (.Subscript (.Name y p1) z p2)) pos.line X.env = pure false := by
    cases x <;> rfl
  refine ps_imp (ps_putIs (pe_var h3 (vis_of ok.sc h1) (nm_of h2).1 (nm_of h2).2) (sndE k X sc sc z ok h4) (sndE e X sc sc x ok h5) hsw) fun D σ H h => ?_
  obtain ⟨g, B, o, re, ev, fin⟩ := h
  obtain ⟨o0, e0, ev⟩ := bind1 (show (dctAt g i).bind _ = _ from ev)
  obtain ⟨r, g1, e1, ev⟩ := bind2 ev
  obtain ⟨d, e2, ev⟩ := bind1 ev
  obtain ⟨q, g2, e3, ev⟩ := bind2 ev
  obtain ⟨kk, e4, ev⟩ := bind1 ev
  obtain ⟨ow, e5, ev⟩ := bind1 ev
  obtain ⟨a, _, _, _, sa, _, _⟩ := dct_w re e0
  refine tE_of re e1 fun v H1 B1 s1 r1 => ?_
  obtain ⟨B1', s1', hv⟩ := r1.pure s1 e2
  refine ⟨.ref a, sa, tE_of s1'.re e3 fun u H2 B2 s2 r2 => ?_⟩
  obtain ⟨B2', s2', hk⟩ := r2.pure s2 e4
  obtain ⟨b, ob, eg, hm, sb, hb, hr⟩ := dct_w s2'.re e5
  rw [sa] at sb
  cases sb
  have hv2 := RepV.ext s2'.kp d v hv
  have Ba := s2'.re.ownB ⟨i, ow.1, _, eg, hm, sa⟩
  have last : ∀ (kvs' : List (Ev.D × Ev.D)), PutIs X H2 a u v (fun H' => ∃ ob', H' = upd H2 a ob' ∧ DoR X.K H2 B2' kvs' a ob') → some (Out.nx (g2.set i (some (ow.1, .dict kvs')))) = some o →
      ∃ a' P, V.ref a = .ref a' ∧ PutIs X H2 a' u v P ∧ ∀ H4, P H4 → D.nx σ H4 := fun kvs' hp eo => by
    cases eo
    refine ⟨a, _, rfl, hp, fun H4 ⟨ob', e6, hd'⟩ => ?_⟩
    subst e6
    exact fin _ _ _ ((s1'.trans s2').trans (Stp.write s2'.re eg hm sa hd'.own fun {H1} kp e => ⟨a, _, rfl, Ba, e, hd'.ext kp⟩))
  cases kk with
  | str zz =>
    have ev' : (if isN ow.2 = false ∧ ow.2.length ≤ 100000 then some (Out.nx (g2.set i (some (ow.1, .dict (dPut ow.2 zz d))))) else none) = some o := ev
    split at ev'
    rotate_left
    · cases ev'
    rename_i hl
    cases (show u = .str zz from hk)
    exact last _ (do_putz hu hb hr hv2 hl.2 hl.1) ev'
  | tuple ks =>
    have ev' : (if ow.2.length ≤ 100000 then (nSet ow.2 (.tuple ks) d).map (fun kvs => Out.nx (g2.set i (some (ow.1, .dict kvs)))) else none) = some o := ev
    split at ev'
    rotate_left
    · cases ev'
    rename_i hl
    obtain ⟨kvs', e6, e7⟩ := map1 ev'
    subst e7
    exact last _ (do_put hu ok.hw hb hr (y := .tuple ks) hk hv2 hl e6) rfl
  | none => cases ev
  | bool _ => cases ev
  | int _ => cases ev
  | list _ => cases ev
  | dict _ => cases ev
end
end Ev

namespace Ev
set_option autoImplicit false
open PySem PySem.Spec PyProof.Rows L2
variable [TheW]
section
variable {K : PySem.W.Frag} {σ : L2.St} {g g' : Sg} {H H' : Hp} {B B' : Bs}
/-- an owned object that no slot holds is written -/
theorem Stp.free (s : Stp K σ g H B σ g' H' B') {p : Addr} {o o0 : HO} (hp : H' p = some o0) (Bp : B' p) (no : ¬ Own σ g' p) (ho : ownO o = true) (hH : H p = none) : Stp K σ g H B σ g' (upd H' p o) B' := by
  have re := s.re
  have kp : Keep H' B' (upd H' p o) B' := ⟨fun b u e nb => ⟨by rw [upd_ne (fun z => nb (by rw [z]; exact Bp))]; exact e, nb⟩, re.trk⟩
  refine ⟨⟨re.len, fun i d e => ?_, fun i m d e hm => ?_, re.dist, fun a ha => ?_⟩, s.trk, s.ownB, fun a u e nb => ?_, s.own, s.new, s.osub, fun a h => ?_, s.bfix⟩
  · obtain ⟨v, e1, hv⟩ := re.val i d e
    exact ⟨v, e1, RepV.ext kp d v hv⟩
  · obtain ⟨v, e1, hv⟩ := re.own i m d e hm
    refine ⟨v, e1, hv.ext kp fun b u eb eu => ?_⟩
    subst eb
    have nb : b ≠ p := fun z => no (by subst z; exact ⟨i, m, d, e, hm, e1⟩)
    exact ⟨by rw [upd_ne nb]; exact eu, re.ownB ⟨i, m, d, e, hm, e1⟩⟩
  · by_cases z : a = p
    · subst z
      exact ⟨o, upd_same, ho⟩
    · obtain ⟨u, e, w⟩ := re.trk a ha
      exact ⟨u, by rw [upd_ne z]; exact e, w⟩
  · rw [upd_ne (fun z => by rw [z, hH] at e; cases e)]
    exact s.keep a u e nb
  · by_cases z : a = p
    · subst z
      rw [upd_same]
      simp
    · rw [upd_ne z]
      exact s.grow a h
end
section
variable {X : Cx} {C : Fn} {G : Nat → Option D} {nm : Nms} {n : Nat} {sc : Scope}
/-- the pairs of a display, from the left -/
theorem snd_prs (ok : Ok X C G nm n sc sc) {pos : Pos} : ∀ {ks : List Str} {es : List E} {keys : List (Option Expr)} {vals : List Expr}, keysOk nm X.N sc ks keys = true → chkEs nm X.N sc es vals = true → ks.length = es.length →
    ∃ trs, PPs X pos keys vals trs ∧ keys.length = vals.length ∧ keys.all (·.isSome) = true ∧ ∀ {σ : L2.St} {H : Hp} {B : Bs} {g g' : Sg} {ds : List D} {Q : List (V × V) → Hp → Prop}, RE X.K H B σ g → evEs C G es g = some (ds, g') →
      (∀ H' B' vs, Stp X.K σ g H B σ g' H' B' → RepVs X.K H' B' ds vs → Q ((ks.zip vs).map fun q => (V.str q.1, q.2)) H') → tPairs trs σ H Q
  | [], [], keys, vals, h1, h2, _ => by
    have e1 : keys = [] := List.isEmpty_iff.mp h1
    have e2 : vals = [] := List.isEmpty_iff.mp h2
    subst e1 e2
    refine ⟨[], pps_nil, rfl, rfl, fun {σ H B g g' ds Q} re ev q => ?_⟩
    cases (show some ([], g) = some (ds, g') from ev)
    exact q H B [] (Stp.refl re) rfl
  | [], _ :: _, _, _, _, _, h => by cases h
  | _ :: _, [], _, _, _, _, h => by cases h
  | k :: ks, e :: es, keys, vals, h1, h2, hl => by
    unfold keysOk at h1
    split at h1
    · rename_i x r
      obtain ⟨c1, c2⟩ := Bool.and_eq_true_iff.mp h1
      unfold chkEs at h2
      split at h2
      · rename_i y ys
        obtain ⟨c3, c4⟩ := Bool.and_eq_true_iff.mp h2
        obtain ⟨trs, pp, l1, l2, ih⟩ := snd_prs ok (pos := pos) c2 c4 (Nat.succ.inj hl)
        refine ⟨_, pps_cons (sndE (.cst (.str k)) X sc sc x ok c1) (sndE e X sc sc y ok c3) pp, by simp [l1], by simp [l2], fun {σ H B g g' ds Q} re ev q => ?_⟩
        obtain ⟨r0, g1, e1, ev⟩ := bind2 (show (evE C G e g).bind _ = _ from ev)
        obtain ⟨d, e2, ev⟩ := bind1 ev
        obtain ⟨⟨ds', g2⟩, e3, e4⟩ := map1 ev
        cases e4
        refine tE_of re (show evE C G (.cst (.str k)) g = some (.pur (.str k), g) from rfl) fun v H1 B1 s1 r1 => ?_
        cases (show v = .str k from r1)
        refine tE_of s1.re e1 fun u H2 B2 s2 r2 => ?_
        obtain ⟨B3, s3, hv⟩ := r2.pure s2 e2
        refine ih s3.re e3 fun H4 B4 vs s4 rr => ?_
        exact q H4 B4 (u :: vs) ((s1.trans s3).trans s4) ⟨u, vs, rfl, RepV.ext s4.kp d u hv, rr⟩
      · cases h2
    · cases h1
variable {W : Nat}
theorem zip3 : ∀ {ks : List Str} {ds : List D} {vs : List V}, ks.length = ds.length → ((ks.zip ds).zip vs).map (fun q => ((Sum.inr q.1.1 : L2.Key), q.2)) = (ks.zip vs).map fun q => (Sum.inr q.1, q.2)
  | [], _, _, _ => rfl
  | _ :: _, [], _, h => by cases h
  | _ :: _, _ :: _, [], _ => rfl
  | k :: ks, d :: ds, v :: vs, h => by
    exact congrArg (_ :: ·) (zip3 (ks := ks) (ds := ds) (vs := vs) (Nat.succ.inj h))
theorem prs_rep {K : PySem.W.Frag} {H : Hp} {B : Bs} {ks : List Str} {ds : List D} {vs : List V} {kvs : List (D × D)} {es : List (L2.Key × V)} (hl : ks.length = ds.length) (rr : RepVs K H B ds vs) (h : RepKs K H B kvs es) : RepKs K H B (dMerge kvs (ks.zip ds)) (mergeK es ((ks.zip vs).map fun q => (Sum.inr q.1, q.2))) := by
  have vl := rr.length
  have := merge_rep (ps := ks.zip ds) (vs := vs) (by rw [List.length_zip]; omega) (fun j p x h1 h2 => by
    obtain ⟨d, e1, e2⟩ := rr.get' h2
    obtain ⟨_, e3⟩ := List.getElem?_zip_eq_some.mp h1
    rw [e1] at e3
    cases e3
    exact e2) h
  rw [zip3 hl] at this
  exact this
theorem mergeD_rep {K : PySem.W.Frag} {H : Hp} {B : Bs} : ∀ {more : List (D × D)} {ms : List (L2.Key × V)} {kvs : List (D × D)} {es : List (L2.Key × V)}, RepKs K H B more ms → RepKs K H B kvs es → RepKs K H B (dMergeD kvs more) (mergeK es ms)
  | [], ms, kvs, es, h, h2 => by
    cases (show ms = [] from h)
    exact h2
  | p :: more, ms, kvs, es, h, h2 => by
    obtain ⟨z, d, v, t, rfl, rfl, h3, h4⟩ := ks_cons h
    show RepKs K H B (dMergeD (dPut kvs z d) more) (mergeK (L2.putK es (.inr z) v) t)
    exact mergeD_rep h4 (ks_put (z := z) h2 h3)
theorem snd_ddis (ok : Ok X C G nm n sc sc) {i : Nat} {ks : List Str} {es : List E} {y : Str} {keys : List (Option Expr)} {vals : List Expr} {py dp pos : Pos} (h1 : locB sc sc y = true) (h2 : X.N[i]? = some y) (h3 : keysOk nm X.N sc ks keys = true) (h4 : chkEs nm X.N sc es vals = true) (h5 : ks.length = es.length) :
    PS X (.Assign [.Name y py] (.Dict keys vals dp) pos) (tS X.K (evS C G W (.ddis i ks es))) := by
  obtain ⟨q1, q2⟩ := pos_of (i := i) h1 ok
  obtain ⟨trs, pp, l1, l2, prs⟩ := snd_prs ok (pos := dp) h3 h4 h5
  have kl : ∀ {ks : List Str} {keys : List (Option Expr)}, keysOk nm X.N sc ks keys = true → keys.length = ks.length := fun {ks} => by
    induction ks with
    | nil =>
      intro keys h
      rw [List.isEmpty_iff.mp (show keys.isEmpty = true from h)]
      rfl
    | cons k ks ih =>
      intro keys h
      unfold keysOk at h
      split at h
      · rw [List.length_cons, List.length_cons, ih (Bool.and_eq_true_iff.mp h).2]
      · cases h
  by_cases hc : ks ≠ [] ∧ ks.length ≤ 15
  · have hk0 : keys ≠ [] := fun z => hc.1 (List.length_eq_zero_iff.mp (by rw [← kl h3, z]; rfl))
    have base : PS X (.Assign [.Name y py] (.Dict keys vals dp) pos) (tAsg (tDisp trs) (gName i)) := ps_set ok.nd h2 q1 (pe_disp pp l2 l1 hk0 (by rw [kl h3]; exact hc.2)) (sw_name ok.sc (by rfl)) q2
    refine ps_imp base fun D σ H h => ?_
    obtain ⟨g, B, o, re, ev, fin⟩ := h
    obtain ⟨ds, g2, e1, ev⟩ := bind2 (show (evEs C G es g).bind _ = _ from ev)
    split at ev
    rotate_left
    · cases ev
    rename_i hcond
    obtain ⟨g', e3, e4⟩ := map1 ev
    subst e4
    obtain ⟨sl, a1, a2, rfl⟩ := setV_some e3
    intro p hp
    have nB : ¬ Own σ g p := fun z => by
      obtain ⟨u, e, _⟩ := re.trk p (re.ownB z)
      rw [hp] at e
      cases e
    have s0 := (Stp.refl re).allocNew (p := p) (o := .dK []) hp rfl
    refine prs s0.re e1 fun H2 B2 vs s1 rr => ?_
    have e5 : H2 p = some (.dK []) := s1.keep p _ upd_same nB
    have Bp : B2 p := s1.own p (.inr rfl) nB
    have no : ¬ Own σ g2 p := fun z => (s1.osub p z).elim nB fun q => by rw [upd_same] at q; cases q
    have sT := (s0.trans s1).free (o := .dK (mergeK [] ((ks.zip vs).map fun q => (Sum.inr q.1, q.2)))) e5 Bp no rfl hp
    have vl := rr.length
    refine ⟨e5, (ks.zip vs).map fun q => (Sum.inr q.1, q.2), by rw [List.map_map]; rfl, by rw [List.length_map, List.length_zip]; omega, ?_⟩
    have kp2 : Keep H2 B2 (upd H2 p (.dK (mergeK [] ((ks.zip vs).map fun q => (Sum.inr q.1, q.2))))) B2 := ⟨fun b u e nb => ⟨by rw [upd_ne (fun z => nb (by rw [z]; exact Bp))]; exact e, nb⟩, s1.re.trk⟩
    have rk := prs_rep (kvs := []) (es := []) hcond.1 (rr.ext kp2) rfl
    refine fin _ _ _ (Stp.setOwn sT a1 a2 ⟨p, _, rfl, Bp, upd_same, .inl ⟨_, rfl, rk⟩⟩ fun a ea => ?_)
    cases ea
    refine ⟨no, fun b => ?_⟩
    obtain ⟨u, e, _⟩ := re.trk p b
    rw [hp] at e
    cases e
  · refine ps_imp ps_never fun D σ H h => ?_
    obtain ⟨g, B, o, re, ev, fin⟩ := h
    obtain ⟨ds, g2, e1, ev⟩ := bind2 (show (evEs C G es g).bind _ = _ from ev)
    split at ev
    · rename_i hcond
      exact hc ⟨hcond.2.2, by rw [hcond.1]; exact hcond.2.1⟩
    · cases ev
theorem snd_dupd (ok : Ok X C G nm n sc sc) {i : Nat} {ks : List Str} {es : List E} {y at_ : Str} {keys : List (Option Expr)} {vals : List Expr} {py dp apos cpos pos : Pos} (h1 : visB sc y = true) (h2 : okNm y = true) (h3 : X.N[i]? = some y) (ha : at_ = "update") (hl : (apos.endLine == cpos.line) = true) (h4 : keysOk nm X.N sc ks keys = true) (h5 : chkEs nm X.N sc es vals = true) (h6 : ks.length = es.length) :
    PS X (.Expr (.Call (.Attribute (.Name y py) at_ apos) [.Dict keys vals dp] [] cpos) pos) (tS X.K (evS C G W (.dupd i ks es))) := by
  subst ha
  obtain ⟨trs, pp, l1, l2, prs⟩ := snd_prs ok (pos := dp) h4 h5 h6
  have kl : ∀ {ks : List Str} {keys : List (Option Expr)}, keysOk nm X.N sc ks keys = true → keys.length = ks.length := fun {ks} => by
    induction ks with
    | nil =>
      intro keys h
      rw [List.isEmpty_iff.mp (show keys.isEmpty = true from h)]
      rfl
    | cons k ks ih =>
      intro keys h
      unfold keysOk at h
      split at h
      · rw [List.length_cons, List.length_cons, ih (Bool.and_eq_true_iff.mp h).2]
      · cases h
  by_cases hc : ks ≠ [] ∧ ks.length ≤ 15
  · have hk0 : keys ≠ [] := fun z => hc.1 (List.length_eq_zero_iff.mp (by rw [← kl h4, z]; rfl))
    have m : M1 X (.Name y py) "update" apos (.Dict keys vals dp) cpos := ⟨rfl, rfl, hl, rfl⟩
    refine ps_imp (ps_expr (pe_dupd (pe_var h3 (vis_of ok.sc h1) (nm_of h2).1 (nm_of h2).2) (pe_disp pp l2 l1 hk0 (by rw [kl h4]; exact hc.2)) m)) fun D σ H h => ?_
    obtain ⟨g, B, o, re, ev, fin⟩ := h
    obtain ⟨o0, e0, ev⟩ := bind1 (show (dctAt g i).bind _ = _ from ev)
    obtain ⟨ds, g2, e1, ev⟩ := bind2 ev
    obtain ⟨ow, e5, ev⟩ := bind1 ev
    split at ev
    rotate_left
    · cases ev
    rename_i hcond
    cases ev
    obtain ⟨a, _, _, _, sa, ha, _⟩ := dct_v re e0 hcond.2.2.2.1
    refine ⟨.ref a, sa, a, rfl, ?_, ?_⟩
    · exact .inl ⟨_, .inl ha⟩
    · intro p hp
      have nB : ¬ Own σ g p := fun z => by
        obtain ⟨u, e, _⟩ := re.trk p (re.ownB z)
        rw [hp] at e
        cases e
      have s0 := (Stp.refl re).allocNew (p := p) (o := .dK []) hp rfl
      refine prs s0.re e1 fun H2 B2 vs s1 rr => ?_
      have e6 : H2 p = some (.dK []) := s1.keep p _ upd_same nB
      have Bp : B2 p := s1.own p (.inr rfl) nB
      have no : ¬ Own σ g2 p := fun z => (s1.osub p z).elim nB fun q => by rw [upd_same] at q; cases q
      have sT := (s0.trans s1).free (o := .dK (mergeK [] ((ks.zip vs).map fun q => (Sum.inr q.1, q.2)))) e6 Bp no rfl hp
      have vl := rr.length
      have ml := length_mergeK ((ks.zip vs).map fun q => ((Sum.inr q.1 : L2.Key), q.2)) []
      rw [List.length_map, List.length_zip, List.length_nil] at ml
      refine ⟨e6, (ks.zip vs).map fun q => (Sum.inr q.1, q.2), by rw [List.map_map]; rfl, by rw [List.length_map, List.length_zip]; omega, ?_⟩
      have kp2 : Keep H2 B2 (upd H2 p (.dK (mergeK [] ((ks.zip vs).map fun q => (Sum.inr q.1, q.2))))) B2 := ⟨fun b u e nb => ⟨by rw [upd_ne (fun z => nb (by rw [z]; exact Bp))]; exact e, nb⟩, s1.re.trk⟩
      have rk := prs_rep (kvs := []) (es := []) hcond.1 (rr.ext kp2) rfl
      obtain ⟨b, ks', eg, hm, sb, hb, hr⟩ := dct_v sT.re e5 hcond.2.2.2.2.1
      rw [sa] at sb
      cases sb
      have nap : a ≠ p := fun z => by
        rw [z, hp] at ha
        cases ha
      have Ba := sT.re.ownB ⟨i, ow.1, _, eg, hm, sa⟩
      refine ⟨p, ks', _, rfl, hb, upd_same, nap, ?_, ?_⟩
      · rw [ks_len hr, sizeLine_eq]
        omega
      · exact fin _ _ _ (sT.trans (Stp.write sT.re eg hm sa rfl fun {H1} kp e => ⟨a, _, rfl, Ba, e, .inl ⟨_, rfl, (mergeD_rep rk hr).ext kp⟩⟩))
  · refine ps_imp ps_never fun D σ H h => ?_
    obtain ⟨g, B, o, re, ev, fin⟩ := h
    obtain ⟨o0, e0, ev⟩ := bind1 (show (dctAt g i).bind _ = _ from ev)
    obtain ⟨ds, g2, e1, ev⟩ := bind2 ev
    obtain ⟨ow, e5, ev⟩ := bind1 ev
    split at ev
    · rename_i hcond
      exact hc ⟨hcond.2.2.1, by rw [hcond.1]; exact hcond.2.1⟩
    · cases ev
end
end Ev

namespace Ev
set_option autoImplicit false
open PySem PySem.Spec PyProof.Rows L2
variable [TheW]
theorem st_two {y z : Str} {a b : Expr} {py pz pt pt2 : Pos} {kt k2} {env : PySem.Env} (hf : env.blockKind = .function) (ky : env.kindOf y = some .local) (kz : env.kindOf z = some .local) (hl : (pz.line == py.line) = true) (hne : y ≠ z)
    (sa : starred a = false) (sb : starred b = false) (h1 : (foldedForSure 8 a && foldedForSure 8 b) = false) (h2 : (constantsAlone 8 a && constantsAlone 8 b) = false) :
    swappedStores [.Tuple [.Name y py, .Name z pz] kt pt] (.Tuple [a, b] k2 pt2) env = pure (some [y, z]) := by
  have hl' : (py.line == py.line) = true := by simp
  have e1 : ([y, z].eraseDups).length = 2 := by
    have : (z == y) = false := by
      rw [beq_eq_false_iff_ne]
      exact hne.symm
    simp [List.eraseDups_cons, this]
  have e2 : ([a, b].any fun | .Starred .. => true | _ => false) = false := by
    show (starred a || (starred b || false)) = false
    rw [sa, sb]
    rfl
  have e3 : ([a, b].all (foldedForSure 8)) = false := by
    show (foldedForSure 8 a && (foldedForSure 8 b && true)) = false
    rw [Bool.and_true]
    exact h1
  have e4 : ([a, b].all (constantsAlone 8)) = false := by
    show (constantsAlone 8 a && (constantsAlone 8 b && true)) = false
    rw [Bool.and_true]
    exact h2
  have e5 : (([.Name y py, .Name z pz] : List Expr).filterMap fun
    | .Name id pos => if env.kindOf id == some .local && pos.line == py.line then some id else none
    | _ => none) = [y, z] := by
    simp only [List.filterMap_cons, List.filterMap_nil, ky, kz, hl, hl']
    rfl
  unfold swappedStores
  simp only [pure_bind]
  rw [if_neg (by rw [hf]; exact fun h => Bool.false_ne_true h)]
  erw [if_neg (show ¬ (([a, b].any fun | .Starred .. => true | _ => false) = true) by rw [e2]; exact Bool.false_ne_true)]
  erw [e5]
  erw [if_neg (show ¬ (([y, z].length != [Expr.Name y py, Expr.Name z pz].length || ([y, z].eraseDups).length != [y, z].length) = true) by rw [e1]; exact fun h => Bool.false_ne_true h)]
  erw [if_neg (show ¬ (([a, b].all (foldedForSure 8)) = true) by rw [e3]; exact Bool.false_ne_true)]
  erw [if_neg (show ¬ (([a, b].all (constantsAlone 8)) = true) by rw [e4]; exact Bool.false_ne_true)]
theorem ext_noLc {nm : Nms} {N : List Str} {sc : Scope} {x : Xp} {es : List E} {a b c d} (h : chkE nm N sc (.ext x es) (.ListComp a b c d) = true) : False := by
  rcases ext_form h with ⟨_, _, _, e⟩ | ⟨_, _, _, _, e⟩ | ⟨_, _, _, e⟩ <;> cases e
section
variable {X : Cx} {C : Fn} {G : Nat → Option D} {nm : Nms} {n : Nat} {sc : Scope} {W : Nat}
theorem fnKind {env : PySem.Env} (he : env.scope = sc) (h : isFnB sc = true) : env.blockKind = .function := by
  unfold isFnB at h
  rw [← he] at h
  split at h
  · rename_i hk
    unfold PySem.Env.blockKind
    rw [hk]
    rfl
  · cases h
/-- a, b = x, y -/
theorem snd_par (ok : Ok X C G nm n sc sc) {i j : Nat} {es : List E} {y z : Str} {a b : Expr} {py pz pt pt2 pos : Pos} {kt k2} (h1 : X.N[i]? = some y) (h2 : X.N[j]? = some z) (hij : i ≠ j) (hy : locN sc y = true) (hz : locN sc z = true) (hf : isFnB sc = true) (hl : (pz.line == py.line) = true) (hne : y ≠ z)
    (hc : chkEs nm X.N sc es [a, b] = true) (sa : starred a = false) (sb : starred b = false) (f1 : (foldedForSure 8 a && foldedForSure 8 b) = false) (f2 : (constantsAlone 8 a && constantsAlone 8 b) = false) :
    PS X (.Assign [.Tuple [.Name y py, .Name z pz] kt pt] (.Tuple [a, b] k2 pt2) pos) (tS X.K (evS C G W (.asg (.tp [.nm i, .nm j]) (.tup es)))) := by
  have ky : X.env.scope.names.lookup y = some .local := by rw [ok.sc]; exact of_decide_eq_true hy
  have kz : X.env.scope.names.lookup z = some .local := by rw [ok.sc]; exact of_decide_eq_true hz
  refine ps_imp (ps_par ok.calm ok.nd h1 h2 hij ky kz (sndEs es X sc sc _ ok hc) (st_two (fnKind ok.sc hf) ky kz hl hne sa sb f1 f2)) fun D σ H h => ?_
  obtain ⟨g, B, o, re, ev, fin⟩ := h
  obtain ⟨r, g1, e1, ev⟩ := bind2 (show (evE C G (.tup es) g).bind _ = _ from ev)
  obtain ⟨d, e2, ev⟩ := bind1 ev
  obtain ⟨g', e3, e4⟩ := map1 ev
  subst e4
  obtain ⟨ds, g2, e5, e6⟩ := bind2 (show (evEs C G es g).bind _ = _ from e1)
  simp only at e6
  split at e6
  · cases e6
    cases (show some (PyData.tuple ds) = some d from e2)
    refine ⟨g, B, ds, _, re, e5, fun vs H1 B1 s hr => ?_⟩
    rcases ds with _ | ⟨d1, _ | ⟨d2, _ | ⟨d3, dr⟩⟩⟩
    · cases e3
    · obtain ⟨ga, _, e8⟩ := bind1 (show (bindP (.nm i) d1 g1).bind (fun g1 => bindPs [.nm j] [] g1) = some g' from e3)
      cases e8
    · obtain ⟨ga, e7, e8⟩ := bind1 (show (bindP (.nm i) d1 g1).bind (fun g1 => bindPs [.nm j] [d2] g1) = some g' from e3)
      obtain ⟨gb, e9, e10⟩ := bind1 (show (bindP (.nm j) d2 ga).bind (fun g1 => bindPs [] [] g1) = some g' from e8)
      cases (show some gb = some g' from e10)
      obtain ⟨v, ws, rfl, hv, u, ws', rfl, hu, hw⟩ := hr
      cases (show ws' = [] from hw)
      refine ⟨v, u, rfl, ?_⟩
      obtain ⟨sl, a1, a2, rfl⟩ := setV_some (show setV g1 i .val d1 = some ga from e7)
      have s1 := Stp.setVal s.re a1 a2 hv
      obtain ⟨sl2, a3, a4, rfl⟩ := setV_some (show setV _ j .val d2 = some g' from e9)
      exact fin _ _ _ ((s.trans s1).trans (Stp.setVal s1.re a3 a4 hu))
    · obtain ⟨ga, _, e8⟩ := bind1 (show (bindP (.nm i) d1 g1).bind (fun g1 => bindPs [.nm j] (d2 :: d3 :: dr) g1) = some g' from e3)
      obtain ⟨gb, _, e10⟩ := bind1 (show (bindP (.nm j) d2 ga).bind (fun g1 => bindPs [] (d3 :: dr) g1) = some g' from e8)
      cases e10
  · cases e6
theorem never (ok : Ok X C G nm n sc sc) : PassesOwn (model X.prog X.w) X.A X.env X.xe := by
  rw [ok.xe]
  exact .never
theorem for_imp {p : Pat} {it : E} {b : List S} (hz : ezE it = true → ∃ ps, p = .tp ps) : ∀ D σ H, tS X.K (evS C G W (.for_ p it b)) D σ H → tFor (tI X.K C G it) (tP X.K p) (tS X.K (evSs C G W b)) D σ H := by
  intro D σ H h
  obtain ⟨g, B, o, re, ev, fin⟩ := h
  obtain ⟨ds, g1, e1, ev⟩ := bind2 (show (evI C G it g).bind _ = _ from ev)
  refine ⟨g, B, ds, g1, re, e1, fun H1 B1 s0 J Gd Y wk => ?_⟩
  refine for_it wk.wk (fun i σi Hi => ∃ (gi : Sg) (Bi : Bs), Stp X.K σ g1 H1 B1 σi gi Hi Bi ∧ forGo (bindP p) (evSs C G W b) (ds.drop i) gi = some o) ⟨g1, B1, Stp.refl s0.re, ev⟩ (fun i σi Hi _ ⟨gi, Bi, s, _⟩ => wk.st Hi Bi s.kp) (fun i x σi Hi H' hi ⟨gi, Bi, s, hgo⟩ hy => ?_) fun σi Hi ⟨gi, Bi, s, hgo⟩ => ?_
  · have hd : ds[i]? = some ds[i] := List.getElem?_eq_getElem hi
    rw [List.drop_eq_getElem_cons hi] at hgo
    obtain ⟨s', hr⟩ : Stp X.K σ g1 H1 B1 σi gi H' Bi ∧ RepT X.K H' Bi p ds[i] x := by
      rcases wk.y i Hi x H' Bi ds[i] s.kp s.re.trk hy hd with ⟨rfl, hr⟩ | ⟨ez, pp, xs', hpp, rfl, hr⟩
      · exact ⟨s, .inl hr⟩
      · exact ⟨s.alloc hpp, .inr ⟨hz ez, hr⟩⟩
    obtain ⟨ga, e5, hgo⟩ := bind1 (show (bindP p ds[i] gi).bind _ = _ from hgo)
    obtain ⟨o', e6, hgo⟩ := bind1 hgo
    refine ⟨gi, Bi, ds[i], ga, s'.re, e5, hr, fun σ2 s2 _ => ⟨ga, Bi, o', s2.re, e6, ?_⟩⟩
    have S := s'.trans s2
    cases o' with
    | nx g2 => exact fun σ' H'' B' t => ⟨g2, B', S.trans t, hgo⟩
    | ct g2 => exact fun σ' H'' B' t => ⟨g2, B', S.trans t, hgo⟩
    | bk g2 =>
      cases hgo
      exact fun σ' H'' B' t => fin σ' H'' B' (s0.trans (S.trans t))
    | rt r g2 =>
      cases hgo
      exact fun v σ' H'' B' t q => fin v σ' H'' B' (s0.trans (S.trans t)) (q.shift (s0.trans S))
  · rw [List.drop_length] at hgo
    cases (show some (Out.nx gi) = some o from hgo)
    exact fin σi Hi Bi (s0.trans s)
theorem while_imp {c : E} {b : List S} : ∀ D σ H, tS X.K (evS C G W (.while_ c b)) D σ H → tWhile (tT X.K C G c) (tS X.K (evSs C G W b)) D σ H := by
  intro D σ H h
  obtain ⟨g, B, o, re, ev, fin⟩ := h
  have ev' : whileGo (evT C G c) (evSs C G W b) W g = some o := ev
  refine ⟨fun m σ' H' => ∃ (g' : Sg) (B' : Bs), Stp X.K σ g H B σ' g' H' B' ∧ whileGo (evT C G c) (evSs C G W b) m g' = some o, ⟨W, g, B, Stp.refl re, ev'⟩, fun m σ1 H1 ⟨g1, B1, s1, e1⟩ => ?_⟩
  cases m with
  | zero => cases e1
  | succ m =>
    obtain ⟨t, g2, e2, e3⟩ := bind2 (show (evT C G c g1).bind _ = _ from e1)
    refine ⟨g1, B1, t, g2, s1.re, e2, fun H2 B2 s2 => ?_⟩
    have S := s1.trans s2
    cases t with
    | false =>
      cases (show some (Out.nx g2) = some o from e3)
      exact fin _ _ _ S
    | true =>
      obtain ⟨o', e4, e5⟩ := bind1 (show (evSs C G W b g2).bind _ = _ from e3)
      refine ⟨fun σ' H' => ∃ (g' : Sg) (B' : Bs), Stp X.K σ g H B σ' g' H' B' ∧ whileGo (evT C G c) (evSs C G W b) m g' = some o, fun σ' H' q => ⟨m, Nat.lt_succ_self m, q⟩, g2, B2, o', s2.re, e4, ?_⟩
      cases o' with
      | nx g3 => exact fun σ' H'' B' t => ⟨g3, B', S.trans t, e5⟩
      | ct g3 => exact fun σ' H'' B' t => ⟨g3, B', S.trans t, e5⟩
      | bk g3 =>
        cases e5
        exact fun σ' H'' B' t => fin σ' H'' B' (S.trans t)
      | rt r g3 =>
        cases e5
        exact fun v σ' H'' B' t q => fin v σ' H'' B' (S.trans t) (q.shift S)
/-- a thing is locked ahead of a suite -/
theorem pss_lock1 {s : List Stmt} {t t' : TS} (h : PSs X s t) (hi : ∀ D σ H, t' D σ H → t D σ H ∨ ∃ (d : Addr) (u : HO), H d = some u ∧ Mut (some u) ∧ ∀ od : Obj, t D σ (upd H d (.frz od u))) : PSs X s t' := ⟨fun pins sh σ H D I q => by
  rcases hi D σ H q with q | ⟨d, u, hd, mu, q⟩
  · exact h.run pins sh σ H D I q
  · obtain ⟨od, I1⟩ := I.lock hd mu
    exact h.run pins sh σ _ D I1 (q od)⟩
mutual
theorem sndS (ok : Ok X C G nm n sc sc) : ∀ (s : S) (x : Stmt), chkS nm X.N sc s x = true → PS X x (tS X.K (evS C G W s))
  | .asg p e, st, h => by
    unfold chkS at h
    split at h
    · rename_i tg x pos
      rcases Bool.or_eq_true_iff.mp h with h | h
      · simp only [Bool.and_eq_true] at h
        obtain ⟨⟨h1, h2⟩, h3⟩ := h
        have l12 : (swapsWithSole [tg] x pos.line X.env = pure false ∧ swappedStores [tg] x X.env = pure none) ∨ ∃ y py, tg = .Name y py ∧ lcTo sc y py x = true := by
          cases tg with
          | Name yy pp =>
            rcases Bool.or_eq_true_iff.mp (show ((!isLc x || celN sc yy) || lcTo sc yy pp x) = true from h3) with h3 | h3
            · refine .inl ⟨?_, ?_⟩
              · show swapsWith x (some (.Name yy pp)) pos.line X.env = pure false
                exact sw_name ok.sc h3
              · cases x <;> rfl
            · exact .inr ⟨_, _, rfl, h3⟩
          | _ =>
            obtain ⟨h4, h5⟩ := Bool.and_eq_true_iff.mp h3
            exact .inl ⟨sole_false (by simpa using h4), st_none h5⟩
        rcases l12 with ⟨l1, l2⟩ | ⟨y, py, rfl, l3⟩
        rotate_left
        · cases p <;> simp only [chkP, Bool.false_eq_true] at h2
          rename_i i
          simp only [Bool.and_eq_true, decide_eq_true_eq] at h2
          cases x <;> first
            | (cases l3; done)
            | (cases e <;> first
                | (simp [chkE] at h1; done)
                | (exact (ext_noLc h1).elim)
                | (refine ps_imp (snd_setLc ok h1 h2.2 l3) fun D σ H h => ?_
                   obtain ⟨g, B, o, re, ev, fin⟩ := h
                   obtain ⟨r, g1, e1, ev⟩ := bind2 (show (evE C G _ g).bind _ = _ from ev)
                   obtain ⟨d, e2, ev⟩ := bind1 ev
                   obtain ⟨g', e3, e4⟩ := map1 ev
                   subst e4
                   refine tE_of re e1 fun v H1 B1 s1 r1 => ?_
                   obtain ⟨B2, s2, hv⟩ := r1.pure s1 e2
                   obtain ⟨sl, a1, a2, rfl⟩ := setV_some (show setV g1 i .val d = some g' from e3)
                   exact fin _ _ _ (s2.trans (Stp.setVal s2.re a1 a2 hv))))
        have a1 : (assignEach [tg] X.env).map (·.2) = [assign tg X.env] := by
          have : chkPs X.N sc sc [p] [tg] = true := by
            show (chkP X.N sc sc p tg && true) = true
            rw [h2]
            rfl
          rw [asgEach this]
          rfl
        refine ps_imp (ps_asg (sndE e X sc sc x ok h1) (snd_P ok p tg h2) l1 l2 a1) fun D σ H h => ?_
        obtain ⟨g, B, o, re, ev, fin⟩ := h
        obtain ⟨r, g1, e1, ev⟩ := bind2 (show (evE C G e g).bind _ = _ from ev)
        obtain ⟨d, e2, ev⟩ := bind1 ev
        obtain ⟨g', e3, e4⟩ := map1 ev
        subst e4
        refine tE_of re e1 fun v H1 B1 s1 r1 => ?_
        obtain ⟨B2, s2, hv⟩ := r1.pure s1 e2
        exact ⟨g1, B2, d, g', s2.re, e3, .inl hv, fun σ' s3 _ => fin σ' H1 B2 (s2.trans s3)⟩
      · split at h
        · rename_i i j es y py z pz kt pt a b k2 pt2
          simp only [Bool.and_eq_true, decide_eq_true_eq, Bool.not_eq_true'] at h
          obtain ⟨⟨⟨⟨⟨⟨⟨⟨⟨⟨⟨⟨c1, c2⟩, c3⟩, c4⟩, c5⟩, c6⟩, c7⟩, c8⟩, c9⟩, c10⟩, c11⟩, c12⟩, c13⟩ := h
          exact snd_par ok c1 c2 c3 c4 c5 c6 c7 c8 c9 c10 c11 c12 c13
        · cases h
    · cases h
  | .own i e, st, h => by
    unfold chkS at h
    split at h
    · rename_i y py x pos
      simp only [Bool.and_eq_true, decide_eq_true_eq] at h
      obtain ⟨⟨⟨h1, h2⟩, h3⟩, h4⟩ := h
      obtain ⟨q1, q2⟩ := pos_of (i := i) h2 ok
      have base : PS X (.Assign [.Name y py] x pos) (tAsg (tE X.K C G e) (gName i)) := by
        rcases Bool.or_eq_true_iff.mp h4 with h4 | h4
        · exact ps_set ok.nd h3 q1 (sndE e X sc sc x ok h1) (sw_name ok.sc h4) q2
        · cases x <;> first
            | (cases h4; done)
            | (cases e <;> first
                | (simp [chkE] at h1; done)
                | (exact (ext_noLc h1).elim)
                | exact snd_setLc ok h1 h3 h4)
      refine ps_imp base fun D σ H h => ?_
      obtain ⟨g, B, o, re, ev, fin⟩ := h
      obtain ⟨r, g1, e1, ev⟩ := bind2 (show (evE C G e g).bind _ = _ from ev)
      cases r with
      | new d =>
        obtain ⟨g', e3, e4⟩ := map1 (show (setV g1 i .own d).map Out.nx = some o from ev)
        subst e4
        obtain ⟨sl, a1, a2, rfl⟩ := setV_some e3
        refine tE_of re e1 fun v H1 B1 s1 r1 => ?_
        exact fin _ _ _ (Stp.setOwn s1 a1 a2 r1.1 r1.2)
      | pur _ => cases ev
      | loc _ => cases ev
    · cases h
  | .setI i ix e, st, h => by
    unfold chkS at h
    split at h
    · simp only [Bool.and_eq_true, decide_eq_true_eq] at h
      obtain ⟨⟨⟨⟨⟨h1, h2⟩, h3⟩, h4⟩, h5⟩, h6⟩ := h
      exact snd_setI ok h1 h2 h3 h4 h5 h6
    · cases h
  | .aug i o e, st, h => by
    unfold chkS at h
    split at h
    · simp only [Bool.and_eq_true, decide_eq_true_eq] at h
      obtain ⟨⟨⟨h1, h2⟩, h3⟩, h4⟩ := h
      exact snd_aug ok h1 h2 h3 h4
    · cases h
  | .mut m i e, st, h => by
    unfold chkS at h
    split at h
    · simp only [Bool.and_eq_true, decide_eq_true_eq] at h
      obtain ⟨⟨⟨⟨⟨h1, h2⟩, h3⟩, h4⟩, h5⟩, h6⟩ := h
      exact snd_mut ok h1 h2 h3 h4 h5 h6
    · cases h
  | .expr e, st, h => by
    unfold chkS at h
    split at h
    · rename_i x pos
      obtain ⟨h1, h2⟩ := Bool.and_eq_true_iff.mp h
      refine ps_imp (ps_expr (sndE e X sc sc x ok h1) (sw_false (by simpa using h2))) fun D σ H h => ?_
      obtain ⟨g, B, o, re, ev, fin⟩ := h
      obtain ⟨⟨r, g1⟩, e1, e2⟩ := map1 (show (evE C G e g).map (fun r => Out.nx r.2) = some o from ev)
      subst e2
      exact tE_of re e1 fun v H1 B1 s1 r1 => fin _ _ _ s1
    · cases h
  | .ite c a b, st, h => by
    unfold chkS at h
    split at h
    · rename_i t xs ys pos
      simp only [Bool.and_eq_true] at h
      obtain ⟨⟨h1, h2⟩, h3⟩ := h
      refine ps_imp (ps_if (sndT c X sc sc t ok h1) (sndSs ok a xs h2) (sndSs ok b ys h3)) fun D σ H h => ?_
      obtain ⟨g, B, o, re, ev, fin⟩ := h
      obtain ⟨t, g1, e1, ev⟩ := bind2 (show (evT C G c g).bind _ = _ from ev)
      refine ⟨g, B, t, g1, re, e1, fun H1 B1 s1 => ?_⟩
      cases t with
      | true => exact ⟨g1, B1, o, s1.re, ev, fin.shift s1⟩
      | false => exact ⟨g1, B1, o, s1.re, ev, fin.shift s1⟩
    · cases h
  | .for_ p it b, st, h => by
    unfold chkS at h
    split at h
    · rename_i tg iter xs pos
      simp only [Bool.and_eq_true] at h
      obtain ⟨⟨h1, h2⟩, h3⟩ := h
      rcases Bool.or_eq_true_iff.mp h1 with h1 | h1
      · exact ps_imp (ps_for (never ok) ok.calm (sndI it p tg X sc sc iter ok h1) (snd_P ok p tg h2) (sndSs ok b xs h3) (notSetI h1)) (for_imp (ez_tp h1 h2))
      · exact ps_imp (ps_for (never ok) ok.calm (snd_I0 (sndE it X sc sc iter ok h1)) (snd_P ok p tg h2) (sndSs ok b xs h3) (notSet h1)) (for_imp (ez_no h1))
    · cases h
  | .while_ c b, st, h => by
    unfold chkS at h
    split at h
    · rename_i t xs pos
      obtain ⟨h1, h2⟩ := Bool.and_eq_true_iff.mp h
      exact ps_imp (ps_while (never ok) (sndT c X sc sc t ok h1) (sndSs ok b xs h2)) while_imp
    · cases h
  | .ret e, st, h => by
    unfold chkS at h
    split at h
    · rename_i x pos
      refine ps_imp (ps_ret (sndE e X sc sc x ok h)) fun D σ H h => ?_
      obtain ⟨g, B, o, re, ev, fin⟩ := h
      obtain ⟨r, g1, e1, ev⟩ := bind2 (show (evE C G e g).bind _ = _ from ev)
      cases r with
      | loc _ => cases ev
      | pur d =>
        cases (show some (Out.rt (.pur d) g1) = some o from ev)
        exact tE_of re e1 fun v H1 B1 s1 r1 => fin v σ H1 B1 s1 r1
      | new d =>
        cases (show some (Out.rt (.new d) g1) = some o from ev)
        exact tE_of re e1 fun v H1 B1 s1 r1 => fin v σ H1 B1 s1 r1
    · cases h
  | .retN, st, h => by
    unfold chkS at h
    split at h
    · refine ps_imp ps_retN fun D σ H h => ?_
      obtain ⟨g, B, o, re, ev, fin⟩ := h
      cases (show some (Out.rt (.pur .none) g) = some o from ev)
      exact fin .non σ H B (Stp.refl re) rfl
    · cases h
  | .brk, st, h => by
    unfold chkS at h
    split at h
    · refine ps_imp ps_break fun D σ H h => ?_
      obtain ⟨g, B, o, re, ev, fin⟩ := h
      cases (show some (Out.bk g) = some o from ev)
      exact fin σ H B (Stp.refl re)
    · cases h
  | .cont, st, h => by
    unfold chkS at h
    split at h
    · refine ps_imp ps_continue fun D σ H h => ?_
      obtain ⟨g, B, o, re, ev, fin⟩ := h
      cases (show some (Out.ct g) = some o from ev)
      exact fin σ H B (Stp.refl re)
    · cases h
  | .pass, st, h => by
    have go : ∀ D σ H, tS X.K (evS C G W .pass) D σ H → tNext D σ H := fun D σ H h => by
      obtain ⟨g, B, o, re, ev, fin⟩ := h
      cases (show some (Out.nx g) = some o from ev)
      exact fin σ H B (Stp.refl re)
    unfold chkS at h
    split at h
    · exact ps_imp ps_pass go
    · exact ps_imp ps_doc go
    · cases h
  | .dnew i, st, h => by
    unfold chkS at h
    split at h
    · rename_i y py dp pos
      simp only [Bool.and_eq_true, decide_eq_true_eq] at h
      obtain ⟨h1, h2⟩ := h
      obtain ⟨q1, q2⟩ := pos_of (i := i) h1 ok
      have base : PS X (.Assign [.Name y py] (.Dict [] [] dp) pos) (tAsg tDNewK (gName i)) := ps_set ok.nd h2 q1 pe_dnewK (sw_name ok.sc (by rfl)) q2
      refine ps_imp base fun D σ H h => ?_
      obtain ⟨g, B, o, re, ev, fin⟩ := h
      obtain ⟨g', e3, e4⟩ := map1 (show (setV g i .own (.dict [])).map Out.nx = some o from ev)
      subst e4
      obtain ⟨sl, a1, a2, rfl⟩ := setV_some e3
      intro p hp
      have s := (Stp.refl re).allocNew (p := p) (o := .dK []) hp rfl
      refine fin _ _ _ (Stp.setOwn s a1 a2 ⟨p, _, rfl, .inr rfl, upd_same, .inl ⟨[], rfl, rfl⟩⟩ fun a ea => ?_)
      cases ea
      refine ⟨fun z => ?_, fun b => ?_⟩
      · obtain ⟨u, e, _⟩ := re.trk p (re.ownB z)
        rw [hp] at e
        cases e
      · obtain ⟨u, e, _⟩ := re.trk p b
        rw [hp] at e
        cases e
    · cases h
  | .dset i k e, st, h => by
    unfold chkS at h
    split at h
    · simp only [Bool.and_eq_true, decide_eq_true_eq] at h
      obtain ⟨⟨⟨⟨⟨h1, h2⟩, h3⟩, h4⟩, h5⟩, h6⟩ := h
      exact snd_dset ok h1 h2 h3 h4 h5 h6
    · cases h
  | .frz _, st, h => by
    unfold chkS at h
    cases h
  | .lck _, st, h => by
    unfold chkS at h
    cases h
  | .ddis i ks es, st, h => by
    unfold chkS at h
    split at h
    · simp only [Bool.and_eq_true, decide_eq_true_eq] at h
      obtain ⟨⟨⟨⟨h1, h2⟩, h3⟩, h4⟩, h5⟩ := h
      exact snd_ddis ok h1 h2 h3 h4 h5
    · cases h
  | .dupd i ks es, st, h => by
    unfold chkS at h
    split at h
    · simp only [Bool.and_eq_true, decide_eq_true_eq] at h
      obtain ⟨⟨⟨⟨⟨⟨⟨h1, h2⟩, h3⟩, h4⟩, h5⟩, h6⟩, h7⟩, h8⟩ := h
      exact snd_dupd ok h1 h2 h3 h4 h5 h6 h7 h8
    · cases h
  | .mux _ _ _, st, h => by
    unfold chkS at h
    cases h
  | .nev, st, h => ps_imp ps_never fun D σ H h => by
    obtain ⟨g, B, o, re, ev, fin⟩ := h
    cases (show none = some o from ev)
termination_by s => sizeOf s
theorem sndSs (ok : Ok X C G nm n sc sc) : ∀ (ss : List S) (xs : List Stmt), chkSs nm X.N sc ss xs = true → PSs X xs (tS X.K (evSs C G W ss))
  | [], xs, h => by
    have e : xs = [] := by
      unfold chkSs at h
      exact List.isEmpty_iff.mp h
    subst e
    refine pss_imp pss_nil fun D σ H h => ?_
    obtain ⟨g, B, o, re, ev, fin⟩ := h
    cases (show some (Out.nx g) = some o from ev)
    exact fin σ H B (Stp.refl re)
  | s :: ss, xs, h => by
    have cons_imp : ∀ D σ H, tS X.K (evSs C G W (s :: ss)) D σ H → tSeq (tS X.K (evS C G W s)) (tS X.K (evSs C G W ss)) D σ H := fun D σ H h => by
      obtain ⟨g, B, o, re, ev, fin⟩ := h
      obtain ⟨o1, e1, ev⟩ := bind1 (show (evS C G W s g).bind _ = _ from ev)
      refine ⟨g, B, o1, re, e1, ?_⟩
      cases o1 with
      | nx g1 => exact fun σ' H' B' st => ⟨g1, B', o, st.re, ev, fin.shift st⟩
      | bk g1 => cases ev; exact fin
      | ct g1 => cases ev; exact fin
      | rt r g1 => cases ev; exact fin
    cases s with
    | frz i =>
      have h' : chkSs nm X.N sc ss xs = true := by
        unfold chkSs at h
        exact h
      refine pss_imp (sndSs ok ss xs h') fun D σ H h => ?_
      obtain ⟨g, B, o, re, ev, fin⟩ := h
      obtain ⟨o1, e1, ev⟩ := bind1 (show (evS C G W (.frz i) g).bind _ = _ from ev)
      rw [evS] at e1
      split at e1
      · cases e1
        obtain ⟨B', s⟩ := Stp.frz re ‹_›
        exact ⟨_, B', o, s.re, ev, fin.shift s⟩
      · cases e1
        exact ⟨_, B, o, re, ev, fin⟩
      · cases e1
    | lck i =>
      have h' : chkSs nm X.N sc ss xs = true := by
        unfold chkSs at h
        exact h
      refine pss_lock1 (sndSs ok ss xs h') fun D σ H h => ?_
      obtain ⟨g, B, o, re, ev, fin⟩ := h
      obtain ⟨o1, e1, ev⟩ := bind1 (show (evS C G W (.lck i) g).bind _ = _ from ev)
      rw [evS] at e1
      split at e1
      · rename_i kvs hg
        split at e1
        · rename_i hn
          cases e1
          obtain ⟨a, ks, ea, hs⟩ := Stp.lck re hg hn.1
          refine .inr ⟨a, _, ea, True.intro, fun od => ?_⟩
          obtain ⟨B', s⟩ := hs od
          exact ⟨_, B', o, s.re, ev, fin.shift s⟩
        · cases e1
      · split at e1
        · cases e1
          exact .inl ⟨_, B, o, re, ev, fin⟩
        · cases e1
      · cases e1
    | _ =>
      cases xs with
      | nil =>
        unfold chkSs at h
        cases h
      | cons x xs =>
        unfold chkSs at h
        obtain ⟨h1, h2⟩ := Bool.and_eq_true_iff.mp h
        exact pss_imp (pss_cons (sndS ok _ x h1) (sndSs ok ss xs h2)) cons_imp
termination_by ss => sizeOf ss
end
end
end Ev

namespace Ev
set_option autoImplicit false
open PySem PySem.Spec PyProof.Rows L2
variable [TheW]
section
variable {K : PySem.W.Frag} {σ σ' : L2.St} {g g' : Sg} {H H' : Hp} {B B' : Bs} {v : V} {vs : List V} {as as' : List (Md × D)} {m k : Nat} {r : Rv}
theorem getE {α : Type} {l : List (Option α)} {m i : Nat} {x : α} (h : (l ++ List.replicate m none)[i]? = some (some x)) : l[i]? = some (some x) := by
  by_cases hi : i < l.length
  · rw [List.getElem?_append_left hi] at h
    exact h
  · rw [List.getElem?_append_right (by omega), List.getElem?_replicate] at h
    split at h <;> cases h
theorem getI {α : Type} {l : List (Option α)} {m i : Nat} {x : α} (h : l[i]? = some (some x)) : (l ++ List.replicate m none)[i]? = some (some x) := by
  rw [List.getElem?_append_left (List.getElem?_eq_some_iff.mp h).1]
  exact h
theorem getSame {α : Type} {l : List (Option α)} {m i : Nat} (h : i < l.length) : (l ++ List.replicate m none)[i]? = l[i]? := List.getElem?_append_left h
theorem RE.pad (re : RE K H B σ g) : RE K H B (σ ++ List.replicate m none) (g ++ List.replicate m none) where
  len := by rw [List.length_append, List.length_append, List.length_replicate, List.length_replicate, re.len]
  val := fun i d e => by
    obtain ⟨v, h1, h2⟩ := re.val i d (getE e)
    exact ⟨v, getI h1, h2⟩
  own := fun i n d e hm => by
    obtain ⟨v, h1, h2⟩ := re.own i n d (getE e) hm
    exact ⟨v, getI h1, h2⟩
  dist := fun i j n n' d e a h1 h2 h3 h4 h5 h6 => re.dist i j n n' d e a (getE h1) h2 (getE h3) h4 (getE h5) (getE h6)
  trk := re.trk
theorem own_pad {a : Addr} : Own (σ ++ List.replicate m none) (g ++ List.replicate k none) a ↔ Own σ g a :=
  ⟨fun ⟨i, n, d, h1, h2, h3⟩ => ⟨i, n, d, getE h1, h2, getE h3⟩, fun ⟨i, n, d, h1, h2, h3⟩ => ⟨i, n, d, getI h1, h2, getI h3⟩⟩
/-- what is left of the arguments -/
theorem left_at : ∀ {as as' : List (Md × D)} {j : Nat}, leftOf g j as = some as' → as'.length = as.length ∧ ∀ (i : Nat) (m : Md) (d : D), as'[i]? = some (m, d) → (m = .val ∧ as[i]? = some (.val, d)) ∨ (m = .bor ∧ g[j + i]? = some (some (.bor, d)) ∧ ∃ n e, as[i]? = some (n, e) ∧ n ≠ Md.val)
  | [], as', j, h => by
    cases (show some ([] : List (Md × D)) = some as' from h)
    exact ⟨rfl, fun i m d e => by simp at e⟩
  | (n, e) :: as, as', j, h => by
    have tail : ∀ {p : Md × D} {bs : List (Md × D)}, leftOf g (j + 1) as = some bs → as' = p :: bs → ((p.1 = .val ∧ (n, e) = (Md.val, p.2)) ∨ (p.1 = .bor ∧ g[j]? = some (some (.bor, p.2)) ∧ n ≠ Md.val)) →
        as'.length = ((n, e) :: as).length ∧ ∀ (i : Nat) (m : Md) (d : D), as'[i]? = some (m, d) → (m = .val ∧ ((n, e) :: as)[i]? = some (.val, d)) ∨ (m = .bor ∧ g[j + i]? = some (some (.bor, d)) ∧ ∃ n' e', ((n, e) :: as)[i]? = some (n', e') ∧ n' ≠ Md.val) := fun {p bs} hb ep hp => by
      subst ep
      obtain ⟨l1, l2⟩ := left_at hb
      refine ⟨by rw [List.length_cons, List.length_cons, l1], fun i m d ei => ?_⟩
      cases i with
      | zero =>
        have : p = (m, d) := by simpa using ei
        subst this
        rcases hp with ⟨a, b⟩ | ⟨a, b, c⟩
        · exact .inl ⟨a, by simpa using b⟩
        · exact .inr ⟨a, b, n, e, rfl, c⟩
      | succ i =>
        rcases l2 i m d (by simpa using ei) with ⟨a, b⟩ | ⟨a, b, c⟩
        · exact .inl ⟨a, by simpa using b⟩
        · refine .inr ⟨a, by rw [show j + (i + 1) = j + 1 + i by omega]; exact b, by simpa using c⟩
    cases n with
    | val =>
      obtain ⟨bs, h1, h2⟩ := map1 (show (leftOf g (j + 1) as).map ((Md.val, e) :: ·) = some as' from h)
      exact tail h1 h2.symm (.inl ⟨rfl, rfl⟩)
    | own =>
      have h' : (match g[j]? with
        | some (some (.bor, d)) => (leftOf g (j + 1) as).map ((Md.bor, d) :: ·)
        | _ => none) = some as' := h
      split at h'
      · obtain ⟨bs, h1, h2⟩ := map1 h'
        exact tail h1 h2.symm (.inr ⟨rfl, ‹_›, (fun z => nomatch z)⟩)
      · cases h'
    | bor =>
      have h' : (match g[j]? with
        | some (some (.bor, d)) => (leftOf g (j + 1) as).map ((Md.bor, d) :: ·)
        | _ => none) = some as' := h
      split at h'
      · obtain ⟨bs, h1, h2⟩ := map1 h'
        exact tail h1 h2.symm (.inr ⟨rfl, ‹_›, (fun z => nomatch z)⟩)
      · cases h'
theorem modes_at : ∀ {pm : List Bool} {as : List (Md × D)}, modesOk pm as = true → pm.length = as.length ∧ ∀ p ∈ as, p.1 ≠ Md.own
  | [], [], _ => ⟨rfl, fun _ h => absurd h List.not_mem_nil⟩
  | [], _ :: _, h => by cases h
  | _ :: _, [], h => by cases h
  | b :: bs, (n, d) :: as, h => by
    obtain ⟨h1, h2⟩ := Bool.and_eq_true_iff.mp (show ((if b then decide (n = .bor) else decide (n = .val)) && modesOk bs as) = true from h)
    obtain ⟨l, q⟩ := modes_at h2
    refine ⟨by rw [List.length_cons, List.length_cons, l], fun p hp => ?_⟩
    rcases List.mem_cons.mp hp with rfl | hp
    · cases b
      · rw [if_neg Bool.false_ne_true] at h1
        rw [of_decide_eq_true h1]
        exact fun z => nomatch z
      · rw [if_pos rfl] at h1
        rw [of_decide_eq_true h1]
        exact fun z => nomatch z
    · exact q p hp
theorem mapAt {α : Type} {l : List α} {i : Nat} {x : α} (h : (l.map some)[i]? = some (some x)) : l[i]? = some x := mapS.mp h
/-- the body's step, for the caller -/
theorem body_out (hm : ∀ p ∈ as, p.1 ≠ Md.own) (hl : leftOf g' 0 as = some as') (s : Stp K (vs.map some ++ List.replicate m none) (as.map some ++ List.replicate k none) H B σ' g' H' B') (re0 : RE K H B (vs.map some) (as.map some)) :
    Stp K (vs.map some) (as.map some) H B (vs.map some) (as'.map some) H' B' ∧ as'.map (·.1) = as.map (·.1) ∧ ∀ a, Own (vs.map some) (as'.map some) a → Own σ' g' a := by
  obtain ⟨ll, la⟩ := left_at hl
  -- a lent slot
  have bor : ∀ {i : Nat} {d : D}, as'[i]? = some (.bor, d) → ∃ e, as[i]? = some (.bor, e) ∧ g'[i]? = some (some (.bor, d)) ∧ σ'[i]? = (vs.map some)[i]? := fun {i d} h => by
    rcases la i .bor d h with ⟨z, _⟩ | ⟨_, h1, n, e, h2, h3⟩
    · cases z
    · have hn : n = .bor := by
        have := hm (n, e) (List.mem_of_getElem? h2)
        cases n with
        | val => exact absurd rfl h3
        | own => exact absurd rfl this
        | bor => rfl
      subst hn
      rw [Nat.zero_add] at h1
      have hi : i < (vs.map some).length := by
        rw [← re0.len, List.length_map]
        exact (List.getElem?_eq_some_iff.mp h2).1
      obtain ⟨e1, _⟩ := s.bfix i e (getI (mapS.mpr h2))
      exact ⟨e, h2, h1, e1.trans (getSame hi)⟩
  have cases_ : ∀ {i : Nat} {n : Md} {d : D}, (as'.map some)[i]? = some (some (n, d)) → (n = .val ∧ as[i]? = some (.val, d)) ∨ (n = .bor ∧ as'[i]? = some (.bor, d)) := fun {i n d} h => by
    have h' := mapAt h
    rcases la i n d h' with ⟨rfl, h1⟩ | ⟨rfl, _⟩
    · exact .inl ⟨rfl, h1⟩
    · exact .inr ⟨rfl, h'⟩
  have ownI : ∀ a, Own (vs.map some) (as'.map some) a → Own σ' g' a ∧ Own (vs.map some) (as.map some) a := fun a ⟨i, n, d, h1, h2, h3⟩ => by
    rcases cases_ h1 with ⟨rfl, _⟩ | ⟨rfl, h4⟩
    · exact absurd rfl h2
    · obtain ⟨e, e1, e2, e3⟩ := bor h4
      exact ⟨⟨i, .bor, d, e2, h2, e3.trans h3⟩, ⟨i, .bor, e, mapS.mpr e1, h2, h3⟩⟩
  refine ⟨⟨⟨?_, fun i d h => ?_, fun i n d h hn => ?_, fun i j n n' d e a h1 h2 h3 h4 h5 h6 => ?_, s.re.trk⟩, s.trk, fun a o => s.ownB a (own_pad.mpr o), fun a o e n => s.keep a o e fun z => n (own_pad.mp z), fun a b n => s.own a b fun z => n (own_pad.mp z), s.new, fun a o => .inl (ownI a o).2, s.grow, fun i d h => ?_⟩, ?_, fun a o => (ownI a o).1⟩
  · rw [List.length_map, ll]
    have := re0.len
    rw [List.length_map] at this
    exact this
  · rcases cases_ h with ⟨_, h1⟩ | ⟨z, _⟩
    · obtain ⟨v, e1, hv⟩ := re0.val i d (mapS.mpr h1)
      exact ⟨v, e1, RepV.ext s.kp d v hv⟩
    · cases z
  · rcases cases_ h with ⟨rfl, _⟩ | ⟨rfl, h4⟩
    · exact absurd rfl hn
    · obtain ⟨e, e1, e2, e3⟩ := bor h4
      obtain ⟨v, h5, hv⟩ := s.re.own i .bor d e2 hn
      exact ⟨v, e3.symm.trans h5, hv⟩
  · rcases cases_ h1 with ⟨rfl, _⟩ | ⟨rfl, h7⟩
    · exact absurd rfl h2
    · rcases cases_ h3 with ⟨rfl, _⟩ | ⟨rfl, h8⟩
      · exact absurd rfl h4
      · obtain ⟨_, _, e2, e3⟩ := bor h7
        obtain ⟨_, _, f2, f3⟩ := bor h8
        exact s.re.dist i j .bor .bor d e a e2 h2 f2 h4 (e3.trans h5) (f3.trans h6)
  · refine ⟨rfl, ?_⟩
    have h' := mapAt h
    have hi : i < as'.length := by
      rw [ll]
      exact (List.getElem?_eq_some_iff.mp h').1
    have h1 : as'[i]? = some as'[i] := List.getElem?_eq_getElem hi
    rcases la i _ _ h1 with ⟨_, z⟩ | ⟨z, _⟩
    · rw [h'] at z
      cases z
    · refine ⟨as'[i].2, mapS.mpr ?_⟩
      rw [h1]
      exact congrArg some (Prod.ext z rfl)
  · apply List.ext_getElem?
    intro i
    rw [List.getElem?_map, List.getElem?_map]
    by_cases hi : i < as'.length
    · have h1 : as'[i]? = some as'[i] := List.getElem?_eq_getElem hi
      rw [h1]
      rcases la i _ _ h1 with ⟨z, e⟩ | ⟨z, _, n, e, h2, h3⟩
      · rw [e]
        exact congrArg some z
      · rw [h2]
        have := hm (n, e) (List.mem_of_getElem? h2)
        cases n with
        | val => exact absurd rfl h3
        | own => exact absurd rfl this
        | bor => exact congrArg some z
    · rw [List.getElem?_eq_none (by omega), List.getElem?_eq_none (by omega)]
end
theorem guards_deeper {A : Around} {env : PySem.Env} (h : A.guards = some []) : (A.deeper env).guards = some [] := by
  first
    | exact h
    | simp [Around.deeper, Around.under, h]
/-- a def of the text by its body -/
theorem fng_of {P : Program} {w : World} {K : PySem.W.Frag} {mg : Str → Option Value} {base : Heap} {k : Nat} {f : Addr} {fd : FuncData} {x qual : Str} {params : Arguments} {body : List Stmt} {scope : Scope} {N ps : List Str} {sp : Sp} (F : FunD K x qual params body scope [] [] f fd) (S : FnScope N ps scope)
    (len : ∀ vs H Q E, sp vs H Q E → vs.length = ps.length)
    (hbody : ∀ (cdv : Value) (A : Around) (outer : List PySem.Env) (s : Shared) (H : Hp) (vs : List V) (Q : VK), A.guards = some [] → Room k (A.deeper (envOfC qual scope s.heap.objs.size f cdv)) → sp vs H Q E0 →
      ∃ t, PSs (cxOf CX0 P w K mg base N qual scope f cdv A outer s H E0) body t ∧ t { nx := fun _ H' => Q .non H', rt := Q } (start N vs) H) :
    FnG P w K mg base (k + 1) f fd ps sp := by
  obtain ⟨oc, od, dV, kV, doc, pm, an, cdv, ct, osl, rfl, lk, hcd, _, _⟩ := F.ex
  refine ⟨len, fun A outer s H args us vs Q hg hr e0 hb r hsp => ?_⟩
  have hl := len _ _ _ _ hsp
  have KX : K.In s.heap := e0.mod.kin.keeps fun b o e => (e0.bs b o e).1
  have lim : s.heap.NoLimit := e0.mod.nolimit.keeps fun b o e => (e0.bs b o e).1
  have hkind : ∀ y ∈ ps.zip us, scope.names.lookup y.1 = some .local ∨ (scope.names.lookup y.1 = some .cell ∧ ((cellsFrom (s.heap.objs.size + 1) scope.names []).lookup y.1).isSome = true) := fun ⟨n, v⟩ hy => by
    rcases S.par n (List.of_mem_zip hy).1 with q | q
    · exact .inl q
    · exact .inr ⟨q, PySem.W.cellsFrom_some _ _ _ (.inl q)⟩
  refine codeAny_call_function hr.depth (KX _ _ lk) rfl S.co S.gen rfl (PySem.W.codeRec_of KX hcd) (hb _ _ _ _ ?_)
  refine wpAny_newFunctionEnv_cells S.kind hkind fun env he s1 x => ?_
  subst he
  refine ⟨lim.keeps x.toInCall.keep, codeAny_func ?_⟩
  obtain ⟨t, ht, hq⟩ := hbody cdv A outer s H vs Q hg (hr.deeper _) hsp
  have I : Inv (cxOf CX0 P w K mg base N qual scope f cdv A outer s H E0) [] (start N vs) H s1 := inv_start S hr.hd e0 hl r x
  refine wpAny_mono (ht.run [] s1 (start N vs) H _ I hq) (fun fl s' hs => ?_) fun e s' hs => hs
  have fin : ∀ {σ' : L2.St} {H' : Hp} {v : V} {u : Value}, Inv (cxOf CX0 P w K mg base N qual scope f cdv A outer s H E0) [] σ' H' s' → RelV v u → Q v H' → CE outer P w H s Q u s' :=
    fun {σ' H' v u} J rv q => ⟨v, H', J.os, J.bare, J.base, J.hok, rv, q⟩
  cases fl with
  | ret u =>
    obtain ⟨v, σ', H', J, rv, q⟩ := hs
    exact fin J rv q
  | next =>
    obtain ⟨σ', H', J, q⟩ := hs
    exact fin (v := V.non) (u := Value.none) J rfl q
  | brk =>
    obtain ⟨_, _, _, q⟩ := hs
    exact False.elim q
  | cont =>
    obtain ⟨_, _, _, q⟩ := hs
    exact False.elim q
theorem FnG.mono {P : Program} {w : World} {K : PySem.W.Frag} {mg : Str → Option Value} {base : Heap} {j k : Nat} {f : Addr} {fd : FuncData} {ps : List Str} {sp : Sp} (F : FnG P w K mg base j f fd ps sp) (h : j ≤ k) : FnG P w K mg base k f fd ps sp :=
  ⟨F.len, fun A outer s H args us vs Q hg hr => F.run A outer s H args us vs Q hg (hr.mono h)⟩
/-- what is known of a def -/
structure DefOk (K : PySem.W.Frag) (mg : Str → Option Value) (nm : Nms) (d : FD) (x : Str) (a : Addr) (fd : FuncData) (ps : List Str) : Prop where
  g : mg x = some (.ref a)
  kp : PySem.W.keepIn K (.ref a) = true
  b : Binds K fd ps []
  ex : ∃ (y qual : Str) (params : Arguments) (body : List Stmt) (scope : Scope) (N : List Str), FunD K y qual params body scope [] [] a fd ∧ FnScope N ps scope ∧ d.n = N.length ∧ d.pm.length = ps.length ∧ chkSs nm N scope d.body body = true
/-- what is known of the module's names -/
structure ModOk (w : World) (K : PySem.W.Frag) (mg : Str → Option Value) (nm : Nms) (G : Nat → Option D) : Prop where
  blt : ∀ x ∈ bltNames, mg x = none
  dic : ∀ (k : Nat) x kvs, nm.gls[k]? = some x → G k = some (.dict kvs) → ∃ p, mg x = some (.ref p) ∧ ∀ z d, dGet kvs z = some d → ∃ v, KDct K w p z v ∧ ∀ H B, RepV K H B d v
  glo : ∀ (k : Nat) x d, nm.gls[k]? = some x → G k = some d → notDict d = true → ∃ v u, mg x = some u ∧ RelV v u ∧ (∀ H B, RepV K H B d v) ∧ ∀ ds, d = .tuple ds → ∃ a o, v = .ref a ∧ K.lookup a = some o ∧ o.cls = .type "tuple" ∧ o.dict = none
section
variable {P : Program} {w : World} {K : PySem.W.Frag} {mg : Str → Option Value} {base : Heap} {nm : Nms} {G : Nat → Option D} {T : List FD} {W : Nat}
theorem fng_all (hw : w = TheW.w) (M : ModOk w K mg nm G) (hT : ∀ (f : Nat) x, nm.fns[f]? = some x → ∃ (d : FD) (a : Addr) (fd : FuncData) (ps : List Str), T[f]? = some d ∧ DefOk K mg nm d x a fd ps) :
    ∀ (n f : Nat) (x : Str), nm.fns[f]? = some x → ∀ (d : FD) (a : Addr) (fd : FuncData) (ps : List Str), T[f]? = some d → DefOk K mg nm d x a fd ps → FnG P w K mg base n a fd ps (spF K (callN W G T n f)) := by
  intro n
  induction n with
  | zero =>
    intro f x hx d a fd ps hd ok
    refine ⟨fun vs H Q E h => ?_, fun A outer s H args us vs Q hg hr e0 hb r h => ?_⟩
    · obtain ⟨B, as, as', r, e, _⟩ := h
      cases e
    · obtain ⟨B, as, as', r, e, _⟩ := h
      cases e
  | succ n ih =>
    intro f x hx d a fd ps hd ok
    obtain ⟨y, qual, params, body, scope, N, F, S, hn, hpm, hchk⟩ := ok.ex
    have un : ∀ {as : List (Md × D)} {r : Rv} {as' : List (Md × D)}, callN W G T (n + 1) f as = some (r, as') → modesOk d.pm as = true ∧ as.length ≤ d.n ∧ ∃ o, evSs (callN W G T n) G W d.body (startG d.n as) = some o ∧ endF as o = some (r, as') := fun {as r as'} h => by
      unfold callN at h
      rw [hd] at h
      simp only at h
      split at h
      · rename_i hc
        obtain ⟨h1, h2⟩ := Bool.and_eq_true_iff.mp hc
        obtain ⟨o, e1, e2⟩ := bind1 h
        exact ⟨h1, of_decide_eq_true h2, o, e1, e2⟩
      · cases h
    refine fng_of F S (fun vs H Q E h => ?_) (fun cdv A outer s H vs Q hg hr h => ?_)
    · obtain ⟨B, as, as', r, e, hl, _⟩ := h
      obtain ⟨h1, _⟩ := un e
      rw [hl, ← (modes_at h1).1, hpm]
    · obtain ⟨B, as, as', r, e, hl, re, q⟩ := h
      obtain ⟨h1, h2, o, e1, e2⟩ := un e
      obtain ⟨_, hmo⟩ := modes_at h1
      have okX : Ok (cxOf CX0 P w K mg base N qual scope a cdv A outer s H E0).nox (callN W G T n) G nm n scope scope := by
        refine ⟨rfl, S.nd, rfl, guards_deeper hg, hr, rfl, hw, fun _ _ => rfl, M.blt, fun f' x' hx' => ?_, M.dic, M.glo⟩
        obtain ⟨d', a', fd', ps', e', ok'⟩ := hT f' x' hx'
        exact ⟨a', fd', ps', ok'.g, ok'.kp, ok'.b, ih f' x' hx' d' a' fd' ps' e' ok'⟩
      have es : L2.start N vs = vs.map some ++ List.replicate (d.n - as.length) none := by
        unfold L2.start
        rw [hn, hl]
      refine ⟨tS K (evSs (callN W G T n) G W d.body), PSs.nox (sndSs okX d.body body hchk), startG d.n as, B, o, ?_, e1, ?_⟩
      · rw [es]
        exact re.pad
      · rw [es]
        have go : ∀ {g' : Sg} {rv : Rv} {v : V} {σ' : L2.St} {H' : Hp} {B' : Bs}, leftOf g' 0 as = some as' → r = rv → Stp K (vs.map some ++ List.replicate (d.n - as.length) none) (startG d.n as) H B σ' g' H' B' → RvT K (vs.map some ++ List.replicate (d.n - as.length) none) (startG d.n as) B σ' g' H' B' rv v → Q v H' := fun {g' rv v σ' H' B'} hl' er st hr => by
          subst er
          obtain ⟨s2, hmap, ho⟩ := body_out hmo hl' st re
          refine q v H' B' s2 ?_ (fun i z => by subst z; exact hr) hmap
          cases r with
          | pur dd => exact hr
          | loc i => exact hr.elim
          | new dd => exact ⟨hr.1, fun b eb => ⟨fun z => (hr.2 b eb).1 (ho b z), fun z => own_pad.mp ((hr.2 b eb).2 z)⟩⟩
        cases o with
        | nx g' =>
          obtain ⟨l, e3, e4⟩ := map1 (show (leftOf g' 0 as).map (fun l => (Rv.pur .none, l)) = some (r, as') from e2)
          cases e4
          exact fun σ' H' B' st => go e3 rfl st rfl
        | rt r0 g' =>
          obtain ⟨l, e3, e4⟩ := map1 (show (leftOf g' 0 as).map (fun l => (r0, l)) = some (r, as') from e2)
          cases e4
          exact fun v σ' H' B' st hr => go e3 rfl st hr
        | bk g' => cases e2
        | ct g' => cases e2
end
end Ev

namespace Ev
set_option autoImplicit false
open PySem PySem.Spec PyProof.Rows L2
variable [TheW]
mutual
def conB (K : PySem.W.Frag) : D → Value → Bool
  | .none, u => (match u with
    | .none => true
    | _ => false)
  | .bool b, u => (match u with
    | .bool c => b == c
    | _ => false)
  | .int i, u => (match u with
    | .int j _ => decide (i = j)
    | _ => false)
  | .str x, u => (match u with
    | .str y _ => decide (x = y)
    | _ => false)
  | .list ds, u => (match u with
    | .ref a => (match K.lookup a with
      | some ⟨.type c, none, .seq its _, _⟩ => decide (c = "list") && (decide (its.size ≤ sizeLine) && conBs K ds its.toList)
      | _ => false)
    | _ => false)
  | .tuple ds, u => (match u with
    | .ref a => (match K.lookup a with
      | some ⟨.type c, none, .seq its _, _⟩ => decide (c = "tuple") && (decide (its.size ≤ sizeLine) && conBs K ds its.toList)
      | _ => false)
    | _ => false)
  | .dict _, _ => false
def conBs (K : PySem.W.Frag) : List D → List Value → Bool
  | [], us => us.isEmpty
  | d :: ds, us => (match us with
    | u :: us => conB K d u && conBs K ds us
    | [] => false)
end
section
variable {K : PySem.W.Frag}
mutual
theorem conB_ok : ∀ (d : D) (u : Value), conB K d u = true → ∃ v, RelV v u ∧ (∀ H B, RepV K H B d v) ∧ ∀ ds, d = .tuple ds → ∃ a o, v = .ref a ∧ K.lookup a = some o ∧ o.cls = .type "tuple" ∧ o.dict = none
  | .none, u, h => by
    unfold conB at h
    split at h
    · exact ⟨.non, rfl, fun _ _ => rfl, nofun⟩
    · cases h
  | .bool b, u, h => by
    unfold conB at h
    split at h
    · rename_i c
      cases (beq_iff_eq.mp h)
      exact ⟨.bl b, rfl, fun _ _ => rfl, nofun⟩
    · cases h
  | .int i, u, h => by
    unfold conB at h
    split at h
    · rename_i j t
      cases of_decide_eq_true h
      exact ⟨.int i, ⟨t, rfl⟩, fun _ _ => rfl, nofun⟩
    · cases h
  | .str x, u, h => by
    unfold conB at h
    split at h
    · rename_i y t
      cases of_decide_eq_true h
      exact ⟨.str x, ⟨t, rfl⟩, fun _ _ => rfl, nofun⟩
    · cases h
  | .list ds, u, h => by
    unfold conB at h
    split at h
    · rename_i a
      split at h
      · rename_i c its n sl e
        simp only [Bool.and_eq_true, decide_eq_true_eq] at h
        obtain ⟨h1, h2, h3⟩ := h
        subst h1
        obtain ⟨vs, r, q⟩ := conBs_ok ds _ h3
        exact ⟨.ref a, rfl, fun H B => ⟨a, vs, rfl, .inr (.inr ⟨_, its, n, e, rfl, rfl, rfl, h2, r⟩), q H B⟩, nofun⟩
      · cases h
    · cases h
  | .tuple ds, u, h => by
    unfold conB at h
    split at h
    · rename_i a
      split at h
      · rename_i c its n sl e
        simp only [Bool.and_eq_true, decide_eq_true_eq] at h
        obtain ⟨h1, h2, h3⟩ := h
        subst h1
        obtain ⟨vs, r, q⟩ := conBs_ok ds _ h3
        exact ⟨.ref a, rfl, fun H B => ⟨a, vs, rfl, .inr ⟨_, its, n, e, rfl, rfl, rfl, h2, r⟩, q H B⟩, fun _ _ => ⟨a, _, rfl, e, rfl, rfl⟩⟩
      · cases h
    · cases h
  | .dict _, u, h => by cases h
theorem conBs_ok : ∀ (ds : List D) (us : List Value), conBs K ds us = true → ∃ vs, Vals vs us ∧ ∀ H B, RepVs K H B ds vs
  | [], us, h => by
    unfold conBs at h
    cases (List.isEmpty_iff.mp h)
    exact ⟨[], .nil, fun _ _ => rfl⟩
  | d :: ds, [], h => by cases h
  | d :: ds, u :: us, h => by
    obtain ⟨h1, h2⟩ := Bool.and_eq_true_iff.mp (show (conB K d u && conBs K ds us) = true from h)
    obtain ⟨v, r, q, _⟩ := conB_ok d u h1
    obtain ⟨vs, rs, qs⟩ := conBs_ok ds us h2
    exact ⟨v :: vs, .cons r rs, fun H B => ⟨v, vs, rfl, q H B, qs H B⟩⟩
end
/-- a dict's values by their keys -/
def dicF (K : PySem.W.Frag) (a : Addr) : List (D × D) → Bool
  | [] => true
  | (k, d) :: r => (match k with
    | .str z => (match PySem.W.nsIn K a z with
      | some (some u) => conB K d u
      | _ => false)
    | _ => false) && dicF K a r
/-- a module's name stands for that -/
def conF (K : PySem.W.Frag) (p : Str × D) : Bool := match PySem.W.nsIn K mainGlobals p.1 with
  | some (some u) => (match p.2 with
    | .dict kvs => (match u with
      | .ref a => dicF K a kvs
      | _ => false)
    | d => conB K d u)
  | _ => false
theorem dicF_ok {a : Addr} : ∀ {kvs : List (D × D)}, dicF K a kvs = true → ∀ z d, dGet kvs z = some d → ∃ u v, PySem.W.nsIn K a z = some (some u) ∧ RelV v u ∧ ∀ H B, RepV K H B d v
  | [], _, z, d, e => by cases e
  | (k, d0) :: r, h, z, d, e => by
    cases k with
    | str y =>
      obtain ⟨h1, h2⟩ := Bool.and_eq_true_iff.mp (show ((match PySem.W.nsIn K a y with
        | some (some u) => conB K d0 u
        | _ => false) && dicF K a r) = true from h)
      by_cases hy : y = z
      · subst hy
        have e' : d0 = d := by
          have : dGet ((.str y, d0) :: r) y = some d0 := by
            unfold dGet
            rw [List.find?_cons_of_pos (by exact beq_self_eq_true y)]
            rfl
          rw [this] at e
          exact Option.some.inj e
        subst e'
        have h1' : (match PySem.W.nsIn K a y with
          | some (some u) => conB K d0 u
          | _ => false) = true := h1
        split at h1'
        · rename_i u eu
          obtain ⟨v, rv, q, _⟩ := conB_ok d0 u h1'
          exact ⟨u, v, eu, rv, q⟩
        · cases h1'
      · refine dicF_ok h2 z d ?_
        have : dGet ((.str y, d0) :: r) z = dGet r z := by
          unfold dGet
          rw [List.find?_cons_of_neg (by
            show ¬ ((y == z) = true)
            rw [beq_iff_eq]
            exact hy)]
        rw [← this]
        exact e
    | none => cases h
    | bool _ => cases h
    | int _ => cases h
    | list _ => cases h
    | tuple _ => cases h
    | dict _ => cases h
theorem conF_dic {kvs : List (D × D)} {h : Heap} {mg : Str → Option Value} (X : K.In h) (G : h.Ns mainGlobals mg) {x : Str} (c : conF K (x, .dict kvs) = true) : mg x = some (.ref (He.ga K x)) ∧ dicF K (He.ga K x) kvs = true := by
  have c2 : (match PySem.W.nsIn K mainGlobals x with
    | some (some u) => (match u with
      | .ref a => dicF K a kvs
      | _ => false)
    | _ => false) = true := c
  split at c2
  · rename_i u e
    split at c2
    · rename_i a
      have ea : He.ga K x = a := by
        unfold He.ga
        rw [e]
      rw [ea]
      exact ⟨PySem.W.mg_of X G e, c2⟩
    · cases c2
  · cases c2
theorem conF_ok {h : Heap} {mg : Str → Option Value} (X : K.In h) (G : h.Ns mainGlobals mg) {x : Str} {d : D} (hn : notDict d = true) (c : conF K (x, d) = true) :
    ∃ v u, mg x = some u ∧ RelV v u ∧ (∀ H B, RepV K H B d v) ∧ ∀ ds, d = .tuple ds → ∃ a o, v = .ref a ∧ K.lookup a = some o ∧ o.cls = .type "tuple" ∧ o.dict = none := by
  have c2 : (match PySem.W.nsIn K mainGlobals x with
    | some (some u) => conB K d u
    | _ => false) = true := by
    cases d <;> first
      | exact c
      | cases hn
  split at c2
  · rename_i u e
    obtain ⟨v, r, q⟩ := conB_ok d u c2
    exact ⟨v, u, PySem.W.mg_of X G e, r, q⟩
  · cases c2
/-- the keys of the constants that are dicts -/
def keysOf : List (D × D) → List Str
  | [] => []
  | (.str z, _) :: r => z :: keysOf r
  | _ :: r => keysOf r
def tabs : List (Str × D) → List He.Tab
  | [] => []
  | (x, .dict kvs) :: r => (fun K => He.ga K x, keysOf kvs) :: tabs r
  | _ :: r => tabs r
theorem tabs_mem : ∀ {cs : List (Str × D)} {x : Str} {kvs : List (D × D)}, (x, PyData.dict kvs) ∈ cs → ∃ i : Nat, (tabs cs)[i]? = some (((fun K => He.ga K x), keysOf kvs) : He.Tab)
  | [], _, _, h => absurd h List.not_mem_nil
  | (y, d) :: r, x, kvs, h => by
    rcases List.mem_cons.mp h with e | h
    · cases e
      exact ⟨0, rfl⟩
    · obtain ⟨i, hi⟩ := tabs_mem h
      cases d <;> first
        | exact ⟨i, hi⟩
        | exact ⟨i + 1, by simpa [tabs] using hi⟩
end
abbrev AlV : Type := Bool × He.AlT
def obsV (fa : List He.Fa) (fn : List He.DefD) (cs : List (Str × D)) (K : PySem.W.Frag) : AlV := (cs.all fun p => conF K p, He.obsT fa fn (tabs cs) K)
def valV (fn : List He.DefD) (cs : List (Str × D)) (w : World) : AlV := (true, He.valT fn (tabs cs) w)
def SaysV (w : World) (fa : List He.Fa) (fn : List He.DefD) (cs : List (Str × D)) (K : PySem.W.Frag) : Prop := obsV fa fn cs K = valV fn cs w
def obsVG (n : Nat) (fa : List He.Fa) (fn : List He.DefD) (cs : List (Str × D)) (g : Addr → Option Obj) : AlV := obsV fa fn cs (He.frG g (He.asD g n))
def hookV (n : Nat) (fa : List He.Fa) (fn : List He.DefD) (cs : List (Str × D)) : PySem.W.Hook where
  α := AlV
  obs := fun s => obsVG n fa fn cs s.heap.get?
  val := fun w => valV fn cs w
  says := fun w h => ∃ K : PySem.W.Frag, K.In h ∧ SaysV w fa fn cs K
  of := fun _ _ e => ⟨_, He.frG_in, e⟩
  keeps := fun _ _ _ ⟨K, hK, c⟩ k => ⟨K, PySem.W.Frag.In.keeps hK k, c⟩
omit [TheW] in
theorem obsVG_eq {n : Nat} {fa : List He.Fa} {fn : List He.DefD} {cs : List (Str × D)} {g : Addr → Option Obj} {s : Shared} (h : ∀ a, g a = s.heap.get? a) : obsVG n fa fn cs g = (hookV n fa fn cs).obs s := by
  have e : g = s.heap.get? := funext h
  rw [e] <;> rfl
section
variable {fa : List He.Fa} {fn : List He.DefD} {cs : List (Str × D)} {K : PySem.W.Frag} {w : World}
theorem SaysV.t (c : SaysV w fa fn cs K) : He.SaysT fa fn (tabs cs) w K := congrArg (fun z : AlV => z.2) c
theorem SaysV.d (c : SaysV w fa fn cs K) : He.SaysD fa fn K := c.t.d
theorem SaysV.con (c : SaysV w fa fn cs K) {k : Nat} {p : Str × D} (h : cs[k]? = some p) : conF K p = true := by
  have c1 : (cs.all fun p => conF K p) = true := congrArg (fun z : AlV => z.1) c
  exact List.all_eq_true.mp c1 p (List.mem_of_getElem? h)
end
/-- a def of the text with the language's form -/
structure DI where
  x : Str
  st : Stmt
  ps : List Str
  N : List Str
  d : FD
/-- a def's own name (the module may know it by another one) -/
def defName (s : Stmt) : Str := match s with
  | .FunctionDef x _ _ _ _ _ _ _ _ _ => x
  | _ => ""
def DI.dd (i : DI) : He.DefD := ⟨(i.x, none), defName i.st, defName i.st, defArgs i.st, defBody i.st, defScope i.st, [], []⟩
def parB (N ps : List Str) (sc : Scope) : Bool := isFnB sc && !sc.isCoroutine && !sc.isGenerator && decide N.Nodup && decide (N.take ps.length = ps) && (ps.all fun x => decide (sc.names.lookup x = some .local) || decide (sc.names.lookup x = some .cell)) && (sc.names.all fun y => match y.2 with
  | .free => false
  | _ => true)
theorem parB_ok {N ps : List Str} {sc : Scope} (h : parB N ps sc = true) : FnScope N ps sc := by
  unfold parB at h
  simp only [Bool.and_eq_true, Bool.not_eq_true', decide_eq_true_eq] at h
  obtain ⟨⟨⟨⟨⟨⟨h1, h2⟩, h3⟩, h4⟩, h5⟩, h6⟩, h7⟩ := h
  refine ⟨?_, h2, h3, h4, h5, fun x hx => ?_, fun y hy e => ?_⟩
  · unfold isFnB at h1
    split at h1
    · assumption
    · cases h1
  · have := List.all_eq_true.mp h6 x hx
    simpa using this
  · have := List.all_eq_true.mp h7 y hy
    rw [e] at this
    cases this
/-- what is to be computed of a def -/
def DI.ok (nm : Nms) (i : DI) : Bool := parB i.N i.ps (defScope i.st) && decide (i.d.n = i.N.length) && decide (i.d.pm.length = i.ps.length) && chkSs nm i.N (defScope i.st) i.d.body (defBody i.st)
/-- the arguments are bound in order -/
def DI.Bind (i : DI) : Prop := ∀ (kV doc pm : Value) (an : Option Addr) (cdv ct : Value) (us : List Value), us.length = i.ps.length → bindArgs (PySem.W.fnOf (defName i.st) (defName i.st) (defArgs i.st) (defBody i.st) (defScope i.st) .none kV doc pm an cdv ct) ⟨us, []⟩ = pure (i.ps.zip us)
def nmsOf (is : List DI) (cs : List (Str × D)) : Nms := ⟨is.map (·.x), cs.map (·.1)⟩
def gOf (cs : List (Str × D)) (k : Nat) : Option D := (cs[k]?).map (·.2)
/-- the facts asked of the head -/
def faOf (is : List DI) : List He.Fa := (is.map fun i => He.Fa.glo i.x) ++ bltNames.map .free
section
variable {P : Program} {w : World} {K : PySem.W.Frag} {mg : Str → Option Value} {base h : Heap} {is : List DI} {cs : List (Str × D)} {W : Nat}
theorem mod_ok (X : K.In h) (Gn : h.Ns mainGlobals mg) (c : SaysV w (faOf is) (is.map DI.dd) cs K) : ModOk w K mg (nmsOf is cs) (gOf cs) where
  blt := fun x hx => by
    have c1 := (He.ba (show (((faOf is).all fun f => f.ok K) && (is.map DI.dd).all fun d => d.ok K) = true from congrArg (fun z : He.AlD => z.1) c.d)).1
    exact He.free_ok X Gn (List.all_eq_true.mp c1 (.free x) (List.mem_append_right _ (List.mem_map.mpr ⟨x, hx, rfl⟩)))
  dic := fun k x kvs h1 h2 => by
    have h1' : (cs.map (·.1))[k]? = some x := h1
    have h2' : (cs[k]?).map (·.2) = some (.dict kvs) := h2
    rw [List.getElem?_map] at h1'
    obtain ⟨p, e1, e2⟩ := Option.map_eq_some_iff.mp h1'
    rw [e1] at h2'
    have e3 : p.2 = .dict kvs := Option.some.inj h2'
    obtain ⟨y, d⟩ := p
    cases (show y = x from e2)
    cases (show d = .dict kvs from e3)
    obtain ⟨q1, q2⟩ := conF_dic X Gn (c.con e1)
    obtain ⟨i, hi⟩ := tabs_mem (List.mem_of_getElem? e1)
    obtain ⟨es, n, q3⟩ := c.t.tab i hi
    refine ⟨_, q1, fun z d hz => ?_⟩
    obtain ⟨u, v, q4, q5, q6⟩ := dicF_ok q2 z d hz
    exact ⟨v, ⟨es, n, u, q3.1, q3.2, q4, q5⟩, q6⟩
  glo := fun k x d h1 h2 hn => by
    have h1' : (cs.map (·.1))[k]? = some x := h1
    have h2' : (cs[k]?).map (·.2) = some d := h2
    rw [List.getElem?_map] at h1'
    obtain ⟨p, e1, e2⟩ := Option.map_eq_some_iff.mp h1'
    rw [e1] at h2'
    have e3 : p.2 = d := Option.some.inj h2'
    have := conF_ok X Gn (x := p.1) (d := p.2) (by rw [e3]; exact hn) (c.con e1)
    rw [e2, e3] at this
    exact this
theorem def_ok (X : K.In h) (Gn : h.Ns mainGlobals mg) (c : SaysV w (faOf is) (is.map DI.dd) cs K) (hok : is.all (DI.ok (nmsOf is cs)) = true) {f : Nat} {i : DI} (hi : is[f]? = some i) (hb : i.Bind) :
    ∃ fd, DefOk K mg (nmsOf is cs) i.d i.x (He.ga K i.x) fd i.ps ∧ FunD K (defName i.st) (defName i.st) (defArgs i.st) (defBody i.st) (defScope i.st) [] [] (He.ga K i.x) fd := by
  obtain ⟨fd, F⟩ := c.d.def_ f (d := i.dd) (by rw [List.getElem?_map, hi]; rfl)
  have F' : FunD K (defName i.st) (defName i.st) (defArgs i.st) (defBody i.st) (defScope i.st) [] [] (He.ga K i.x) fd := F
  have c1 := (He.ba (show (((faOf is).all fun f => f.ok K) && (is.map DI.dd).all fun d => d.ok K) = true from congrArg (fun z : He.AlD => z.1) c.d)).1
  have g1 := He.glo_ok X Gn (List.all_eq_true.mp c1 (.glo i.x) (List.mem_append_left _ (List.mem_map.mpr ⟨i, List.mem_of_getElem? hi, rfl⟩)))
  have ok := List.all_eq_true.mp hok i (List.mem_of_getElem? hi)
  unfold DI.ok at ok
  simp only [Bool.and_eq_true, decide_eq_true_eq] at ok
  obtain ⟨⟨⟨k1, k2⟩, k3⟩, k4⟩ := ok
  exact ⟨fd, ⟨g1, F'.kp, F'.bindsN hb, _, _, _, _, _, _, F', parB_ok k1, k2, k3, k4⟩, F'⟩
/-- a law by the evaluator's answer -/
theorem law_g {mb : Str → Option Value} {k : Nat} {fa a : Addr} {fd : FuncData} {x : Str} {sp : Sp} {s₁ : Shared} {vs : List Value} {ns : List Int}
    (KX : K.In s₁.heap) (hns : s₁.heap.Ns mainGlobals mg) (hb : s₁.heap.Ns builtinsNs mb) (hbb : ∀ x : Str, x ≠ "__name__" → mb x = bootBuiltins x) (hlim : s₁.heap.NoLimit) (hg : s₁.gens = #[])
    (ha : s₁.heap.get? a = some { cls := .type "list", data := .seq vs.toArray }) (hi : IntsAre vs ns) (hl : ns.length ≤ sizeLine) (hr : Room k callerA)
    (F : ∀ base : Heap, K.In base → base.Ns mainGlobals mg → FnG P w K mg base k fa fd [x] sp) (hbind : ∀ (s : Shared) (u : Value), BindsTo s fd ⟨[u], []⟩ [(x, u)])
    (hsp : ∀ H : Hp, Only H → SqL K H a (ns.map V.int) → sp [.ref a] H (fun v _ => v = .bl true) E0) :
    codeAny (model P w) callerA (.call (.ref fa) ⟨[.ref a], []⟩) (fun r s' => r = .ok (.ret (.bool true)) ∧ OldK s₁.heap s'.heap ∧ s'.os = s₁.os ∧ AllBare s'.gens) s₁ := by
  have rv := vals_ints hi
  have lenV := hi.length
  have core : ∀ H : Hp, Only H → SqL K H a (ns.map V.int) → HOk P w H s₁.heap → (∀ b, H b ≠ none → b = a) → (H a ≠ none → K.lookup a = none) →
      codeAny (model P w) callerA (.call (.ref fa) ⟨[.ref a], []⟩) (fun r s' => r = .ok (.ret (.bool true)) ∧ OldK s₁.heap s'.heap ∧ s'.os = s₁.os ∧ AllBare s'.gens) s₁ := by
    intro H hO hS hok hA hK
    have keep : ∀ {b : Addr} {o : Obj}, s₁.heap.get? b = some o → (b = a → H a = none) → (hidT s₁.heap H).get? b = some o := fun {b o} e n => hidT_get e (by
      cases q : H b with
      | none => rfl
      | some u =>
        have e' : b = a := hA b (by rw [q]; exact fun z => nomatch z)
        rw [e', n e'] at q
        cases q)
    have nsK : ∀ {b : Addr} {m : Str → Option Value}, s₁.heap.Ns b m → (hidT s₁.heap H).Ns b m := fun {b m} ⟨o, es, ep, e, d, r⟩ => ⟨o, es, ep, keep e (fun z => by
      rw [z, ha] at e
      cases e
      exact nomatch (show Data.seq vs.toArray _ = Data.dict es ep from d)), d, r⟩
    have hKb : K.In (hidT s₁.heap H) := fun b o e => keep (KX b o e) fun z => by
      cases q : H a with
      | none => rfl
      | some u =>
        rw [z, hK (by rw [q]; exact fun z => nomatch z)] at e
        cases e
    have hM : Mod K mg (hidT s₁.heap H) := ⟨hKb, nsK hns, ⟨mb, nsK hb, hbb⟩, let ⟨mc, h1, h2⟩ := hlim; ⟨mc, nsK h1, h2⟩⟩
    have e0 : Env0 P w K mg (hidT s₁.heap H) callerA [] s₁ H := ⟨rfl, hM, fun b o e => of_hidT e, Nat.le_of_eq (hidT_size _ _), trivial, fun b hb => absurd (show b ∈ ([] : List Addr) from hb) (by simp), hok, .of_eq hg⟩
    refine codeAny_mono ((F _ hKb (nsK hns)).run callerA [] s₁ H ⟨[.ref a], []⟩ [.ref a] [.ref a] _ rfl hr e0 (hbind s₁ (.ref a)) (.cons rfl .nil) (hsp H hO hS)) fun r s' h => ?_
    match r, h with
    | .ok (.ret u), h =>
      obtain ⟨v, H', os, bare, un, hok', r', q⟩ := h
      have q' : v = .bl true := q
      subst q'
      obtain rfl : u = Value.bool true := r'
      refine ⟨rfl, OldK.of_keep fun b o e => ?_, os, bare⟩
      rcases hO b with z | ⟨ob, xs, z⟩
      · exact un.keep b o e z (by intro z; exact absurd (show b ∈ ([] : List Addr) from z) (by simp)) (by simp)
      · obtain ⟨e1, _⟩ := hok b _ z
        obtain ⟨e2, _⟩ := hok' b _ (un.frzs b ob _ z)
        rw [e] at e1; cases e1
        exact e2
    | .ok .next, h => exact False.elim h
    | .ok .brk, h => exact False.elim h
    | .ok .cont, h => exact False.elim h
    | .error e, h => exact False.elim h
  cases hk : K.lookup a with
  | some o =>
    have e := KX a o hk
    rw [ha] at e
    cases e
    exact core (fun _ => none) (fun _ => .inl rfl) (.inr ⟨_, vs.toArray, _, hk, rfl, rfl, rfl, by rw [List.size_toArray, lenV]; exact hl, by simpa using rv⟩) (fun b u z => nomatch (show (none : Option HO) = some u from z)) (fun b z => absurd rfl z) fun z => absurd rfl z
  | none =>
    have at_ : ∀ {b : Addr} {u : HO}, (if b = a then some (HO.frz { cls := .type "list", data := .seq vs.toArray } (.lst (ns.map V.int))) else none) = some u → b = a ∧ u = .frz { cls := .type "list", data := .seq vs.toArray } (.lst (ns.map V.int)) := fun {b u} z => by
      split at z
      · cases z
        exact ⟨‹_›, rfl⟩
      · cases z
    refine core (fun b => if b = a then some (.frz { cls := .type "list", data := .seq vs.toArray } (.lst (ns.map V.int))) else none) (fun b => ?_) (.inl (.inr ⟨{ cls := .type "list", data := .seq vs.toArray }, if_pos rfl⟩)) (fun b u z => ?_) (fun b z => ?_) fun _ => hk
    · by_cases hb : b = a
      · exact .inr ⟨_, _, if_pos hb⟩
      · exact .inl (if_neg hb)
    · obtain ⟨rfl, rfl⟩ := at_ z
      exact ⟨ha, by rw [List.length_map]; exact hl, vs, _, rv, ha⟩
    · by_cases hb : b = a
      · exact hb
      · exact absurd (if_neg hb) z
theorem reps_ints {H : Hp} {B : Bs} : ∀ ns : List Int, RepVs K H B (ns.map PyData.int) (ns.map V.int)
  | [] => rfl
  | n :: ns => ⟨_, _, rfl, rfl, reps_ints ns⟩
end
omit [TheW] in
/-- the hand-in's case hc -/
theorem walk_g {l : PySem.W.OpenLaw} {n k W : Nat} {q : Program} {loose : List Str} {XP : (Str → Option Value) → Heap → Prop} {d : DefRec} {is : List DI} {cs : List (Str × D)} {li m : Nat} {i : DI}
    (hn : l.most = some n) (hn2 : n ≤ sizeLine) (hdf : d.params.defaults = []) (hr : Room k callerA) (hi : is[li]? = some i) (hx : i.x = d.name) {x : Str} (hp : i.ps = [x]) (hok : is.all (DI.ok (nmsOf is cs)) = true) (hbd : ∀ j ∈ is, DI.Bind j)
    (law : ∀ ns : List Int, ns.length ≤ n → ∃ as', callN W (gOf cs) (is.map (·.d)) k li [(.val, .list (ns.map PyData.int))] = some (.pur (.bool true), as')) :
    PySem.W.WalkO q loose XP (hookV m (faOf is) (is.map DI.dd) cs).says l.row.toRowW d [] (fun f vs => PySem.call f vs) := by
  refine Att.attach_call hn hdf fun w s₀ s₁ mg mb fa o pm cd doc a vs ns G Y ho hd hcd hmg hobj hints hlen hg => ?_
  letI : TheW := ⟨w⟩
  obtain ⟨K, KX, c⟩ := Y
  obtain ⟨fd, D1, F1⟩ := def_ok KX G.T.g c hok hi (hbd i (List.mem_of_getElem? hi))
  have e : fa = He.ga K i.x := by
    have := D1.g
    rw [hx, hmg] at this
    cases this
    rw [hx]
  subst e
  have hb : ∀ (s : Shared) (u : Value), BindsTo s fd ⟨[u], []⟩ [(x, u)] := fun s u => by
    have := F1.bindsA (ps := i.ps) (hbd i (List.mem_of_getElem? hi)) s [u] (by rw [hp]; rfl)
    rw [hp] at this
    exact this
  refine law_g (sp := spF K (callN W (gOf cs) (is.map (·.d)) k li)) KX G.T.g G.T.b G.T.builtins G.T.nolimit hg hobj hints (Nat.le_trans hlen hn2) hr (fun base Kb Gb => ?_) hb fun H hO hS => ?_
  · have hT : ∀ (f : Nat) x, (nmsOf is cs).fns[f]? = some x → ∃ (d : FD) (a : Addr) (fd : FuncData) (ps : List Str), (is.map (·.d))[f]? = some d ∧ DefOk K mg (nmsOf is cs) d x a fd ps := fun f x hf => by
      have hf' : (is.map (·.x))[f]? = some x := hf
      rw [List.getElem?_map] at hf'
      obtain ⟨j, ej, rfl⟩ := Option.map_eq_some_iff.mp hf'
      obtain ⟨fd, D2, _⟩ := def_ok KX G.T.g c hok ej (hbd j (List.mem_of_getElem? ej))
      exact ⟨j.d, _, fd, j.ps, by rw [List.getElem?_map, ej]; rfl, D2⟩
    have := fng_all (P := l.prog) (w := w) (base := base) (W := W) rfl (mod_ok KX G.T.g c) hT k li i.x (by show (is.map (·.x))[li]? = _; rw [List.getElem?_map, hi]; rfl) i.d _ fd i.ps (by rw [List.getElem?_map, hi]; rfl) D1
    rw [hp] at this
    exact this
  · obtain ⟨as', hl⟩ := law ns hlen
    refine ⟨fun _ => False, _, as', _, hl, rfl, ⟨rfl, fun j d e => ?_, fun j mm d e hm => ?_, fun j j2 m1 m2 d d2 b e hm => ?_, fun b z => z.elim⟩, fun v H' B' _ hv _ _ => hv⟩
    · cases j with
      | zero =>
        cases e
        refine ⟨_, rfl, a, ns.map V.int, rfl, ?_, reps_ints ns⟩
        rcases hS with (z | ⟨o, z⟩) | z
        · exact .inl ⟨z, id⟩
        · exact .inr (.inl ⟨o, z⟩)
        · exact .inr (.inr z)
      | succ j => simp at e
    · cases j with
      | zero =>
        cases e
        exact absurd rfl hm
      | succ j => simp at e
    · cases j with
      | zero =>
        cases e
        exact absurd rfl hm
      | succ j => simp at e
end Ev

namespace Ev
set_option autoImplicit false
open PySem
structure Nc (m w : Nat) (d : D) : Prop where
  lay : PyData.canLay0 d = true
  sh : PyData.showable d = true
  dep : PyData.depth d ≤ m
  wt : PyData.weight d ≤ w
  int : PyData.intsShort 2000 d = true
structure Ncs (m w : Nat) (ds : List D) : Prop where
  lay : PyData.canLayAll0 ds = true
  sh : PyData.showableAll ds = true
  dep : PyData.depthAll ds ≤ m
  wt : PyData.weightAll ds ≤ w
  int : PyData.intsShortAll 2000 ds = true
section
variable {m m' w w' k : Nat} {d : D} {ds es : List D}
theorem Nc.mono (h : Nc m w d) (h1 : m ≤ m') (h2 : w ≤ w') : Nc m' w' d := ⟨h.lay, h.sh, Nat.le_trans h.dep h1, Nat.le_trans h.wt h2, h.int⟩
theorem Ncs.mono (h : Ncs m w ds) (h1 : m ≤ m') (h2 : w ≤ w') : Ncs m' w' ds := ⟨h.lay, h.sh, Nat.le_trans h.dep h1, Nat.le_trans h.wt h2, h.int⟩
theorem nc_bool {b : Bool} : Nc m w (.bool b) := ⟨rfl, rfl, Nat.zero_le _, Nat.zero_le _, rfl⟩
theorem log2_lt {i : Int} (hk : 0 < k) (h : i.natAbs < 2 ^ k) : i.natAbs.log2 < k := by
  by_cases z : i.natAbs = 0
  · rw [z]
    exact hk
  · exact (Nat.log2_lt z).mpr h
theorem nc_str {x : Str} (h : PyData.strOk x = true) (hl : x.cps.size ≤ w) : Nc m w (.str x) := ⟨h, rfl, Nat.zero_le _, hl, rfl⟩
theorem ncs_nil : Ncs m w [] := ⟨rfl, rfl, Nat.zero_le _, Nat.zero_le _, rfl⟩
theorem ncs_cons (h : Nc m w d) (hs : Ncs m w' ds) : Ncs m (w + 1 + w') (d :: ds) := by
  refine ⟨?_, ?_, ?_, ?_, ?_⟩
  · show (PyData.canLay0 d && PyData.canLayAll0 ds) = true
    rw [h.lay, hs.lay]
    rfl
  · show (PyData.showable d && PyData.showableAll ds) = true
    rw [h.sh, hs.sh]
    rfl
  · show max (PyData.depth d) (PyData.depthAll ds) ≤ m
    exact Nat.max_le.mpr ⟨h.dep, hs.dep⟩
  · show PyData.weight d + 1 + PyData.weightAll ds ≤ _
    have := h.wt
    have := hs.wt
    omega
  · show (PyData.intsShort 2000 d && PyData.intsShortAll 2000 ds) = true
    rw [h.int, hs.int]
    rfl
theorem ncs_all (h : ∀ d ∈ ds, Nc m w d) : Ncs m (ds.length * (w + 1)) ds := by
  induction ds with
  | nil => exact ncs_nil
  | cons d ds ih =>
    refine (ncs_cons (h d List.mem_cons_self) (ih fun x hx => h x (List.mem_cons_of_mem _ hx))).mono (Nat.le_refl _) ?_
    rw [List.length_cons, Nat.succ_mul]
    omega
theorem ncs_le (n : Nat) (h : ∀ d ∈ ds, Nc m w d) (hn : ds.length ≤ n) : Ncs m (n * (w + 1)) ds := (ncs_all h).mono (Nat.le_refl _) (Nat.mul_le_mul_right _ hn)
theorem nc_tup (h : Ncs m w ds) : Nc (m + 1) w (.tuple ds) := ⟨h.lay, h.sh, Nat.succ_le_succ h.dep, h.wt, h.int⟩
theorem nc_lst (h : Ncs m w ds) : Nc (m + 1) w (.list ds) := ⟨h.lay, h.sh, Nat.succ_le_succ h.dep, h.wt, h.int⟩
theorem Nc.shp (h : Nc m w d) (hm : m ≤ 64) : Ev.shp d = true := by
  show (PyData.canLay0 d && decide (PyData.depth d ≤ 64)) = true
  rw [h.lay, decide_eq_true (Nat.le_trans h.dep hm)]
  rfl
theorem Nc.repr (h : Nc m w d) (hm : m ≤ 60) (hw : w ≤ 8000) : reprOk d = true := by
  have h1 := PyData.shown_le 2000 (by decide) d (PyData.leavesShort_of_canLay0 2000 d h.lay h.int)
  have h2 : (2000 + 2) * PyData.weight d ≤ 2002 * 8000 := Nat.mul_le_mul (by decide) (Nat.le_trans h.wt hw)
  have h3 := sizeLine_eq
  unfold reprOk
  rw [h.sh, PyData.hasDict_of_canLay d h.lay, decide_eq_true (Nat.le_trans h.dep hm), decide_eq_true (show d.shown.length ≤ sizeLine by omega)]
  rfl
mutual
theorem eqv_refl : ∀ d : D, PyData.canLay0 d = true → PyData.eqv d d = true
  | .none, _ => rfl
  | .bool b, _ => beq_self_eq_true b
  | .int i, _ => beq_self_eq_true i
  | .str x, _ => beq_self_eq_true x
  | .list xs, h => eqvAll_refl xs h
  | .tuple xs, h => eqvAll_refl xs h
  | .dict _, h => by cases h
theorem eqvAll_refl : ∀ ds : List D, PyData.canLayAll0 ds = true → PyData.eqvAll ds ds = true
  | [], _ => rfl
  | d :: ds, h => by
    obtain ⟨h1, h2⟩ := Bool.and_eq_true_iff.mp (show (PyData.canLay0 d && PyData.canLayAll0 ds) = true from h)
    show (PyData.eqv d d && PyData.eqvAll ds ds) = true
    rw [eqv_refl d h1, eqvAll_refl ds h2]
    rfl
end
end
theorem mulOk_of {i j : Int} (h1 : i.natAbs < 2 ^ 1000) (h2 : j.natAbs < 2 ^ 1000) : mulOk i j = true := by
  have := log2_lt (by decide) h1
  have := log2_lt (by decide) h2
  unfold mulOk
  exact decide_eq_true (by omega)
theorem mulOk_le {i j : Int} (h1 : -(2 ^ 200) ≤ i ∧ i ≤ 2 ^ 200) (h2 : -(2 ^ 200) ≤ j ∧ j ≤ 2 ^ 200) : mulOk i j = true := mulOk_of (by omega) (by omega)
theorem divOk_ne {j : Int} (h1 : j ≠ 0) (h2 : j.natAbs < 2 ^ 1000) : divOk j = true := by
  have := log2_lt (i := j) (k := 1000) (by decide) h2
  unfold divOk
  rw [decide_eq_true h1, decide_eq_true (show j.natAbs.log2 < 9000 by omega)]
  rfl
theorem divOk_le {j : Int} (h1 : 0 < j) (h2 : j ≤ 2 ^ 200) : divOk j = true := divOk_ne (by omega) (by omega)
theorem at_nat {α : Type} (xs : List α) (n : Nat) : L2.atI xs (n : Int) = xs[n]? := by
  unfold L2.atI L2.ixN
  by_cases h : (n : Int) < (xs.length : Int)
  · rw [if_pos (Int.natCast_nonneg n), if_pos h]
    rfl
  · rw [if_pos (Int.natCast_nonneg n), if_neg h, List.getElem?_eq_none (by omega)]
    rfl
section
variable {α : Type} (xs : List α)
end
theorem pick {α : Type} {xs : List α} {i : Int} (h : 0 ≤ i) (h2 : i < xs.length) : ∃ x, x ∈ xs ∧ L2.atI xs i = some x := by
  have e := at_nat xs i.toNat
  rw [Int.toNat_of_nonneg h] at e
  have hi : i.toNat < xs.length := by omega
  rw [List.getElem?_eq_getElem hi] at e
  exact ⟨_, List.getElem_mem hi, e⟩
theorem eqv_str {x y : Str} : PyData.eqv (.str x) (.str y) = (x == y) := rfl
theorem eqvA_nil : PyData.eqvAll [] [] = true := rfl
theorem eqvA_cons {x y : D} {xs ys : List D} : PyData.eqvAll (x :: xs) (y :: ys) = (PyData.eqv x y && PyData.eqvAll xs ys) := rfl
theorem ofS_inj {a b : String} (h : Str.ofString a = Str.ofString b) : a = b := by
  rw [Str.ofString_eq_toList, Str.ofString_eq_toList] at h
  have h1 : a.toList.map Char.toNat = b.toList.map Char.toNat := by
    have := congrArg (fun s : Str => s.cps.toList) h
    simpa using this
  have h2 : a.toList = b.toList := by
    have inj : ∀ x y : Char, x.toNat = y.toNat → x = y := fun x y e => Char.ext (UInt32.toNat_inj.mp e)
    exact (List.map_inj_right (fun x y e => inj x y e)).mp h1
  exact String.toList_inj.mp h2
theorem ofS_ok (a : String) : PyData.strOk (Str.ofString a) = true := by
  rw [Str.ofString_eq_toList]
  unfold PyData.strOk
  rw [List.all_toArray]
  refine List.all_eq_true.mpr fun c hc => ?_
  obtain ⟨x, _, rfl⟩ := List.mem_map.mp hc
  have : x.toNat < 0x110000 := by
    have := x.valid
    rcases this with h | ⟨_, h⟩
    · have h' : x.val.toNat < 0xd800 := h
      show x.val.toNat < 0x110000
      omega
    · exact h
  exact decide_eq_true this
theorem shp_int {i : Int} : Ev.shp (.int i) = true := rfl
theorem callN_of {W n : Nat} {G : Nat → Option D} {T : List FD} {f : Nat} {d : FD} {as as' : List (Md × D)} {o : Out} {r : Rv} (hd : T[f]? = some d) (hm : (modesOk d.pm as && decide (as.length ≤ d.n)) = true) (he : evSs (callN W G T n) G W d.body (startG d.n as) = some o) (hend : endF as o = some (r, as')) : callN W G T (n + 1) f as = some (r, as') := by
  unfold callN
  rw [hd]
  simp only [hm, if_true]
  rw [he]
  exact hend
section
variable {c : Sg → Option (Bool × Sg)} {b : Sg → Option Out} {n : Nat} {g g1 g2 : Sg}
theorem while_stop (h : c g = some (false, g1)) : whileGo c b (n + 1) g = some (.nx g1) := by
  show (c g).bind _ = _
  rw [h]
  rfl
variable {bd : D → Sg → Option Sg} {d : D} {ds : List D} {r : Rv}
theorem for_go (h : bd d g = some g1) (h2 : b g1 = some (.nx g2)) : forGo bd b (d :: ds) g = forGo bd b ds g2 := by
  show (bd d g).bind _ = _
  rw [h]
  show (b g1).bind _ = _
  rw [h2]
  rfl
theorem for_ct (h : bd d g = some g1) (h2 : b g1 = some (.ct g2)) : forGo bd b (d :: ds) g = forGo bd b ds g2 := by
  show (bd d g).bind _ = _
  rw [h]
  show (b g1).bind _ = _
  rw [h2]
  rfl
theorem for_rt (h : bd d g = some g1) (h2 : b g1 = some (.rt r g2)) : forGo bd b (d :: ds) g = some (.rt r g2) := by
  show (bd d g).bind _ = _
  rw [h]
  show (b g1).bind _ = _
  rw [h2]
  rfl
variable {el : Sg → Option (Rv × Sg)} {own : List (Str × Nat)} {acc : List D} {g3 : Sg} {y : D}
theorem comp_nil : compGo bd c el own [] acc g = some (acc, g) := rfl
theorem comp_go (h : bd d (wipeG g own) = some g1) (h2 : c g1 = some (true, g2)) (h3 : el g2 = some (r, g3)) (h4 : r.pure? = some y) : compGo bd c el own (d :: ds) acc g = compGo bd c el own ds (acc ++ [y]) (backG g g3 own) := by
  show (bd d (wipeG g own)).bind _ = _
  rw [h]
  show (c g1).bind _ = _
  rw [h2]
  show (el g2).bind _ = _
  rw [h3]
  show (r.pure?).bind _ = _
  rw [h4]
  rfl
theorem comp_no (h : bd d (wipeG g own) = some g1) (h2 : c g1 = some (false, g2)) : compGo bd c el own (d :: ds) acc g = compGo bd c el own ds acc (backG g g2 own) := by
  show (bd d (wipeG g own)).bind _ = _
  rw [h]
  show (c g1).bind _ = _
  rw [h2]
  rfl
end
section
variable {C : Fn} {G : Nat → Option D} {W : Nat} {s : S} {ss a b : List S} {g g1 : Sg} {o : Out} {r : Rv} {c : E} {t : Bool}
theorem seq_nx (h : evS C G W s g = some (.nx g1)) : evSs C G W (s :: ss) g = evSs C G W ss g1 := by
  show (evS C G W s g).bind _ = _
  rw [h]
  rfl
theorem if_t (h : evT C G c g = some (true, g1)) : evS C G W (.ite c a b) g = evSs C G W a g1 := by
  show (evT C G c g).bind _ = _
  rw [h]
  rfl
theorem if_f (h : evT C G c g = some (false, g1)) : evS C G W (.ite c a b) g = evSs C G W b g1 := by
  show (evT C G c g).bind _ = _
  rw [h]
  rfl
theorem evS_while {b : List S} : evS C G W (.while_ c b) g = whileGo (evT C G c) (evSs C G W b) W g := rfl
theorem evS_ret {e : E} {r : Rv} (h : evE C G e g = some (r, g1)) (hr : ∀ i, r ≠ .loc i) : evS C G W (.ret e) g = some (.rt r g1) := by
  show (evE C G e g).bind _ = _
  rw [h]
  cases r with
  | loc i => exact absurd rfl (hr i)
  | pur _ => rfl
  | new _ => rfl
end
section
variable {C : Fn} {G : Nat → Option D} {W : Nat} {s : S} {ss a b : List S} {g g1 g2 : Sg} {as as' : List (Md × D)} {r r0 : Rv} {c : E} {e : E}
end
section
variable {C : Fn} {G : Nat → Option D} {W : Nat} {g g1 g2 : Sg} {r : Rv} {d : D} {xs ys : List D} {e el it c : E} {p : Pat} {own : List (Str × Nat)}
theorem evS_asg (h : evE C G e g = some (r, g1)) (h2 : r.pure? = some d) (h3 : bindP p d g1 = some g2) : evS C G W (.asg p e) g = some (.nx g2) := by
  show (evE C G e g).bind _ = _
  rw [h]
  show (r.pure?).bind _ = _
  rw [h2]
  show (bindP p d g1).map _ = _
  rw [h3]
  rfl
theorem evS_own {i : Nat} (h : evE C G e g = some (.new d, g1)) (h3 : setV g1 i .own d = some g2) : evS C G W (.own i e) g = some (.nx g2) := by
  show (evE C G e g).bind _ = _
  rw [h]
  show (setV g1 i .own d).map _ = _
  rw [h3]
  rfl
theorem evI_of (h : evE C G it g = some (r, g1)) (h2 : r.pure? = some d) (h3 : seq? d = some xs) : evI C G it g = some (xs, g1) := by
  show (evE C G it g).bind _ = _
  rw [h]
  show (r.pure?).bind _ = _
  rw [h2]
  show (seq? d).map _ = _
  rw [h3]
  rfl
theorem evS_for {b : List S} (h : evI C G it g = some (xs, g1)) : evS C G W (.for_ p it b) g = forGo (bindP p) (evSs C G W b) xs g1 := by
  show (evI C G it g).bind _ = _
  rw [h]
  rfl
theorem evI_inv (h : evI C G it g = some (xs, g1)) : ∃ r d, evE C G it g = some (r, g1) ∧ r.pure? = some d ∧ seq? d = some xs := by
  cases h1 : evE C G it g with
  | none =>
    have h' : (evE C G it g).bind _ = some (xs, g1) := h
    rw [h1] at h'
    cases h'
  | some q =>
    obtain ⟨r, g0⟩ := q
    have h' : (evE C G it g).bind _ = some (xs, g1) := h
    rw [h1] at h'
    cases h2 : r.pure? with
    | none =>
      have h'' : (r.pure?).bind _ = some (xs, g1) := h'
      rw [h2] at h''
      cases h''
    | some d =>
      have h'' : (r.pure?).bind _ = some (xs, g1) := h'
      rw [h2] at h''
      cases h3 : seq? d with
      | none =>
        have h3' : (seq? d).map _ = some (xs, g1) := h''
        rw [h3] at h3'
        cases h3'
      | some zs =>
        have h3' : (seq? d).map _ = some (xs, g1) := h''
        rw [h3] at h3'
        cases h3'
        exact ⟨r, d, rfl, h2, h3⟩
/-- [el for p in it] -/
theorem evE_comp (h : evI C G it g = some (xs, g1)) (hf : freeG g1 own = true) (h2 : compGo (bindP p) (fun g => some (true, g)) (evE C G el) own xs [] g1 = some (ys, g2)) (hl : ys.length ≤ 1000000) : evE C G (.comp el p it none own) g = some (.new (.list ys), g2) := by
  obtain ⟨r, d, e1, e2, e3⟩ := evI_inv h
  rw [evE, e1]
  show (r.pure?).bind _ = _
  rw [e2]
  show (seq? d).bind _ = _
  rw [e3]
  show (if freeG g1 own then _ else _) = _
  rw [hf, if_pos rfl]
  show (compGo (bindP p) (fun g => some (true, g)) (evE C G el) own xs [] g1).bind _ = _
  rw [h2]
  show (if ys.length ≤ 1000000 then _ else _) = _
  rw [if_pos hl]
/-- [el for p in it if c] -/
theorem evE_compIf (h : evI C G it g = some (xs, g1)) (hf : freeG g1 own = true) (h2 : compGo (bindP p) (evT C G c) (evE C G el) own xs [] g1 = some (ys, g2)) (hl : ys.length ≤ 1000000) : evE C G (.comp el p it (some c) own) g = some (.new (.list ys), g2) := by
  obtain ⟨r, d, e1, e2, e3⟩ := evI_inv h
  rw [evE, e1]
  show (r.pure?).bind _ = _
  rw [e2]
  show (seq? d).bind _ = _
  rw [e3]
  show (if freeG g1 own then _ else _) = _
  rw [hf, if_pos rfl]
  show (compGo (bindP p) (evT C G c) (evE C G el) own xs [] g1).bind _ = _
  rw [h2]
  show (if ys.length ≤ 1000000 then _ else _) = _
  rw [if_pos hl]
end
section
variable {C : Fn} {G : Nat → Option D} {W : Nat} {s : S} {ss a b : List S} {g g1 g2 : Sg} {P : Out → Prop} {r : Rv} {c : E} {e : E}
end
-- one statement of such a suite, a test that fails, one that holds
section
variable {bd : D → Sg → Option Sg} {body : Sg → Option Out} {Good : Sg → Prop}
variable {c : Sg → Option (Bool × Sg)} {el : Sg → Option (Rv × Sg)} {own : List (Str × Nat)} {g : Sg} {f : D → D} {b : D → Bool}
end
end Ev

namespace Ev
set_option autoImplicit false
open PySem
section
variable {bd : D → Sg → Option Sg} {body : Sg → Option Out}
variable {el : Sg → Option (Rv × Sg)} {own : List (Str × Nat)}
theorem range_len {lo : Int} {m : Nat} : (rangeL lo m).length = m := by simp [rangeL]
end
theorem smallI_of {j : Int} (h : -1000000 ≤ j) (h2 : j ≤ 1000000) : smallI j = true := by
  unfold smallI
  rw [Bool.and_eq_true]
  exact ⟨decide_eq_true (by omega), decide_eq_true (by omega)⟩
section
variable {C : Fn} {G : Nat → Option D} {e e2 : E} {g g1 g2 : Sg}
end
structure NmOk (w : Nat) (z : Str) : Prop where
  ok : PyData.strOk z = true
  sz : z.cps.size ≤ w
section
variable {a b w : Nat} {x y z : Str}
theorem so_iff : PyData.strOk z = true ↔ ∀ c ∈ z.cps.toList, c < 0x110000 := by
  unfold PyData.strOk
  rw [← Array.all_toList, List.all_eq_true]
  exact ⟨fun h c hc => of_decide_eq_true (h c hc), fun h c hc => decide_eq_true (h c hc)⟩
theorem NmOk.mono (h : NmOk a z) (hab : a ≤ b) : NmOk b z := ⟨h.ok, Nat.le_trans h.sz hab⟩
theorem strs_map2 : ∀ zs : List Str, strs? (zs.map PyData.str) = some zs
  | [] => rfl
  | z :: zs => by
    show (strs? (zs.map PyData.str)).map (z :: ·) = _
    rw [strs_map2 zs]
    rfl
theorem NmOk.nc (h : NmOk w z) {m : Nat} : Nc m w (.str z) := nc_str h.ok h.sz
end
section
variable {C : Fn} {G : Nat → Option D} {a b i e : E} {g g1 g2 g3 : Sg} {ra rb ri : Rv} {x y d : D} {r : Rv} {j : Int}
theorem evE_bin {o : BOp} (ha : evE C G a g = some (ra, g1)) (hb : evE C G b g1 = some (rb, g2)) (hx : ra.data g2 = some x) (hy : rb.data g2 = some y) (hd : dBin o x y = some r) : evE C G (.bin o a b) g = some (r, g2) := by
  rw [evE, ha, Option.bind_some]
  show (evE C G b g1).bind _ = _
  rw [hb, Option.bind_some]
  show (ra.data g2).bind _ = _
  rw [hx, Option.bind_some]
  show (rb.data g2).bind _ = _
  rw [hy, Option.bind_some, hd, Option.map_some]
theorem evE_cmp {o : COp} {t : Bool} (ha : evE C G a g = some (ra, g1)) (hb : evE C G b g1 = some (rb, g2)) (hx : ra.data g2 = some x) (hy : rb.data g2 = some y) (hd : dCmp o x y = some t) : evE C G (.cmp o a b) g = some (.pur (.bool t), g2) := by
  rw [evE, ha, Option.bind_some]
  show (evE C G b g1).bind _ = _
  rw [hb, Option.bind_some]
  show (ra.data g2).bind _ = _
  rw [hx, Option.bind_some]
  show (rb.data g2).bind _ = _
  rw [hy, Option.bind_some, hd, Option.map_some]
theorem evE_ix (ha : evE C G a g = some (ra, g1)) (hb : evE C G i g1 = some (ri, g2)) (hx : ra.data g2 = some x) (hy : ri.data g2 = some y) (hd : dIdx x y = some d) : evE C G (.idx a i) g = some (.pur d, g2) := by
  rw [evE, ha, Option.bind_some]
  show (evE C G i g1).bind _ = _
  rw [hb, Option.bind_some]
  show (ra.data g2).bind _ = _
  rw [hx, Option.bind_some]
  show (ri.data g2).bind _ = _
  rw [hy, Option.bind_some, hd, Option.map_some]
theorem evE_cal {f : Nat} {es : List E} {rs : List Rv} {as as' : List (Md × D)} (hA : evAs C G es g = some (rs, g1)) (hB : argsOf g1 rs = some as) (hn : (locs rs).Nodup) (hC : C f as = some (r, as')) : evE C G (.call f es) g = some (r, giveBack g1 rs as') := by
  rw [evE, hA, Option.bind_some]
  show (argsOf g1 rs).bind _ = _
  rw [hB, Option.bind_some, if_pos hn, hC, Option.map_some]
theorem evEs_cons {es : List E} {ds : List D} (h : evE C G e g = some (r, g1)) (h2 : r.pure? = some d) (h3 : evEs C G es g1 = some (ds, g2)) : evEs C G (e :: es) g = some (d :: ds, g2) := by
  show (evE C G e g).bind _ = _
  rw [h]
  show (r.pure?).bind _ = _
  rw [h2]
  show (evEs C G es g1).map _ = _
  rw [h3]
  rfl
theorem evAs_cons {es : List E} {rs : List Rv} (h : evE C G e g = some (r, g1)) (h3 : evAs C G es g1 = some (rs, g2)) : evAs C G (e :: es) g = some (r.op :: rs, g2) := by
  show (evE C G e g).bind _ = _
  rw [h]
  show (evAs C G es g1).map _ = _
  rw [h3]
  rfl
theorem evE_tup {es : List E} {ds : List D} (h : evEs C G es g = some (ds, g1)) (hl : ds.length ≤ 1000) : evE C G (.tup es) g = some (.pur (.tuple ds), g1) := by
  have h1 : ds.length ≤ sizeLine := by
    rw [sizeLine_eq]
    exact Nat.le_trans hl (by decide)
  rw [evE, h]
  show (if ds.length ≤ sizeLine then _ else _) = _
  rw [if_pos h1]
theorem evE_lst {es : List E} {ds : List D} (h : evEs C G es g = some (ds, g1)) (hl : ds.length ≤ 1000) : evE C G (.lst es) g = some (.new (.list ds), g1) := by
  have h1 : ds.length ≤ sizeLine := by
    rw [sizeLine_eq]
    exact Nat.le_trans hl (by decide)
  rw [evE, h]
  show (if ds.length ≤ sizeLine then _ else _) = _
  rw [if_pos h1]
theorem flat_len {α β : Type} {f : α → List β} {k : Nat} : ∀ {l : List α}, (∀ a ∈ l, (f a).length ≤ k) → (l.flatMap f).length ≤ l.length * k
  | [], _ => Nat.zero_le _
  | a :: l, h => by
    have h1 := h a List.mem_cons_self
    have h2 := flat_len (l := l) fun b hb => h b (List.mem_cons_of_mem _ hb)
    rw [List.flatMap_cons, List.length_append, List.length_cons, Nat.succ_mul]
    omega
theorem evE_or_f (ha : evE C G a g = some (ra, g1)) (hx : ra.data g1 = some (.bool false)) : evE C G (.or a b) g = evE C G b g1 := by
  rw [evE, ha, Option.bind_some]
  show (match ra.data g1 with
    | some (.bool false) => evE C G b g1
    | some (.bool true) => some (.pur (.bool true), g1)
    | _ => none) = _
  rw [hx]
theorem evE_or_t (ha : evE C G a g = some (ra, g1)) (hx : ra.data g1 = some (.bool true)) : evE C G (.or a b) g = some (.pur (.bool true), g1) := by
  rw [evE, ha, Option.bind_some]
  show (match ra.data g1 with
    | some (.bool false) => evE C G b g1
    | some (.bool true) => some (.pur (.bool true), g1)
    | _ => none) = _
  rw [hx]
theorem evE_and_t (ha : evE C G a g = some (ra, g1)) (hx : ra.data g1 = some (.bool true)) : evE C G (.and a b) g = evE C G b g1 := by
  rw [evE, ha, Option.bind_some]
  show (match ra.data g1 with
    | some (.bool true) => evE C G b g1
    | some (.bool false) => some (.pur (.bool false), g1)
    | _ => none) = _
  rw [hx]
theorem evE_and_f (ha : evE C G a g = some (ra, g1)) (hx : ra.data g1 = some (.bool false)) : evE C G (.and a b) g = some (.pur (.bool false), g1) := by
  rw [evE, ha, Option.bind_some]
  show (match ra.data g1 with
    | some (.bool true) => evE C G b g1
    | some (.bool false) => some (.pur (.bool false), g1)
    | _ => none) = _
  rw [hx]
theorem evE_is {ts : List String} (ha : evE C G a g = some (ra, g1)) (hx : ra.data g1 = some d) : evE C G (.isi a ts) g = some (.pur (.bool (dIsAny d ts)), g1) := by
  rw [evE, ha, Option.bind_some]
  show (ra.data g1).map _ = _
  rw [hx]
  rfl
theorem evE_iteT {t : E} (ha : evE C G a g = some (ra, g1)) (hx : ra.data g1 = some x) (ht : dTru x = some true) : evE C G (.ite a b t) g = evE C G b g1 := by
  rw [evE, ha, Option.bind_some]
  show (ra.data g1).bind _ = _
  rw [hx, Option.bind_some, ht]
  rfl
theorem evE_iteF {t : E} (ha : evE C G a g = some (ra, g1)) (hx : ra.data g1 = some x) (ht : dTru x = some false) : evE C G (.ite a b t) g = evE C G t g1 := by
  rw [evE, ha, Option.bind_some]
  show (ra.data g1).bind _ = _
  rw [hx, Option.bind_some, ht]
  rfl
theorem dNoFalse (bs : List Bool) : dCmp .notin (.bool false) (.list (bs.map PyData.bool)) = some (bs.all id) := by
  have hs : Ev.shp (.list (bs.map PyData.bool)) = true := (nc_lst (m := 0) (ncs_all (w := 1) fun d hd => by
    obtain ⟨b, _, rfl⟩ := List.mem_map.mp hd
    exact nc_bool)).shp (by decide)
  show (if Ev.shp (.bool false) && Ev.shp (.list (bs.map PyData.bool)) then some (!(bs.map PyData.bool).any fun z => PyData.eqv z (.bool false)) else none) = _
  rw [hs]
  show some _ = some _
  congr 1
  induction bs with
  | nil => rfl
  | cons b bs ih =>
    have ih' := ih ((nc_lst (m := 0) (ncs_all (w := 1) fun d hd => by
      obtain ⟨b, _, rfl⟩ := List.mem_map.mp hd
      exact nc_bool)).shp (by decide))
    rw [List.map_cons, List.any_cons, Bool.not_or, ih', List.all_cons]
    cases b <;> rfl
end
def wB (b : Bool) (w : World) : World := { w with params := { w.params with followText := fun x => if x = "special-get-raises" then b else w.params.followText x } }
theorem wB_eq (w : World) : wB (w.params.followText "special-get-raises") w = w := by
  have e : (fun x => if x = "special-get-raises" then w.params.followText "special-get-raises" else w.params.followText x) = w.params.followText := by
    funext x
    by_cases h : x = "special-get-raises"
    · rw [if_pos h, h]
    · rw [if_neg h]
  unfold wB
  rw [e]
theorem by_wB {P : World → Prop} (h : ∀ b w, P (wB b w)) (w : World) : P w := by
  have := h (w.params.followText "special-get-raises") w
  rw [wB_eq] at this
  exact this
end Ev

namespace Ev
set_option autoImplicit false
open PySem
/-- the feed's slot; a slot of which nothing is known -/
def hole : Slot := some (.bor, .none)
def anyS : Slot := some (.bor, .bool true)
/-- the feed's value: a list, or a dict alone -/
@[reducible] def unF : List D → D
  | [.dict kvs] => .dict kvs
  | F => .list F
structure Cx where
  C : Fn
  G : Nat → Option D
  W : Nat
  Fd : Int → List D → Prop
  j : Option Nat
  m : Md
  mono : ∀ M N F, Fd M F → M ≤ N → Fd N F
  mv : m ≠ .val
def Sl (X : Cx) (F : List D) (i : Nat) (s t : Slot) : Prop :=
  if X.j = some i then s = hole ∧ t = some (X.m, unF F)
  else match s with
    | none => ∀ m d, t = some (m, d) → m = .val
    | some (.bor, .bool _) => isBor t = false
    | some p => t = some p
structure Rel (X : Cx) (g : Sg) (F : List D) (h : Sg) : Prop where
  len : g.length = h.length
  hj : ∀ j, X.j = some j → j < g.length
  at_ : ∀ i s, g[i]? = some s → ∃ t, h[i]? = some t ∧ Sl X F i s t
/-- what a template's slot can be given -/
def setOk : Slot → Bool
  | some (.bor, .bool _) => true
  | some (.bor, _) => false
  | _ => true
def setT (g : Sg) (i : Nat) (m : Md) (d : D) : Option Sg := match g[i]? with
  | some s => if setOk s then some (g.set i (some (m, d))) else none
  | none => none
mutual
def bindT : Pat → D → Sg → Option Sg
  | .nm i, d, g => setT g i .val d
  | .tp ps, .tuple ds, g => bindTs ps ds g
  | .tp _, _, _ => none
def bindTs : List Pat → List D → Sg → Option Sg
  | [], [], g => some g
  | p :: ps, d :: ds, g => (bindT p d g).bind fun g1 => bindTs ps ds g1
  | _, _, _ => none
end
def freeT (g : Sg) (own : List (Str × Nat)) : Bool := own.all fun p => match g[p.2]? with
  | some none => true
  | some (some (.val, _)) => true
  | _ => false
/-- the data of a value, by the template -/
def dat (g : Sg) : Rv → Option D
  | .pur d => some d
  | .new d => some d
  | .loc i => match g[i]? with
    | some (some (.own, .list xs)) => some (.list xs)
    | some (some (.bor, .list xs)) => some (.list xs)
    | _ => none
section
variable {X : Cx} {g g' h h' : Sg} {F F' : List D} {i : Nat} {d : D} {m : Md} {s t : Slot} {xs : List D} {r : Rv}
theorem sl_ord (h : Sl X F i s t) (hs : setOk s = true) (hn : s ≠ none) (hm : ∀ b, s ≠ some (.bor, .bool b)) : X.j ≠ some i ∧ t = s := by
  unfold Sl at h
  split at h
  · rw [h.1] at hs
    cases hs
  · rename_i hj
    refine ⟨hj, ?_⟩
    match s, h, hn, hm with
    | none, _, hn, _ => exact absurd rfl hn
    | some (.bor, .bool b), _, _, hm => exact absurd rfl (hm b)
    | some (.val, _), h, _, _ => exact h
    | some (.own, _), h, _, _ => exact h
    | some (.bor, .none), h, _, _ => exact h
    | some (.bor, .int _), h, _, _ => exact h
    | some (.bor, .str _), h, _, _ => exact h
    | some (.bor, .list _), h, _, _ => exact h
    | some (.bor, .tuple _), h, _, _ => exact h
    | some (.bor, .dict _), h, _, _ => exact h
theorem rel_val (q : Rel X g F h) (e : g[i]? = some (some (.val, d))) : X.j ≠ some i ∧ h[i]? = some (some (.val, d)) := by
  obtain ⟨t, e1, e2⟩ := q.at_ i _ e
  obtain ⟨a, b⟩ := sl_ord e2 rfl nofun nofun
  rw [b] at e1
  exact ⟨a, e1⟩
theorem rel_own (q : Rel X g F h) (e : g[i]? = some (some (.own, d))) : X.j ≠ some i ∧ h[i]? = some (some (.own, d)) := by
  obtain ⟨t, e1, e2⟩ := q.at_ i _ e
  obtain ⟨a, b⟩ := sl_ord e2 rfl nofun nofun
  rw [b] at e1
  exact ⟨a, e1⟩
theorem rel_bor (q : Rel X g F h) (e : g[i]? = some (some (.bor, .list xs))) : X.j ≠ some i ∧ h[i]? = some (some (.bor, .list xs)) := by
  obtain ⟨t, e1, e2⟩ := q.at_ i _ e
  unfold Sl at e2
  split at e2
  · exact nomatch (show some (Md.bor, PyData.list xs) = some (Md.bor, PyData.none) from e2.1)
  · rename_i hj
    have e2' : t = some (.bor, .list xs) := e2
    rw [e2'] at e1
    exact ⟨hj, e1⟩
theorem rel_hole (q : Rel X g F h) (hj : X.j = some i) (e : g[i]? = some s) : h[i]? = some (some (X.m, unF F)) := by
  obtain ⟨t, e1, e2⟩ := q.at_ i _ e
  unfold Sl at e2
  rw [if_pos hj] at e2
  rw [e2.2] at e1
  exact e1
theorem rel_setOk (q : Rel X g F h) (e : g[i]? = some s) (hs : setOk s = true) : X.j ≠ some i ∧ ∃ t, h[i]? = some t ∧ isBor t = false := by
  obtain ⟨t, e1, e2⟩ := q.at_ i _ e
  unfold Sl at e2
  split at e2
  · rw [e2.1] at hs
    cases hs
  · rename_i hj
    refine ⟨hj, t, e1, ?_⟩
    match s, hs, e2 with
    | none, _, e2 =>
      match t, e2 with
      | none, _ => rfl
      | some (m, d), e2 =>
        rw [e2 m d rfl]
        rfl
    | some (.bor, .bool b), _, e2 => exact e2
    | some (.val, _), _, e2 =>
      rw [show t = _ from e2]
      rfl
    | some (.own, _), _, e2 =>
      rw [show t = _ from e2]
      rfl
theorem sl_self (hj : X.j ≠ some i) (hs : ∀ b, s ≠ some (.bor, .bool b)) : Sl X F i s s := by
  unfold Sl
  rw [if_neg hj]
  match s, hs with
  | none, _ => exact nofun
  | some (.bor, .bool b), hs => exact absurd rfl (hs b)
  | some (.val, _), _ => rfl
  | some (.own, _), _ => rfl
  | some (.bor, .none), _ => rfl
  | some (.bor, .int _), _ => rfl
  | some (.bor, .str _), _ => rfl
  | some (.bor, .list _), _ => rfl
  | some (.bor, .tuple _), _ => rfl
  | some (.bor, .dict _), _ => rfl
theorem rel_set2 (q : Rel X g F h) (hs : Sl X F i s t) : Rel X (g.set i s) F (h.set i t) := by
  refine ⟨by rw [List.length_set, List.length_set, q.len], fun j hj => by rw [List.length_set]; exact q.hj j hj, fun k u e => ?_⟩
  by_cases hk : i = k
  · subst hk
    have hl : i < g.length := by
      have := (List.getElem?_eq_some_iff.mp e).1
      rwa [List.length_set] at this
    rw [List.getElem?_set_self hl] at e
    cases e
    exact ⟨t, List.getElem?_set_self (by rw [← q.len]; exact hl), hs⟩
  · rw [List.getElem?_set_ne hk] at e
    rw [List.getElem?_set_ne hk]
    exact q.at_ k u e
theorem rel_set (q : Rel X g F h) (hj : X.j ≠ some i) (hs : ∀ b, s ≠ some (.bor, .bool b)) : Rel X (g.set i s) F (h.set i s) := rel_set2 q (sl_self hj hs)
theorem rel_feed (q : Rel X g F h) (hj : X.j = some i) : Rel X g F' (h.set i (some (X.m, unF F'))) := by
  refine ⟨by rw [List.length_set, q.len], q.hj, fun k u e => ?_⟩
  by_cases hk : i = k
  · subst hk
    have hl : i < h.length := by
      rw [← q.len]
      exact (List.getElem?_eq_some_iff.mp e).1
    obtain ⟨t, e1, e2⟩ := q.at_ i u e
    refine ⟨_, List.getElem?_set_self hl, ?_⟩
    unfold Sl at e2 ⊢
    rw [if_pos hj] at e2 ⊢
    exact ⟨e2.1, rfl⟩
  · rw [List.getElem?_set_ne hk]
    obtain ⟨t, e1, e2⟩ := q.at_ k u e
    refine ⟨t, e1, ?_⟩
    have : X.j ≠ some k := fun z => hk (by rw [hj] at z; cases z; rfl)
    unfold Sl at e2 ⊢
    rw [if_neg this] at e2 ⊢
    exact e2
theorem setT_inv {g1 : Sg} (e : setT g i m d = some g1) : ∃ s, g[i]? = some s ∧ setOk s = true ∧ g1 = g.set i (some (m, d)) := by
  unfold setT at e
  split at e
  · rename_i s hs
    split at e
    · cases e
      exact ⟨s, hs, ‹_›, rfl⟩
    · cases e
  · cases e
theorem rel_setT {g1 : Sg} (q : Rel X g F h) (hm : m ≠ .bor) (e : setT g i m d = some g1) : ∃ h1, setV h i m d = some h1 ∧ Rel X g1 F h1 := by
  obtain ⟨s, e1, e2, rfl⟩ := setT_inv e
  obtain ⟨hj, t, e3, e4⟩ := rel_setOk q e1 e2
  refine ⟨h.set i (some (m, d)), ?_, rel_set q hj fun b z => ?_⟩
  · unfold setV
    rw [e3]
    show (if isBor t then none else _) = _
    rw [e4]
    rfl
  · cases z
    exact hm rfl
mutual
theorem rel_bind : ∀ (p : Pat) (d : D) (g h g1 : Sg), Rel X g F h → bindT p d g = some g1 → ∃ h1, bindP p d h = some h1 ∧ Rel X g1 F h1
  | .nm i, d, g, h, g1, q, e => rel_setT q nofun e
  | .tp ps, .tuple ds, g, h, g1, q, e => rel_binds ps ds g h g1 q e
  | .tp _, .none, _, _, _, _, e => nomatch e
  | .tp _, .bool _, _, _, _, _, e => nomatch e
  | .tp _, .int _, _, _, _, _, e => nomatch e
  | .tp _, .str _, _, _, _, _, e => nomatch e
  | .tp _, .list _, _, _, _, _, e => nomatch e
  | .tp _, .dict _, _, _, _, _, e => nomatch e
theorem rel_binds : ∀ (ps : List Pat) (ds : List D) (g h g1 : Sg), Rel X g F h → bindTs ps ds g = some g1 → ∃ h1, bindPs ps ds h = some h1 ∧ Rel X g1 F h1
  | [], [], g, h, g1, q, e => by
    cases e
    exact ⟨h, rfl, q⟩
  | p :: ps, d :: ds, g, h, g1, q, e => by
    have e' : (bindT p d g).bind (fun g1 => bindTs ps ds g1) = some g1 := e
    cases e1 : bindT p d g with
    | none =>
      rw [e1] at e'
      cases e'
    | some g2 =>
      rw [e1] at e'
      obtain ⟨h2, e2, q2⟩ := rel_bind p d g h g2 q e1
      obtain ⟨h1, e3, q3⟩ := rel_binds ps ds g2 h2 g1 q2 e'
      refine ⟨h1, ?_, q3⟩
      show (bindP p d h).bind _ = _
      rw [e2]
      exact e3
  | [], _ :: _, _, _, _, _, e => nomatch e
  | _ :: _, [], _, _, _, _, e => nomatch e
end
theorem dat_ok (q : Rel X g F h) (e : dat g r = some d) : r.data h = some d := by
  match r, e with
  | .pur _, e => exact e
  | .new _, e => exact e
  | .loc i, e =>
    have e' : (match g[i]? with
      | some (some (.own, .list xs)) => some (PyData.list xs)
      | some (some (.bor, .list xs)) => some (PyData.list xs)
      | _ => none) = some d := e
    show (lstAt h i).map (·.2) = some d
    split at e'
    · rename_i xs hx
      cases e'
      unfold lstAt ownAt
      rw [(rel_own q hx).2]
      rfl
    · rename_i xs hx
      cases e'
      unfold lstAt ownAt
      rw [(rel_bor q hx).2]
      rfl
    · cases e'
theorem free_sl {own : List (Str × Nat)} (e : freeT g own = true) {p : Str × Nat} (hp : p ∈ own) : g[p.2]? = some none ∨ ∃ d, g[p.2]? = some (some (.val, d)) := by
  have := List.all_eq_true.mp e p hp
  split at this
  · exact .inl ‹_›
  · exact .inr ⟨_, ‹_›⟩
  · cases this
theorem free_at (q : Rel X g F h) (e : g[i]? = some none ∨ ∃ d, g[i]? = some (some (.val, d))) : X.j ≠ some i ∧ (h[i]? = some none ∨ ∃ d, h[i]? = some (some (.val, d))) := by
  rcases e with e | ⟨d, e⟩
  · obtain ⟨t, e1, e2⟩ := q.at_ i _ e
    unfold Sl at e2
    split at e2
    · exact nomatch (show none = some (Md.bor, PyData.none) from e2.1)
    · refine ⟨‹_›, ?_⟩
      match t, e1, e2 with
      | none, e1, _ => exact .inl e1
      | some (m, d), e1, e2 =>
        rw [e2 m d rfl] at e1
        exact .inr ⟨d, e1⟩
  · obtain ⟨a, b⟩ := rel_val q e
    exact ⟨a, .inr ⟨d, b⟩⟩
theorem rel_free {own : List (Str × Nat)} (q : Rel X g F h) (e : freeT g own = true) : freeG h own = true := by
  refine List.all_eq_true.mpr fun p hp => ?_
  obtain ⟨_, e1⟩ := free_at q (free_sl e hp)
  rcases e1 with e1 | ⟨d, e1⟩ <;> simp only [e1]
theorem rel_wipe (q : Rel X g F h) : ∀ {own : List (Str × Nat)}, freeT g own = true → Rel X (wipeG g own) F (wipeG h own)
  | [], _ => q
  | p :: r, e => by
    have e1 := free_sl e List.mem_cons_self
    have e2 : freeT g r = true := List.all_eq_true.mpr fun p hp => List.all_eq_true.mp e p (List.mem_cons_of_mem _ hp)
    exact rel_set (rel_wipe q e2) (free_at q e1).1 nofun
theorem rel_back {g3 h3 : Sg} {F' : List D} (q : Rel X g F h) (q3 : Rel X g3 F' h3) : ∀ {own : List (Str × Nat)}, freeT g own = true → Rel X (backG g g3 own) F' (backG h h3 own)
  | [], _ => q3
  | p :: r, e => by
    have e1 := free_sl e List.mem_cons_self
    have e2 : freeT g r = true := List.all_eq_true.mpr fun p hp => List.all_eq_true.mp e p (List.mem_cons_of_mem _ hp)
    refine rel_set2 (rel_back q q3 e2) ?_
    rcases e1 with e1 | ⟨d, e1⟩
    · obtain ⟨a, b⟩ := free_at q (.inl e1)
      rw [e1]
      unfold Sl
      rw [if_neg a]
      show ∀ m d, (h[p.2]?).getD none = some (m, d) → m = .val
      rcases b with b | ⟨d, b⟩ <;> rw [b]
      · exact nofun
      · intro m d z
        cases z
        rfl
    · obtain ⟨a, b⟩ := rel_val q e1
      rw [e1, b]
      exact sl_self a nofun
end
/-- a def at a place of the table; a constant at a place -/
class HasF (T : List FD) (i : Nat) (d : outParam FD) : Prop where
  h : T[i]? = some d
class HasG (G : Nat → Option D) (k : Nat) (d : outParam D) : Prop where
  h : G k = some d
structure WE (X : Cx) (e : E) (g : Sg) (M : Int) (Q : Rv → Sg → Int → Prop) : Prop where
  run : ∀ h F, Rel X g F h → X.Fd M F → ∃ r g' h' F' M', evE X.C X.G e h = some (r, h') ∧ Rel X g' F' h' ∧ X.Fd M' F' ∧ Q r g' M'
structure WEs (X : Cx) (es : List E) (g : Sg) (M : Int) (Q : List D → Sg → Int → Prop) : Prop where
  run : ∀ h F, Rel X g F h → X.Fd M F → ∃ ds g' h' F' M', evEs X.C X.G es h = some (ds, h') ∧ Rel X g' F' h' ∧ X.Fd M' F' ∧ Q ds g' M'
structure WAs (X : Cx) (es : List E) (g : Sg) (M : Int) (Q : List Rv → Sg → Int → Prop) : Prop where
  run : ∀ h F, Rel X g F h → X.Fd M F → ∃ rs g' h' F' M', evAs X.C X.G es h = some (rs, h') ∧ Rel X g' F' h' ∧ X.Fd M' F' ∧ Q rs g' M'
structure WO (X : Cx) (e : Option E) (g : Sg) (M : Int) (Q : Option Int → Sg → Int → Prop) : Prop where
  run : ∀ h F, Rel X g F h → X.Fd M F → ∃ o g' h' F' M', evO X.C X.G e h = some (o, h') ∧ Rel X g' F' h' ∧ X.Fd M' F' ∧ Q o g' M'
structure WI (X : Cx) (e : E) (g : Sg) (M : Int) (Q : List D → Sg → Int → Prop) : Prop where
  run : ∀ h F, Rel X g F h → X.Fd M F → ∃ ds g' h' F' M', evI X.C X.G e h = some (ds, h') ∧ Rel X g' F' h' ∧ X.Fd M' F' ∧ Q ds g' M'
inductive PureQ (r : Rv) (k : D → Prop) : Prop where
  | mk (d : D) (e : r.pure? = some d) (q : k d)
inductive DatQ (g : Sg) (r : Rv) (k : D → Prop) : Prop where
  | mk (d : D) (e : dat g r = some d) (q : k d)
inductive OpQ (x : Option Rv) (k : Rv → Prop) : Prop where
  | mk (r : Rv) (e : x = some r) (q : k r)
inductive BlQ (x : Option Bool) (k : Bool → Prop) : Prop where
  | mk (b : Bool) (e : x = some b) (q : k b)
inductive DtQ (x : Option D) (k : D → Prop) : Prop where
  | mk (d : D) (e : x = some d) (q : k d)
inductive IfQ (x : Option Bool) (A B : Prop) : Prop where
  | mk (t : Bool) (e : x = some t) (q : t = true → A) (q2 : t = false → B)
inductive BindQ (p : Pat) (d : D) (g : Sg) (k : Sg → Prop) : Prop where
  | mk (g2 : Sg) (e : bindT p d g = some g2) (q : k g2)
inductive OwnQ (i : Nat) (d : D) (g : Sg) (k : Sg → Prop) : Prop where
  | mk (g2 : Sg) (e : setT g i .own d = some g2) (q : k g2)
inductive NewQ (r : Rv) (k : D → Prop) : Prop where
  | mk (d : D) (e : r = .new d) (q : k d)
inductive IntQ (r : Rv) (k : Int → Prop) : Prop where
  | mk (i : Int) (e : r = .pur (.int i)) (q : k i)
inductive SeqQ (d : D) (k : List D → Prop) : Prop where
  | mk (xs : List D) (e : seq? d = some xs) (q : k xs)
inductive RngQ (d : D) (k : Int → Prop) : Prop where
  | mk (i : Int) (e : d = .int i) (h : -1000000 ≤ i ∧ i ≤ 1000000) (q : k i)
inductive LsQ (x : Option (List D)) (k : List D → Prop) : Prop where
  | mk (l : List D) (e : x = some l) (q : k l)
inductive RetQ (r : Rv) (A : Prop) : Prop where
  | mk (h : ∀ i, r ≠ .loc i) (q : A)
/-- the arguments' data -/
def dats (g : Sg) : List Rv → Option (List D)
  | [] => some []
  | r :: rs => (dat g r).bind fun d => (dats g rs).map (d :: ·)
def purs : List Rv → Option (List D)
  | [] => some []
  | .pur d :: rs => (purs rs).map (d :: ·)
  | .new d :: rs => (purs rs).map (d :: ·)
  | .loc _ :: _ => none
def vals (ds : List D) : List (Md × D) := ds.map fun d => (.val, d)
/-- a call without a feed, one that draws -/
inductive PCall (C : Fn) (f : Nat) (ds : List D) (K : Rv → Prop) : Prop where
  | mk (r : Rv) (e : C f (vals ds) = some (r, vals ds)) (q : K r)
structure FCall (C : Fn) (Fd : Int → List D → Prop) (f : Nat) (ds : List D) (M : Int) (K : Rv → Int → Prop) : Prop where
  run : ∀ F, Fd M F → ∃ r F' M', C f ((.bor, unF F) :: vals ds) = some (r, (.bor, unF F') :: vals ds) ∧ Fd M' F' ∧ K r M'
structure CallQ (X : Cx) (f : Nat) (rs : List Rv) (g : Sg) (M : Int) (Q : Rv → Sg → Int → Prop) : Prop where
  run : ∀ h F, Rel X g F h → X.Fd M F → ∃ as r as' g' F' M', argsOf h rs = some as ∧ (locs rs).Nodup ∧ X.C f as = some (r, as') ∧ Rel X g' F' (giveBack h rs as') ∧ X.Fd M' F' ∧ Q r g' M'
section
variable {X : Cx} {g : Sg} {M : Int} {Q : Rv → Sg → Int → Prop} {i k : Nat} {d : D} {xs : List D} {a b c e : E} {es : List E}
theorem we_var (e : g[i]? = some (some (.val, d))) (q : Q (.pur d) g M) : WE X (.var i) g M Q := WE.mk fun h F r f => by
  refine ⟨.pur d, g, h, F, M, ?_, r, f, q⟩
  rw [evE, (rel_val r e).2]
theorem we_own (e : g[i]? = some (some (.own, d))) (q : Q (.loc i) g M) : WE X (.var i) g M Q := WE.mk fun h F r f => by
  refine ⟨.loc i, g, h, F, M, ?_, r, f, q⟩
  rw [evE, (rel_own r e).2]
theorem we_bor (e : g[i]? = some (some (.bor, .list xs))) (q : Q (.loc i) g M) : WE X (.var i) g M Q := WE.mk fun h F r f => by
  refine ⟨.loc i, g, h, F, M, ?_, r, f, q⟩
  rw [evE, (rel_bor r e).2]
theorem we_hole (hj : X.j = some i) (e : g[i]? = some hole) (q : Q (.loc i) g M) : WE X (.var i) g M Q := WE.mk fun h F r f => by
  refine ⟨.loc i, g, h, F, M, ?_, r, f, q⟩
  rw [evE, rel_hole r hj e]
  have := X.mv
  cases hm : X.m with
  | val => exact absurd hm this
  | own => rfl
  | bor => rfl
theorem we_mv (e : g[i]? = some (some (.own, .list xs))) (q : Q (.new (.list xs)) (g.set i none) M) : WE X (.mv i) g M Q := WE.mk fun h F r f => by
  obtain ⟨hj, e1⟩ := rel_own r e
  refine ⟨.new (.list xs), g.set i none, h.set i none, F, M, ?_, rel_set r hj nofun, f, q⟩
  rw [evE, e1]
theorem we_mvD {kvs : List (D × D)} (e : g[i]? = some (some (.own, .dict kvs))) (q : Q (.new (.dict kvs)) (g.set i none) M) : WE X (.mv i) g M Q := WE.mk fun h F r f => by
  obtain ⟨hj, e1⟩ := rel_own r e
  refine ⟨.new (.dict kvs), g.set i none, h.set i none, F, M, ?_, rel_set r hj nofun, f, q⟩
  rw [evE, e1]
theorem we_cst {c : Cst} (q : Q (.pur c.d) g M) : WE X (.cst c) g M Q := WE.mk fun h F r f => ⟨.pur c.d, g, h, F, M, rfl, r, f, q⟩
theorem we_cI {n : Int} (q : Q (.pur (.int n)) g M) : WE X (.cst (.int n)) g M Q := we_cst q
theorem we_cS {z : Str} (q : Q (.pur (.str z)) g M) : WE X (.cst (.str z)) g M Q := we_cst q
theorem we_cB {b : Bool} (q : Q (.pur (.bool b)) g M) : WE X (.cst (.bl b)) g M Q := we_cst q
theorem we_cN (q : Q (.pur .none) g M) : WE X (.cst .non) g M Q := we_cst q
theorem we_glo (e : X.G k = some d) (hd : notDict d = true) (q : Q (.pur d) g M) : WE X (.glo k) g M Q := WE.mk fun h F r f => by
  refine ⟨.pur d, g, h, F, M, ?_, r, f, q⟩
  rw [evE, e, Option.bind_some, hd]
  rfl
theorem we_mono {Q' : Rv → Sg → Int → Prop} (q : WE X e g M Q') (h : ∀ r g M, Q' r g M → Q r g M) : WE X e g M Q := WE.mk fun h1 F r f => by
  obtain ⟨v, g', h', F', M', e1, e2, e3, e4⟩ := q.run h1 F r f
  exact ⟨v, g', h', F', M', e1, e2, e3, h _ _ _ e4⟩
theorem we_neg (q : WE X a g M fun r g1 M1 => DatQ g1 r fun d => DtQ (match d with | .int i => some (.int (-i)) | _ => none) fun z => Q (.pur z) g1 M1) : WE X (.neg a) g M Q := WE.mk fun h F r f => by
  obtain ⟨v, g1, h1, F1, M1, e1, r1, f1, d, e2, z, e3, q2⟩ := q.run h F r f
  cases d <;> first | cases e3 | skip
  refine ⟨_, g1, h1, F1, M1, ?_, r1, f1, q2⟩
  rw [evE, e1, Option.bind_some]
  simp only [dat_ok r1 e2]
theorem we_not (q : WE X a g M fun r g1 M1 => DatQ g1 r fun d => BlQ (dTru d) fun t => Q (.pur (.bool (!t))) g1 M1) : WE X (.not a) g M Q := WE.mk fun h F r f => by
  obtain ⟨v, g1, h1, F1, M1, e1, r1, f1, d, e2, z, e3, q2⟩ := q.run h F r f
  refine ⟨_, g1, h1, F1, M1, ?_, r1, f1, q2⟩
  rw [evE, e1, Option.bind_some, dat_ok r1 e2, Option.bind_some, e3]
  rfl
theorem we_bin {o : BOp} (q : WE X a g M fun ra g1 M1 => WE X b g1 M1 fun rb g2 M2 => DatQ g2 ra fun x => DatQ g2 rb fun y => OpQ (dBin o x y) fun z => Q z g2 M2) : WE X (.bin o a b) g M Q := WE.mk fun h F r f => by
  obtain ⟨v, g1, h1, F1, M1, e1, r1, f1, q1⟩ := q.run h F r f
  obtain ⟨w, g2, h2, F2, M2, e2, r2, f2, x, ex, y, ey, z, ez, q2⟩ := q1.run h1 F1 r1 f1
  exact ⟨_, g2, h2, F2, M2, evE_bin e1 e2 (dat_ok r2 ex) (dat_ok r2 ey) ez, r2, f2, q2⟩
theorem we_cmp {o : COp} (q : WE X a g M fun ra g1 M1 => WE X b g1 M1 fun rb g2 M2 => DatQ g2 ra fun x => DatQ g2 rb fun y => BlQ (dCmp o x y) fun z => Q (.pur (.bool z)) g2 M2) : WE X (.cmp o a b) g M Q := WE.mk fun h F r f => by
  obtain ⟨v, g1, h1, F1, M1, e1, r1, f1, q1⟩ := q.run h F r f
  obtain ⟨w, g2, h2, F2, M2, e2, r2, f2, x, ex, y, ey, z, ez, q2⟩ := q1.run h1 F1 r1 f1
  exact ⟨_, g2, h2, F2, M2, evE_cmp e1 e2 (dat_ok r2 ex) (dat_ok r2 ey) ez, r2, f2, q2⟩
theorem we_chn {o p : COp} (q : WE X a g M fun ra g1 M1 => WE X b g1 M1 fun rb g2 M2 => DatQ g2 ra fun x => DatQ g2 rb fun y => IfQ (dCmp o x y) (WE X c g2 M2 fun rc g3 M3 => DatQ g3 rb fun y' => DatQ g3 rc fun z => BlQ (dCmp p y' z) fun t => Q (.pur (.bool t)) g3 M3) (Q (.pur (.bool false)) g2 M2)) : WE X (.chn o p a b c) g M Q := WE.mk fun h F r f => by
  obtain ⟨v, g1, h1, F1, M1, e1, r1, f1, q1⟩ := q.run h F r f
  obtain ⟨w, g2, h2, F2, M2, e2, r2, f2, x, ex, y, ey, t, et, qt, qf⟩ := q1.run h1 F1 r1 f1
  cases t with
  | false =>
    refine ⟨_, g2, h2, F2, M2, ?_, r2, f2, qf rfl⟩
    rw [evE, e1, Option.bind_some, e2, Option.bind_some, dat_ok r2 ex, Option.bind_some, dat_ok r2 ey, Option.bind_some, et, Option.bind_some]
    rfl
  | true =>
    obtain ⟨u, g3, h3, F3, M3, e3, r3, f3, y', ey', z, ez, t', et', q3⟩ := (qt rfl).run h2 F2 r2 f2
    refine ⟨_, g3, h3, F3, M3, ?_, r3, f3, q3⟩
    rw [evE, e1, Option.bind_some, e2, Option.bind_some, dat_ok r2 ex, Option.bind_some, dat_ok r2 ey, Option.bind_some, et, Option.bind_some, if_pos rfl, e3, Option.bind_some, dat_ok r3 ey', Option.bind_some, dat_ok r3 ez, Option.bind_some, et']
    rfl
inductive BoolQ (g : Sg) (r : Rv) (A B : Prop) : Prop where
  | mk (t : Bool) (e : dat g r = some (.bool t)) (q : t = true → A) (q2 : t = false → B)
theorem we_and (q : WE X a g M fun ra g1 M1 => BoolQ g1 ra (WE X b g1 M1 Q) (Q (.pur (.bool false)) g1 M1)) : WE X (.and a b) g M Q := WE.mk fun h F r f => by
  obtain ⟨v, g1, h1, F1, M1, e1, r1, f1, t, et, qt, qf⟩ := q.run h F r f
  cases t with
  | false => exact ⟨_, g1, h1, F1, M1, evE_and_f e1 (dat_ok r1 et), r1, f1, qf rfl⟩
  | true =>
    rw [evE_and_t e1 (dat_ok r1 et)] 
    exact (qt rfl).run h1 F1 r1 f1
theorem we_or (q : WE X a g M fun ra g1 M1 => BoolQ g1 ra (Q (.pur (.bool true)) g1 M1) (WE X b g1 M1 Q)) : WE X (.or a b) g M Q := WE.mk fun h F r f => by
  obtain ⟨v, g1, h1, F1, M1, e1, r1, f1, t, et, qt, qf⟩ := q.run h F r f
  cases t with
  | true => exact ⟨_, g1, h1, F1, M1, evE_or_t e1 (dat_ok r1 et), r1, f1, qt rfl⟩
  | false =>
    rw [evE_or_f e1 (dat_ok r1 et)]
    exact (qf rfl).run h1 F1 r1 f1
theorem we_ite (q : WE X c g M fun rc g1 M1 => DatQ g1 rc fun d => IfQ (dTru d) (WE X a g1 M1 Q) (WE X b g1 M1 Q)) : WE X (.ite c a b) g M Q := WE.mk fun h F r f => by
  obtain ⟨v, g1, h1, F1, M1, e1, r1, f1, d, ed, t, et, qt, qf⟩ := q.run h F r f
  cases t with
  | true =>
    rw [evE_iteT e1 (dat_ok r1 ed) et]
    exact (qt rfl).run h1 F1 r1 f1
  | false =>
    rw [evE_iteF e1 (dat_ok r1 ed) et]
    exact (qf rfl).run h1 F1 r1 f1
theorem wes_nil {Q : List D → Sg → Int → Prop} (q : Q [] g M) : WEs X [] g M Q := WEs.mk fun h F r f => ⟨[], g, h, F, M, rfl, r, f, q⟩
theorem wes_cons {Q : List D → Sg → Int → Prop} (q : WE X e g M fun r g1 M1 => PureQ r fun d => WEs X es g1 M1 fun ds g2 M2 => Q (d :: ds) g2 M2) : WEs X (e :: es) g M Q := WEs.mk fun h F r f => by
  obtain ⟨v, g1, h1, F1, M1, e1, r1, f1, d, ed, q1⟩ := q.run h F r f
  obtain ⟨ds, g2, h2, F2, M2, e2, r2, f2, q2⟩ := q1.run h1 F1 r1 f1
  exact ⟨_, g2, h2, F2, M2, evEs_cons e1 ed e2, r2, f2, q2⟩
theorem was_nil {Q : List Rv → Sg → Int → Prop} (q : Q [] g M) : WAs X [] g M Q := WAs.mk fun h F r f => ⟨[], g, h, F, M, rfl, r, f, q⟩
theorem was_cons {Q : List Rv → Sg → Int → Prop} (q : WE X e g M fun r g1 M1 => WAs X es g1 M1 fun ds g2 M2 => Q (r.op :: ds) g2 M2) : WAs X (e :: es) g M Q := WAs.mk fun h F r f => by
  obtain ⟨v, g1, h1, F1, M1, e1, r1, f1, q1⟩ := q.run h F r f
  obtain ⟨ds, g2, h2, F2, M2, e2, r2, f2, q2⟩ := q1.run h1 F1 r1 f1
  exact ⟨_, g2, h2, F2, M2, evAs_cons e1 e2, r2, f2, q2⟩
theorem evEs_cnt {C : Fn} {G : Nat → Option D} : ∀ {es : List E} {g g' : Sg} {ds : List D}, evEs C G es g = some (ds, g') → ds.length = es.length
  | [], g, g', ds, h => by
    cases h
    rfl
  | e :: es, g, g', ds, h => by
    have h' : (evE C G e g).bind _ = some (ds, g') := h
    cases h1 : evE C G e g with
    | none =>
      rw [h1] at h'
      cases h'
    | some q =>
      rw [h1] at h'
      cases h2 : q.1.pure? with
      | none =>
        have h'' : (q.1.pure?).bind _ = some (ds, g') := h'
        rw [h2] at h''
        cases h''
      | some d =>
        have h'' : (q.1.pure?).bind _ = some (ds, g') := h'
        rw [h2] at h''
        cases h3 : evEs C G es q.2 with
        | none =>
          have h4 : (evEs C G es q.2).map _ = some (ds, g') := h''
          rw [h3] at h4
          cases h4
        | some z =>
          have h4 : (evEs C G es q.2).map _ = some (ds, g') := h''
          rw [h3] at h4
          cases h4
          rw [List.length_cons, List.length_cons, evEs_cnt (g' := z.2) (ds := z.1) h3]
theorem we_tup (hl : es.length ≤ 1000) (q : WEs X es g M fun ds g1 M1 => Q (.pur (.tuple ds)) g1 M1) : WE X (.tup es) g M Q := WE.mk fun h F r f => by
  obtain ⟨ds, g1, h1, F1, M1, e1, r1, f1, q1⟩ := q.run h F r f
  exact ⟨_, g1, h1, F1, M1, evE_tup e1 (by rw [evEs_cnt e1]; exact hl), r1, f1, q1⟩
theorem we_lst (hl : es.length ≤ 1000) (q : WEs X es g M fun ds g1 M1 => Q (.new (.list ds)) g1 M1) : WE X (.lst es) g M Q := WE.mk fun h F r f => by
  obtain ⟨ds, g1, h1, F1, M1, e1, r1, f1, q1⟩ := q.run h F r f
  exact ⟨_, g1, h1, F1, M1, evE_lst e1 (by rw [evEs_cnt e1]; exact hl), r1, f1, q1⟩
theorem we_ext {x : Xp} (q : WEs X es g M fun ds g1 M1 => OpQ (dX x ds) fun z => Q z g1 M1) : WE X (.ext x es) g M Q := WE.mk fun h F r f => by
  obtain ⟨ds, g1, h1, F1, M1, e1, r1, f1, z, ez, q1⟩ := q.run h F r f
  refine ⟨z, g1, h1, F1, M1, ?_, r1, f1, q1⟩
  rw [evE, e1, Option.bind_some, ez]
  rfl
theorem we_idx (q : WE X a g M fun ra g1 M1 => WE X b g1 M1 fun rb g2 M2 => DatQ g2 ra fun x => DatQ g2 rb fun y => DtQ (dIdx x y) fun z => Q (.pur z) g2 M2) : WE X (.idx a b) g M Q := WE.mk fun h F r f => by
  obtain ⟨v, g1, h1, F1, M1, e1, r1, f1, q1⟩ := q.run h F r f
  obtain ⟨w, g2, h2, F2, M2, e2, r2, f2, x, ex, y, ey, z, ez, q2⟩ := q1.run h1 F1 r1 f1
  exact ⟨_, g2, h2, F2, M2, evE_ix e1 e2 (dat_ok r2 ex) (dat_ok r2 ey) ez, r2, f2, q2⟩
theorem we_kix {kvs : List (D × D)} (hk : X.G k = some (.dict kvs)) (q : WE X a g M fun ra g1 M1 => DatQ g1 ra fun y => DtQ (match y with | .str z => dGet kvs z | _ => none) fun z => Q (.pur z) g1 M1) : WE X (.kix k a) g M Q := WE.mk fun h F r f => by
  obtain ⟨v, g1, h1, F1, M1, e1, r1, f1, y, ey, z, ez, q1⟩ := q.run h F r f
  cases y <;> first | cases ez | skip
  refine ⟨_, g1, h1, F1, M1, ?_, r1, f1, q1⟩
  rw [evE, e1, Option.bind_some, dat_ok r1 ey, Option.bind_some, hk, Option.bind_some]
  show (dGet kvs _).map _ = _
  rw [show dGet kvs _ = some z from ez]
  rfl
theorem we_isi {ts : List String} (q : WE X a g M fun ra g1 M1 => DatQ g1 ra fun x => Q (.pur (.bool (dIsAny x ts))) g1 M1) : WE X (.isi a ts) g M Q := WE.mk fun h F r f => by
  obtain ⟨v, g1, h1, F1, M1, e1, r1, f1, x, ex, q1⟩ := q.run h F r f
  exact ⟨_, g1, h1, F1, M1, evE_is e1 (dat_ok r1 ex), r1, f1, q1⟩
theorem we_rev (q : WE X a g M fun ra g1 M1 => DatQ g1 ra fun x => OpQ (match x with | .tuple xs => some (.pur (.tuple xs.reverse)) | .list xs => some (.new (.list xs.reverse)) | _ => none) fun z => Q z g1 M1) : WE X (.rev a) g M Q := WE.mk fun h F r f => by
  obtain ⟨v, g1, h1, F1, M1, e1, r1, f1, x, ex, z, ez, q1⟩ := q.run h F r f
  refine ⟨z, g1, h1, F1, M1, ?_, r1, f1, q1⟩
  rw [evE, e1, Option.bind_some, dat_ok r1 ex, Option.bind_some]
  cases x <;> cases ez <;> rfl
theorem we_tk {c : Nat} (q : WE X a g M fun ra g1 M1 => DatQ g1 ra fun x => OpQ (match x with | .tuple xs => if c < xs.length then some (.pur (.tuple (xs.take (c + 1)).reverse)) else none | _ => none) fun z => Q z g1 M1) : WE X (.tk c a) g M Q := WE.mk fun h F r f => by
  obtain ⟨v, g1, h1, F1, M1, e1, r1, f1, x, ex, z, ez, q1⟩ := q.run h F r f
  refine ⟨z, g1, h1, F1, M1, ?_, r1, f1, q1⟩
  rw [evE, e1, Option.bind_some, dat_ok r1 ex, Option.bind_some]
  cases x <;> try cases ez
  dsimp only at ez ⊢
  split at ez <;> cases ez
  rw [if_pos ‹_›]
theorem wo_none {Q : Option Int → Sg → Int → Prop} (q : Q none g M) : WO X none g M Q := WO.mk fun h F r f => ⟨none, g, h, F, M, rfl, r, f, q⟩
theorem wo_some {Q : Option Int → Sg → Int → Prop} (q : WE X e g M fun r g1 M1 => IntQ r fun i => Q (some i) g1 M1) : WO X (some e) g M Q := WO.mk fun h F r f => by
  obtain ⟨v, g1, h1, F1, M1, e1, r1, f1, i, rfl, q1⟩ := q.run h F r f
  refine ⟨some i, g1, h1, F1, M1, ?_, r1, f1, q1⟩
  show (evE X.C X.G e h).bind _ = _
  rw [e1]
  rfl
theorem we_slc {lo hi : Option E} (q : WE X a g M fun ra g1 M1 => WO X lo g1 M1 fun l g2 M2 => WO X hi g2 M2 fun u g3 M3 => DatQ g3 ra fun x => OpQ (dSlc x l u) fun z => Q z g3 M3) : WE X (.slc a lo hi) g M Q := WE.mk fun h F r f => by
  obtain ⟨v, g1, h1, F1, M1, e1, r1, f1, q1⟩ := q.run h F r f
  obtain ⟨l, g2, h2, F2, M2, e2, r2, f2, q2⟩ := q1.run h1 F1 r1 f1
  obtain ⟨u, g3, h3, F3, M3, e3, r3, f3, x, ex, z, ez, q3⟩ := q2.run h2 F2 r2 f2
  refine ⟨z, g3, h3, F3, M3, ?_, r3, f3, q3⟩
  rw [evE, e1, Option.bind_some, e2, Option.bind_some, e3, Option.bind_some, dat_ok r3 ex, Option.bind_some, ez]
  rfl
theorem datas_ok {h : Sg} {F : List D} (r : Rel X g F h) : ∀ {rs : List Rv} {ds : List D}, dats g rs = some ds → datas h rs = some ds
  | [], ds, e => e
  | v :: rs, ds, e => by
    have e' : (dat g v).bind (fun d => (dats g rs).map (d :: ·)) = some ds := e
    cases e1 : dat g v with
    | none =>
      rw [e1] at e'
      cases e'
    | some d =>
      rw [e1] at e'
      cases e2 : dats g rs with
      | none =>
        have e'' : (dats g rs).map (d :: ·) = some ds := e'
        rw [e2] at e''
        cases e''
      | some zs =>
        have e'' : (dats g rs).map (d :: ·) = some ds := e'
        rw [e2] at e''
        show (v.data h).bind _ = _
        rw [dat_ok r e1, Option.bind_some, datas_ok r e2]
        exact e''
theorem we_blt {o : Bl} (q : WAs X es g M fun rs g1 M1 => LsQ (dats g1 rs) fun ds => OpQ (dBlt o ds) fun z => Q z g1 M1) : WE X (.blt o es) g M Q := WE.mk fun h F r f => by
  obtain ⟨rs, g1, h1, F1, M1, e1, r1, f1, ds, e2, z, ez, q1⟩ := q.run h F r f
  refine ⟨z, g1, h1, F1, M1, ?_, r1, f1, q1⟩
  rw [evE, e1, Option.bind_some, datas_ok r1 e2, Option.bind_some, ez]
  rfl
theorem we_mth {o : Mt} (q : WE X a g M fun ra g1 M1 => DatQ g1 ra fun _ => WAs X es g1 M1 fun rs g2 M2 => DatQ g2 ra fun x => LsQ (dats g2 rs) fun ds => OpQ (dMth o x ds) fun z => Q z g2 M2) : WE X (.mth o a es) g M Q := WE.mk fun h F r f => by
  obtain ⟨v, g1, h1, F1, M1, e1, r1, f1, y, ey, q1⟩ := q.run h F r f
  obtain ⟨rs, g2, h2, F2, M2, e2, r2, f2, x, ex, ds, e3, z, ez, q2⟩ := q1.run h1 F1 r1 f1
  refine ⟨z, g2, h2, F2, M2, ?_, r2, f2, q2⟩
  rw [evE, e1, Option.bind_some, dat_ok r1 ey, Option.bind_some, e2, Option.bind_some, dat_ok r2 ex, Option.bind_some, datas_ok r2 e3, Option.bind_some, ez]
  rfl
theorem we_tix (q : WE X a g M fun ra g1 M1 => PureQ ra fun x => WE X b g1 M1 fun rb g2 M2 => DatQ g2 rb fun y => OpQ (dTix x y) fun z => Q z g2 M2) : WE X (.tix a b) g M Q := WE.mk fun h F r f => by
  obtain ⟨v, g1, h1, F1, M1, e1, r1, f1, x, ex, q1⟩ := q.run h F r f
  obtain ⟨w, g2, h2, F2, M2, e2, r2, f2, y, ey, z, ez, q2⟩ := q1.run h1 F1 r1 f1
  refine ⟨z, g2, h2, F2, M2, ?_, r2, f2, q2⟩
  rw [evE, e1, Option.bind_some]
  show (v.pure?).bind _ = _
  rw [ex, Option.bind_some, e2, Option.bind_some, dat_ok r2 ey, Option.bind_some, ez]
  rfl
theorem we_lrng {o : Bool} {i j : Int} (hs : smallR i j = true) (q : Q (.new (.list (rangeL i (j - i).toNat))) g M) : WE X (.lrng o i j) g M Q := WE.mk fun h F r f => by
  refine ⟨_, g, h, F, M, ?_, r, f, q⟩
  rw [evE, if_pos hs]
theorem we_rg1 {t : Bool} (q : WE X a g M fun r g1 M1 => IntQ r fun j => smallR 0 j = true ∧ Q (if t then .pur (.tuple (rangeL 0 j.toNat)) else .new (.list (rangeL 0 j.toNat))) g1 M1) : WE X (.rg1 t a) g M Q := WE.mk fun h F r f => by
  obtain ⟨v, g1, h1, F1, M1, e1, r1, f1, j, rfl, hs, q1⟩ := q.run h F r f
  refine ⟨_, g1, h1, F1, M1, ?_, r1, f1, q1⟩
  rw [evE, e1, Option.bind_some]
  show (if smallR 0 j then _ else _) = _
  rw [if_pos hs]
theorem we_zpt (q : WE X a g M fun ra g1 M1 => PureQ ra fun x => WE X b g1 M1 fun rb g2 M2 => PureQ rb fun y => DtQ (match x, y with | .list xs, .list ys => some (.tuple (List.zipWith (fun x y => .tuple [x, y]) xs ys)) | _, _ => none) fun z => Q (.pur z) g2 M2) : WE X (.zpt a b) g M Q := WE.mk fun h F r f => by
  obtain ⟨v, g1, h1, F1, M1, e1, r1, f1, x, ex, q1⟩ := q.run h F r f
  obtain ⟨w, g2, h2, F2, M2, e2, r2, f2, y, ey, zz, ez, q2⟩ := q1.run h1 F1 r1 f1
  refine ⟨.pur zz, g2, h2, F2, M2, ?_, r2, f2, q2⟩
  rw [evE, e1, Option.bind_some]
  show (v.pure?).bind _ = _
  rw [ex, Option.bind_some, e2, Option.bind_some]
  show (w.pure?).bind _ = _
  rw [ey, Option.bind_some]
  split at ez
  · cases ez
    rfl
  · cases ez
/-- a call that reads lists of this frame -/
inductive RdQ (X : Cx) (f : Nat) (ds : List D) (k : Rv → Prop) : Prop where
  | mk (r : Rv) (d : D) (e : X.C f (vals ds) = some (r, vals ds)) (hr : r = .pur d) (hp : plainD d = true) (q : k (.pur d))
theorem we_rd {f : Nat} (q : WAs X es g M fun rs g1 M1 => LsQ (dats g1 rs) fun ds => RdQ X f ds fun r => Q r g1 M1) : WE X (.rd f es) g M Q := WE.mk fun h F r fd => by
  obtain ⟨rs, g1, h1, F1, M1, e1, r1, f1, ds, e2, v, d, ec, rfl, hp, q1⟩ := q.run h F r fd
  refine ⟨.pur d, g1, h1, F1, M1, ?_, r1, f1, q1⟩
  rw [evE, e1, Option.bind_some, datas_ok r1 e2, Option.bind_some]
  show (X.C f (vals ds)).bind _ = _
  rw [ec, Option.bind_some]
  show (if plainD d then some (Rv.pur d) else none).map _ = _
  rw [hp]
  rfl
theorem we_call {f : Nat} (q : WAs X es g M fun rs g1 M1 => CallQ X f rs g1 M1 Q) : WE X (.call f es) g M Q := WE.mk fun h F r fd => by
  obtain ⟨rs, g1, h1, F1, M1, e1, r1, f1, q1⟩ := q.run h F r fd
  obtain ⟨as, v, as', g2, F2, M2, e2, e3, e4, r2, f2, q2⟩ := q1.run h1 F1 r1 f1
  exact ⟨v, g2, _, F2, M2, evE_cal e1 e2 e3 e4, r2, f2, q2⟩
theorem purs_args {h : Sg} : ∀ {rs : List Rv} {ds : List D}, purs rs = some ds → argsOf h rs = some (vals ds) ∧ locs rs = [] ∧ ∀ as', giveBack h rs as' = h
  | [], ds, e => by
    cases e
    exact ⟨rfl, rfl, fun as' => by cases as' <;> rfl⟩
  | .pur d :: rs, ds, e => by
    have e' : (purs rs).map (d :: ·) = some ds := e
    cases e1 : purs rs with
    | none =>
      rw [e1] at e'
      cases e'
    | some zs =>
      rw [e1] at e'
      cases e'
      obtain ⟨a, b, c⟩ := purs_args (h := h) e1
      refine ⟨?_, b, fun as' => ?_⟩
      · show (argsOf h rs).map _ = _
        rw [a]
        rfl
      · cases as' with
        | nil => rfl
        | cons x as' => exact c as'
  | .new d :: rs, ds, e => by
    have e' : (purs rs).map (d :: ·) = some ds := e
    cases e1 : purs rs with
    | none =>
      rw [e1] at e'
      cases e'
    | some zs =>
      rw [e1] at e'
      cases e'
      obtain ⟨a, b, c⟩ := purs_args (h := h) e1
      refine ⟨?_, b, fun as' => ?_⟩
      · show (argsOf h rs).map _ = _
        rw [a]
        rfl
      · cases as' with
        | nil => rfl
        | cons x as' => exact c as'
theorem call_p {f : Nat} {rs : List Rv} {ds : List D} (hp : purs rs = some ds) (c : PCall X.C f ds fun r => Q r g M) : CallQ X f rs g M Q := CallQ.mk fun h F r fd => by
  obtain ⟨v, e, q⟩ := c
  obtain ⟨e1, e2, e3⟩ := purs_args (h := h) hp
  refine ⟨_, v, _, g, F, M, e1, ?_, e, ?_, fd, q⟩
  · rw [e2]
    exact List.nodup_nil
  · rw [e3]
    exact r
theorem call_f {f : Nat} {rs : List Rv} {ds : List D} (hj : X.j = some i) (hi : g[i]? = some hole) (hp : purs rs = some ds) (c : FCall X.C X.Fd f ds M fun r M' => Q r g M') : CallQ X f (.loc i :: rs) g M Q := CallQ.mk fun h F r fd => by
  obtain ⟨v, F', M', e, f', q⟩ := c.run F fd
  obtain ⟨e1, e2, e3⟩ := purs_args (h := h) hp
  have hh := rel_hole r hj hi
  have ho : ownAt h i = some (X.m, unF F) := by
    unfold ownAt
    rw [hh]
    have := X.mv
    cases hm : X.m with
    | val => exact absurd hm this
    | own => rfl
    | bor => rfl
  refine ⟨(.bor, unF F) :: vals ds, v, _, g, F', M', ?_, ?_, e, ?_, f', q⟩
  · show ((ownAt h i).map _).bind _ = _
    rw [ho]
    show (argsOf h rs).map _ = _
    rw [e1]
    rfl
  · show (i :: locs rs).Nodup
    rw [e2]
    simp
  · have : giveBack h (.loc i :: rs) ((.bor, unF F') :: vals ds) = h.set i (some (X.m, unF F')) := by
      show (match h[i]? with
        | some (some (m, _)) => (giveBack h rs (vals ds)).set i (some (m, unF F'))
        | _ => giveBack h rs (vals ds)) = _
      rw [hh, e3]
    rw [this]
    exact rel_feed r hj
end
section
variable {g : Sg} {r : Rv} {d x y : D} {k : D → Prop} {K : Rv → Prop} {B : Bool → Prop} {i j : Int} {b : Bool} {A A' : Prop}
theorem pq_p (q : k d) : PureQ (.pur d) k := ⟨d, rfl, q⟩
theorem pq_n (q : k d) : PureQ (.new d) k := ⟨d, rfl, q⟩
theorem dq_p (q : k d) : DatQ g (.pur d) k := ⟨d, rfl, q⟩
theorem dq_n (q : k d) : DatQ g (.new d) k := ⟨d, rfl, q⟩
theorem dq_l {n : Nat} (e : dat g (.loc n) = some d) (q : k d) : DatQ g (.loc n) k := ⟨d, e, q⟩
theorem oq {x : Option Rv} (e : x = some r) (q : K r) : OpQ x K := ⟨r, e, q⟩
theorem bq {x : Option Bool} (e : x = some b) (q : B b) : BlQ x B := ⟨b, e, q⟩
theorem tq_ {x : Option D} (e : x = some d) (q : k d) : DtQ x k := ⟨d, e, q⟩
theorem bindq {p : Pat} {g g2 : Sg} {k : Sg → Prop} (e : bindT p d g = some g2) (q : k g2) : BindQ p d g k := ⟨g2, e, q⟩
theorem ownq {n : Nat} {g g2 : Sg} {k : Sg → Prop} (e : setT g n .own d = some g2) (q : k g2) : OwnQ n d g k := ⟨g2, e, q⟩
theorem newq (q : k d) : NewQ (.new d) k := ⟨d, rfl, q⟩
theorem intq {k : Int → Prop} (q : k i) : IntQ (.pur (.int i)) k := ⟨i, rfl, q⟩
theorem seqL {xs : List D} {k : List D → Prop} (q : k xs) : SeqQ (.list xs) k := ⟨xs, rfl, q⟩
theorem seqT {xs : List D} {k : List D → Prop} (q : k xs) : SeqQ (.tuple xs) k := ⟨xs, rfl, q⟩
theorem seqS {z : Str} {k : List D → Prop} (q : k (z.cps.toList.map fun c => .str ⟨#[c]⟩)) : SeqQ (.str z) k := ⟨_, rfl, q⟩
theorem rngq {k : Int → Prop} (h : -1000000 ≤ i ∧ i ≤ 1000000) (q : k i) : RngQ (.int i) k := ⟨i, rfl, h, q⟩
theorem lsq {x : Option (List D)} {l : List D} {k : List D → Prop} (e : x = some l) (q : k l) : LsQ x k := ⟨l, e, q⟩
theorem ret_p (q : A) : RetQ (.pur d) A := ⟨nofun, q⟩
theorem ret_n (q : A) : RetQ (.new d) A := ⟨nofun, q⟩
theorem if_y {x : Option Bool} (e : x = some true) (q : A) : IfQ x A A' := ⟨true, e, fun _ => q, fun z => nomatch z⟩
theorem if_n {x : Option Bool} (e : x = some false) (q : A') : IfQ x A A' := ⟨false, e, (fun z => nomatch z), fun _ => q⟩
theorem if_b {x : Option Bool} (e : x = some b) (q : b = true → A) (q' : b = false → A') : IfQ x A A' := ⟨b, e, q, q'⟩
theorem if_d {x : Option Bool} {p : Prop} [Decidable p] (e : x = some (decide p)) (q : p → A) (q' : ¬p → A') : IfQ x A A' := ⟨_, e, fun z => q (of_decide_eq_true z), fun z => q' (of_decide_eq_false z)⟩
theorem if_nd {x : Option Bool} {p : Prop} [Decidable p] (e : x = some (!decide p)) (q : ¬p → A) (q' : p → A') : IfQ x A A' := ⟨_, e, fun z => q (of_decide_eq_false (by simpa using z)), fun z => q' (of_decide_eq_true (by simpa using z))⟩
theorem bo_y (e : dat g r = some (.bool true)) (q : A) : BoolQ g r A A' := ⟨true, e, fun _ => q, fun z => nomatch z⟩
theorem bo_n (e : dat g r = some (.bool false)) (q : A') : BoolQ g r A A' := ⟨false, e, (fun z => nomatch z), fun _ => q⟩
theorem bo_b (e : dat g r = some (.bool b)) (q : b = true → A) (q' : b = false → A') : BoolQ g r A A' := ⟨b, e, q, q'⟩
theorem bo_d {p : Prop} [Decidable p] (e : dat g r = some (.bool (decide p))) (q : p → A) (q' : ¬p → A') : BoolQ g r A A' := ⟨_, e, fun z => q (of_decide_eq_true z), fun z => q' (of_decide_eq_false z)⟩
theorem bo_nd {p : Prop} [Decidable p] (e : dat g r = some (.bool (!decide p))) (q : ¬p → A) (q' : p → A') : BoolQ g r A A' := ⟨_, e, fun z => q (of_decide_eq_false (by simpa using z)), fun z => q' (of_decide_eq_true (by simpa using z))⟩
theorem if_nb {x : Option Bool} (e : x = some (!b)) (q : b = false → A) (q' : b = true → A') : IfQ x A A' := ⟨_, e, fun z => q (by simpa using z), fun z => q' (by simpa using z)⟩
theorem o_addI (q : K (.pur (.int (i + j)))) : OpQ (dBin .add (.int i) (.int j)) K := ⟨_, rfl, q⟩
theorem o_subI (q : K (.pur (.int (i - j)))) : OpQ (dBin .sub (.int i) (.int j)) K := ⟨_, rfl, q⟩
theorem o_mulI (h : mulOk i j = true) (q : K (.pur (.int (i * j)))) : OpQ (dBin .mul (.int i) (.int j)) K := ⟨_, if_pos h, q⟩
theorem o_modI (h : 0 < j) (q : K (.pur (.int (i % j)))) : OpQ (dBin .mod (.int i) (.int j)) K := by
  refine ⟨_, ?_, q⟩
  show (if j = 0 then none else some (Rv.pur (.int (if 0 < j then i % j else i.fmod j)))) = _
  rw [if_neg (by omega), if_pos h]
theorem o_divI (h : 0 < j) (h2 : divOk j = true) (q : K (.pur (.int (i / j)))) : OpQ (dBin .fdiv (.int i) (.int j)) K := by
  refine ⟨_, ?_, q⟩
  show (if divOk j then some (Rv.pur (.int (if 0 < j then i / j else i.fdiv j))) else none) = _
  rw [if_pos h2, if_pos h]
theorem le_line {n m : Nat} (h : n ≤ m) (hm : m ≤ 16000000) : n ≤ sizeLine := by
  rw [sizeLine_eq]
  exact Nat.le_trans h (Nat.le_trans hm (by decide))
theorem o_addL {xs ys : List D} (h : xs.length + ys.length ≤ 1000000) (q : K (.new (.list (xs ++ ys)))) : OpQ (dBin .add (.list xs) (.list ys)) K := ⟨_, if_pos (le_line h (by decide)), q⟩
theorem o_addT {xs ys : List D} (h : xs.length + ys.length ≤ 1000000) (q : K (.pur (.tuple (xs ++ ys)))) : OpQ (dBin .add (.tuple xs) (.tuple ys)) K := ⟨_, if_pos (le_line h (by decide)), q⟩
theorem o_addS {x y : Str} (h : x.cps.size + y.cps.size ≤ 1000000) (q : K (.pur (.str (x ++ y)))) : OpQ (dBin .add (.str x) (.str y)) K := ⟨_, if_pos (le_line (show x.length + y.length ≤ 1000000 from h) (by decide)), q⟩
theorem o_lenL {xs : List D} (q : K (.pur (.int (xs.length : Int)))) : OpQ (dBlt .len [.list xs]) K := ⟨_, rfl, q⟩
theorem o_lenT {xs : List D} (q : K (.pur (.int (xs.length : Int)))) : OpQ (dBlt .len [.tuple xs]) K := ⟨_, rfl, q⟩
theorem o_lenS {z : Str} (h : z.cps.size ≤ 1000000) (q : K (.pur (.int (z.cps.size : Int)))) : OpQ (dBlt .len [.str z]) K := ⟨_, if_pos (le_line (show z.length ≤ 1000000 from h) (by decide)), q⟩
theorem o_repr (h : reprOk d = true) (q : K (.pur (.str d.shown))) : OpQ (dBlt .repr [d]) K := ⟨_, if_pos h, q⟩
theorem o_slcL {xs : List D} {lo hi : Option Int} (q : K (.new (.list (cutD xs lo hi)))) : OpQ (dSlc (.list xs) lo hi) K := ⟨_, rfl, q⟩
theorem o_slcT {xs : List D} {lo hi : Option Int} (q : K (.pur (.tuple (cutD xs lo hi)))) : OpQ (dSlc (.tuple xs) lo hi) K := ⟨_, rfl, q⟩
theorem o_slcS {z : Str} {lo hi : Option Int} (h : z.cps.size ≤ 1000000) (q : K (.pur (.str (L2.cutS z lo hi)))) : OpQ (dSlc (.str z) lo hi) K := ⟨_, if_pos (le_line (show z.length ≤ 1000000 from h) (by decide)), q⟩
theorem b_ltI (q : B (decide (i < j))) : BlQ (dCmp .lt (.int i) (.int j)) B := ⟨_, rfl, q⟩
theorem b_leI (q : B (decide (i ≤ j))) : BlQ (dCmp .le (.int i) (.int j)) B := ⟨_, rfl, q⟩
theorem b_gtI (q : B (decide (j < i))) : BlQ (dCmp .gt (.int i) (.int j)) B := ⟨_, rfl, q⟩
theorem b_geI (q : B (decide (j ≤ i))) : BlQ (dCmp .ge (.int i) (.int j)) B := ⟨_, rfl, q⟩
theorem eqI : dEq (.int i) (.int j) = some (decide (i = j)) := by
  show (if Ev.shp (.int i) && Ev.shp (.int j) then some (PyData.eqv (.int i) (.int j)) else none) = _
  rw [shp_int, shp_int]
  rfl
theorem eqS {a b : Str} : dEq (.str a) (.str b) = some (decide (a = b)) := by
  show some (a == b) = _
  congr 1
theorem b_eqI (q : B (decide (i = j))) : BlQ (dCmp .eq (.int i) (.int j)) B := ⟨_, eqI, q⟩
theorem b_neI (q : B (!decide (i = j))) : BlQ (dCmp .ne (.int i) (.int j)) B := ⟨_, (congrArg (fun o : Option Bool => o.map (!·)) (eqI (i := i) (j := j))), q⟩
theorem b_eqS {a b : Str} (q : B (decide (a = b))) : BlQ (dCmp .eq (.str a) (.str b)) B := ⟨_, eqS, q⟩
theorem b_neS {a b : Str} (q : B (!decide (a = b))) : BlQ (dCmp .ne (.str a) (.str b)) B := ⟨_, (congrArg (fun o : Option Bool => o.map (!·)) (eqS (a := a) (b := b))), q⟩
theorem b_truB (q : B b) : BlQ (dTru (.bool b)) B := ⟨_, rfl, q⟩
theorem b_truL {xs : List D} (q : B (!xs.isEmpty)) : BlQ (dTru (.list xs)) B := ⟨_, rfl, q⟩
theorem b_truT {xs : List D} (q : B (!xs.isEmpty)) : BlQ (dTru (.tuple xs)) B := ⟨_, rfl, q⟩
/-- the same text of one value -/
theorem rangeL_get {lo : Int} {n k : Nat} (h : k < n) : (rangeL lo n)[k]? = some (.int (lo + (k : Int))) := by
  unfold rangeL
  rw [List.getElem?_map, List.getElem?_range h]
  rfl
theorem rangeL_inv {lo : Int} {n k : Nat} {d : D} (h : (rangeL lo n)[k]? = some d) : k < n ∧ d = .int (lo + (k : Int)) := by
  have hk : k < n := by
    have := (List.getElem?_eq_some_iff.mp h).1
    rwa [range_len] at this
  rw [rangeL_get hk] at h
  cases h
  exact ⟨hk, rfl⟩
end
end Ev

namespace Ev
set_option autoImplicit false
open PySem
section
variable {X : Cx} {g : Sg} {M : Int} {e a b el : E} {es : List E} {p : Pat} {own : List (Str × Nat)} {c : Option E}
theorem wi_of {Q : List D → Sg → Int → Prop} (q : WE X e g M fun r g1 M1 => PureQ r fun d => SeqQ d fun xs => Q xs g1 M1) : WI X e g M Q := WI.mk fun h F r f => by
  obtain ⟨v, g1, h1, F1, M1, e1, r1, f1, d, ed, xs, ex, q1⟩ := q.run h F r f
  exact ⟨xs, g1, h1, F1, M1, evI_of e1 ed ex, r1, f1, q1⟩
theorem wi_rng {Q : List D → Sg → Int → Prop} (q : WE X e g M fun r g1 M1 => PureQ r fun d => RngQ d fun k => Q (rangeL 0 k.toNat) g1 M1) : WI X (.rng [e]) g M Q := WI.mk fun h F r f => by
  obtain ⟨v, g1, h1, F1, M1, e1, r1, f1, d, ek, k, rfl, hk, q1⟩ := q.run h F r f
  refine ⟨_, g1, h1, F1, M1, ?_, r1, f1, q1⟩
  have s1 : smallI k = true := smallI_of hk.1 hk.2
  have e2 : evEs X.C X.G [e] h = some ([.int k], h1) := evEs_cons e1 ek rfl
  refine evI_of (r := .pur (.list (rangeL 0 k.toNat))) ?_ rfl rfl
  rw [evE, e2, Option.bind_some]
  show (if smallI k then some (rangeL 0 k.toNat) else none).map _ = _
  rw [if_pos s1]
  rfl
theorem wi_rng2 {Q : List D → Sg → Int → Prop} (q : WE X a g M fun ra g1 M1 => PureQ ra fun x => WE X b g1 M1 fun rb g2 M2 => PureQ rb fun y => RngQ x fun i => RngQ y fun j => Q (rangeL i (j - i).toNat) g2 M2) : WI X (.rng [a, b]) g M Q := WI.mk fun h F r f => by
  obtain ⟨v, g1, h1, F1, M1, e1, r1, f1, x, ex, q1⟩ := q.run h F r f
  obtain ⟨w, g2, h2, F2, M2, e2, r2, f2, y, ey, i, rfl, hi, j, rfl, hj, q2⟩ := q1.run h1 F1 r1 f1
  refine ⟨_, g2, h2, F2, M2, ?_, r2, f2, q2⟩
  have e3 : evEs X.C X.G [a, b] h = some ([.int i, .int j], h2) := evEs_cons e1 ex (evEs_cons e2 ey rfl)
  refine evI_of (r := .pur (.list (rangeL i (j - i).toNat))) ?_ rfl rfl
  rw [evE, e3, Option.bind_some]
  show (if smallI i && smallI j then some (rangeL i (j - i).toNat) else none).map _ = _
  rw [smallI_of hi.1 hi.2, smallI_of hj.1 hj.2]
  rfl
theorem wi_enu {Q : List D → Sg → Int → Prop} (q : WE X a g M fun ra g1 M1 => PureQ ra fun x => LsQ (dEnu x) fun l => Q l g1 M1) : WI X (.enu a) g M Q := WI.mk fun h F r f => by
  obtain ⟨v, g1, h1, F1, M1, e1, r1, f1, x, ex, l, el, q1⟩ := q.run h F r f
  refine ⟨l, g1, h1, F1, M1, evI_of (r := .pur (.list l)) ?_ rfl rfl, r1, f1, q1⟩
  rw [evE, e1, Option.bind_some]
  show (v.pure?).bind _ = _
  rw [ex, Option.bind_some, el]
  rfl
theorem wi_zip {Q : List D → Sg → Int → Prop} (q : WE X a g M fun ra g1 M1 => PureQ ra fun x => WE X b g1 M1 fun rb g2 M2 => PureQ rb fun y => LsQ (dZip x y) fun l => Q l g2 M2) : WI X (.zip a b) g M Q := WI.mk fun h F r f => by
  obtain ⟨v, g1, h1, F1, M1, e1, r1, f1, x, ex, q1⟩ := q.run h F r f
  obtain ⟨w, g2, h2, F2, M2, e2, r2, f2, y, ey, l, el, q2⟩ := q1.run h1 F1 r1 f1
  refine ⟨l, g2, h2, F2, M2, evI_of (r := .pur (.list l)) ?_ rfl rfl, r2, f2, q2⟩
  rw [evE, e1, Option.bind_some]
  show (v.pure?).bind _ = _
  rw [ex, Option.bind_some, e2, Option.bind_some]
  show (w.pure?).bind _ = _
  rw [ey, Option.bind_some, el]
  rfl
def CW (X : Cx) (c : Option E) (g : Sg) (M : Int) (K : Bool → Sg → Int → Prop) : Prop := match c with
  | none => K true g M
  | some e => WE X e g M fun r g1 M1 => DatQ g1 r fun d => BlQ (dTru d) fun t => K t g1 M1
def cFn (X : Cx) (c : Option E) (g : Sg) : Option (Bool × Sg) := match c with
  | none => some (true, g)
  | some c => (evE X.C X.G c g).bind fun rc => (rc.1.data rc.2).bind fun d => (dTru d).map fun t => (t, rc.2)
structure CompQ (X : Cx) (el : E) (p : Pat) (c : Option E) (own : List (Str × Nat)) (ds : List D) (g : Sg) (M : Int) (Q : Rv → Sg → Int → Prop) : Prop where
  run : freeT g own = true → ∀ h F, Rel X g F h → X.Fd M F → ∃ ys h' F' M', compGo (bindP p) (cFn X c) (evE X.C X.G el) own ds [] h = some (ys, h') ∧ ys.length ≤ 1000000 ∧ Rel X g F' h' ∧ X.Fd M' F' ∧ Q (.new (.list ys)) g M'
inductive FreeQ (g : Sg) (own : List (Str × Nat)) (A : Prop) : Prop where
  | mk (e : freeT g own = true) (q : A)
theorem freeq {A : Prop} (e : freeT g own = true) (q : A) : FreeQ g own A := ⟨e, q⟩
theorem we_comp {Q : Rv → Sg → Int → Prop} {it : E} (q : WI X it g M fun ds g1 M1 => FreeQ g1 own (CompQ X el p c own ds g1 M1 Q)) : WE X (.comp el p it c own) g M Q := WE.mk fun h F r f => by
  obtain ⟨ds, g1, h1, F1, M1, e1, r1, f1, hf, q1⟩ := q.run h F r f
  obtain ⟨ys, h2, F2, M2, e2, hl, r2, f2, q2⟩ := q1.run hf h1 F1 r1 f1
  refine ⟨_, g1, h2, F2, M2, ?_, r2, f2, q2⟩
  cases c with
  | none => exact evE_comp e1 (rel_free r1 hf) e2 hl
  | some c => exact evE_compIf e1 (rel_free r1 hf) e2 hl
theorem cw_run {h : Sg} {F : List D} {K : Bool → Sg → Int → Prop} (q : CW X c g M K) (r : Rel X g F h) (f : X.Fd M F) : ∃ t g1 h1 F1 M1, cFn X c h = some (t, h1) ∧ Rel X g1 F1 h1 ∧ X.Fd M1 F1 ∧ K t g1 M1 := by
  cases c with
  | none => exact ⟨true, g, h, F, M, rfl, r, f, q⟩
  | some c =>
    obtain ⟨v, g1, h1, F1, M1, e1, r1, f1, d, ed, t, et, q1⟩ := q.run h F r f
    refine ⟨t, g1, h1, F1, M1, ?_, r1, f1, q1⟩
    show (evE X.C X.G c h).bind _ = _
    rw [e1]
    show (v.data h1).bind _ = _
    rw [dat_ok r1 ed]
    show (dTru d).map _ = _
    rw [et]
    rfl
theorem comp_goG {U : Type} {f : U → D} {R : Nat → D → Option U → Prop} {k : Int} (hk : 0 ≤ k) (hf : freeT g own = true) : ∀ (ds : List D) (i0 : Nat) (acc : List D) (M : Int) (h : Sg) (F : List D), Rel X g F h → X.Fd M F →
    (∀ (i : Nat) d, ds[i]? = some d → ∀ M', M ≤ M' → M' ≤ M + k * (i : Int) → BindQ p d (wipeG g own) fun g1 => CW X c g1 M' fun t g2 M2 => (t = true → WE X el g2 M2 fun r g3 M3 => ∃ u, r.pure? = some (f u) ∧ R (i0 + i) d (some u) ∧ M3 ≤ M' + k ∧ backG g g3 own = g) ∧ (t = false → R (i0 + i) d none ∧ M2 ≤ M' + k ∧ backG g g2 own = g)) →
    ∃ (os : List (Option U)) (h' : Sg) (F' : List D), compGo (bindP p) (cFn X c) (evE X.C X.G el) own ds acc h = some (acc ++ (os.filterMap id).map f, h') ∧ os.length = ds.length ∧ (∀ (i : Nat) d o, ds[i]? = some d → os[i]? = some o → R (i0 + i) d o) ∧ Rel X g F' h' ∧ X.Fd (M + k * (ds.length : Int)) F'
  | [], i0, acc, M, h, F, r, fd, _ => ⟨[], h, F, by rw [comp_nil]; simp, rfl, fun i d o h1 _ => by simp at h1, r, by simpa using fd⟩
  | d :: ds, i0, acc, M, h, F, r, fd, hs => by
    obtain ⟨g1, eb, q⟩ := hs 0 d rfl M (Int.le_refl _) (by simp)
    obtain ⟨h1, eb1, r1⟩ := rel_bind p d _ _ g1 (rel_wipe r hf) eb
    obtain ⟨t, g2, h2, F2, M2, ec, r2, f2, qt, qf⟩ := cw_run q r1 fd
    have step : ∀ (acc' : List D) (h3 : Sg) (F3 : List D) (o : Option U), Rel X g F3 h3 → X.Fd (M + k) F3 → R i0 d o → acc' = acc ++ ([o].filterMap id).map f → compGo (bindP p) (cFn X c) (evE X.C X.G el) own (d :: ds) acc h = compGo (bindP p) (cFn X c) (evE X.C X.G el) own ds acc' h3 →
        ∃ (os : List (Option U)) (h' : Sg) (F' : List D), compGo (bindP p) (cFn X c) (evE X.C X.G el) own (d :: ds) acc h = some (acc ++ (os.filterMap id).map f, h') ∧ os.length = (d :: ds).length ∧ (∀ (i : Nat) d' o, (d :: ds)[i]? = some d' → os[i]? = some o → R (i0 + i) d' o) ∧ Rel X g F' h' ∧ X.Fd (M + k * ((d :: ds).length : Int)) F' := fun acc' h3 F3 o r3 f3 hR ea eg => by
      obtain ⟨os, h', F', e4, l4, R4, r4, f4⟩ := comp_goG hk hf ds (i0 + 1) acc' (M + k) h3 F3 r3 f3 fun i d' hi M' m1 m2 => by
        have := hs (i + 1) d' (by simpa using hi) M' (by omega) (by
          have : k * ((i + 1 : Nat) : Int) = k * (i : Int) + k := by rw [Int.natCast_add, Int.mul_add]; simp
          omega)
        rw [show i0 + (i + 1) = i0 + 1 + i by omega] at this
        exact this
      refine ⟨o :: os, h', F', ?_, by rw [List.length_cons, List.length_cons, l4], fun i d' o' h1 h2 => ?_, r4, ?_⟩
      · rw [eg, e4, ea]
        cases o <;> simp
      · cases i with
        | zero =>
          simp only [List.getElem?_cons_zero, Option.some.injEq] at h1 h2
          subst h1 h2
          exact hR
        | succ i =>
          simp only [List.getElem?_cons_succ] at h1 h2
          rw [show i0 + (i + 1) = i0 + 1 + i by omega]
          exact R4 i d' o' h1 h2
      · have : M + k * ((d :: ds).length : Int) = M + k + k * (ds.length : Int) := by
          rw [List.length_cons, Int.natCast_add, Int.mul_add]
          simp
          omega
        rw [this]
        exact f4
    cases t with
    | true =>
      obtain ⟨v, g3, h3, F3, M3, ee, r3, f3, u, ep, hR, hm, hb⟩ := (qt rfl).run h2 F2 r2 f2
      have r4 := rel_back r r3 hf
      rw [hb] at r4
      exact step (acc ++ [f u]) _ F3 (some u) r4 (X.mono _ _ _ f3 hm) (by simpa using hR) (by simp) (comp_go eb1 ec ee ep)
    | false =>
      obtain ⟨hR, hm, hb⟩ := qf rfl
      have r4 := rel_back r r2 hf
      rw [hb] at r4
      exact step acc _ F2 none r4 (X.mono _ _ _ f2 hm) (by simpa using hR) (by simp) (comp_no eb1 ec)
/-- the general rule -/
theorem comp_gen {Q : Rv → Sg → Int → Prop} {ds : List D} {U : Type} (f : U → D) (R : Nat → D → Option U → Prop) (k : Int) (hk : 0 ≤ k) (hN : ds.length ≤ 1000000)
    (hs : ∀ (i : Nat) d, ds[i]? = some d → ∀ M', M ≤ M' → M' ≤ M + k * (i : Int) → BindQ p d (wipeG g own) fun g1 => CW X c g1 M' fun t g2 M2 => (t = true → WE X el g2 M2 fun r g3 M3 => ∃ u, r.pure? = some (f u) ∧ R i d (some u) ∧ M3 ≤ M' + k ∧ backG g g3 own = g) ∧ (t = false → R i d none ∧ M2 ≤ M' + k ∧ backG g g2 own = g))
    (hq : ∀ os : List (Option U), os.length = ds.length → (∀ (i : Nat) d o, ds[i]? = some d → os[i]? = some o → R i d o) → Q (.new (.list ((os.filterMap id).map f))) g (M + k * (ds.length : Int))) : CompQ X el p c own ds g M Q := CompQ.mk fun hf h F r fd => by
  obtain ⟨os, h', F', e, l, hR, r', f'⟩ := comp_goG (c := c) (el := el) (f := f) (R := R) hk hf ds 0 [] M h F r fd (by simpa using hs)
  refine ⟨_, h', F', _, e, ?_, r', f', ?_⟩
  · rw [List.nil_append, List.length_map]
    exact Nat.le_trans (List.length_filterMap_le _ _) (by rw [l]; exact hN)
  · rw [List.nil_append]
    exact hq os l (by simpa using hR)
/-- each turn lays a value -/
theorem comp_each {Q : Rv → Sg → Int → Prop} {ds : List D} {U : Type} (f : U → D) (R : Nat → D → U → Prop) (k : Int) (hk : 0 ≤ k) (hN : ds.length ≤ 1000000)
    (hs : ∀ (i : Nat) d, ds[i]? = some d → ∀ M', M ≤ M' → M' ≤ M + k * (i : Int) → BindQ p d (wipeG g own) fun g1 => WE X el g1 M' fun r g3 M3 => ∃ u, r.pure? = some (f u) ∧ R i d u ∧ M3 ≤ M' + k ∧ backG g g3 own = g)
    (hq : ∀ us : List U, us.length = ds.length → (∀ (i : Nat) d u, ds[i]? = some d → us[i]? = some u → R i d u) → Q (.new (.list (us.map f))) g (M + k * (ds.length : Int))) : CompQ X el p none own ds g M Q := by
  refine comp_gen f (fun i d o => ∃ u, o = some u ∧ R i d u) k hk hN (fun i d hi M' m1 m2 => ?_) fun os l hR => ?_
  · obtain ⟨g1, e1, q⟩ := hs i d hi M' m1 m2
    refine ⟨g1, e1, fun _ => we_mono q fun r g3 M3 ⟨u, a1, a2, a3, a4⟩ => ⟨u, a1, ⟨u, rfl, a2⟩, a3, a4⟩, fun z => nomatch z⟩
  · have : ∃ us : List U, os = us.map some := by
      refine ⟨os.filterMap id, ?_⟩
      have key : ∀ o ∈ os, ∃ u, o = some u := fun o ho => by
        obtain ⟨i, hi⟩ := List.getElem?_of_mem ho
        have hl : i < ds.length := by
          rw [← l]
          exact (List.getElem?_eq_some_iff.mp hi).1
        obtain ⟨u, hu, _⟩ := hR i _ o (List.getElem?_eq_getElem hl) hi
        exact ⟨u, hu⟩
      clear hR l
      induction os with
      | nil => rfl
      | cons o os ih =>
        obtain ⟨u, rfl⟩ := key o List.mem_cons_self
        rw [show List.filterMap id (some u :: os) = u :: List.filterMap id os from rfl, List.map_cons, ← ih fun o ho => key o (List.mem_cons_of_mem _ ho)]
    obtain ⟨us, rfl⟩ := this
    have e : (us.map some).filterMap id = us := by
      rw [List.filterMap_map]
      exact List.filterMap_some
    rw [e]
    refine hq us (by simpa using l) fun i d u h1 h2 => ?_
    obtain ⟨u', e', hr⟩ := hR i d (some u) h1 (by rw [List.getElem?_map, h2]; rfl)
    cases e'
    exact hr
/-- a value of each by a function, nothing drawn -/
theorem comp_fn {Q : Rv → Sg → Int → Prop} {ds : List D} (φ : D → D) (hN : ds.length ≤ 1000000)
    (hs : ∀ (i : Nat) d, ds[i]? = some d → BindQ p d (wipeG g own) fun g1 => WE X el g1 M fun r g3 M3 => r.pure? = some (φ d) ∧ M3 ≤ M ∧ backG g g3 own = g)
    (hq : Q (.new (.list (ds.map φ))) g M) : CompQ X el p none own ds g M Q := by
  refine comp_each (fun d : D => d) (fun _ d u => u = φ d) 0 (Int.le_refl _) hN (fun i d hi M' m1 m2 => ?_) fun us l hR => ?_
  · obtain ⟨g1, e1, q⟩ := hs i d hi
    have hM : M' = M := by omega
    subst hM
    exact ⟨g1, e1, we_mono q fun r g3 M3 ⟨a1, a2, a3⟩ => ⟨_, a1, rfl, by omega, a3⟩⟩
  · have : us.map (fun d : D => d) = ds.map φ := by
      rw [List.map_id']
      refine List.ext_getElem? fun i => ?_
      rw [List.getElem?_map]
      by_cases hi : i < ds.length
      · have h1 : ds[i]? = some ds[i] := List.getElem?_eq_getElem hi
        have h2 : us[i]? = some us[i] := List.getElem?_eq_getElem (by omega)
        rw [h1, h2, hR i _ _ h1 h2]
        rfl
      · rw [List.getElem?_eq_none (by omega), List.getElem?_eq_none (by omega)]
        rfl
    rw [this]
    simpa using hq
end
def RelO (X : Cx) (o : Out) (F : List D) (o' : Out) : Prop := match o, o' with
  | .nx g, .nx h => Rel X g F h
  | .bk g, .bk h => Rel X g F h
  | .ct g, .ct h => Rel X g F h
  | .rt r g, .rt r' h => r = r' ∧ Rel X g F h
  | _, _ => False
structure WS (X : Cx) (ss : List S) (g : Sg) (M : Int) (P : Out → Int → Prop) : Prop where
  run : ∀ h F, Rel X g F h → X.Fd M F → ∃ o o' F' M', evSs X.C X.G X.W ss h = some o' ∧ RelO X o F' o' ∧ X.Fd M' F' ∧ P o M'
structure W1 (X : Cx) (s : S) (g : Sg) (M : Int) (P : Out → Int → Prop) : Prop where
  run : ∀ h F, Rel X g F h → X.Fd M F → ∃ o o' F' M', evS X.C X.G X.W s h = some o' ∧ RelO X o F' o' ∧ X.Fd M' F' ∧ P o M'
structure ForQ (X : Cx) (p : Pat) (b : List S) (ds : List D) (g : Sg) (M : Int) (P : Out → Int → Prop) : Prop where
  run : ∀ h F, Rel X g F h → X.Fd M F → ∃ o o' F' M', forGo (bindP p) (evSs X.C X.G X.W b) ds h = some o' ∧ RelO X o F' o' ∧ X.Fd M' F' ∧ P o M'
structure Nx (K : Sg → Int → Prop) (P : Out → Int → Prop) (o : Out) (M : Int) : Prop where
  out : match o with
      | .nx g => K g M
      | o => P o M
def ownT (g : Sg) (i : Nat) : Option (Md × List D) := match g[i]? with
  | some (some (.own, .list xs)) => some (.own, xs)
  | some (some (.bor, .list xs)) => some (.bor, xs)
  | _ => none
/-- a list in a slot is changed -/
inductive ChQ (g : Sg) (i : Nat) (f : List D → Option D) (k : Sg → Prop) : Prop where
  | mk (m : Md) (xs z : List D) (e : ownT g i = some (m, xs)) (e2 : f xs = some (.list z)) (q : k (g.set i (some (m, .list z))))
/-- less is known -/
def Wk (X : Cx) (g g0 : Sg) : Prop := ∀ F h, Rel X g F h → Rel X g0 F h
section
variable {X : Cx} {g g0 : Sg} {M : Int} {P : Out → Int → Prop} {s : S} {ss a b : List S} {e c ix it : E} {i : Nat} {p : Pat} {d : D} {K : Sg → Int → Prop}
theorem ws_nil (q : P (.nx g) M) : WS X [] g M P := WS.mk fun h F r f => ⟨.nx g, .nx h, F, M, rfl, r, f, q⟩
theorem ws_cons (q : W1 X s g M (Nx (fun g1 M1 => WS X ss g1 M1 P) P)) : WS X (s :: ss) g M P := WS.mk fun h F r f => by
  obtain ⟨o, o', F1, M1, e1, r1, f1, q1⟩ := q.run h F r f
  have go : evSs X.C X.G X.W (s :: ss) h = (match (generalizing := false) o' with
      | .nx g1 => evSs X.C X.G X.W ss g1
      | o => some o) := by
    show (evS X.C X.G X.W s h).bind _ = _
    rw [e1]
    rfl
  rw [go]
  match o, o', r1, q1 with
  | .nx g1, .nx h1, r1, q1 => exact (show WS X ss g1 M1 P from q1.out).run h1 F1 r1 f1
  | .bk g1, .bk h1, r1, q1 => exact ⟨.bk g1, _, F1, M1, rfl, r1, f1, q1.out⟩
  | .ct g1, .ct h1, r1, q1 => exact ⟨.ct g1, _, F1, M1, rfl, r1, f1, q1.out⟩
  | .rt v g1, .rt w h1, r1, q1 => exact ⟨.rt v g1, _, F1, M1, rfl, r1, f1, q1.out⟩
theorem w1_asg (q : WE X e g M fun r g1 M1 => PureQ r fun d => BindQ p d g1 fun g2 => P (.nx g2) M1) : W1 X (.asg p e) g M P := W1.mk fun h F r f => by
  obtain ⟨v, g1, h1, F1, M1, e1, r1, f1, d, ed, g2, eb, q1⟩ := q.run h F r f
  obtain ⟨h2, e2, r2⟩ := rel_bind p d _ _ g2 r1 eb
  exact ⟨.nx g2, .nx h2, F1, M1, evS_asg e1 ed e2, r2, f1, q1⟩
theorem w1_own (q : WE X e g M fun r g1 M1 => NewQ r fun d => OwnQ i d g1 fun g2 => P (.nx g2) M1) : W1 X (.own i e) g M P := W1.mk fun h F r f => by
  obtain ⟨v, g1, h1, F1, M1, e1, r1, f1, d, rfl, g2, eb, q1⟩ := q.run h F r f
  obtain ⟨h2, e2, r2⟩ := rel_setT (m := .own) r1 nofun eb
  exact ⟨.nx g2, .nx h2, F1, M1, evS_own e1 e2, r2, f1, q1⟩
theorem ownT_ok {h : Sg} {F : List D} {m : Md} {xs : List D} (r : Rel X g F h) (e : ownT g i = some (m, xs)) : X.j ≠ some i ∧ h[i]? = some (some (m, .list xs)) ∧ lstAt h i = some (m, .list xs) ∧ m ≠ .val := by
  unfold ownT at e
  split at e
  · rename_i ys hy
    cases e
    obtain ⟨a, b⟩ := rel_own r hy
    refine ⟨a, b, ?_, nofun⟩
    unfold lstAt ownAt
    rw [b]
  · rename_i ys hy
    cases e
    obtain ⟨a, b⟩ := rel_bor r hy
    refine ⟨a, b, ?_, nofun⟩
    unfold lstAt ownAt
    rw [b]
  · cases e
theorem w1_setI (h0 : (ownT g i).isSome = true) (q : WE X e g M fun r g1 M1 => PureQ r fun d => WE X ix g1 M1 fun r' g2 M2 => PureQ r' fun k => ChQ g2 i (fun xs => dSet (.list xs) k d) fun g3 => P (.nx g3) M2) : W1 X (.setI i ix e) g M P := W1.mk fun h F r f => by
  obtain ⟨⟨m0, xs0⟩, h00⟩ := Option.isSome_iff_exists.mp h0
  obtain ⟨_, _, o0, _⟩ := ownT_ok r h00
  obtain ⟨v, g1, h1, F1, M1, e1, r1, f1, d, ed, q1⟩ := q.run h F r f
  obtain ⟨w, g2, h2, F2, M2, e2, r2, f2, k, ek, m, xs, z, eo, es, q2⟩ := q1.run h1 F1 r1 f1
  obtain ⟨hj, _, o2, hm⟩ := ownT_ok r2 eo
  refine ⟨.nx (g2.set i (some (m, .list z))), .nx (h2.set i (some (m, .list z))), F2, M2, ?_, rel_set r2 hj nofun, f2, q2⟩
  show (lstAt h i).bind _ = _
  rw [o0]
  show (evE X.C X.G e h).bind _ = _
  rw [e1]
  show (v.pure?).bind _ = _
  rw [ed]
  show (evE X.C X.G ix h1).bind _ = _
  rw [e2]
  show (w.pure?).bind _ = _
  rw [ek]
  show (lstAt h2 i).bind _ = _
  rw [o2]
  show (dSet (.list xs) k d).map _ = _
  rw [show dSet (.list xs) k d = _ from es]
  rfl
inductive PopQ (g : Sg) (i : Nat) (y : D) (k : D → Sg → Prop) : Prop where
  | mk (m : Md) (xs : List D) (j : Int) (n : Nat) (d : D) (e : ownT g i = some (m, xs)) (ey : y = .int j) (hs : smallI j = true) (e2 : L2.ixN xs.length j = some n) (e3 : xs[n]? = some d) (q : k d (g.set i (some (m, .list (xs.eraseIdx n)))))
theorem we_pop {Q : Rv → Sg → Int → Prop} (h0 : (ownT g i).isSome = true) (q : WE X e g M fun ra g1 M1 => PureQ ra fun y => PopQ g1 i y fun d g3 => Q (.pur d) g3 M1) : WE X (.pop i e) g M Q := WE.mk fun h F r f => by
  obtain ⟨⟨m0, xs0⟩, h00⟩ := Option.isSome_iff_exists.mp h0
  obtain ⟨_, _, o0, _⟩ := ownT_ok r h00
  obtain ⟨v, g1, h1, F1, M1, e1, r1, f1, y, ey, m, xs, j, n, d, eo, rfl, hs, e2, e3, q1⟩ := q.run h F r f
  obtain ⟨hj, _, o2, hm⟩ := ownT_ok r1 eo
  refine ⟨.pur d, g1.set i (some (m, .list (xs.eraseIdx n))), h1.set i (some (m, .list (xs.eraseIdx n))), F1, M1, ?_, rel_set r1 hj nofun, f1, q1⟩
  rw [evE, o0, Option.bind_some, e1, Option.bind_some]
  show (v.pure?).bind _ = _
  rw [ey, Option.bind_some, o2, Option.bind_some]
  show (if smallI j then _ else _) = _
  rw [if_pos hs]
  show (L2.ixN xs.length j).bind _ = _
  rw [e2, Option.bind_some, e3]
  rfl
theorem w1_mut {mu : Mu} (h0 : (ownT g i).isSome = true) (q : WE X e g M fun r g1 M1 => PureQ r fun d => ChQ g1 i (fun xs => dMut mu (.list xs) d) fun g3 => P (.nx g3) M1) : W1 X (.mut mu i e) g M P := W1.mk fun h F r f => by
  obtain ⟨⟨m0, xs0⟩, h00⟩ := Option.isSome_iff_exists.mp h0
  obtain ⟨_, _, o0, _⟩ := ownT_ok r h00
  obtain ⟨v, g1, h1, F1, M1, e1, r1, f1, d, ed, m, xs, z, eo, es, q1⟩ := q.run h F r f
  obtain ⟨hj, _, o2, hm⟩ := ownT_ok r1 eo
  refine ⟨.nx (g1.set i (some (m, .list z))), .nx (h1.set i (some (m, .list z))), F1, M1, ?_, rel_set r1 hj nofun, f1, q1⟩
  show (lstAt h i).bind _ = _
  rw [o0]
  show (evE X.C X.G e h).bind _ = _
  rw [e1]
  show (v.pure?).bind _ = _
  rw [ed]
  show (lstAt h1 i).bind _ = _
  rw [o2]
  show (dMut mu (.list xs) d).map _ = _
  rw [show dMut mu (.list xs) d = _ from es]
  rfl
theorem mut_app {m : Md} {xs : List D} (eo : ownT g i = some (m, xs)) (hl : xs.length ≤ 1000000) (q : P (.nx (g.set i (some (m, .list (xs ++ [d]))))) M) : ChQ g i (fun xs => dMut .append (.list xs) d) fun g3 => P (.nx g3) M := by
  refine ⟨m, xs, _, eo, if_pos ?_, q⟩
  rw [sizeLine_eq]
  exact Nat.lt_of_le_of_lt hl (by decide)
theorem mut_extL {m : Md} {xs ys : List D} (eo : ownT g i = some (m, xs)) (hl : xs.length + ys.length ≤ 1000000) (q : P (.nx (g.set i (some (m, .list (xs ++ ys))))) M) : ChQ g i (fun xs => dMut .extend (.list xs) (.list ys)) fun g3 => P (.nx g3) M :=
  ⟨m, xs, _, eo, if_pos (le_line hl (by decide)), q⟩
theorem mut_extT {m : Md} {xs ys : List D} (eo : ownT g i = some (m, xs)) (hl : xs.length + ys.length ≤ 1000000) (q : P (.nx (g.set i (some (m, .list (xs ++ ys))))) M) : ChQ g i (fun xs => dMut .extend (.list xs) (.tuple ys)) fun g3 => P (.nx g3) M :=
  ⟨m, xs, _, eo, if_pos (le_line hl (by decide)), q⟩
theorem w1_aug {o : BOp} {x : D} (e0 : g[i]? = some (some (.val, x))) (q : WE X e g M fun r g1 M1 => PureQ r fun d => DtQ (dAug o x d) fun z => BindQ (.nm i) z g1 fun g2 => P (.nx g2) M1) : W1 X (.aug i o e) g M P := W1.mk fun h F r f => by
  obtain ⟨v, g1, h1, F1, M1, e1, r1, f1, d, ed, z, ez, g2, eb, q1⟩ := q.run h F r f
  obtain ⟨h2, e2, r2⟩ := rel_setT (m := .val) r1 nofun eb
  refine ⟨.nx g2, .nx h2, F1, M1, ?_, r2, f1, q1⟩
  show (match h[i]? with
    | some (some (.val, x)) => (evE X.C X.G e h).bind fun r => (r.1.pure?).bind fun d => (dAug o x d).bind fun z => (setV r.2 i .val z).map Out.nx
    | _ => none) = _
  rw [(rel_val r e0).2]
  simp only
  rw [e1, Option.bind_some]
  show (v.pure?).bind _ = _
  rw [ed, Option.bind_some, ez, Option.bind_some]
  show (setV h1 i .val z).map _ = _
  rw [e2]
  rfl
theorem w1_expr (q : WE X e g M fun r g1 M1 => P (.nx g1) M1) : W1 X (.expr e) g M P := W1.mk fun h F r f => by
  obtain ⟨v, g1, h1, F1, M1, e1, r1, f1, q1⟩ := q.run h F r f
  refine ⟨.nx g1, .nx h1, F1, M1, ?_, r1, f1, q1⟩
  show (evE X.C X.G e h).map _ = _
  rw [e1]
  rfl
theorem w1_ite (q : WE X c g M fun r g1 M1 => DatQ g1 r fun d => IfQ (dTru d) (WS X a g1 M1 P) (WS X b g1 M1 P)) : W1 X (.ite c a b) g M P := W1.mk fun h F r f => by
  obtain ⟨v, g1, h1, F1, M1, e1, r1, f1, d, ed, t, et, qt, qf⟩ := q.run h F r f
  have hT : evT X.C X.G c h = some (t, h1) := by
    show (evE X.C X.G c h).bind _ = _
    rw [e1]
    show (v.data h1).bind _ = _
    rw [dat_ok r1 ed]
    show (dTru d).map _ = _
    rw [et]
    rfl
  cases t with
  | true =>
    rw [if_t hT]
    exact (qt rfl).run h1 F1 r1 f1
  | false =>
    rw [if_f hT]
    exact (qf rfl).run h1 F1 r1 f1
theorem w1_ret (q : WE X e g M fun r g1 M1 => RetQ r (P (.rt r g1) M1)) : W1 X (.ret e) g M P := W1.mk fun h F r f => by
  obtain ⟨v, g1, h1, F1, M1, e1, r1, f1, hn, q1⟩ := q.run h F r f
  exact ⟨.rt v g1, .rt v h1, F1, M1, evS_ret e1 hn, ⟨rfl, r1⟩, f1, q1⟩
theorem w1_retN (q : P (.rt (.pur .none) g) M) : W1 X .retN g M P := W1.mk fun h F r f => ⟨.rt (.pur .none) g, .rt (.pur .none) h, F, M, rfl, ⟨rfl, r⟩, f, q⟩
theorem w1_brk (q : P (.bk g) M) : W1 X .brk g M P := W1.mk fun h F r f => ⟨.bk g, .bk h, F, M, rfl, r, f, q⟩
theorem w1_cont (q : P (.ct g) M) : W1 X .cont g M P := W1.mk fun h F r f => ⟨.ct g, .ct h, F, M, rfl, r, f, q⟩
theorem w1_pass (q : P (.nx g) M) : W1 X .pass g M P := W1.mk fun h F r f => ⟨.nx g, .nx h, F, M, rfl, r, f, q⟩
theorem w1_frzO (e0 : g[i]? = some (some (.own, d))) (q : P (.nx (g.set i (some (.val, d)))) M) : W1 X (.frz i) g M P := W1.mk fun h F r f => by
  obtain ⟨hj, e1⟩ := rel_own r e0
  refine ⟨.nx (g.set i (some (.val, d))), .nx (h.set i (some (.val, d))), F, M, ?_, rel_set r hj nofun, f, q⟩
  show (match h[i]? with
    | some (some (.own, d)) => some (Out.nx (h.set i (some (.val, d))))
    | some (some (.val, _)) => some (.nx h)
    | _ => none) = _
  rw [e1]
theorem w1_frzV (e0 : g[i]? = some (some (.val, d))) (q : P (.nx g) M) : W1 X (.frz i) g M P := W1.mk fun h F r f => by
  obtain ⟨hj, e1⟩ := rel_val r e0
  refine ⟨.nx g, .nx h, F, M, ?_, r, f, q⟩
  show (match h[i]? with
    | some (some (.own, d)) => some (Out.nx (h.set i (some (.val, d))))
    | some (some (.val, _)) => some (.nx h)
    | _ => none) = _
  rw [e1]
theorem w1_lckO {kvs : List (D × D)} (e0 : g[i]? = some (some (.own, .dict kvs))) (hn : isN kvs = false ∧ isL kvs = false) (q : P (.nx (g.set i (some (.val, tL kvs)))) M) : W1 X (.lck i) g M P := W1.mk fun h F r f => by
  obtain ⟨hj, e1⟩ := rel_own r e0
  refine ⟨.nx (g.set i (some (.val, tL kvs))), .nx (h.set i (some (.val, tL kvs))), F, M, ?_, rel_set r hj nofun, f, q⟩
  rw [evS, e1]
  exact if_pos hn
theorem w1_lckV {kvs : List (D × D)} (e0 : g[i]? = some (some (.val, .dict kvs))) (hl : isL kvs = true) (q : P (.nx g) M) : W1 X (.lck i) g M P := W1.mk fun h F r f => by
  obtain ⟨hj, e1⟩ := rel_val r e0
  refine ⟨.nx g, .nx h, F, M, ?_, r, f, q⟩
  rw [evS, e1]
  exact if_pos hl
theorem w1_for (q : WI X it g M fun ds g1 M1 => ForQ X p b ds g1 M1 P) : W1 X (.for_ p it b) g M P := W1.mk fun h F r f => by
  obtain ⟨ds, g1, h1, F1, M1, e1, r1, f1, q1⟩ := q.run h F r f
  rw [evS_for e1]
  exact q1.run h1 F1 r1 f1
/-- how a turn ends -/
structure Turn (I : Sg → Int → Prop) (P : Out → Int → Prop) (o : Out) (M : Int) : Prop where
  out : match o with
      | .nx g => I g M
      | .ct g => I g M
      | .bk g => P (.nx g) M
      | .rt r g => P (.rt r g) M
theorem for_inv' (I : Nat → Sg → Int → Prop) : ∀ (ds : List D) (i0 : Nat) (g : Sg) (M : Int), I i0 g M →
    (∀ (i : Nat) d, ds[i]? = some d → ∀ g' M', I (i0 + i) g' M' → BindQ p d g' fun g1 => WS X b g1 M' (Turn (fun g2 M2 => ∃ g3, Wk X g2 g3 ∧ I (i0 + i + 1) g3 M2) P)) →
    (∀ g' M', I (i0 + ds.length) g' M' → P (.nx g') M') → ForQ X p b ds g M P
  | [], i0, g, M, h0, _, hd => ForQ.mk fun h F r f => ⟨.nx g, .nx h, F, M, rfl, r, f, hd g M h0⟩
  | d :: ds, i0, g, M, h0, hs, hd => ForQ.mk fun h F r f => by
    obtain ⟨g1, e1, q⟩ := hs 0 d rfl g M h0
    obtain ⟨h1, e2, r1⟩ := rel_bind p d _ _ g1 r e1
    obtain ⟨o, o', F1, M1, e3, r3, f3, q3⟩ := q.run h1 F r1 f
    have nxt : ∀ {g2 g3 : Sg} {h2 : Sg}, Rel X g2 F1 h2 → Wk X g2 g3 → I (i0 + 0 + 1) g3 M1 → ∃ o o' F' M', forGo (bindP p) (evSs X.C X.G X.W b) ds h2 = some o' ∧ RelO X o F' o' ∧ X.Fd M' F' ∧ P o M' := fun {g2 g3 h2} r2 hw hi =>
      for_inv' I ds (i0 + 1) g3 M1 hi (fun i d' hd' g' M' hi' => by
        have := hs (i + 1) d' (by simpa using hd') g' M' (by rw [show i0 + (i + 1) = i0 + 1 + i by omega]; exact hi')
        rw [show i0 + (i + 1) + 1 = i0 + 1 + i + 1 by omega] at this
        exact this) (fun g' M' hi' => hd g' M' (by rw [List.length_cons, show i0 + (ds.length + 1) = i0 + 1 + ds.length by omega]; exact hi')) |>.run h2 F1 (hw F1 h2 r2) f3
    match o, o', r3, q3, e3 with
    | .nx g2, .nx h2, r3, ⟨⟨g3, hw, hi⟩⟩, e3 =>
      obtain ⟨o, o', F', M', e4, e5⟩ := nxt r3 hw hi
      exact ⟨o, o', F', M', by rw [for_go e2 e3]; exact e4, e5⟩
    | .ct g2, .ct h2, r3, ⟨⟨g3, hw, hi⟩⟩, e3 =>
      obtain ⟨o, o', F', M', e4, e5⟩ := nxt r3 hw hi
      exact ⟨o, o', F', M', by rw [for_ct e2 e3]; exact e4, e5⟩
    | .bk g2, .bk h2, r3, q3, e3 =>
      refine ⟨.nx g2, .nx h2, F1, M1, ?_, r3, f3, q3.out⟩
      show (bindP p d h).bind _ = _
      rw [e2]
      show (evSs X.C X.G X.W b h1).bind _ = _
      rw [e3]
      rfl
    | .rt v g2, .rt w h2, r3, q3, e3 =>
      exact ⟨.rt v g2, .rt w h2, F1, M1, for_rt e2 e3, r3, f3, q3.out⟩
theorem for_inv (I : Nat → Sg → Int → Prop) {ds : List D} (h0 : I 0 g M)
    (hs : ∀ (i : Nat) d, ds[i]? = some d → ∀ g' M', I i g' M' → BindQ p d g' fun g1 => WS X b g1 M' (Turn (fun g2 M2 => ∃ g3, Wk X g2 g3 ∧ I (i + 1) g3 M2) P))
    (hd : ∀ g' M', I ds.length g' M' → P (.nx g') M') : ForQ X p b ds g M P :=
  for_inv' I ds 0 g M h0 (by simpa using hs) (by simpa using hd)
theorem while_inv' (I : Nat → Sg → Int → Prop) : ∀ (n k : Nat) (g : Sg) (M : Int), k < n → I k g M →
    (∀ k g' M', I k g' M' → WE X c g' M' fun r g1 M1 => DatQ g1 r fun d => IfQ (dTru d) (∃ k', k' < k ∧ WS X b g1 M1 (Turn (fun g2 M2 => ∃ g3, Wk X g2 g3 ∧ I k' g3 M2) P)) (P (.nx g1) M1)) →
    ∀ h F, Rel X g F h → X.Fd M F → ∃ o o' F' M', whileGo (evT X.C X.G c) (evSs X.C X.G X.W b) n h = some o' ∧ RelO X o F' o' ∧ X.Fd M' F' ∧ P o M'
  | 0, k, _, _, hk, _, _ => absurd hk (Nat.not_lt_zero _)
  | n + 1, k, g, M, hk, h0, hs => fun h F r f => by
    obtain ⟨v, g1, h1, F1, M1, e1, r1, f1, d, ed, t, et, qt, qf⟩ := (hs k g M h0).run h F r f
    have hT : evT X.C X.G c h = some (t, h1) := by
      show (evE X.C X.G c h).bind _ = _
      rw [e1]
      show (v.data h1).bind _ = _
      rw [dat_ok r1 ed]
      show (dTru d).map _ = _
      rw [et]
      rfl
    cases t with
    | false => exact ⟨.nx g1, .nx h1, F1, M1, while_stop hT, r1, f1, qf rfl⟩
    | true =>
      obtain ⟨k', hk', q⟩ := qt rfl
      obtain ⟨o, o', F2, M2, e3, r3, f3, q3⟩ := q.run h1 F1 r1 f1
      have go : whileGo (evT X.C X.G c) (evSs X.C X.G X.W b) (n + 1) h = (match (generalizing := false) o' with
          | .nx g2 => whileGo (evT X.C X.G c) (evSs X.C X.G X.W b) n g2
          | .ct g2 => whileGo (evT X.C X.G c) (evSs X.C X.G X.W b) n g2
          | .bk g2 => some (.nx g2)
          | .rt r g2 => some (.rt r g2)) := by
        show (evT X.C X.G c h).bind _ = _
        rw [hT]
        show (evSs X.C X.G X.W b h1).bind _ = _
        rw [e3]
        rfl
      rw [go]
      match o, o', r3, q3 with
      | .nx g2, .nx h2, r3, ⟨⟨g3, hw, hi⟩⟩ => exact while_inv' I n k' g3 M2 (by omega) hi hs h2 F2 (hw F2 h2 r3) f3
      | .ct g2, .ct h2, r3, ⟨⟨g3, hw, hi⟩⟩ => exact while_inv' I n k' g3 M2 (by omega) hi hs h2 F2 (hw F2 h2 r3) f3
      | .bk g2, .bk h2, r3, q3 => exact ⟨.nx g2, .nx h2, F2, M2, rfl, r3, f3, q3.out⟩
      | .rt v g2, .rt w h2, r3, q3 => exact ⟨.rt v g2, .rt w h2, F2, M2, rfl, r3, f3, q3.out⟩
theorem w1_while (I : Nat → Sg → Int → Prop) {k : Nat} (hk : k < X.W) (h0 : I k g M)
    (hs : ∀ k g' M', I k g' M' → WE X c g' M' fun r g1 M1 => DatQ g1 r fun d => IfQ (dTru d) (∃ k', k' < k ∧ WS X b g1 M1 (Turn (fun g2 M2 => ∃ g3, Wk X g2 g3 ∧ I k' g3 M2) P)) (P (.nx g1) M1)) : W1 X (.while_ c b) g M P := W1.mk fun h F r f => by
  rw [evS_while]
  exact while_inv' I X.W k g M hk h0 hs h F r f
theorem Wk.trans {g1 g2 : Sg} (h : Wk X g g1) (h2 : Wk X g1 g2) : Wk X g g2 := fun F x r => h2 F x (h F x r)
/-- slot by slot: the same, or forgotten -/
inductive WkL : Sg → Sg → Prop where
  | nil : WkL [] []
  | same {s : Slot} {g g0 : Sg} : WkL g g0 → WkL (s :: g) (s :: g0)
  | non {d : D} {g g0 : Sg} : WkL g g0 → WkL (some (.val, d) :: g) (none :: g0)
  | any {s : Slot} {g g0 : Sg} : setOk s = true → WkL g g0 → WkL (s :: g) (anyS :: g0)
theorem wkl_at {s0 : Slot} : ∀ {g g0 : Sg} {i : Nat}, WkL g g0 → g0[i]? = some s0 → ∃ s, g[i]? = some s ∧ (s = s0 ∨ (s0 = none ∧ ∃ d, s = some (.val, d)) ∨ (s0 = anyS ∧ setOk s = true))
  | _, _, i, .nil, e => by simp at e
  | _, _, 0, .same h, e => by
    cases e
    exact ⟨_, rfl, .inl rfl⟩
  | _, _, 0, .non h, e => by
    cases e
    exact ⟨_, rfl, .inr (.inl ⟨rfl, _, rfl⟩)⟩
  | _, _, 0, .any hs h, e => by
    cases e
    exact ⟨_, rfl, .inr (.inr ⟨rfl, hs⟩)⟩
  | _, _, i + 1, .same h, e => wkl_at (i := i) h e
  | _, _, i + 1, .non h, e => wkl_at (i := i) h e
  | _, _, i + 1, .any hs h, e => wkl_at (i := i) h e
theorem wkl_len : ∀ {g g0 : Sg}, WkL g g0 → g.length = g0.length
  | _, _, .nil => rfl
  | _, _, .same h => congrArg (· + 1) (wkl_len h)
  | _, _, .non h => congrArg (· + 1) (wkl_len h)
  | _, _, .any _ h => congrArg (· + 1) (wkl_len h)
theorem wk_of (h : WkL g g0) : Wk X g g0 := fun F x r => by
  refine ⟨by rw [← wkl_len h]; exact r.len, fun j hj => by rw [← wkl_len h]; exact r.hj j hj, fun i s0 e => ?_⟩
  obtain ⟨s, e1, e2⟩ := wkl_at h e
  obtain ⟨t, e3, e4⟩ := r.at_ i s e1
  rcases e2 with rfl | ⟨rfl, d, rfl⟩ | ⟨rfl, hs⟩
  · exact ⟨t, e3, e4⟩
  · obtain ⟨a, b⟩ := rel_val r e1
    rw [b] at e3
    cases e3
    refine ⟨_, b, ?_⟩
    unfold Sl
    rw [if_neg a]
    intro m d' z
    cases z
    rfl
  · obtain ⟨a, t', e5, e6⟩ := rel_setOk r e1 hs
    refine ⟨t', e5, ?_⟩
    unfold Sl
    rw [if_neg a]
    exact e6
end
theorem forq_nil {X : Cx} {p : Pat} {b : List S} {g : Sg} {M : Int} {P : Out → Int → Prop} (q : P (.nx g) M) : ForQ X p b [] g M P := ForQ.mk fun h F r f => ⟨.nx g, .nx h, F, M, rfl, r, f, q⟩
theorem forq_cons {X : Cx} {p : Pat} {b : List S} {d : D} {ds : List D} {g : Sg} {M : Int} {P : Out → Int → Prop} (q : BindQ p d g fun g1 => WS X b g1 M (Turn (fun g2 M2 => ForQ X p b ds g2 M2 P) P)) : ForQ X p b (d :: ds) g M P := ForQ.mk fun h F r f => by
  obtain ⟨g1, e1, q⟩ := q
  obtain ⟨h1, e2, r1⟩ := rel_bind p d _ _ g1 r e1
  obtain ⟨o, o', F1, M1, e3, r3, f3, q3⟩ := q.run h1 F r1 f
  match o, o', r3, q3, e3 with
  | .nx g2, .nx h2, r3, q3, e3 =>
    obtain ⟨o, o', F', M', e4, e5⟩ := (show ForQ X p b ds g2 M1 P from q3.out).run h2 F1 r3 f3
    exact ⟨o, o', F', M', by rw [for_go e2 e3]; exact e4, e5⟩
  | .ct g2, .ct h2, r3, q3, e3 =>
    obtain ⟨o, o', F', M', e4, e5⟩ := (show ForQ X p b ds g2 M1 P from q3.out).run h2 F1 r3 f3
    exact ⟨o, o', F', M', by rw [for_ct e2 e3]; exact e4, e5⟩
  | .bk g2, .bk h2, r3, q3, e3 =>
    refine ⟨.nx g2, .nx h2, F1, M1, ?_, r3, f3, q3.out⟩
    show (bindP p d h).bind _ = _
    rw [e2]
    show (evSs X.C X.G X.W b h1).bind _ = _
    rw [e3]
    rfl
  | .rt v g2, .rt w h2, r3, q3, e3 => exact ⟨.rt v g2, .rt w h2, F1, M1, for_rt e2 e3, r3, f3, q3.out⟩
structure endK (K : Rv → Int → Prop) (o : Out) (M : Int) : Prop where
  out : match o with
      | .nx _ => K (.pur .none) M
      | .rt r _ => K r M
      | _ => False
section
variable {W n : Nat} {G : Nat → Option D} {T : List FD} {f : Nat} {d : FD} {ds : List D}
abbrev cxP (C : Fn) (G : Nat → Option D) (W : Nat) : Cx := ⟨C, G, W, fun _ _ => True, none, .bor, fun _ _ _ h _ => h, nofun⟩
abbrev cxF (C : Fn) (G : Nat → Option D) (W : Nat) (Fd : Int → List D → Prop) (mono : ∀ M N F, Fd M F → M ≤ N → Fd N F) : Cx := ⟨C, G, W, Fd, some 0, .bor, mono, nofun⟩
theorem left_vals {h : Sg} : ∀ {ds : List D} {i : Nat}, leftOf h i (vals ds) = some (vals ds)
  | [], _ => rfl
  | d :: ds, i => by
    show (leftOf h (i + 1) (vals ds)).map _ = _
    rw [left_vals]
    rfl
def slots (ds : List D) (k : Nat) : Sg := (ds.map fun d => (some (Md.val, d) : Slot)) ++ List.replicate k none
theorem vals_len : (vals ds).length = ds.length := by unfold vals; rw [List.length_map]
theorem start_vals {k : Nat} : startG k (vals ds) = slots ds (k - ds.length) := by
  unfold startG slots vals
  rw [List.map_map, List.length_map]
  rfl
theorem pc_fn {K : Rv → Prop} (hd : T[f]? = some d) (hm : (modesOk d.pm (vals ds) && decide (ds.length ≤ d.n)) = true) {g0 : Sg} {b0 : List S} (hg : slots ds (d.n - ds.length) = g0) (hb : d.body = b0) (q : WS (cxP (callN W G T n) G W) b0 g0 0 (endK fun r _ => K r)) : PCall (callN W G T (n + 1)) f ds K := by
  subst hg hb
  have r0 : Rel (cxP (callN W G T n) G W) (slots ds (d.n - ds.length)) [] (slots ds (d.n - ds.length)) := ⟨rfl, nofun, fun i s e => ⟨s, e, sl_self nofun fun b z => by
    subst z
    have := List.mem_of_getElem? e
    unfold slots at this
    rcases List.mem_append.mp this with h | h
    · obtain ⟨x, _, hx⟩ := List.mem_map.mp h
      cases hx
    · have := (List.mem_replicate.mp h).2
      cases this⟩⟩
  obtain ⟨o, o', F', M', e1, e2, _, e3⟩ := q.run _ [] r0 trivial
  have run : ∀ {r : Rv}, endF (vals ds) o' = some (r, vals ds) → K r → PCall (callN W G T (n + 1)) f ds K := fun {r} he hK =>
    ⟨r, callN_of hd (by rw [vals_len]; exact hm) (by rw [start_vals]; exact e1) he, hK⟩
  match o, o', e2, e3 with
  | .nx g, .nx h, _, e3 =>
    refine run (r := .pur .none) ?_ e3.out
    show (leftOf h 0 (vals ds)).map _ = _
    rw [left_vals]
    rfl
  | .rt r g, .rt r' h, e2, e3 =>
    obtain ⟨rfl, _⟩ := e2
    refine run (r := r) ?_ e3.out
    show (leftOf h 0 (vals ds)).map _ = _
    rw [left_vals]
    rfl
  | .bk _, _, _, e3 => exact e3.out.elim
  | .ct _, _, _, e3 => exact e3.out.elim
theorem fc_fn {Fd : Int → List D → Prop} {mono : ∀ M N F, Fd M F → M ≤ N → Fd N F} {M : Int} {K : Rv → Int → Prop} (hd : T[f]? = some d) (hm : ∀ F : List D, (modesOk d.pm ((.bor, unF F) :: vals ds) && decide (ds.length + 1 ≤ d.n)) = true) {g0 : Sg} {b0 : List S} (hg : hole :: slots ds (d.n - (ds.length + 1)) = g0) (hb : d.body = b0) (q : WS (cxF (callN W G T n) G W Fd mono) b0 g0 M (endK K)) : FCall (callN W G T (n + 1)) Fd f ds M K := FCall.mk fun F hF => by
  subst hg hb
  have es : startG d.n ((.bor, unF F) :: vals ds) = some (.bor, unF F) :: slots ds (d.n - (ds.length + 1)) := by
    unfold startG slots vals
    rw [List.map_cons, List.map_map, List.length_cons, List.length_map]
    rfl
  have r0 : Rel (cxF (callN W G T n) G W Fd mono) (hole :: slots ds (d.n - (ds.length + 1))) F (some (.bor, unF F) :: slots ds (d.n - (ds.length + 1))) := by
    refine ⟨rfl, fun j hj => by cases hj; exact Nat.succ_pos _, fun i s e => ?_⟩
    cases i with
    | zero =>
      cases e
      exact ⟨_, rfl, by unfold Sl; rw [if_pos rfl]; exact ⟨rfl, rfl⟩⟩
    | succ i =>
      have e' : (slots ds (d.n - (ds.length + 1)))[i]? = some s := by simpa using e
      refine ⟨s, by simpa using e', sl_self (fun z => ?_) fun b z => ?_⟩
      · cases z
      · subst z
        have := List.mem_of_getElem? e'
        unfold slots at this
        rcases List.mem_append.mp this with h | h
        · obtain ⟨x, _, hx⟩ := List.mem_map.mp h
          cases hx
        · have := (List.mem_replicate.mp h).2
          cases this
  obtain ⟨o, o', F', M', e1, e2, f', e3⟩ := q.run _ F r0 hF
  have left : ∀ {g h : Sg}, Rel (cxF (callN W G T n) G W Fd mono) g F' h → leftOf h 0 ((.bor, unF F) :: vals ds) = some ((.bor, unF F') :: vals ds) := fun {g h} r => by
    have h0 := rel_hole (i := 0) r rfl (List.getElem?_eq_getElem (r.hj 0 rfl))
    show (match h[0]? with
      | some (some (.bor, d)) => (leftOf h 1 (vals ds)).map ((Md.bor, d) :: ·)
      | _ => none) = _
    rw [h0]
    show (leftOf h 1 (vals ds)).map _ = _
    rw [left_vals]
    rfl
  match o, o', e2, e3 with
  | .nx g, .nx h, e2, e3 =>
    refine ⟨.pur .none, F', M', callN_of hd (by simpa [vals_len] using hm F) (by rw [es]; exact e1) ?_, f', e3.out⟩
    show (leftOf h 0 ((.bor, unF F) :: vals ds)).map _ = _
    rw [left e2]
    rfl
  | .rt r g, .rt r' h, e2, e3 =>
    obtain ⟨rfl, e2⟩ := e2
    refine ⟨r, F', M', callN_of hd (by simpa [vals_len] using hm F) (by rw [es]; exact e1) ?_, f', e3.out⟩
    show (leftOf h 0 ((.bor, unF F) :: vals ds)).map _ = _
    rw [left e2]
    rfl
  | .bk _, _, _, e3 => exact e3.out.elim
  | .ct _, _, _, e3 => exact e3.out.elim
/-- a feed that begins: its slot is the hole from here on -/
theorem ws_feed {X : Cx} {Fd : Int → List D → Prop} {mono : ∀ M N F, Fd M F → M ≤ N → Fd N F} {i : Nat} {es : List E} {ss : List S} {g : Sg} {M : Int} {P : Out → Int → Prop} (hj : X.j = none)
    (q : WAs X es g M fun rs g1 M1 => ∃ ds F0 s, purs rs = some ds ∧ X.C f (vals ds) = some (.new (unF F0), vals ds) ∧ Fd 0 F0 ∧ g1[i]? = some s ∧ setOk s = true ∧ WS ⟨X.C, X.G, X.W, Fd, some i, .own, mono, nofun⟩ ss (g1.set i hole) 0 fun o _ => P (match o with
      | .nx g => .nx (g.set i anyS)
      | .bk g => .bk (g.set i anyS)
      | .ct g => .ct (g.set i anyS)
      | .rt r g => .rt r (g.set i anyS)) M1) : WS X (.own i (.call f es) :: ss) g M P := WS.mk fun h F r fd => by
  obtain ⟨rs, g1, h1, F1, M1, e1, r1, f1, ds, F0, s, hp, hc, hF, hs, hso, q1⟩ := q.run h F r fd
  obtain ⟨a1, a2, a3⟩ := purs_args (h := h1) hp
  have e2 : evE X.C X.G (.call f es) h = some (.new (unF F0), h1) := by
    have := evE_cal (f := f) e1 a1 (by rw [a2]; exact List.nodup_nil) hc
    rw [a3] at this
    exact this
  obtain ⟨_, t, e3, e4⟩ := rel_setOk r1 hs hso
  have e5 : setV h1 i .own (unF F0) = some (h1.set i (some (.own, unF F0))) := by
    unfold setV
    rw [e3]
    show (if isBor t then none else _) = _
    rw [e4]
    rfl
  have hil : i < g1.length := (List.getElem?_eq_some_iff.mp hs).1
  have rX : Rel ⟨X.C, X.G, X.W, Fd, some i, .own, mono, nofun⟩ (g1.set i hole) F0 (h1.set i (some (.own, unF F0))) := by
    refine ⟨by rw [List.length_set, List.length_set, r1.len], fun j hj' => by cases hj'; rw [List.length_set]; exact hil, fun k u e => ?_⟩
    by_cases hk : i = k
    · subst hk
      rw [List.getElem?_set_self hil] at e
      cases e
      exact ⟨_, List.getElem?_set_self (by rw [← r1.len]; exact hil), by unfold Sl; rw [if_pos rfl]; exact ⟨rfl, rfl⟩⟩
    · rw [List.getElem?_set_ne hk] at e ⊢
      obtain ⟨t, e6, e7⟩ := r1.at_ k u e
      refine ⟨t, e6, ?_⟩
      unfold Sl at e7 ⊢
      rw [if_neg (by rw [hj]; exact nofun)] at e7
      rw [if_neg (fun z => hk (by cases z; rfl))]
      exact e7
  obtain ⟨o, o', F2, M2, e8, r2, f2, q2⟩ := q1.run _ F0 rX hF
  have back : ∀ {g2 h2 : Sg}, Rel ⟨X.C, X.G, X.W, Fd, some i, .own, mono, nofun⟩ g2 F2 h2 → Rel X (g2.set i anyS) F1 h2 := fun {g2 h2} r3 => by
    refine ⟨by rw [List.length_set, r3.len], fun j hj' => (by rw [hj] at hj'; cases hj'), fun k u e => ?_⟩
    have hl2 : i < g2.length := r3.hj i rfl
    by_cases hk : i = k
    · subst hk
      rw [List.getElem?_set_self hl2] at e
      cases e
      refine ⟨_, rel_hole r3 rfl (List.getElem?_eq_getElem hl2), ?_⟩
      unfold Sl
      rw [if_neg (by rw [hj]; exact nofun)]
      rfl
    · rw [List.getElem?_set_ne hk] at e
      obtain ⟨t, e6, e7⟩ := r3.at_ k u e
      refine ⟨t, e6, ?_⟩
      unfold Sl at e7 ⊢
      rw [if_neg (fun z => hk (by cases z; rfl))] at e7
      rw [if_neg (by rw [hj]; exact nofun)]
      exact e7
  have run : evSs X.C X.G X.W (.own i (.call f es) :: ss) h = some o' := (seq_nx (evS_own e2 e5)).trans e8
  match o, o', r2, q2, run with
  | .nx g2, .nx h2, r2, q2, run => exact ⟨.nx (g2.set i anyS), .nx h2, F1, M1, run, back r2, f1, q2⟩
  | .bk g2, .bk h2, r2, q2, run => exact ⟨.bk (g2.set i anyS), .bk h2, F1, M1, run, back r2, f1, q2⟩
  | .ct g2, .ct h2, r2, q2, run => exact ⟨.ct (g2.set i anyS), .ct h2, F1, M1, run, back r2, f1, q2⟩
  | .rt v g2, .rt w h2, r2, q2, run => exact ⟨.rt v (g2.set i anyS), .rt w h2, F1, M1, run, ⟨r2.1, back r2.2⟩, f1, q2⟩
end
section
variable {g : Sg} {M : Int} {r : Rv} {K : Sg → Int → Prop} {P : Out → Int → Prop} {I : Sg → Int → Prop} {R : Rv → Int → Prop}
theorem nx_nx (q : K g M) : Nx K P (.nx g) M := ⟨q⟩
theorem nx_rt (q : P (.rt r g) M) : Nx K P (.rt r g) M := ⟨q⟩
theorem nx_bk (q : P (.bk g) M) : Nx K P (.bk g) M := ⟨q⟩
theorem nx_ct (q : P (.ct g) M) : Nx K P (.ct g) M := ⟨q⟩
theorem tn_nx (q : I g M) : Turn I P (.nx g) M := ⟨q⟩
theorem tn_ct (q : I g M) : Turn I P (.ct g) M := ⟨q⟩
theorem tn_bk (q : P (.nx g) M) : Turn I P (.bk g) M := ⟨q⟩
theorem tn_rt (q : P (.rt r g) M) : Turn I P (.rt r g) M := ⟨q⟩
theorem en_nx (q : R (.pur .none) M) : endK R (.nx g) M := ⟨q⟩
theorem en_rt (q : R r M) : endK R (.rt r g) M := ⟨q⟩
end
theorem pc_inv {C : Fn} {f : Nat} {ds : List D} {K : Rv → Prop} (h : PCall C f ds K) : ∃ r, C f (vals ds) = some (r, vals ds) ∧ K r := let ⟨r, e, k⟩ := h; ⟨r, e, k⟩
theorem fc_ex {C : Fn} {Fd : Int → List D → Prop} {f : Nat} {ds : List D} {M : Int} {K : Rv → Int → Prop} (h : ∀ F, Fd M F → ∃ r F' M', C f ((.bor, unF F) :: vals ds) = some (r, (.bor, unF F') :: vals ds) ∧ Fd M' F' ∧ K r M') : FCall C Fd f ds M K := ⟨h⟩
section
theorem g_we {X : Cx} {e : E} {g : Sg} {M : Int} {Q : Rv → Sg → Int → Prop} (q : WE X e g M Q) : WE X e g M Q := q
theorem g_dat {g : Sg} {r : Rv} {k : D → Prop} (q : DatQ g r k) : DatQ g r k := q
theorem g_was {X : Cx} {e : List E} {g : Sg} {M : Int} {Q : List Rv → Sg → Int → Prop} (q : WAs X e g M Q) : WAs X e g M Q := q
theorem g_wes {X : Cx} {e : List E} {g : Sg} {M : Int} {Q : List D → Sg → Int → Prop} (q : WEs X e g M Q) : WEs X e g M Q := q
theorem g_pure {r : Rv} {k : D → Prop} (q : PureQ r k) : PureQ r k := q
theorem g_op {x : Option Rv} {k : Rv → Prop} (q : OpQ x k) : OpQ x k := q
theorem g_bl {x : Option Bool} {k : Bool → Prop} (q : BlQ x k) : BlQ x k := q
theorem g_w1 {X : Cx} {s : S} {g : Sg} {M : Int} {P : Out → Int → Prop} (q : W1 X s g M P) : W1 X s g M P := q
theorem g_ws {X : Cx} {s : List S} {g : Sg} {M : Int} {P : Out → Int → Prop} (q : WS X s g M P) : WS X s g M P := q
theorem g_nx {K : Sg → Int → Prop} {P : Out → Int → Prop} {o : Out} {M : Int} (q : Nx K P o M) : Nx K P o M := q
theorem g_if {x : Option Bool} {A B : Prop} (q : IfQ x A B) : IfQ x A B := q
theorem g_bo {g : Sg} {r : Rv} {A B : Prop} (q : BoolQ g r A B) : BoolQ g r A B := q
theorem g_ret {r : Rv} {A : Prop} (q : RetQ r A) : RetQ r A := q
theorem g_wi {X : Cx} {e : E} {g : Sg} {M : Int} {Q : List D → Sg → Int → Prop} (q : WI X e g M Q) : WI X e g M Q := q
theorem g_wo {X : Cx} {e : Option E} {g : Sg} {M : Int} {Q : Option Int → Sg → Int → Prop} (q : WO X e g M Q) : WO X e g M Q := q
theorem g_tn {I : Sg → Int → Prop} {P : Out → Int → Prop} {o : Out} {M : Int} (q : Turn I P o M) : Turn I P o M := q
theorem g_en {K : Rv → Int → Prop} {o : Out} {M : Int} (q : endK K o M) : endK K o M := q
end
theorem seqN0 {kvs : List (D × D)} {k : List D → Prop} (q : k (kvs.map (·.1))) : SeqQ (nD kvs) k := ⟨_, rfl, q⟩
theorem seqL0 {kvs : List (D × D)} {k : List D → Prop} (q : k (kvs.map (·.1))) : SeqQ (tL kvs) k := ⟨_, rfl, q⟩
section
variable {X : Cx} {g g2 : Sg} {M : Int} {P : Out → Int → Prop} {Q : Rv → Sg → Int → Prop} {i : Nat} {e k : E} {ks : List Str} {es : List E} {kvs kvs' : List (D × D)} {d : D} {m : Md} {F : List D} {h : Sg}
def dctT (g : Sg) (i : Nat) : Option (Md × List (D × D)) := match g[i]? with
  | some (some (.own, .dict kvs)) => some (.own, kvs)
  | some (some (.bor, .dict kvs)) => some (.bor, kvs)
  | _ => none
theorem dctT_ok (r : Rel X g F h) (e : dctT g i = some (m, kvs)) : X.j ≠ some i ∧ g[i]? = some (some (m, .dict kvs)) ∧ h[i]? = some (some (m, .dict kvs)) ∧ dctAt h i = some (m, kvs) ∧ m ≠ .val := by
  unfold dctT at e
  split at e
  · rename_i xs hx
    cases e
    obtain ⟨hj, o⟩ := rel_own r hx
    refine ⟨hj, hx, o, ?_, nofun⟩
    unfold dctAt
    rw [o]
  · rename_i xs hx
    cases e
    obtain ⟨t, e1, e2⟩ := r.at_ i _ hx
    unfold Sl at e2
    split at e2
    · exact nomatch (show some (Md.bor, PyData.dict kvs) = some (Md.bor, PyData.none) from e2.1)
    · rename_i hj
      have e2' : t = some (.bor, .dict kvs) := e2
      rw [e2'] at e1
      refine ⟨hj, hx, e1, ?_, nofun⟩
      unfold dctAt
      rw [e1]
  · cases e
/-- what is stored, by either kind of key -/
def dPutA (kvs : List (D × D)) (y d : D) : Option (List (D × D)) := match y with
  | .str z => if isN kvs = false then some (dPut kvs z d) else none
  | .tuple ks => nSet kvs (.tuple ks) d
  | _ => none
def dHasA (kvs : List (D × D)) (y : D) : Option Bool := match y with
  | .str z => if isN kvs then none else some (dGet kvs z).isSome
  | .tuple ks => nHas kvs (.tuple ks)
  | _ => none
structure DgQ (g : Sg) (i : Nat) (y : D) (K : D → Prop) : Prop where
  out : ∃ m kvs d, dctT g i = some (m, kvs) ∧ dIdx (.dict kvs) y = some d ∧ K d
structure DhQ (g : Sg) (i : Nat) (y : D) (K : Bool → Prop) : Prop where
  out : ∃ m kvs b, dctT g i = some (m, kvs) ∧ dHasA kvs y = some b ∧ K b
structure DpQ (g : Sg) (i : Nat) (y d : D) (K : Sg → Prop) : Prop where
  out : ∃ m kvs kvs', dctT g i = some (m, kvs) ∧ kvs.length ≤ 100000 ∧ dPutA kvs y d = some kvs' ∧ K (g.set i (some (m, .dict kvs')))
theorem dgq {y : D} {K : D → Prop} (e : dctT g i = some (m, kvs)) (e2 : dIdx (.dict kvs) y = some d) (q : K d) : DgQ g i y K := ⟨m, kvs, d, e, e2, q⟩
theorem dpq {y : D} {K : Sg → Prop} (e : dctT g i = some (m, kvs)) (hl : kvs.length ≤ 100000) (e2 : dPutA kvs y d = some kvs') (q : K (g.set i (some (m, .dict kvs')))) : DpQ g i y d K := ⟨m, kvs, kvs', e, hl, e2, q⟩
theorem we_dgM (h0 : dctT g i = some (m, kvs)) (q : WE X k g M fun rk g1 M1 => DatQ g1 rk fun y => DgQ g1 i y fun d => Q (.pur d) g1 M1) : WE X (.dget i k) g M Q := WE.mk fun h F r f => by
  obtain ⟨_, _, _, d0, _⟩ := dctT_ok r h0
  obtain ⟨v, g1, h1, F1, M1, e1, r1, f1, y, ey, m', kv1, d, e2, e3, q1⟩ := q.run h F r f
  obtain ⟨_, _, _, d1, _⟩ := dctT_ok r1 e2
  refine ⟨.pur d, g1, h1, F1, M1, ?_, r1, f1, q1⟩
  rw [evE, d0, Option.bind_some, e1, Option.bind_some, dat_ok r1 ey, Option.bind_some, d1, Option.bind_some]
  cases y with
  | str z =>
    show (dGet kv1 z).map _ = _
    rw [show dGet kv1 z = some d from e3]
    rfl
  | tuple ks =>
    show (nAt kv1 (.tuple ks)).map _ = _
    rw [show nAt kv1 (.tuple ks) = some d from e3]
    rfl
  | none => cases e3
  | bool _ => cases e3
  | int _ => cases e3
  | list _ => cases e3
  | dict _ => cases e3
theorem we_dhM {t : Bool} (q : WE X k g M fun rk g1 M1 => DatQ g1 rk fun y => DhQ g1 i y fun b => Q (.pur (.bool (b == t))) g1 M1) : WE X (.dhas t i k) g M Q := WE.mk fun h F r f => by
  obtain ⟨v, g1, h1, F1, M1, e1, r1, f1, y, ey, m', kv1, b, e2, e3, q1⟩ := q.run h F r f
  obtain ⟨_, _, _, d1, _⟩ := dctT_ok r1 e2
  refine ⟨_, g1, h1, F1, M1, ?_, r1, f1, q1⟩
  rw [evE, e1, Option.bind_some, dat_ok r1 ey, Option.bind_some, d1, Option.bind_some]
  cases y with
  | str z =>
    have e3' : (if isN kv1 = true then none else some (dGet kv1 z).isSome) = some b := e3
    show (if isN kv1 = true then none else _) = _
    split at e3'
    · cases e3'
    · rename_i hn
      cases e3'
      rw [if_neg hn]
  | tuple ks =>
    show (nHas kv1 (.tuple ks)).map _ = _
    rw [show nHas kv1 (.tuple ks) = some b from e3]
    rfl
  | none => cases e3
  | bool _ => cases e3
  | int _ => cases e3
  | list _ => cases e3
  | dict _ => cases e3
theorem w1_dsM (h0 : dctT g i = some (m, kvs)) (q : WE X e g M fun r g1 M1 => PureQ r fun d => WE X k g1 M1 fun r' g2 M2 => PureQ r' fun kk => DpQ g2 i kk d fun g3 => P (.nx g3) M2) : W1 X (.dset i k e) g M P := W1.mk fun h F r f => by
  obtain ⟨_, _, _, d0, _⟩ := dctT_ok r h0
  obtain ⟨v, g1, h1, F1, M1, e1, r1, f1, d, ed, q1⟩ := q.run h F r f
  obtain ⟨w, g2, h2, F2, M2, e2, r2, f2, kk, ek, m', kv2, kv3, e3, hl, e4, q2⟩ := q1.run h1 F1 r1 f1
  obtain ⟨hj, eg, _, d2, hm⟩ := dctT_ok r2 e3
  refine ⟨.nx (g2.set i (some (m', .dict kv3))), .nx (h2.set i (some (m', .dict kv3))), F2, M2, ?_, rel_set2 r2 ?_, f2, q2⟩
  · show (dctAt h i).bind _ = _
    rw [d0]
    show (evE X.C X.G e h).bind _ = _
    rw [e1]
    show (v.pure?).bind _ = _
    rw [ed]
    show (evE X.C X.G k h1).bind _ = _
    rw [e2]
    show (w.pure?).bind _ = _
    rw [ek]
    show (dctAt h2 i).bind _ = _
    rw [d2]
    cases kk with
    | str z =>
      have e4' : (if isN kv2 = false then some (dPut kv2 z d) else none) = some kv3 := e4
      split at e4'
      · rename_i hn
        cases e4'
        show (if isN kv2 = false ∧ kv2.length ≤ 100000 then _ else _) = _
        rw [if_pos ⟨hn, hl⟩]
      · cases e4'
    | tuple ks =>
      show (if kv2.length ≤ 100000 then _ else _) = _
      rw [if_pos hl]
      show (nSet kv2 (.tuple ks) d).map _ = _
      rw [show nSet kv2 (.tuple ks) d = some kv3 from e4]
      rfl
    | none => cases e4
    | bool _ => cases e4
    | int _ => cases e4
    | list _ => cases e4
    | dict _ => cases e4
  · unfold Sl
    rw [if_neg hj]
    cases m' with
    | val => exact absurd rfl hm
    | own => rfl
    | bor => rfl
theorem w1_dnM (q : OwnQ i (.dict []) g fun g2 => P (.nx g2) M) : W1 X (.dnew i) g M P := W1.mk fun h F r f => by
  obtain ⟨g2, eb, q1⟩ := q
  obtain ⟨h2, e2, r2⟩ := rel_setT (m := .own) r nofun eb
  refine ⟨.nx g2, .nx h2, F, M, ?_, r2, f, q1⟩
  show (setV h i .own (.dict [])).map _ = _
  rw [e2]
  rfl
end
end Ev
local macro_rules | `(tactic| rfl') => `(tactic| repeat' (first
  | (refine Ev.g_we ?_; first | refine Ev.we_var rfl ?_ | refine Ev.we_cI ?_ | refine Ev.we_cS ?_ | refine Ev.we_cB ?_ | refine Ev.we_cN ?_ | refine Ev.we_bin ?_ | refine Ev.we_idx ?_ | refine Ev.we_cmp ?_ | refine Ev.we_call ?_ | refine Ev.we_hole rfl rfl ?_ | refine Ev.we_blt ?_ | refine Ev.we_own rfl ?_ | refine Ev.we_bor rfl ?_ | refine Ev.we_tup (Nat.le_of_ble_eq_true rfl) ?_ | refine Ev.we_lst (Nat.le_of_ble_eq_true rfl) ?_ | refine Ev.we_not ?_ | refine Ev.we_and ?_ | refine Ev.we_or ?_ | refine Ev.we_ite ?_ | refine Ev.we_mv rfl ?_ | refine Ev.we_glo rfl rfl ?_ | refine Ev.we_glo Ev.HasG.h rfl ?_ | refine Ev.we_comp ?_ | refine Ev.we_slc ?_ | refine Ev.we_neg ?_ | refine Ev.we_chn ?_ | refine Ev.we_kix rfl ?_ | refine Ev.we_kix Ev.HasG.h ?_ | refine Ev.we_rev ?_ | refine Ev.we_tk ?_ | refine Ev.we_isi ?_ | refine Ev.we_mth ?_ | refine Ev.we_tix ?_ | refine Ev.we_pop rfl ?_ | refine Ev.we_lrng rfl ?_ | refine Ev.we_rg1 ?_ | refine Ev.we_zpt ?_ | refine Ev.we_ext ?_ | refine Ev.we_mvD rfl ?_ | refine Ev.we_rd ?_ | fail)
  | (refine Ev.g_dat ?_; first | refine Ev.dq_p ?_ | refine Ev.dq_n ?_ | refine Ev.dq_l rfl ?_ | fail)
  | (refine Ev.g_was ?_; first | refine Ev.was_cons ?_ | refine Ev.was_nil ?_ | fail)
  | (refine Ev.g_wes ?_; first | refine Ev.wes_cons ?_ | refine Ev.wes_nil ?_ | fail)
  | (refine Ev.g_pure ?_; first | refine Ev.pq_p ?_ | refine Ev.pq_n ?_ | fail)
  | (refine Ev.g_op ?_; first | with_reducible refine Ev.o_addI ?_ | with_reducible refine Ev.o_subI ?_ | with_reducible refine Ev.o_lenL ?_ | with_reducible refine Ev.o_lenT ?_ | with_reducible refine Ev.o_modI (by first | decide | omega) ?_ | with_reducible refine Ev.o_divI (by first | decide | omega) (Ev.divOk_le (by first | decide | omega) (by first | decide | omega)) ?_ | with_reducible refine Ev.o_slcL ?_ | with_reducible refine Ev.o_slcT ?_ | with_reducible refine Ev.o_addT (by first | omega | (simp only [List.length_cons, List.length_nil, List.length_append, List.length_map, Ev.range_len, List.length_reverse]; omega)) ?_ | with_reducible refine Ev.o_addL (by first | omega | (simp only [List.length_cons, List.length_nil, List.length_append, List.length_map, Ev.range_len, List.length_reverse]; omega)) ?_ | with_reducible refine Ev.o_addS (by omega) ?_ | with_reducible refine Ev.o_lenS (by omega) ?_ | with_reducible refine Ev.o_slcS (by omega) ?_ | refine Ev.oq rfl ?_ | fail)
  | (refine Ev.g_bl ?_; first | with_reducible refine Ev.b_truB ?_ | with_reducible refine Ev.b_eqI ?_ | with_reducible refine Ev.b_eqS ?_ | with_reducible refine Ev.b_ltI ?_ | with_reducible refine Ev.b_leI ?_ | with_reducible refine Ev.b_gtI ?_ | with_reducible refine Ev.b_geI ?_ | with_reducible refine Ev.b_neI ?_ | with_reducible refine Ev.b_neS ?_ | with_reducible refine Ev.b_truL ?_ | with_reducible refine Ev.b_truT ?_ | refine Ev.bq rfl ?_ | fail)
  | refine Ev.tq_ rfl ?_
  | (refine Ev.g_w1 ?_; first | refine Ev.w1_asg ?_ | refine Ev.w1_ite ?_ | refine Ev.w1_ret ?_ | refine Ev.w1_for ?_ | refine Ev.w1_own ?_ | refine Ev.w1_setI rfl ?_ | refine Ev.w1_mut rfl ?_ | refine Ev.w1_aug rfl ?_ | refine Ev.w1_expr ?_ | refine Ev.w1_retN ?_ | refine Ev.w1_brk ?_ | refine Ev.w1_cont ?_ | refine Ev.w1_pass ?_ | refine Ev.w1_frzO rfl ?_ | refine Ev.w1_frzV rfl ?_ | fail)
  | (refine Ev.g_ws ?_; first | refine Ev.ws_cons ?_ | refine Ev.ws_nil ?_ | fail)
  | (refine Ev.g_nx ?_; first | refine Ev.nx_nx ?_ | refine Ev.nx_rt ?_ | refine Ev.nx_bk ?_ | refine Ev.nx_ct ?_ | fail)
  | refine Ev.bindq rfl ?_
  | (refine Ev.g_if ?_; first | refine Ev.if_y rfl ?_ | refine Ev.if_n rfl ?_ | fail)
  | (refine Ev.g_bo ?_; first | refine Ev.bo_y rfl ?_ | refine Ev.bo_n rfl ?_ | fail)
  | (refine Ev.g_ret ?_; first | refine Ev.ret_p ?_ | refine Ev.ret_n ?_ | fail)
  | refine Ev.mut_app rfl (by first | omega | (simp only [List.length_cons, List.length_nil, List.length_append, List.length_map, Ev.range_len, List.length_reverse]; omega)) ?_
  | refine Ev.lsq rfl ?_
  | (refine Ev.g_wi ?_; first | refine Ev.wi_rng ?_ | refine Ev.wi_rng2 ?_ | refine Ev.wi_enu ?_ | refine Ev.wi_zip ?_ | refine Ev.wi_of ?_ | fail)
  | (refine Ev.g_wo ?_; first | refine Ev.wo_none ?_ | refine Ev.wo_some ?_ | fail)
  | (refine Ev.g_tn ?_; first | refine Ev.tn_nx ?_ | refine Ev.tn_ct ?_ | refine Ev.tn_bk ?_ | refine Ev.tn_rt ?_ | fail)
  | (refine Ev.g_en ?_; first | refine Ev.en_nx ?_ | refine Ev.en_rt ?_ | fail)
  | refine Ev.ownq rfl ?_
  | refine Ev.newq ?_
  | refine Ev.intq ?_
  | refine Ev.seqL ?_ | refine Ev.seqT ?_ | refine Ev.seqS ?_
  | refine Ev.freeq rfl ?_
  | refine Ev.rngq (by first | decide | omega) ?_
  | fail))
local macro_rules | `(tactic| and_intros) => `(tactic| exact Ev.wk_of (by repeat' (first | exact Ev.WkL.nil | refine Ev.WkL.same ?_ | refine Ev.WkL.non ?_ | refine Ev.WkL.any rfl ?_)))
local macro_rules | `(tactic| bv_omega) => `(tactic| repeat' (first
  | (refine Ev.g_we ?_; first | refine Ev.we_var rfl ?_ | refine Ev.we_cI ?_ | refine Ev.we_cS ?_ | refine Ev.we_cB ?_ | refine Ev.we_cN ?_ | refine Ev.we_bin ?_ | refine Ev.we_idx ?_ | refine Ev.we_cmp ?_ | refine Ev.we_call ?_ | refine Ev.we_hole rfl rfl ?_ | refine Ev.we_blt ?_ | refine Ev.we_own rfl ?_ | refine Ev.we_bor rfl ?_ | refine Ev.we_tup (Nat.le_of_ble_eq_true rfl) ?_ | refine Ev.we_lst (Nat.le_of_ble_eq_true rfl) ?_ | refine Ev.we_not ?_ | refine Ev.we_and ?_ | refine Ev.we_or ?_ | refine Ev.we_ite ?_ | refine Ev.we_mv rfl ?_ | refine Ev.we_glo rfl rfl ?_ | refine Ev.we_glo Ev.HasG.h rfl ?_ | refine Ev.we_comp ?_ | refine Ev.we_slc ?_ | refine Ev.we_neg ?_ | refine Ev.we_chn ?_ | refine Ev.we_kix rfl ?_ | refine Ev.we_kix Ev.HasG.h ?_ | refine Ev.we_rev ?_ | refine Ev.we_tk ?_ | refine Ev.we_isi ?_ | refine Ev.we_mth ?_ | refine Ev.we_tix ?_ | refine Ev.we_pop rfl ?_ | refine Ev.we_lrng rfl ?_ | refine Ev.we_rg1 ?_ | refine Ev.we_zpt ?_ | refine Ev.we_ext ?_ | refine Ev.we_mvD rfl ?_ | refine Ev.we_rd ?_ | fail)
  | (refine Ev.g_dat ?_; first | refine Ev.dq_p ?_ | refine Ev.dq_n ?_ | refine Ev.dq_l rfl ?_ | fail)
  | (refine Ev.g_was ?_; first | refine Ev.was_cons ?_ | refine Ev.was_nil ?_ | fail)
  | (refine Ev.g_wes ?_; first | refine Ev.wes_cons ?_ | refine Ev.wes_nil ?_ | fail)
  | (refine Ev.g_pure ?_; first | refine Ev.pq_p ?_ | refine Ev.pq_n ?_ | fail)
  | (refine Ev.g_op ?_; first | with_reducible refine Ev.o_addI ?_ | with_reducible refine Ev.o_subI ?_ | with_reducible refine Ev.o_lenL ?_ | with_reducible refine Ev.o_lenT ?_ | with_reducible refine Ev.o_modI (by first | decide | omega) ?_ | with_reducible refine Ev.o_divI (by first | decide | omega) (Ev.divOk_le (by first | decide | omega) (by first | decide | omega)) ?_ | with_reducible refine Ev.o_slcL ?_ | with_reducible refine Ev.o_slcT ?_ | with_reducible refine Ev.o_addT (by first | omega | (simp only [List.length_cons, List.length_nil, List.length_append, List.length_map, Ev.range_len, List.length_reverse]; omega)) ?_ | with_reducible refine Ev.o_addL (by first | omega | (simp only [List.length_cons, List.length_nil, List.length_append, List.length_map, Ev.range_len, List.length_reverse]; omega)) ?_ | with_reducible refine Ev.o_addS (by omega) ?_ | with_reducible refine Ev.o_lenS (by omega) ?_ | with_reducible refine Ev.o_slcS (by omega) ?_ | refine Ev.oq rfl ?_ | fail)
  | (refine Ev.g_bl ?_; first | with_reducible refine Ev.b_truB ?_ | with_reducible refine Ev.b_eqI ?_ | with_reducible refine Ev.b_eqS ?_ | with_reducible refine Ev.b_ltI ?_ | with_reducible refine Ev.b_leI ?_ | with_reducible refine Ev.b_gtI ?_ | with_reducible refine Ev.b_geI ?_ | with_reducible refine Ev.b_neI ?_ | with_reducible refine Ev.b_neS ?_ | with_reducible refine Ev.b_truL ?_ | with_reducible refine Ev.b_truT ?_ | refine Ev.bq rfl ?_ | fail)
  | refine Ev.tq_ rfl ?_
  | (refine Ev.g_w1 ?_; first | refine Ev.w1_asg ?_ | refine Ev.w1_ite ?_ | refine Ev.w1_ret ?_ | refine Ev.w1_for ?_ | refine Ev.w1_own ?_ | refine Ev.w1_setI rfl ?_ | refine Ev.w1_mut rfl ?_ | refine Ev.w1_aug rfl ?_ | refine Ev.w1_expr ?_ | refine Ev.w1_retN ?_ | refine Ev.w1_brk ?_ | refine Ev.w1_cont ?_ | refine Ev.w1_pass ?_ | refine Ev.w1_frzO rfl ?_ | refine Ev.w1_frzV rfl ?_ | fail)
  | (refine Ev.g_ws ?_; first | refine Ev.ws_cons ?_ | refine Ev.ws_nil ?_ | fail)
  | (refine Ev.g_nx ?_; first | refine Ev.nx_nx ?_ | refine Ev.nx_rt ?_ | refine Ev.nx_bk ?_ | refine Ev.nx_ct ?_ | fail)
  | refine Ev.bindq rfl ?_
  | (refine Ev.g_if ?_; first | refine Ev.if_y rfl ?_ | refine Ev.if_n rfl ?_ | fail)
  | (refine Ev.g_bo ?_; first | refine Ev.bo_y rfl ?_ | refine Ev.bo_n rfl ?_ | fail)
  | (refine Ev.g_ret ?_; first | refine Ev.ret_p ?_ | refine Ev.ret_n ?_ | fail)
  | refine Ev.mut_app rfl (by first | omega | (simp only [List.length_cons, List.length_nil, List.length_append, List.length_map, Ev.range_len, List.length_reverse]; omega)) ?_
  | refine Ev.lsq rfl ?_
  | (refine Ev.g_wi ?_; first | refine Ev.wi_rng ?_ | refine Ev.wi_rng2 ?_ | refine Ev.wi_enu ?_ | refine Ev.wi_zip ?_ | refine Ev.wi_of ?_ | fail)
  | (refine Ev.g_wo ?_; first | refine Ev.wo_none ?_ | refine Ev.wo_some ?_ | fail)
  | (refine Ev.g_tn ?_; first | refine Ev.tn_nx ?_ | refine Ev.tn_ct ?_ | refine Ev.tn_bk ?_ | refine Ev.tn_rt ?_ | fail)
  | (refine Ev.g_en ?_; first | refine Ev.en_nx ?_ | refine Ev.en_rt ?_ | fail)
  | refine Ev.ownq rfl ?_
  | refine Ev.newq ?_
  | refine Ev.intq ?_
  | refine Ev.seqL ?_ | refine Ev.seqT ?_ | refine Ev.seqS ?_
  | refine Ev.freeq rfl ?_
  | refine Ev.rngq (by first | decide | omega) ?_
  | refine Ev.w1_lckO rfl ⟨rfl, rfl⟩ ?_ | refine Ev.w1_lckV rfl rfl ?_ | refine Ev.seqL0 ?_ | refine Ev.seqN0 ?_ | refine Ev.we_dgM rfl ?_ | refine Ev.we_dhM ?_ | refine Ev.w1_dsM rfl ?_ | refine Ev.w1_dnM ?_ | refine Ev.dgq rfl rfl ?_ | refine Ev.dpq rfl (by decide) rfl ?_
  | fail))

namespace Ev
set_option autoImplicit false
open PySem
section
variable {g : Sg} {r : Rv} {d x y : D} {k : D → Prop} {K : Rv → Prop} {B : Bool → Prop} {i j : Int} {b : Bool} {A A' : Prop}
theorem bools_mapD {α : Type} {β : α → Bool} : ∀ ds : List α, bools? (ds.map fun d => .bool (β d)) = some (ds.map β)
  | [] => rfl
  | d :: ds => by
    show (bools? (ds.map fun d => PyData.bool (β d))).map (β d :: ·) = _
    rw [bools_mapD ds]
    rfl
theorem o_all {α : Type} {ds : List α} {β : α → Bool} (q : K (.pur (.bool (ds.all β)))) : OpQ (dBlt .all [.list (ds.map fun d => .bool (β d))]) K := by
  refine oq ?_ q
  show (bools? (ds.map fun d => PyData.bool (β d))).map _ = _
  rw [bools_mapD]
  show some (Rv.pur (.bool ((ds.map β).all id))) = _
  rw [List.all_map]
  rfl
theorem b_noF {α : Type} {ds : List α} {β : α → Bool} (q : B (ds.all β)) : BlQ (dCmp .notin (.bool false) (.list (ds.map fun d => .bool (β d)))) B := by
  refine bq ?_ q
  have e := dNoFalse (ds.map β)
  rw [List.map_map] at e
  rw [show (ds.map fun d => PyData.bool (β d)) = ds.map (PyData.bool ∘ β) from rfl, e, List.all_map]
  rfl
theorem fin {v u : Bool} (q : K (.pur (.bool v))) (e : v = u) : K (.pur (.bool u)) := e ▸ q
theorem at_some {α : Type} {xs : List α} {n : Nat} {z : α} {i : Int} (h : i = (n : Int)) (e : xs[n]? = some z) : L2.atI xs i = some z := by
  rw [h, at_nat, e]
theorem key_get {kvs : List (D × D)} {z : Str} : ∀ {ps : List (Str × D)}, z ∉ ps.map (·.1) → ((ps.map fun p => ((PyData.str p.1 : D), p.2)).any (keyIs z)) = false
  | [], _ => rfl
  | p :: ps, h => by
    rw [List.map_cons, List.mem_cons, not_or] at h
    rw [List.map_cons, List.any_cons, key_get (kvs := kvs) h.2, Bool.or_false]
    exact decide_eq_false fun e => h.1 e.symm
theorem put_new {ps : List (Str × D)} {z : Str} (h : z ∉ ps.map (·.1)) : dPut (ps.map fun p => ((PyData.str p.1 : D), p.2)) z d = (ps ++ [(z, d)]).map fun p => ((PyData.str p.1 : D), p.2) := by
  unfold dPut
  rw [key_get (kvs := []) h, if_neg Bool.false_ne_true, List.map_append]
  rfl
theorem merge_go : ∀ (ps acc : List (Str × D)), ((acc ++ ps).map (·.1)).Nodup → ps.foldl (fun a p => dPut a p.1 p.2) (acc.map fun p => ((PyData.str p.1 : D), p.2)) = (acc ++ ps).map fun p => ((PyData.str p.1 : D), p.2)
  | [], acc, _ => by rw [List.append_nil]; rfl
  | p :: ps, acc, h => by
    have h1 : p.1 ∉ acc.map (·.1) := fun hm => by
      rw [List.map_append, List.nodup_append] at h
      exact h.2.2 _ hm _ (List.mem_map_of_mem List.mem_cons_self) rfl
    rw [List.foldl_cons, put_new h1, merge_go ps (acc ++ [(p.1, p.2)]) (by rw [List.append_assoc]; exact h), List.append_assoc]
    rfl
theorem merge_nodup {ps : List (Str × D)} (h : (ps.map (·.1)).Nodup) : dMerge [] ps = ps.map fun p => ((PyData.str p.1 : D), p.2) := merge_go ps [] (by simpa using h)
theorem dget_of {z : Str} : ∀ {ps : List (Str × D)}, (ps.map (·.1)).Nodup → (z, d) ∈ ps → dGet (ps.map fun p => ((PyData.str p.1 : D), p.2)) z = some d
  | [], _, h => absurd h List.not_mem_nil
  | p :: ps, hn, h => by
    rw [List.map_cons, List.nodup_cons] at hn
    unfold dGet
    rw [List.map_cons, List.find?_cons]
    rcases List.mem_cons.mp h with rfl | h
    · simp
    · have hz : p.1 ≠ z := fun e => hn.1 (by rw [e]; exact List.mem_map_of_mem (f := (·.1)) h)
      have : (p.1 == z) = false := beq_eq_false_iff_ne.mpr hz
      simp only [this]
      exact dget_of hn.2 h
theorem prs_map {α : Type} {f : α → Str} {v : α → D} : ∀ xs : List α, prs? (xs.map fun a => .tuple [.str (f a), v a]) = some (xs.map fun a => (f a, v a))
  | [] => rfl
  | a :: xs => by
    show (prs? (xs.map fun a => .tuple [.str (f a), v a])).map _ = _
    rw [prs_map xs]
    rfl
theorem o_dictL {α : Type} {xs : List α} {f : α → Str} {v : α → D} (h : (xs.map f).Nodup) (q : K (.pur (.dict (xs.map fun a => (.str (f a), v a))))) : OpQ (dBlt .dict [.list (xs.map fun a => .tuple [.str (f a), v a])]) K := by
  refine oq ?_ q
  show (match prs? (xs.map fun a => PyData.tuple [.str (f a), v a]) with
    | some ps => some (Rv.pur (.dict (dMerge [] ps)))
    | none => (prN? (xs.map fun a => PyData.tuple [.str (f a), v a])).map fun ps => Rv.pur (nD (nMerge [] ps))) = _
  rw [prs_map]
  show some (Rv.pur (.dict (dMerge [] (xs.map fun a => (f a, v a))))) = _
  rw [merge_nodup (by rw [List.map_map]; exact h), List.map_map]
  rfl
theorem dict_at {α : Type} {xs : List α} {f : α → Str} {v : α → D} (h : (xs.map f).Nodup) {a : α} (ha : a ∈ xs) : dIdx (.dict (xs.map fun a => (.str (f a), v a))) (.str (f a)) = some (v a) := by
  have := dget_of (d := v a) (z := f a) (ps := xs.map fun a => (f a, v a)) (by rw [List.map_map]; exact h) (List.mem_map.mpr ⟨a, ha, rfl⟩)
  rw [List.map_map] at this
  exact this
end
end Ev

namespace Ev
set_option autoImplicit false
open PySem
def P_words_of (g0 g1 g2 g3 : Nat) : FD := ⟨[false], 1, [.ite (.cmp .eq (.var 0) (.tup [.cst (.str "stretch"), .cst (.str "stretch")])) [.ret (.glo g0)] [], .ite (.cmp .eq (.var 0) (.tup [.cst (.str "point"), .cst (.str "point")])) [.ret (.glo g1)] [], .ret (.ite (.cmp .eq (.idx (.var 0) (.cst (.int 0))) (.cst (.str "point"))) (.glo g2) (.glo g3))]⟩
def P_how_ends (g0 : Nat) : FD := ⟨[false, false, false, false], 5, [.asg (.nm 4) (.kix g0 (.var 1)), .ite (.cmp .eq (.var 0) (.tup [.cst (.str "stretch"), .cst (.str "stretch")])) [.ret (.idx (.var 4) (.bin .add (.bin .mul (.cst (.int 2)) (.var 2)) (.var 3)))] [], .ret (.idx (.var 4) (.bin .mul (.cst (.int 3)) (.blt .max2 [.var 2, .var 3])))]⟩
def F80_l_all_words : FD := ⟨[], 1, [.asg (.nm 0) (.lst [.cst (.str "ahead"), .cst (.str "meets"), .cst (.str "overlaps"), .cst (.str "begins"), .cst (.str "within"), .cst (.str "ends"), .cst (.str "same")]), .ret (.bin .add (.var 0) (.lst [.cst (.str "ended"), .cst (.str "holds"), .cst (.str "begun"), .cst (.str "lapped"), .cst (.str "met"), .cst (.str "behind")]))]⟩
def D_l_feed : FD := ⟨[false], 1, [.ret (.ext (.dis ["cells", "at", "left", "turn"]) [.blt .list [.slc (.var 0) none (some (.cst (.int 63)))], .cst (.int 0), .cst (.int 0), .cst (.int 0)])]⟩
def D_l_draw : FD := ⟨[true, false], 6, [.dset 0 (.cst (.str "turn")) (.bin .add (.dget 0 (.cst (.str "turn"))) (.cst (.int 1))), .asg (.nm 2) (.bin .mod (.dget 0 (.cst (.str "left"))) (.var 1)), .ite (.cmp .gt (.dget 0 (.cst (.str "left"))) (.cst (.int 0))) [.dset 0 (.cst (.str "left")) (.bin .fdiv (.dget 0 (.cst (.str "left"))) (.var 1)), .ret (.var 2)] [], .asg (.nm 3) (.dget 0 (.cst (.str "at"))), .dset 0 (.cst (.str "at")) (.bin .add (.var 3) (.cst (.int 1))), .asg (.nm 4) (.cst (.int 0)), .ite (.cmp .ne (.dget 0 (.cst (.str "cells"))) (.lst [])) [.asg (.nm 4) (.idx (.dget 0 (.cst (.str "cells"))) (.bin .mod (.var 3) (.blt .len [.dget 0 (.cst (.str "cells"))])))] [], .ite (.and (.cmp .ge (.var 4) (.bin .pow (.cst (.int 10)) (.cst (.int 18)))) (.cmp .lt (.var 3) (.blt .len [.dget 0 (.cst (.str "cells"))]))) [.dset 0 (.cst (.str "left")) (.bin .fdiv (.var 4) (.var 1)), .ret (.bin .mod (.var 4) (.var 1))] [], .asg (.nm 5) (.bin .mod (.bin .mul (.bin .add (.bin .mod (.var 4) (.cst (.int 2147483629))) (.bin .mul (.cst (.int 1013)) (.dget 0 (.cst (.str "turn"))))) (.cst (.int 48271))) (.cst (.int 2147483647))), .asg (.nm 5) (.bin .mod (.bin .mul (.bin .add (.bin .fdiv (.var 5) (.cst (.int 64))) (.bin .mul (.cst (.int 37)) (.dget 0 (.cst (.str "turn"))))) (.cst (.int 69621))) (.cst (.int 2147483587))), .ret (.bin .mod (.bin .fdiv (.var 5) (.cst (.int 64))) (.var 1))]⟩
def P_pairs_of_ends (g0 : Nat) (z0 : Str) : FD := ⟨[false], 4, [.own 1 (.lst []), .for_ (.nm 2) (.kix g0 (.idx (.var 0) (.cst (.int 0)))) [.mut .extend 1 (.comp (.tup [.var 2, .var 3]) (.nm 3) (.kix g0 (.idx (.var 0) (.cst (.int 1)))) none [(z0, 3)])], .ret (.mv 1)]⟩
def P_signs_in (p0 : Nat) (z0 : Str) : FD := ⟨[false, false, false, false], 5, [.ret (.blt .tuple [.ext .sst [.comp (.call p0 [.var 0, .var 4, .var 2, .var 3]) (.nm 4) (.var 1) none [(z0, 4)]]])]⟩
def P_span : FD := ⟨[false], 1, [.ite (.and (.cmp .in_ (.neg (.cst (.int 1))) (.var 0)) (.cmp .in_ (.cst (.int 1)) (.var 0))) [.ret (.tup [.neg (.cst (.int 1)), .cst (.int 0), .cst (.int 1)])] [], .ret (.var 0)]⟩
def P_plain_around (p0 p1 p2 p3 p4 : Nat) (z0 z1 : Str) : FD := ⟨[false, false], 7, [.dnew 2, .for_ (.tp [.nm 3, .nm 4]) (.call p0 [.var 0]) [.dset 2 (.tup [.var 3, .var 4]) (.call p1 [.call p2 [.var 0, .var 1, .var 3, .var 4]])], .own 5 (.lst []), .for_ (.nm 6) (.call p3 [.var 0]) [.frz 2, .ite (.blt .all [.comp (.cmp .in_ (.call p4 [.var 0, .var 6, .var 3, .var 4]) (.idx (.var 2) (.tup [.var 3, .var 4]))) (.tp [.nm 3, .nm 4]) (.var 2) none [(z0, 3), (z1, 4)]]) [.mut .append 5 (.var 6)] []], .ret (.blt .tuple [.var 5])]⟩
def P_is_plain (p0 : Nat) : FD := ⟨[false, false], 2, [.ret (.cmp .eq (.call p0 [.var 0, .var 1]) (.var 1))]⟩
def D_l_words (p0 : Nat) : FD := ⟨[false], 2, [.own 1 (.ext .dis1 [.tup [.cst (.str "point"), .cst (.str "point")], .lst [.cst (.str "ahead"), .cst (.str "same"), .cst (.str "behind")]]), .dset 1 (.tup [.cst (.str "point"), .cst (.str "stretch")]) (.lst [.cst (.str "ahead"), .cst (.str "begins"), .cst (.str "within"), .cst (.str "ends"), .cst (.str "behind")]), .dset 1 (.tup [.cst (.str "stretch"), .cst (.str "point")]) (.lst [.cst (.str "ahead"), .cst (.str "ended"), .cst (.str "holds"), .cst (.str "begun"), .cst (.str "behind")]), .frz 1, .ret (.ext .get [.var 1, .var 0, .call p0 []])]⟩
def D_l_signs : FD := ⟨[false, false], 5, [.dnew 2, .for_ (.nm 3) (.rng [.cst (.int 2)]) [.for_ (.nm 4) (.rng [.cst (.int 2)]) [.dset 2 (.tup [.var 3, .var 4]) (.bin .sub (.blt .int [.cmp .gt (.idx (.var 0) (.var 3)) (.idx (.var 1) (.var 4))]) (.blt .int [.cmp .lt (.idx (.var 0) (.var 3)) (.idx (.var 1) (.var 4))]))]], .frz 2, .ret (.var 2)]⟩
def D_l_lays (p0 : Nat) (z0 : Str) : FD := ⟨[false], 4, [.asg (.nm 1) (.ite (.cmp .eq (.idx (.var 0) (.cst (.int 1))) (.cst (.str "stretch"))) (.tup [.cst (.int 4), .cst (.int 8)]) (.tup [.cst (.int 5), .cst (.int 5)])), .ddis 2 ["ahead", "meets", "overlaps", "begins", "within", "ends"] [.tup [.cst (.int 1), .cst (.int 2)], .tup [.cst (.int 1), .cst (.int 4)], .tup [.cst (.int 1), .cst (.int 6)], .tup [.cst (.int 4), .cst (.int 6)], .tup [.cst (.int 5), .cst (.int 7)], .tup [.cst (.int 6), .cst (.int 8)]], .dupd 2 ["same", "ended", "holds", "begun", "lapped"] [.tup [.cst (.int 4), .cst (.int 8)], .tup [.cst (.int 1), .cst (.int 8)], .tup [.cst (.int 1), .cst (.int 9)], .tup [.cst (.int 4), .cst (.int 9)], .tup [.cst (.int 6), .cst (.int 9)]], .dupd 2 ["met", "behind"] [.tup [.cst (.int 8), .cst (.int 9)], .tup [.cst (.int 9), .cst (.int 10)]], .ite (.cmp .eq (.var 0) (.tup [.cst (.str "point"), .cst (.str "stretch")])) [.ddis 2 ["ahead", "begins", "within", "ends", "behind"] [.tup [.cst (.int 1), .cst (.int 1)], .tup [.cst (.int 4), .cst (.int 4)], .tup [.cst (.int 6), .cst (.int 6)], .tup [.cst (.int 8), .cst (.int 8)], .tup [.cst (.int 9), .cst (.int 9)]]] [], .ite (.cmp .eq (.var 0) (.tup [.cst (.str "stretch"), .cst (.str "point")])) [.ddis 2 ["ahead", "ended", "holds", "begun", "behind"] [.tup [.cst (.int 1), .cst (.int 2)], .tup [.cst (.int 1), .cst (.int 5)], .tup [.cst (.int 1), .cst (.int 9)], .tup [.cst (.int 5), .cst (.int 9)], .tup [.cst (.int 8), .cst (.int 9)]]] [], .ite (.cmp .eq (.var 0) (.tup [.cst (.str "point"), .cst (.str "point")])) [.ddis 2 ["ahead", "same", "behind"] [.tup [.cst (.int 1), .cst (.int 1)], .tup [.cst (.int 5), .cst (.int 5)], .tup [.cst (.int 9), .cst (.int 9)]]] [], .lck 2, .ret (.blt .dict [.comp (.tup [.var 3, .call p0 [.idx (.var 2) (.var 3), .var 1]]) (.nm 3) (.var 2) none [(z0, 3)]])]⟩
def D_l_around (p0 p1 : Nat) (z0 : Str) : FD := ⟨[false, false], 9, [.asg (.nm 2) (.call p0 [.var 0]), .own 3 (.lst []), .for_ (.nm 4) (.call p1 [.var 0]) [.asg (.nm 5) (.cmp .gt (.blt .len [.var 1]) (.cst (.int 0))), .for_ (.nm 6) (.idx (.var 2) (.var 4)) [.asg (.nm 7) (.comp (.idx (.idx (.var 2) (.var 8)) (.var 6)) (.nm 8) (.var 1) none [(z0, 8)]), .asg (.nm 5) (.and (.var 5) (.chn .le .le (.blt .minL [.var 7]) (.idx (.idx (.var 2) (.var 4)) (.var 6)) (.blt .maxL [.var 7])))], .ite (.var 5) [.mut .append 3 (.var 4)] []], .ret (.blt .tuple [.var 3])]⟩
def D_l_some (p0 p1 : Nat) (z0 : Str) : FD := ⟨[true, false, false], 6, [.asg (.nm 3) (.bin .add (.cst (.int 1)) (.call p0 [.var 0, .cst (.int 3)])), .asg (.nm 4) (.comp (.var 5) (.nm 5) (.call p1 [.var 1]) (some (.or (.cmp .eq (.var 5) (.var 2)) (.cmp .eq (.call p0 [.var 0, .bin .add (.cst (.int 1)) (.var 3)]) (.cst (.int 0))))) [(z0, 5)]), .ret (.blt .tuple [.var 4])]⟩
end Ev
namespace K38
open Ev PySem
/-- words_of -/
def f0 : FD := P_words_of 0 1 2 3
/-- how_ends -/
def f1 : FD := P_how_ends 4
/-- pairs_of_ends -/
def f2 : FD := P_pairs_of_ends 5 ("y" : Str)
/-- signs_in -/
def f3 : FD := P_signs_in 1 ("word" : Str)
/-- span -/
def f4 : FD := P_span
/-- plain_around -/
def f5 : FD := P_plain_around 2 4 3 0 1 ("x" : Str) ("y" : Str)
/-- is_plain -/
def f6 : FD := P_is_plain 5
/-- plain_parts -/
def f7 : FD := ⟨[false, false], 8, [.asg (.nm 2) (.blt .list [.var 1]), .own 3 (.lst []), .while_ (.cmp .gt (.blt .len [.var 2]) (.cst (.int 0))) [.asg (.nm 4) (.tup [.idx (.var 2) (.cst (.int 0))]), .for_ (.nm 5) (.var 1) [.asg (.nm 6) (.call 5 [.var 0, .bin .add (.var 4) (.tup [.var 5])]), .ite (.blt .all [.comp (.cmp .in_ (.var 7) (.var 1)) (.nm 7) (.var 6) none [("one", 7)]]) [.asg (.nm 4) (.var 6)] []], .mut .append 3 (.var 4), .asg (.nm 2) (.comp (.var 5) (.nm 5) (.var 2) (some (.cmp .notin (.var 5) (.var 4))) [("word", 5)])], .ret (.blt .tuple [.var 3])]⟩
/-- _law_feed -/
def f8 : FD := D_l_feed
/-- _law_draw -/
def f9 : FD := D_l_draw
/-- _law_order -/
def f10 : FD := F80_l_all_words
/-- _law_words -/
def f11 : FD := D_l_words 10
/-- _law_signs -/
def f12 : FD := D_l_signs
/-- _law_lays -/
def f13 : FD := D_l_lays 12 ("_law_word" : Str)
/-- _law_around -/
def f14 : FD := D_l_around 13 11 ("_law_one" : Str)
/-- _law_some -/
def f15 : FD := D_l_some 9 11 ("_law_one" : Str)
/-- _law_drawn -/
def f16 : FD := ⟨[true, false], 6, [.asg (.nm 2) (.call 9 [.var 0, .cst (.int 6)]), .asg (.nm 3) (.call 11 [.var 1]), .ite (.cmp .eq (.var 2) (.cst (.int 0))) [.ret (.idx (.lst [.tup [], .blt .tuple [.var 3]]) (.call 9 [.var 0, .cst (.int 2)]))] [], .asg (.nm 4) (.call 15 [.var 0, .var 1, .idx (.var 3) (.call 9 [.var 0, .blt .len [.var 3]])]), .ite (.cmp .eq (.var 2) (.cst (.int 1))) [.ret (.tup [.idx (.var 3) (.call 9 [.var 0, .blt .len [.var 3]])])] [], .ite (.cmp .eq (.var 2) (.cst (.int 2))) [.ret (.var 4)] [], .asg (.nm 4) (.call 14 [.var 1, .slc (.var 4) none (some (.bin .add (.cst (.int 1)) (.call 9 [.var 0, .cst (.int 3)])))]), .asg (.nm 5) (.call 9 [.var 0, .blt .len [.var 4]]), .ret (.ite (.cmp .eq (.var 2) (.cst (.int 3))) (.bin .add (.slc (.var 4) none (some (.var 5))) (.slc (.var 4) (some (.bin .add (.var 5) (.cst (.int 1)))) none)) (.var 4))]⟩
/-- _law_is_may -/
def f17 : FD := ⟨[false, false], 4, [.ite (.or (.not (.isi (.var 1) ["tuple"])) (.cmp .in_ (.cst (.bl false)) (.comp (.isi (.var 2) ["str"]) (.nm 2) (.var 1) none [("_law_one", 2)]))) [.ret (.cst (.bl false))] [], .ret (.cmp .eq (.blt .list [.var 1]) (.comp (.var 3) (.nm 3) (.call 11 [.var 0]) (some (.cmp .in_ (.var 3) (.var 1))) [("_law_word", 3)]))]⟩
/-- _law_parts_right -/
def f18 : FD := ⟨[false, false, false], 5, [.ite (.or (.not (.isi (.var 2) ["tuple"])) (.cmp .in_ (.cst (.bl false)) (.comp (.and (.call 17 [.var 0, .var 4]) (.cmp .gt (.blt .len [.var 4]) (.cst (.int 0)))) (.nm 4) (.var 2) none [("_law_one", 4)]))) [.ret (.cst (.bl false))] [], .ite (.cmp .in_ (.cst (.bl false)) (.comp (.cmp .eq (.call 14 [.var 0, .var 4]) (.var 4)) (.nm 4) (.var 2) none [("_law_one", 4)])) [.ret (.cst (.bl false))] [], .own 3 (.lst []), .for_ (.nm 4) (.var 2) [.mut .extend 3 (.var 4)], .frz 3, .ret (.cmp .eq (.ext .sst [.var 3]) (.blt .sorted [.var 1]))]⟩
/-- _law_right -/
def f19 : FD := ⟨[false, false], 3, [.asg (.nm 2) (.call 14 [.var 0, .var 1]), .ite (.cmp .ne (.blt .repr [.call 5 [.var 0, .var 1]]) (.blt .repr [.var 2])) [.ret (.cst (.bl false))] [], .ite (.or (.cmp .ne (.blt .repr [.call 6 [.var 0, .var 1]]) (.blt .repr [.cmp .eq (.var 1) (.var 2)])) (.cmp .isnot (.call 6 [.var 0, .var 2]) (.cst (.bl true)))) [.ret (.cst (.bl false))] [], .ret (.call 18 [.var 0, .var 1, .call 7 [.var 0, .var 1]])]⟩
/-- law -/
def f20 : FD := ⟨[false], 7, [.own 1 (.call 8 [.var 0]), .asg (.nm 2) (.lst [.cst (.str "point"), .cst (.str "stretch")]), .own 3 (.lst []), .for_ (.nm 4) (.rng [.cst (.int 12)]) [.asg (.nm 5) (.tup [.idx (.var 2) (.blt .int [.cmp .gt (.call 9 [.var 1, .cst (.int 4)]) (.cst (.int 0))]), .idx (.var 2) (.blt .int [.cmp .gt (.call 9 [.var 1, .cst (.int 4)]) (.cst (.int 0))])]), .mut .append 3 (.tup [.var 5, .call 16 [.var 1, .var 5]])], .for_ (.tp [.nm 5, .nm 6]) (.bin .add (.var 3) (.slc (.var 3) none (some (.cst (.int 2))))) [.ite (.not (.call 19 [.var 5, .var 6])) [.ret (.cst (.bl false))] []], .ret (.cmp .eq (.call 7 [.tup [.cst (.str "stretch"), .cst (.str "point")], .tup []]) (.tup []))]⟩
def top (i : Nat) : PySem.Stmt := PySem.Challenge.pw_whens_k38_plain_mays_and_parts.main.body.getD i (.Pass ⟨0, 0, 0, 0⟩)
def d0 : DI := ⟨"words_of", top 6, ["kinds"], ["kinds"], f0⟩
def d1 : DI := ⟨"how_ends", top 7, ["kinds", "word", "x", "y"], ["kinds", "word", "x", "y", "signs"], f1⟩
def d2 : DI := ⟨"pairs_of_ends", top 10, ["kinds"], ["kinds", "found", "x", "y"], f2⟩
def d3 : DI := ⟨"signs_in", top 11, ["kinds", "may", "x", "y"], ["kinds", "may", "x", "y", "word"], f3⟩
def d4 : DI := ⟨"span", top 12, ["signs"], ["signs"], f4⟩
def d5 : DI := ⟨"plain_around", top 13, ["kinds", "may"], ["kinds", "may", "spans", "x", "y", "found", "word"], f5⟩
def d6 : DI := ⟨"is_plain", top 14, ["kinds", "may"], ["kinds", "may"], f6⟩
def d7 : DI := ⟨"plain_parts", top 15, ["kinds", "may"], ["kinds", "may", "left", "parts", "part", "word", "wider", "one"], f7⟩
def d8 : DI := ⟨"_law_feed", top 17, ["_law_script"], ["_law_script"], f8⟩
def d9 : DI := ⟨"_law_draw", top 18, ["_law_feed_here", "_law_many"], ["_law_feed_here", "_law_many", "_law_found", "_law_spot", "_law_cell", "_law_mixed"], f9⟩
def d10 : DI := ⟨"_law_order", top 19, [], ["_law_some_here"], f10⟩
def d11 : DI := ⟨"_law_words", top 20, ["_law_kinds"], ["_law_kinds", "_law_some_here"], f11⟩
def d12 : DI := ⟨"_law_signs", top 21, ["_law_one", "_law_other"], ["_law_one", "_law_other", "_law_found", "_law_x", "_law_y"], f12⟩
def d13 : DI := ⟨"_law_lays", top 22, ["_law_kinds"], ["_law_kinds", "_law_other", "_law_some_here", "_law_word"], f13⟩
def d14 : DI := ⟨"_law_around", top 23, ["_law_kinds", "_law_words_here"], ["_law_kinds", "_law_words_here", "_law_lays_here", "_law_found", "_law_word", "_law_good", "_law_spot", "_law_some_here", "_law_one"], f14⟩
def d15 : DI := ⟨"_law_some", top 24, ["_law_feed_here", "_law_kinds", "_law_word"], ["_law_feed_here", "_law_kinds", "_law_word", "_law_share", "_law_found", "_law_one"], f15⟩
def d16 : DI := ⟨"_law_drawn", top 25, ["_law_feed_here", "_law_kinds"], ["_law_feed_here", "_law_kinds", "_law_way", "_law_every", "_law_words_here", "_law_at"], f16⟩
def d17 : DI := ⟨"_law_is_may", top 26, ["_law_kinds", "_law_thing"], ["_law_kinds", "_law_thing", "_law_one", "_law_word"], f17⟩
def d18 : DI := ⟨"_law_parts_right", top 27, ["_law_kinds", "_law_words_here", "_law_found"], ["_law_kinds", "_law_words_here", "_law_found", "_law_every", "_law_one"], f18⟩
def d19 : DI := ⟨"_law_right", top 28, ["_law_kinds", "_law_words_here"], ["_law_kinds", "_law_words_here", "_law_due"], f19⟩
def d20 : DI := ⟨"law", top 29, ["_law_script"], ["_law_script", "_law_feed_here", "_law_some_here", "_law_asked_of", "_law_k", "_law_kinds", "_law_words_here"], f20⟩
def is : List DI := [d0, d1, d2, d3, d4, d5, d6, d7, d8, d9, d10, d11, d12, d13, d14, d15, d16, d17, d18, d19, d20]
def cs : List (Str × PyData) := [("ORDER", .tuple [.str "ahead", .str "meets", .str "overlaps", .str "begins", .str "within", .str "ends", .str "same", .str "ended", .str "holds", .str "begun", .str "lapped", .str "met", .str "behind"]), ("POINTS", .tuple [.str "ahead", .str "same", .str "behind"]), ("POINT_FIRST", .tuple [.str "ahead", .str "begins", .str "within", .str "ends", .str "behind"]), ("STRETCH_FIRST", .tuple [.str "ahead", .str "ended", .str "holds", .str "begun", .str "behind"]), ("SIGNS", .dict [(.str "ahead", .tuple [.int (-1), .int (-1), .int (-1), .int (-1)]), (.str "meets", .tuple [.int (-1), .int (-1), .int 0, .int (-1)]), (.str "overlaps", .tuple [.int (-1), .int (-1), .int 1, .int (-1)]), (.str "begins", .tuple [.int 0, .int (-1), .int 1, .int (-1)]), (.str "within", .tuple [.int 1, .int (-1), .int 1, .int (-1)]), (.str "ends", .tuple [.int 1, .int (-1), .int 1, .int 0]), (.str "same", .tuple [.int 0, .int (-1), .int 1, .int 0]), (.str "ended", .tuple [.int (-1), .int (-1), .int 1, .int 0]), (.str "holds", .tuple [.int (-1), .int (-1), .int 1, .int 1]), (.str "begun", .tuple [.int 0, .int (-1), .int 1, .int 1]), (.str "lapped", .tuple [.int 1, .int (-1), .int 1, .int 1]), (.str "met", .tuple [.int 1, .int 0, .int 1, .int 1]), (.str "behind", .tuple [.int 1, .int 1, .int 1, .int 1])]), ("ENDS", .dict [(.str "point", .tuple [.int 0]), (.str "stretch", .tuple [.int 0, .int 1])])]
def T : List FD := [f0, f1, f2, f3, f4, f5, f6, f7, f8, f9, f10, f11, f12, f13, f14, f15, f16, f17, f18, f19, f20]
instance : HasF T 0 (P_words_of 0 1 2 3) := ⟨rfl⟩
instance : HasF T 1 (P_how_ends 4) := ⟨rfl⟩
instance : HasF T 2 (P_pairs_of_ends 5 ("y" : Str)) := ⟨rfl⟩
instance : HasF T 3 (P_signs_in 1 ("word" : Str)) := ⟨rfl⟩
instance : HasF T 4 (P_span) := ⟨rfl⟩
instance : HasF T 5 (P_plain_around 2 4 3 0 1 ("x" : Str) ("y" : Str)) := ⟨rfl⟩
instance : HasF T 6 (P_is_plain 5) := ⟨rfl⟩
instance : HasF T 8 (D_l_feed) := ⟨rfl⟩
instance : HasF T 9 (D_l_draw) := ⟨rfl⟩
instance : HasF T 10 (F80_l_all_words) := ⟨rfl⟩
instance : HasF T 11 (D_l_words 10) := ⟨rfl⟩
instance : HasF T 12 (D_l_signs) := ⟨rfl⟩
instance : HasF T 13 (D_l_lays 12 ("_law_word" : Str)) := ⟨rfl⟩
instance : HasF T 14 (D_l_around 13 11 ("_law_one" : Str)) := ⟨rfl⟩
instance : HasF T 15 (D_l_some 9 11 ("_law_one" : Str)) := ⟨rfl⟩
instance : HasG (gOf cs) 0 (.tuple [.str "ahead", .str "meets", .str "overlaps", .str "begins", .str "within", .str "ends", .str "same", .str "ended", .str "holds", .str "begun", .str "lapped", .str "met", .str "behind"]) := ⟨rfl⟩
instance : HasG (gOf cs) 1 (.tuple [.str "ahead", .str "same", .str "behind"]) := ⟨rfl⟩
instance : HasG (gOf cs) 2 (.tuple [.str "ahead", .str "begins", .str "within", .str "ends", .str "behind"]) := ⟨rfl⟩
instance : HasG (gOf cs) 3 (.tuple [.str "ahead", .str "ended", .str "holds", .str "begun", .str "behind"]) := ⟨rfl⟩
instance : HasG (gOf cs) 4 (.dict [(.str "ahead", .tuple [.int (-1), .int (-1), .int (-1), .int (-1)]), (.str "meets", .tuple [.int (-1), .int (-1), .int 0, .int (-1)]), (.str "overlaps", .tuple [.int (-1), .int (-1), .int 1, .int (-1)]), (.str "begins", .tuple [.int 0, .int (-1), .int 1, .int (-1)]), (.str "within", .tuple [.int 1, .int (-1), .int 1, .int (-1)]), (.str "ends", .tuple [.int 1, .int (-1), .int 1, .int 0]), (.str "same", .tuple [.int 0, .int (-1), .int 1, .int 0]), (.str "ended", .tuple [.int (-1), .int (-1), .int 1, .int 0]), (.str "holds", .tuple [.int (-1), .int (-1), .int 1, .int 1]), (.str "begun", .tuple [.int 0, .int (-1), .int 1, .int 1]), (.str "lapped", .tuple [.int 1, .int (-1), .int 1, .int 1]), (.str "met", .tuple [.int 1, .int 0, .int 1, .int 1]), (.str "behind", .tuple [.int 1, .int 1, .int 1, .int 1])]) := ⟨rfl⟩
instance : HasG (gOf cs) 5 (.dict [(.str "point", .tuple [.int 0]), (.str "stretch", .tuple [.int 0, .int 1])]) := ⟨rfl⟩
end K38

namespace K38
open Ev PySem PySem.Spec PyProof.Rows L2
theorem isOk : is.all (DI.ok (nmsOf is cs)) = true := by kernel_rfl
theorem b0 : DI.Bind d0 := fun _ _ _ _ _ _ us hl => match us, hl with | [_], _ => rfl
theorem b1 : DI.Bind d1 := fun _ _ _ _ _ _ us hl => match us, hl with | [_, _, _, _], _ => rfl
theorem b2 : DI.Bind d2 := fun _ _ _ _ _ _ us hl => match us, hl with | [_], _ => rfl
theorem b3 : DI.Bind d3 := fun _ _ _ _ _ _ us hl => match us, hl with | [_, _, _, _], _ => rfl
theorem b4 : DI.Bind d4 := fun _ _ _ _ _ _ us hl => match us, hl with | [_], _ => rfl
theorem b5 : DI.Bind d5 := fun _ _ _ _ _ _ us hl => match us, hl with | [_, _], _ => rfl
theorem b6 : DI.Bind d6 := fun _ _ _ _ _ _ us hl => match us, hl with | [_, _], _ => rfl
theorem b7 : DI.Bind d7 := fun _ _ _ _ _ _ us hl => match us, hl with | [_, _], _ => rfl
theorem b8 : DI.Bind d8 := fun _ _ _ _ _ _ us hl => match us, hl with | [_], _ => rfl
theorem b9 : DI.Bind d9 := fun _ _ _ _ _ _ us hl => match us, hl with | [_, _], _ => rfl
theorem b10 : DI.Bind d10 := fun _ _ _ _ _ _ us hl => match us, hl with | [], _ => rfl
theorem b11 : DI.Bind d11 := fun _ _ _ _ _ _ us hl => match us, hl with | [_], _ => rfl
theorem b12 : DI.Bind d12 := fun _ _ _ _ _ _ us hl => match us, hl with | [_, _], _ => rfl
theorem b13 : DI.Bind d13 := fun _ _ _ _ _ _ us hl => match us, hl with | [_], _ => rfl
theorem b14 : DI.Bind d14 := fun _ _ _ _ _ _ us hl => match us, hl with | [_, _], _ => rfl
theorem b15 : DI.Bind d15 := fun _ _ _ _ _ _ us hl => match us, hl with | [_, _, _], _ => rfl
theorem b16 : DI.Bind d16 := fun _ _ _ _ _ _ us hl => match us, hl with | [_, _], _ => rfl
theorem b17 : DI.Bind d17 := fun _ _ _ _ _ _ us hl => match us, hl with | [_, _], _ => rfl
theorem b18 : DI.Bind d18 := fun _ _ _ _ _ _ us hl => match us, hl with | [_, _, _], _ => rfl
theorem b19 : DI.Bind d19 := fun _ _ _ _ _ _ us hl => match us, hl with | [_, _], _ => rfl
theorem b20 : DI.Bind d20 := fun _ _ _ _ _ _ us hl => match us, hl with | [_], _ => rfl
theorem bAll : ∀ j ∈ is, DI.Bind j := by
  intro j hj
  have hj : j ∈ ([d0, d1, d2, d3, d4, d5, d6, d7, d8, d9, d10, d11, d12, d13, d14, d15, d16, d17, d18, d19, d20] : List DI) := hj
  simp only [List.mem_cons, List.not_mem_nil, or_false] at hj
  rcases hj with rfl | rfl | rfl | rfl | rfl | rfl | rfl | rfl | rfl | rfl | rfl | rfl | rfl | rfl | rfl | rfl | rfl | rfl | rfl | rfl | rfl
  · exact b0
  · exact b1
  · exact b2
  · exact b3
  · exact b4
  · exact b5
  · exact b6
  · exact b7
  · exact b8
  · exact b9
  · exact b10
  · exact b11
  · exact b12
  · exact b13
  · exact b14
  · exact b15
  · exact b16
  · exact b17
  · exact b18
  · exact b19
  · exact b20
abbrev R : PySem.W.OpenRow := PySem.W.OpenLaw.row PySem.Challenge.rw_whens_k38_plain_mays_and_parts
abbrev hk : PySem.W.Hook := hookV 6 (faOf is) (is.map DI.dd) cs
def ob (s : PySem.W.SharedT) : AlV := obsVG 6 (faOf is) (is.map DI.dd) cs (HandSHeadRun.getT s)
theorem ob_eq (s : PySem.W.SharedT) : ob s = hk.obs s.abs := obsVG_eq (HandSHeadRun.getT_eq s)
def loose : List PySem.Str := (["ORDER", "POINTS", "POINT_FIRST", "STRETCH_FIRST", "SIGNS", "words_of", "how_ends", "ENDS", "pairs_of_ends", "signs_in", "span", "plain_around", "is_plain", "plain_parts", "_law_feed", "_law_draw", "_law_order", "_law_words", "_law_signs", "_law_lays", "_law_around", "_law_some", "_law_drawn", "_law_is_may", "_law_parts_right", "_law_right"] : List PySem.Str)
theorem run_f (w : World) : HandSHeadRun.RunEq R (PySem.W.view R.prog [29]) hk ob 4000 loose (Ev.wB false w) := by
  intro os
  kernel_rfl
theorem run_t (w : World) : HandSHeadRun.RunEq R (PySem.W.view R.prog [29]) hk ob 4000 loose (Ev.wB true w) := by
  intro os
  kernel_rfl
theorem run (w : World) : HandSHeadRun.RunEq R (PySem.W.view R.prog [29]) hk ob 4000 loose w :=
  Ev.by_wB (fun b w => match b with | false => run_f w | true => run_t w) w
end K38

namespace Ev
set_option autoImplicit false
open PySem
section
variable {m w w' : Nat} {d : D} {ds xs ys : List D}
theorem cut_len {lo hi : Option Int} : (cutD xs lo hi).length ≤ xs.length := by
  unfold cutD
  rw [List.length_take, List.length_drop]
  omega
theorem cut_mem {lo hi : Option Int} {x : D} (h : x ∈ cutD xs lo hi) : x ∈ xs := by
  unfold cutD at h
  exact List.mem_of_mem_drop (List.mem_of_mem_take h)
theorem ncs_one (h : Nc m w d) : Ncs m (w + 1) [d] := (ncs_cons h (ncs_nil (m := m) (w := 0))).mono (Nat.le_refl _) (by omega)
theorem nm_lit (s : String) (h : s.toList.length ≤ 20) : NmOk 20 (Str.ofString s) := ⟨ofS_ok _, by rw [Str.ofString_eq_toList]; simpa using h⟩
end
theorem fc_upto {C : Fn} {Fd : Int → List D → Prop} (mono : ∀ M N F, Fd M F → M ≤ N → Fd N F) {f : Nat} {ds : List D} {M : Int} {K : Rv → Int → Prop} (N : Int) (h : FCall C Fd f ds M fun r M' => M' ≤ N ∧ K r N) : FCall C Fd f ds M K := fc_ex fun F hF => by
  obtain ⟨r, F', M', e, hf, a, b⟩ := h.run F hF
  exact ⟨r, F', N, e, mono _ _ _ hf a, b⟩
end Ev

namespace Ev
set_option autoImplicit false
open PySem
/-- a name -/
structure Name (z : Str) : Prop where
  lo : 1 ≤ z.cps.size
  hi : z.cps.size ≤ 8
  let_ : ∀ c ∈ z.cps.toList, 97 ≤ c ∧ c ≤ 122
theorem Name.ok {z : Str} (h : Name z) : NmOk 8 z := ⟨so_iff.mpr fun c hc => by have := h.let_ c hc; omega, h.hi⟩
def ltS (a b : Str) : Bool := decide (a.cps.toList < b.cps.toList)
section
variable {W n : Nat} {G : Nat → Option D} {T : List FD} {X : Cx} {g : Sg} {M : Int} {Q : Rv → Sg → Int → Prop} {i j pf pd pn pk pt : Nat}
end
section
variable {W n : Nat} {G : Nat → Option D} {T : List FD} {X : Cx} {g : Sg} {M : Int} {Q : Rv → Sg → Int → Prop} {K : Rv → Int → Prop} {i j pf pd pn pk pt : Nat}
def kd (s : Bool) : Str := if s then "stretch" else "point"
theorem kd_ok (s : Bool) : NmOk 20 (kd s) := by
  cases s
  · exact nm_lit "point" (by decide)
  · exact nm_lit "stretch" (by decide)
theorem kd_inj {a b : Bool} (h : kd a = kd b) : a = b := by
  cases a <;> cases b <;> first
    | rfl
    | exact absurd (ofS_inj h) (by decide)
/-- things -/
structure Things (NK : List (Str × Bool)) : Prop where
  lo : 1 ≤ NK.length
  nm : ∀ p ∈ NK, Name p.1
  ris : (NK.map (·.1)).Pairwise fun a b => ltS a b = true
theorem ltS_irr {a : Str} : ltS a a = false := decide_eq_false (List.lt_irrefl _)
theorem Things.nd {NK : List (Str × Bool)} (h : Things NK) : (NK.map (·.1)).Nodup := h.ris.imp fun {a b} hl e => by
  rw [e, ltS_irr] at hl
  cases hl
end
end Ev

namespace Ev
set_option autoImplicit false
open PySem

def ords : List String := ["ahead", "meets", "overlaps", "begins", "within", "ends", "same", "ended", "holds", "begun", "lapped", "met", "behind"]
def od (i : Nat) : Str := Str.ofString (ords.getD i "")
def wl (s s' : Bool) : List Nat := if s then (if s' then [0, 1, 2, 3, 4, 5, 6, 7, 8, 9, 10, 11, 12] else [0, 7, 8, 9, 12]) else (if s' then [0, 3, 4, 5, 12] else [0, 6, 12])
def dW (l : List Nat) : List D := l.map fun i => .str (od i)
/-- kinds of two things -/
def kdD (s s' : Bool) : D := .tuple [.str (kd s), .str (kd s')]
theorem dW_len {l : List Nat} : (dW l).length = l.length := List.length_map ..
theorem od_inj : ∀ i j : Nat, i ≤ 12 → j ≤ 12 → od i = od j → i = j := by
  have key : ∀ i < 13, ∀ j < 13, ords.getD i "" = ords.getD j "" → i = j := by decide +kernel
  exact fun i j hi hj h => key i (by omega) j (by omega) (ofS_inj h)
theorem sz_od : ∀ i : Nat, i ≤ 12 → (od i).cps.size ≤ 20 := by
  have key : ∀ i < 13, (ords.getD i "").toList.length ≤ 20 := by decide +kernel
  intro i hi
  unfold od
  rw [Str.ofString_eq_toList]
  simpa using key i (by omega)
theorem nc_od {i : Nat} (hi : i ≤ 12) : Nc 0 20 (.str (od i)) := nc_str (ofS_ok _) (sz_od i hi)
theorem ncs_dW {l : List Nat} (h : ∀ i ∈ l, i ≤ 12) (hl : l.length ≤ 13) : Ncs 0 273 (dW l) := by
  refine (ncs_le (m := 0) (w := 20) 13 (fun d hd => ?_) (by simpa [dW] using hl)).mono (Nat.le_refl _) (by decide)
  obtain ⟨i, hi, rfl⟩ := List.mem_map.mp hd
  exact nc_od (h i hi)
theorem rep_dW {l : List Nat} (h : ∀ i ∈ l, i ≤ 12) (hl : l.length ≤ 13) : reprOk (.tuple (dW l)) = true := (nc_tup (ncs_dW h hl)).repr (by decide) (by decide)
/-- turned_may -/
theorem filter_sub : ∀ {V L : List Nat}, V.Sublist L → L.Nodup → L.filter (fun x => decide (x ∈ V)) = V := by
  intro V L h
  induction h with
  | slnil => intro _; rfl
  | @cons V L a h ih =>
    intro nd
    obtain ⟨h1, h2⟩ := List.nodup_cons.mp nd
    have : a ∉ V := fun z => h1 (h.subset z)
    rw [List.filter_cons_of_neg (by simpa using this)]
    exact ih h2
  | @cons_cons V L a h ih =>
    intro nd
    obtain ⟨h1, h2⟩ := List.nodup_cons.mp nd
    rw [List.filter_cons_of_pos (by simp)]
    refine congrArg (a :: ·) ?_
    refine Eq.trans (List.filter_congr fun x hx => ?_) (ih h2)
    have : x ≠ a := fun z => h1 (z ▸ hx)
    simp [this]
def isOd (d : D) (i : Nat) : Bool := match d with
  | .str z => decide (z = od i)
  | _ => false
def gd (l : List Nat) (d : D) : Option Nat := l.find? (isOd d)
theorem gd_some {l : List Nat} {d : D} {i : Nat} (h : gd l d = some i) : i ∈ l ∧ d = .str (od i) := by
  refine ⟨List.mem_of_find?_eq_some h, ?_⟩
  have h2 := List.find?_some h
  unfold isOd at h2
  split at h2
  · rename_i z
    rw [of_decide_eq_true h2]
  · cases h2
theorem gd_none {l : List Nat} {d : D} (h : gd l d = none) : ∀ i ∈ l, d ≠ .str (od i) := by
  intro i hi e
  have := List.find?_eq_none.mp h i hi
  rw [e] at this
  exact this (decide_eq_true rfl)
theorem gd_od {l : List Nat} (h12 : ∀ i ∈ l, i ≤ 12) {i : Nat} (hi : i ∈ l) : gd l (.str (od i)) = some i := by
  cases e : gd l (.str (od i)) with
  | none => exact absurd rfl (gd_none e i hi)
  | some j =>
    obtain ⟨h1, h2⟩ := gd_some e
    injection h2 with h2
    rw [od_inj i j (h12 i hi) (h12 j h1) h2]
theorem wl_ok {s s' : Bool} : (wl s s').Nodup ∧ (∀ i ∈ wl s s', i ≤ 12) ∧ (wl s s').length ≤ 13 := by
  cases s <;> cases s' <;> decide
theorem ncs_dW2 {l : List Nat} (m : Nat) (h : ∀ i ∈ l, i ≤ 12) (hl : l.length ≤ 200) : Ncs m 4200 (dW l) := by
  refine (ncs_le (m := m) (w := 20) 200 (fun d hd => ?_) (by rw [dW_len]; exact hl)).mono (Nat.le_refl _) (by decide)
  obtain ⟨i, hi, rfl⟩ := List.mem_map.mp hd
  exact (nc_od (h i hi)).mono (Nat.zero_le _) (Nat.le_refl _)
theorem any_gd {l : List Nat} {z : Str} : ((dW l).any fun y => PyData.eqv y (.str z)) = (gd l (.str z)).isSome := by
  unfold gd dW
  rw [List.any_map, Bool.eq_iff_iff, List.any_eq_true, List.find?_isSome]
  constructor
  · rintro ⟨i, hi, e⟩
    exact ⟨i, hi, decide_eq_true (beq_iff_eq.mp (show (od i == z) = true from e)).symm⟩
  · rintro ⟨i, hi, e⟩
    exact ⟨i, hi, beq_iff_eq.mpr (of_decide_eq_true (show decide (z = od i) = true from e)).symm⟩
theorem in_g {l : List Nat} {z : Str} (h : ∀ j ∈ l, j ≤ 12) (hl : l.length ≤ 13) (hz : Ev.shp (.str z) = true) : dCmp .in_ (.str z) (.tuple (dW l)) = some (gd l (.str z)).isSome := by
  have s2 : Ev.shp (.tuple (dW l)) = true := (nc_tup (ncs_dW2 0 h (by omega))).shp (by decide)
  show (if Ev.shp (.str z) && Ev.shp (.tuple (dW l)) then some ((dW l).any fun y => PyData.eqv y (.str z)) else none) = _
  rw [hz, s2, any_gd]
  rfl
theorem gd_mem {l : List Nat} (h : ∀ j ∈ l, j ≤ 12) {i : Nat} (hi : i ≤ 12) : (gd l (.str (od i))).isSome = decide (i ∈ l) := by
  by_cases hm : i ∈ l
  · rw [gd_od h hm, decide_eq_true hm]
    rfl
  · rw [decide_eq_false hm]
    cases e : gd l (.str (od i)) with
    | none => rfl
    | some j =>
      obtain ⟨h1, h2⟩ := gd_some e
      injection h2 with h2
      have := od_inj i j hi (h j h1) h2
      rw [this] at hm
      exact absurd h1 hm
section
variable {W n : Nat} {G : Nat → Option D} {T : List FD} {X : Cx} {g : Sg} {M : Int} {Q : Rv → Sg → Int → Prop} {KP : Rv → Prop} {K : Rv → Int → Prop} {i j pd pw pm : Nat} {s s' : Bool}
theorem eqT {xs ys : List D} {b : Bool} {B : Bool → Prop} (hx : Ev.shp (.tuple xs) = true) (hy : Ev.shp (.tuple ys) = true) (e : PyData.eqvAll xs ys = b) (q : B b) : BlQ (dCmp .eq (.tuple xs) (.tuple ys)) B := by
  refine bq ?_ q
  show (if Ev.shp (.tuple xs) && Ev.shp (.tuple ys) then some (PyData.eqvAll xs ys) else none) = _
  rw [hx, hy, e]
  rfl
theorem kdD_nc : Nc 1 60 (kdD s s') := (nc_tup (ncs_cons (NmOk.nc (m := 0) (kd_ok s)) (ncs_one (NmOk.nc (kd_ok s'))))).mono (by decide) (by decide)
theorem kd_eq {a b s s' : Bool} {B : Bool → Prop} (q : B (decide (s = a) && decide (s' = b))) : BlQ (dCmp .eq (kdD s s') (.tuple [.str (kd a), .str (kd b)])) B := by
  refine eqT ((kdD_nc (s := s) (s' := s')).shp (by decide)) ((kdD_nc (s := a) (s' := b)).shp (by decide)) ?_ q
  rw [eqvA_cons, eqvA_cons, eqvA_nil, Bool.and_true, eqv_str, eqv_str]
  congr 1
  · rw [Bool.eq_iff_iff, beq_iff_eq, decide_eq_true_iff]
    exact ⟨kd_inj, fun e => by rw [e]⟩
  · rw [Bool.eq_iff_iff, beq_iff_eq, decide_eq_true_iff]
    exact ⟨kd_inj, fun e => by rw [e]⟩
theorem kd_eqS {a s : Bool} {B : Bool → Prop} (q : B (decide (s = a))) : BlQ (dCmp .eq (.str (kd s)) (.str (kd a))) B := by
  refine b_eqS ?_
  have e : decide (kd s = kd a) = decide (s = a) := by
    rw [Bool.eq_iff_iff, decide_eq_true_iff, decide_eq_true_iff]
    exact ⟨kd_inj, fun e => by rw [e]⟩
  rw [e]
  exact q
theorem wordsP {g0 g1 g2 g3 : Nat} [HasG G g0 (.tuple [.str "ahead", .str "meets", .str "overlaps", .str "begins", .str "within", .str "ends", .str "same", .str "ended", .str "holds", .str "begun", .str "lapped", .str "met", .str "behind"])] [HasG G g1 (.tuple [.str "ahead", .str "same", .str "behind"])] [HasG G g2 (.tuple [.str "ahead", .str "begins", .str "within", .str "ends", .str "behind"])] [HasG G g3 (.tuple [.str "ahead", .str "ended", .str "holds", .str "begun", .str "behind"])] [HasF T pw (P_words_of g0 g1 g2 g3)] (q : KP (.pur (.tuple (dW (wl s s'))))) : PCall (callN W G T (n + 1)) pw [kdD s s'] KP := by
  refine Ev.pc_fn (d := (P_words_of g0 g1 g2 g3)) Ev.HasF.h rfl (by (conv => lhs; dsimp only [P_words_of, Ev.slots, List.length_cons, List.length_nil, Nat.reduceAdd, Nat.reduceSub]; simp only [List.replicate, List.map_cons, List.map_nil, List.cons_append, List.nil_append])) (by dsimp only [P_words_of] <;> rfl) ?_
  rfl'
  refine kd_eq (a := true) (b := true) ?_
  cases s <;> cases s' <;> rfl'
  all_goals first
    | exact q
    | skip
  all_goals refine kd_eq (a := false) (b := false) ?_
  all_goals rfl'
  all_goals first
    | exact q
    | skip
  all_goals refine kd_eqS (a := false) ?_
  all_goals rfl'
  all_goals exact q
theorem filt_sub {l : List Nat} : ∀ {os : List (Option Nat)}, os.length = l.length → (∀ (i : Nat) d o, l[i]? = some d → os[i]? = some o → o = none ∨ o = some d) → (os.filterMap id).Sublist l := by
  induction l with
  | nil =>
    intro os h _
    cases os with
    | nil => exact List.Sublist.slnil
    | cons o os => cases h
  | cons a l ih =>
    intro os h hR
    cases os with
    | nil => cases h
    | cons o os =>
      have h0 := hR 0 a o rfl rfl
      have ih' := ih (os := os) (by simpa using h) fun i d o h1 h2 => hR (i + 1) d o (by simpa using h1) (by simpa using h2)
      rcases h0 with rfl | rfl
      · exact ih'.cons a
      · exact ih'.cons₂ a
end
end Ev

namespace Ev
set_option autoImplicit false
open PySem
section
variable {W n m w : Nat} {G : Nat → Option D} {T : List FD} {K : Rv → Prop} {pw pm : Nat} {s s' : Bool} {d : D}
end
end Ev

namespace Ev
set_option autoImplicit false
open PySem

section
variable {W n m w : Nat} {G : Nat → Option D} {T : List FD} {K : Rv → Prop} {pp pm pt pw : Nat} {d : D}
def th (NK : List (Str × Bool)) (k : Nat) : Str × Bool := NK.getD k (Str.empty, false)
end
end Ev

namespace Ev
set_option autoImplicit false
open PySem
section
variable {W n m w : Nat} {G : Nat → Option D} {T : List FD} {K : Rv → Prop} {p0 p1 pn : Nat} {d : D}
end
end Ev

namespace Ev
set_option autoImplicit false
open PySem
abbrev Fr := Int × Int
def sg (x : Int) : Int := (if 0 < x then 1 else 0) - (if x < 0 then 1 else 0)
def gc (t b : Int) : Int := (Nat.gcd b.natAbs t.natAbs : Nat)
/-- in least numbers -/
def nrm (t b : Int) : Fr := (t / gc t b, b / gc t b)
/-- how one stands to another -/
def cmpF (a b : Fr) : Int := sg (a.1 * b.2 - b.1 * a.2)
structure FrB (B : Int) (f : Fr) : Prop where
  pos : 0 < f.2
  hi : f.2 ≤ B
  lo : -B ≤ f.1
  up : f.1 ≤ B
def Least (f : Fr) : Prop := Nat.gcd f.2.natAbs f.1.natAbs = 1
theorem FrB.mono {B C : Int} {f : Fr} (h : FrB B f) (h2 : B ≤ C) : FrB C f := ⟨h.pos, Int.le_trans h.hi h2, by have := h.lo; omega, Int.le_trans h.up h2⟩
theorem pos_l {x g : Int} (hg : 0 < g) (h : 0 < x * g) : 0 < x := by
  rcases Int.lt_trichotomy 0 x with z | z | z
  · exact z
  · rw [← z, Int.zero_mul] at h
    omega
  · have := Int.mul_neg_of_neg_of_pos z hg
    omega
theorem neg_l {x g : Int} (hg : 0 < g) (h : x * g < 0) : x < 0 := by
  rcases Int.lt_trichotomy 0 x with z | z | z
  · have := Int.mul_pos z hg
    omega
  · rw [← z, Int.zero_mul] at h
    omega
  · exact z
theorem sg_mul {x y g b : Int} (hg : 0 < g) (hb : 0 < b) (e : x * g = y * b) : sg x = sg y := by
  have k1 : 0 < x ↔ 0 < y := by
    constructor
    · intro h
      have := Int.mul_pos h hg
      rw [e] at this
      exact pos_l hb this
    · intro h
      have := Int.mul_pos h hb
      rw [← e] at this
      exact pos_l hg this
  have k2 : x < 0 ↔ y < 0 := by
    constructor
    · intro h
      have := Int.mul_neg_of_neg_of_pos h hg
      rw [e] at this
      exact neg_l hb this
    · intro h
      have := Int.mul_neg_of_neg_of_pos h hb
      rw [← e] at this
      exact neg_l hg this
  unfold sg
  simp only [k1, k2]
theorem sg_lt {x y : Int} : sg (x - y) < 0 ↔ x < y := by unfold sg; split <;> split <;> omega
theorem sg_eq {x y : Int} : sg (x - y) = 0 ↔ x = y := by unfold sg; split <;> split <;> omega
theorem sg3 (x y : Int) : (sg (x - y) = -1 ∧ x < y) ∨ (sg (x - y) = 0 ∧ x = y) ∨ (sg (x - y) = 1 ∧ y < x) := by unfold sg; split <;> split <;> omega
theorem gc_pos {t b : Int} (hb : 0 < b) : 0 < gc t b := by
  unfold gc
  have := Nat.gcd_pos_of_pos_left t.natAbs (show 0 < b.natAbs by omega)
  omega
theorem gc_t {t b : Int} : t / gc t b * gc t b = t := Int.ediv_mul_cancel (by
  unfold gc
  exact Int.ofNat_dvd_left.mpr (Nat.gcd_dvd_right _ _))
theorem gc_b {t b : Int} : b / gc t b * gc t b = b := Int.ediv_mul_cancel (by
  unfold gc
  exact Int.ofNat_dvd_left.mpr (Nat.gcd_dvd_left _ _))
theorem nrm_pos {t b : Int} (hb : 0 < b) : 0 < (nrm t b).2 := pos_l (gc_pos (t := t) hb) (by show 0 < b / gc t b * gc t b; rw [gc_b]; exact hb)
theorem nrm_least {t b : Int} (hb : 0 < b) : Least (nrm t b) := by
  have g : 0 < Nat.gcd b.natAbs t.natAbs := Nat.gcd_pos_of_pos_left _ (by omega)
  unfold Least nrm
  have e1 : (b / gc t b).natAbs = b.natAbs / Nat.gcd b.natAbs t.natAbs := by
    unfold gc
    rw [Int.natAbs_ediv_of_dvd (Int.ofNat_dvd_left.mpr (Nat.gcd_dvd_left _ _))]
    rfl
  have e2 : (t / gc t b).natAbs = t.natAbs / Nat.gcd b.natAbs t.natAbs := by
    unfold gc
    rw [Int.natAbs_ediv_of_dvd (Int.ofNat_dvd_left.mpr (Nat.gcd_dvd_right _ _))]
    rfl
  show Nat.gcd (b / gc t b).natAbs (t / gc t b).natAbs = 1
  rw [e1, e2, Nat.gcd_div (Nat.gcd_dvd_left _ _) (Nat.gcd_dvd_right _ _), Nat.div_self g]
section
variable {W n : Nat} {G : Nat → Option D} {T : List FD} {K : Rv → Prop} {pf pd ps pb pl : Nat}
def big : Int := 2 ^ 180
theorem mulB {i j : Int} (hi : -big ≤ i ∧ i ≤ big) (hj : -big ≤ j ∧ j ≤ big) : mulOk i j = true := by
  unfold big at hi hj
  exact mulOk_le (by omega) (by omega)
theorem FrB.mulOk {a b : Fr} (ha : FrB big a) (hb : FrB big b) : Ev.mulOk a.1 b.2 = true ∧ Ev.mulOk b.1 a.2 = true ∧ Ev.mulOk a.2 b.2 = true := by
  have := ha.pos
  have := hb.pos
  have : (0 : Int) ≤ big := by unfold big; decide
  exact ⟨mulB ⟨ha.lo, ha.up⟩ ⟨by omega, hb.hi⟩, mulB ⟨hb.lo, hb.up⟩ ⟨by omega, ha.hi⟩, mulB ⟨by omega, ha.hi⟩ ⟨by omega, hb.hi⟩⟩
end
end Ev

namespace Ev
set_option autoImplicit false
open PySem
structure Tm (B : Int) (s : Bool) (a b : Fr) : Prop where
  fa : FrB B a
  fb : FrB B b
  la : Least a
  lb : Least b
  st : s = true → cmpF a b = -1
  pt : s = false → b = a
def sgL : Nat → List Int
  | 0 => [-1, -1, -1, -1]
  | 1 => [-1, -1, 0, -1]
  | 2 => [-1, -1, 1, -1]
  | 3 => [0, -1, 1, -1]
  | 4 => [1, -1, 1, -1]
  | 5 => [1, -1, 1, 0]
  | 6 => [0, -1, 1, 0]
  | 7 => [-1, -1, 1, 0]
  | 8 => [-1, -1, 1, 1]
  | 9 => [0, -1, 1, 1]
  | 10 => [1, -1, 1, 1]
  | 11 => [1, 0, 1, 1]
  | _ => [1, 1, 1, 1]
def hwI (s s' : Bool) (w i j : Nat) : Int := (sgL w).getD (if s && s' then 2 * i + j else 3 * max i j) 0
def eL (s : Bool) (x y : Int) : List Int := if s then [x, y] else [x]
def ei (s : Bool) (x y : Int) (i : Nat) : Int := (eL s x y).getD i 0
/-- four fractions by whole numbers that stand alike -/
theorem places (a b c d : Fr) (ha : 0 < a.2) (hb : 0 < b.2) (hc : 0 < c.2) (hd : 0 < d.2) : ∃ x y z u : Int, cmpF a b = sg (x - y) ∧ cmpF a c = sg (x - z) ∧ cmpF a d = sg (x - u) ∧ cmpF b c = sg (y - z) ∧ cmpF b d = sg (y - u) ∧ cmpF c d = sg (z - u) := by
  have key : ∀ (f g : Fr) (k : Int), 0 < k → ∀ x y : Int, x = f.1 * g.2 * k → y = g.1 * f.2 * k → cmpF f g = sg (x - y) := fun f g k hk x y hx hy => by
    unfold cmpF
    refine sg_mul (g := k) (b := 1) hk (by decide) ?_
    rw [hx, hy, Int.mul_one, Int.sub_mul]
  refine ⟨a.1 * b.2 * c.2 * d.2, b.1 * a.2 * c.2 * d.2, c.1 * a.2 * b.2 * d.2, d.1 * a.2 * b.2 * c.2, ?_, ?_, ?_, ?_, ?_, ?_⟩
  · exact key a b (c.2 * d.2) (Int.mul_pos hc hd) _ _ (by ac_rfl) (by ac_rfl)
  · exact key a c (b.2 * d.2) (Int.mul_pos hb hd) _ _ (by ac_rfl) (by ac_rfl)
  · exact key a d (b.2 * c.2) (Int.mul_pos hb hc) _ _ (by ac_rfl) (by ac_rfl)
  · exact key b c (a.2 * d.2) (Int.mul_pos ha hd) _ _ (by ac_rfl) (by ac_rfl)
  · exact key b d (a.2 * c.2) (Int.mul_pos ha hc) _ _ (by ac_rfl) (by ac_rfl)
  · exact key c d (a.2 * b.2) (Int.mul_pos ha hb) _ _ (by ac_rfl) (by ac_rfl)
/-- numbers for two times -/
theorem numbers {B : Int} {s s' : Bool} {a b a' b' : Fr} (h : Tm B s a b) (h' : Tm B s' a' b') : ∃ x y x' y' : Int, cmpF a a' = sg (x - x') ∧ cmpF a b' = sg (x - y') ∧ cmpF b a' = sg (y - x') ∧ cmpF b b' = sg (y - y') ∧ (s = true → x < y) ∧ (s = false → y = x) ∧ (s' = true → x' < y') ∧ (s' = false → y' = x') := by
  obtain ⟨x, y, z, u, e1, e2, e3, e4, e5, e6⟩ := places a b a' b' h.fa.pos h.fb.pos h'.fa.pos h'.fb.pos
  refine ⟨x, y, z, u, e2, e3, e4, e5, fun hs => ?_, fun hs => ?_, fun hs => ?_, fun hs => ?_⟩
  · rw [h.st hs] at e1
    exact sg_lt.mp (by omega)
  · have := h.pt hs
    subst this
    have : cmpF b b = 0 := by unfold cmpF; rw [sg_eq]
    rw [this] at e1
    have := sg_eq.mp e1.symm
    omega
  · rw [h'.st hs] at e6
    exact sg_lt.mp (by omega)
  · have := h'.pt hs
    subst this
    have : cmpF b' b' = 0 := by unfold cmpF; rw [sg_eq]
    rw [this] at e6
    have := sg_eq.mp e6.symm
    omega
section
variable {W n : Nat} {G : Nat → Option D} {T : List FD} {K : Rv → Prop} {pf pd ps pw pb pl ph pk pe pi pv : Nat} {s s' : Bool} {a b a' b' : Fr}
end
end Ev

namespace Ev
set_option autoImplicit false
open PySem
abbrev signsD : D := .dict [(.str "ahead", .tuple [.int (-1), .int (-1), .int (-1), .int (-1)]), (.str "meets", .tuple [.int (-1), .int (-1), .int 0, .int (-1)]), (.str "overlaps", .tuple [.int (-1), .int (-1), .int 1, .int (-1)]), (.str "begins", .tuple [.int 0, .int (-1), .int 1, .int (-1)]), (.str "within", .tuple [.int 1, .int (-1), .int 1, .int (-1)]), (.str "ends", .tuple [.int 1, .int (-1), .int 1, .int 0]), (.str "same", .tuple [.int 0, .int (-1), .int 1, .int 0]), (.str "ended", .tuple [.int (-1), .int (-1), .int 1, .int 0]), (.str "holds", .tuple [.int (-1), .int (-1), .int 1, .int 1]), (.str "begun", .tuple [.int 0, .int (-1), .int 1, .int 1]), (.str "lapped", .tuple [.int 1, .int (-1), .int 1, .int 1]), (.str "met", .tuple [.int 1, .int 0, .int 1, .int 1]), (.str "behind", .tuple [.int 1, .int 1, .int 1, .int 1])]
def sD (w : Nat) : D := .tuple ((sgL w).map PyData.int)
theorem le12 {w : Nat} (h : w ≤ 12) : w = 0 ∨ w = 1 ∨ w = 2 ∨ w = 3 ∨ w = 4 ∨ w = 5 ∨ w = 6 ∨ w = 7 ∨ w = 8 ∨ w = 9 ∨ w = 10 ∨ w = 11 ∨ w = 12 := by omega
section
variable {W n : Nat} {G : Nat → Option D} {T : List FD} {K : Rv → Prop} {pf pd ps pw pb pl ph pk pe pi pv p0 g0 g1 g2 g3 : Nat} {s s' : Bool} {a b a' b' : Fr} {w : Nat}
theorem kd_st {s : Bool} : decide (kd s = Str.ofString "stretch") = s := by
  cases s
  · exact decide_eq_false fun h => Bool.noConfusion (kd_inj (a := false) (b := true) h)
  · exact decide_eq_true rfl
theorem sg_get (hw : w ≤ 12) : dGet [(.str "ahead", .tuple [.int (-1), .int (-1), .int (-1), .int (-1)]), (.str "meets", .tuple [.int (-1), .int (-1), .int 0, .int (-1)]), (.str "overlaps", .tuple [.int (-1), .int (-1), .int 1, .int (-1)]), (.str "begins", .tuple [.int 0, .int (-1), .int 1, .int (-1)]), (.str "within", .tuple [.int 1, .int (-1), .int 1, .int (-1)]), (.str "ends", .tuple [.int 1, .int (-1), .int 1, .int 0]), (.str "same", .tuple [.int 0, .int (-1), .int 1, .int 0]), (.str "ended", .tuple [.int (-1), .int (-1), .int 1, .int 0]), (.str "holds", .tuple [.int (-1), .int (-1), .int 1, .int 1]), (.str "begun", .tuple [.int 0, .int (-1), .int 1, .int 1]), (.str "lapped", .tuple [.int 1, .int (-1), .int 1, .int 1]), (.str "met", .tuple [.int 1, .int 0, .int 1, .int 1]), (.str "behind", .tuple [.int 1, .int 1, .int 1, .int 1])] (od w) = some (sD w) := by
  rcases le12 hw with rfl | rfl | rfl | rfl | rfl | rfl | rfl | rfl | rfl | rfl | rfl | rfl | rfl <;> kernel_rfl
theorem sD_at {i : Nat} (hw : w ≤ 12) (hi : i < 4) : dIdx (sD w) (.int (i : Int)) = some (.int ((sgL w).getD i 0)) := by
  have hi' : i = 0 ∨ i = 1 ∨ i = 2 ∨ i = 3 := by omega
  rcases le12 hw with rfl | rfl | rfl | rfl | rfl | rfl | rfl | rfl | rfl | rfl | rfl | rfl | rfl <;> rcases hi' with rfl | rfl | rfl | rfl <;> rfl
theorem phow [HasG G g0 signsD] [HasF T ph (P_how_ends g0)] {i j : Nat} (hw : w ≤ 12) (hi : i ≤ 1) (hj : j ≤ 1) (q : K (.pur (.int (hwI s s' w i j)))) : PCall (callN W G T (n + 1)) ph [kdD s s', .str (od w), .int (i : Int), .int (j : Int)] K := by
  refine Ev.pc_fn (d := (P_how_ends g0)) Ev.HasF.h rfl (by (conv => lhs; dsimp only [P_how_ends, Ev.slots, List.length_cons, List.length_nil, Nat.reduceAdd, Nat.reduceSub]; simp only [List.replicate, List.map_cons, List.map_nil, List.cons_append, List.nil_append])) (by dsimp only [P_how_ends] <;> rfl) ?_
  rfl'
  refine tq_ (sg_get hw) ?_
  rfl'
  refine kd_eq (a := true) (b := true) ?_
  have hss : hwI s s' w i j = (sgL w).getD (if s && s' then 2 * i + j else 3 * max i j) 0 := rfl
  rw [hss] at q
  cases hk : (s && s') with
  | true =>
    have e : (decide (s = true) && decide (s' = true)) = true := by cases s <;> cases s' <;> first | rfl | cases hk
    rw [hk] at q
    rw [e]
    rfl'
    refine o_mulI (mulOk_le (by omega) (by omega)) ?_
    rfl'
    refine tq_ (d := .int ((sgL w).getD (2 * i + j) 0)) ?_ ?_
    · have := sD_at (i := 2 * i + j) hw (by omega)
      rw [show (((2 * i + j : Nat)) : Int) = 2 * (i : Int) + (j : Int) by omega] at this
      exact this
    rfl'
    exact q
  | false =>
    have e : (decide (s = true) && decide (s' = true)) = false := by cases s <;> cases s' <;> first | rfl | cases hk
    rw [hk] at q
    rw [e]
    rfl'
    have em : (if (j : Int) > (i : Int) then (j : Int) else (i : Int)) = ((max i j : Nat) : Int) := by split <;> omega
    rw [em]
    refine o_mulI (mulOk_le (by omega) (by omega)) ?_
    rfl'
    refine tq_ (d := .int ((sgL w).getD (3 * max i j) 0)) ?_ ?_
    · have := sD_at (i := 3 * max i j) hw (by omega)
      rw [show (((3 * max i j : Nat)) : Int) = 3 * ((max i j : Nat) : Int) by omega] at this
      exact this
    rfl'
    exact q
end
end Ev

namespace Ev
set_option autoImplicit false
open PySem
section
variable {W n : Nat} {G : Nat → Option D} {T : List FD} {M : Int} {K : Rv → Int → Prop} {KP : Rv → Prop} {pf pd pt pl pe pm : Nat} {s : Bool}
/-- a telling -/
abbrev TL := List (Fr × Fr)
structure TellB (B : Int) (NK : List (Str × Bool)) (t : TL) : Prop where
  len : t.length = NK.length
  at_ : ∀ (i : Nat) p x, NK[i]? = some p → t[i]? = some x → Tm B p.2 x.1 x.2
end
end Ev

namespace Ev
set_option autoImplicit false
open PySem
abbrev En := Str × Nat
def endsOf (p : Str × Bool) : List En := if p.2 then [(p.1, 0), (p.1, 1)] else [(p.1, 0)]
def endsL (NK : List (Str × Bool)) : List En := NK.flatMap endsOf
section
variable {W n : Nat} {G : Nat → Option D} {T : List FD} {M : Int} {K : Rv → Int → Prop} {KP : Rv → Prop} {pf pd pt pl pe pm pb pw pv ps po : Nat} {s : Bool} {NK : List (Str × Bool)} {t : TL} {B : Int}
theorem TellB.ok (h : TellB B NK t) {i : Nat} {p : Str × Bool} (hp : NK[i]? = some p) : ∃ x, t[i]? = some x ∧ Tm B p.2 x.1 x.2 := by
  have hi : i < t.length := by rw [h.len]; exact (List.getElem?_eq_some_iff.mp hp).1
  exact ⟨t[i], List.getElem?_eq_getElem hi, h.at_ i p _ hp (List.getElem?_eq_getElem hi)⟩
inductive Say where
  | may (a b : Str) (ws : List Nat)
  | gap (x y : En) (f : Fr) (st : Bool)
theorem Tm.mono {B C : Int} {s : Bool} {a b : Fr} (h : Tm B s a b) (hc : B ≤ C) : Tm C s a b := ⟨h.fa.mono hc, h.fb.mono hc, h.la, h.lb, h.st, h.pt⟩
theorem in_dWT {l : List Nat} {i : Nat} (h : ∀ j ∈ l, j ≤ 12) (hl : l.length ≤ 13) (hi : i ≤ 12) : dCmp .in_ (.str (od i)) (.tuple (dW l)) = some (decide (i ∈ l)) := by
  rw [in_g h hl ((nc_od hi).shp (by decide)), gd_mem h hi]
end
end Ev

namespace Ev
set_option autoImplicit false
open PySem
section
variable {W n : Nat} {G : Nat → Option D} {T : List FD} {M : Int} {K : Rv → Int → Prop} {KP : Rv → Prop} {pf pd pt pl pe pm pb pw pv ps po pg pq : Nat} {s : Bool} {NK : List (Str × Bool)} {t : TL}
end
end Ev

namespace Ev
set_option autoImplicit false
open PySem
section
variable {W n : Nat} {G : Nat → Option D} {T : List FD} {M : Int} {K : Rv → Int → Prop} {KP : Rv → Prop} {pf pd pt pl pe pm pb pw pv ps po pg pq pa : Nat} {s : Bool} {NK : List (Str × Bool)} {t : TL}
end
end Ev

namespace Ev
set_option autoImplicit false
open PySem
/-- the numbers of those that are not so -/
def brk (bs : List Bool) : List Nat := (List.range bs.length).filter fun k => !bs.getD k true
section
variable {W n : Nat} {G : Nat → Option D} {T : List FD} {KP : Rv → Prop} {po pb pk : Nat} {NK : List (Str × Bool)} {t : TL}
end
end Ev

namespace Ev
set_option autoImplicit false
open PySem
section
variable {W n m w : Nat} {G : Nat → Option D} {T : List FD} {K : Rv → Prop} {p0 p1 p2 p3 p4 pd pf pw pe : Nat} {d : D} {NK : List (Str × Bool)}
end
end Ev

namespace Ev
set_option autoImplicit false
open PySem
section
variable {W n m w : Nat} {G : Nat → Option D} {T : List FD} {K : Rv → Prop} {p0 p1 p2 p3 p4 p5 pf pw pe : Nat} {d : D} {NK : List (Str × Bool)} {r : List D}
end
end Ev

namespace Ev
set_option autoImplicit false
open PySem
section
variable {W n m w : Nat} {G : Nat → Option D} {T : List FD} {K : Rv → Prop} {p0 p1 p2 p3 p4 p5 pf pw pe : Nat} {d : D} {NK : List (Str × Bool)} {r : List D}
end
end Ev

namespace Ev
set_option autoImplicit false
open PySem
section
variable {W n : Nat} {G : Nat → Option D} {T : List FD} {p0 p1 : Nat}
end
end Ev

namespace Ev
set_option autoImplicit false
open PySem
section
variable {W n : Nat} {G : Nat → Option D} {T : List FD} {p0 p1 : Nat}
end
theorem cut_take {xs : List D} {k : Nat} : cutD xs none (some (k : Int)) = xs.take k := by
  unfold cutD
  rw [HT.sIx_none, HT.sIx_nat, List.drop_zero, Nat.sub_zero]
  rcases Nat.le_total k xs.length with h | h
  · rw [Nat.min_eq_left h]
  · rw [Nat.min_eq_right h, List.take_length, List.take_of_length_le h]
theorem cut_dropI {xs : List D} {k : Nat} : cutD xs (some (k : Int)) none = xs.drop k := by
  unfold cutD
  rw [HT.sIx_none, HT.sIx_nat, ← List.length_drop]
  rcases Nat.le_total k xs.length with h | h
  · rw [Nat.min_eq_left h, List.take_length]
  · rw [Nat.min_eq_right h, List.drop_of_length_le h, List.drop_of_length_le (Nat.le_refl _)]
    rfl
section
variable {W n m w : Nat} {G : Nat → Option D} {T : List FD} {K : Rv → Prop} {KF : Rv → Int → Prop} {pm pt pd pl pb : Nat} {d : D} {M : Int}
/-- a row of a table as drawn -/
inductive RowOk : D → Prop where
  | mk (a b : Str) (ws : List Nat) (ha : NmOk 8 a) (hb : NmOk 8 b) (hw : ∀ i ∈ ws, i ≤ 12) (hl : ws.length ≤ 13) : RowOk (.tuple [.str a, .str b, .tuple (dW ws)])
theorem RowOk.nc {d : D} (h : RowOk d) : Nc 2 300 d := by
  obtain ⟨a, b, ws, ha, hb, hw, hl⟩ := h
  exact (nc_tup (ncs_cons (ha.nc (m := 1)) (ncs_cons (hb.nc (m := 1)) (ncs_one (nc_tup (ncs_dW hw hl)))))).mono (by decide) (by decide)
end
end Ev

namespace Ev
set_option autoImplicit false
open PySem
structure Hd (p : Prop) : Prop where
  out : p
section
variable {X : Cx} {g : Sg} {M : Int} {P : Out → Int → Prop}
theorem evSs_cat {C : Fn} {G : Nat → Option D} {W : Nat} : ∀ (a b : List S) (h : Sg), evSs C G W (a ++ b) h = (evSs C G W a h).bind fun o => match o with
    | .nx g1 => evSs C G W b g1
    | o => some o
  | [], b, h => rfl
  | s :: a, b, h => by
    show (evS C G W s h).bind _ = ((evS C G W s h).bind _).bind _
    cases evS C G W s h with
    | none => rfl
    | some o =>
      cases o with
      | nx g1 => exact evSs_cat a b g1
      | bk _ => rfl
      | ct _ => rfl
      | rt _ _ => rfl
theorem ws_app {a b : List S} (q : WS X a g M (Nx (fun g1 M1 => Hd (WS X b g1 M1 P)) P)) : WS X (a ++ b) g M P := WS.mk fun h F r f => by
  obtain ⟨o, o', F1, M1, e1, r1, f1, q1⟩ := q.run h F r f
  rw [evSs_cat, e1]
  match o, o', r1, q1 with
  | .nx g1, .nx h1, r1, q1 => exact (show Hd (WS X b g1 M1 P) from q1.out).out.run h1 F1 r1 f1
  | .bk g1, .bk h1, r1, q1 => exact ⟨.bk g1, _, F1, M1, rfl, r1, f1, q1.out⟩
  | .ct g1, .ct h1, r1, q1 => exact ⟨.ct g1, _, F1, M1, rfl, r1, f1, q1.out⟩
  | .rt v g1, .rt w h1, r1, q1 => exact ⟨.rt v g1, _, F1, M1, rfl, r1, f1, q1.out⟩
theorem ws_at (n : Nat) {ss : List S} (q : WS X (ss.take n) g M (Nx (fun g1 M1 => Hd (WS X (ss.drop n) g1 M1 P)) P)) : WS X ss g M P := by
  have := ws_app q
  rw [List.take_append_drop] at this
  exact this
end
section
variable {W n m w : Nat} {G : Nat → Option D} {T : List FD} {K : Rv → Prop} {KF : Rv → Int → Prop} {p0 p1 p2 p3 p4 p5 pd pf pw pe pb : Nat} {d : D} {NK : List (Str × Bool)} {r : List D} {M : Int}
end
end Ev

namespace Ev
set_option autoImplicit false
open PySem
section
variable {W n : Nat} {G : Nat → Option D} {T : List FD} {f : Nat} {d : FD} {ds xs : List D} {K : Rv → List D → Prop}
end
theorem lay_ints : ∀ cs : List Int, PyData.canLayAll0 (cs.map PyData.int) = true
  | [] => rfl
  | c :: cs => by
    show (PyData.canLay0 (.int c) && PyData.canLayAll0 (cs.map PyData.int)) = true
    rw [lay_ints cs]
    rfl
theorem dep_ints : ∀ cs : List Int, PyData.depthAll (cs.map PyData.int) = 0
  | [] => rfl
  | c :: cs => by
    show max 0 (PyData.depthAll (cs.map PyData.int)) = 0
    rw [dep_ints cs]
    rfl
theorem shp_ints (cs : List Int) : Ev.shp (.list (cs.map PyData.int)) = true := by
  show (PyData.canLayAll0 (cs.map PyData.int) && decide (PyData.depthAll (cs.map PyData.int) + 1 ≤ 64)) = true
  rw [lay_ints, dep_ints]
  rfl
theorem ne_nil {cs : List Int} {B : Bool → Prop} (q : B (!cs.isEmpty)) : BlQ (dCmp .ne (.list (cs.map PyData.int)) (.list [])) B := by
  refine bq ?_ q
  show (if Ev.shp (.list (cs.map PyData.int)) && Ev.shp (.list []) then some (PyData.eqv (.list (cs.map PyData.int)) (.list [])) else none).map _ = _
  rw [shp_ints]
  cases cs <;> rfl
section
variable {W n : Nat} {G : Nat → Option D} {T : List FD} {X : Cx} {g : Sg} {M : Int} {Q : Rv → Sg → Int → Prop} {K : Rv → Int → Prop} {KP : Rv → Prop} {i j pf pd pt : Nat}
end
end Ev

namespace Ev
set_option autoImplicit false
open PySem
section
variable {W n : Nat} {G : Nat → Option D} {T : List FD} {X : Cx} {g : Sg} {M : Int} {Q : Rv → Sg → Int → Prop} {K : Rv → Int → Prop} {KP : Rv → Prop} {i j pf pd pt pw pc pp : Nat} {s s' : Bool} {a b a' b' : Fr}
end
section
variable {W n : Nat} {G : Nat → Option D} {T : List FD} {X : Cx} {g : Sg} {M : Int} {Q : Rv → Sg → Int → Prop} {K : Rv → Int → Prop} {KP : Rv → Prop} {i j pf pd pt pw pc pp : Nat} {s s' : Bool} {a b a' b' : Fr}
end
end Ev

namespace Ev
set_option autoImplicit false
open PySem
section
variable {X : Cx} {g : Sg} {M : Int} {P : Out → Int → Prop} {i : Nat} {e k : E} {kvs : List (D × D)} {d : D}
end
section
variable {W n : Nat} {G : Nat → Option D} {T : List FD} {M : Int} {K : Rv → Int → Prop} {KP : Rv → Prop} {pf pd pt pl pe pm pb pp : Nat} {NK : List (Str × Bool)} {t : TL} {B : Int}
theorem TellB.up {C : Int} (h : TellB B NK t) (hc : B ≤ C) : TellB C NK t := ⟨h.len, fun i p x h1 h2 => (h.at_ i p x h1 h2).mono hc⟩
end
end Ev

namespace Ev
set_option autoImplicit false
open PySem
section
variable {W n : Nat} {G : Nat → Option D} {T : List FD} {X : Cx} {g : Sg} {M : Int} {Q : Rv → Sg → Int → Prop} {K : Rv → Int → Prop} {KP : Rv → Prop} {i j pf pd pt pw pc pp po pm : Nat} {s s' : Bool} {NK : List (Str × Bool)} {t : TL} {B : Int}
end
end Ev

namespace Ev
set_option autoImplicit false
open PySem
section
variable {W n : Nat} {G : Nat → Option D} {T : List FD} {X : Cx} {g : Sg} {M : Int} {Q : Rv → Sg → Int → Prop} {K : Rv → Int → Prop} {KP : Rv → Prop} {i j pf pd pt pw pc pp pe pg : Nat} {s s' : Bool} {NK : List (Str × Bool)} {t : TL} {B : Int}
end
end Ev

namespace Ev
set_option autoImplicit false
open PySem
section
variable {W n : Nat} {G : Nat → Option D} {T : List FD} {X : Cx} {g : Sg} {M : Int} {Q : Rv → Sg → Int → Prop} {K : Rv → Int → Prop} {KP : Rv → Prop} {i j pf pd pt pw pc pp pe pg pb po pm pl ps pk : Nat} {s s' : Bool} {NK : List (Str × Bool)} {t : TL} {B : Int}
end
end Ev

namespace Ev
set_option autoImplicit false
open PySem
section
variable {W n : Nat} {G : Nat → Option D} {T : List FD} {X : Cx} {g : Sg} {M : Int} {Q : Rv → Sg → Int → Prop} {K : Rv → Int → Prop} {KP : Rv → Prop} {i j pf pd pt pw pc pp pe pg pb po pm pl ps pk : Nat} {s s' : Bool} {NK : List (Str × Bool)} {t : TL} {B : Int}
end
end Ev

namespace Ev
set_option autoImplicit false
open PySem
section
variable {W n : Nat} {G : Nat → Option D} {T : List FD} {M : Int} {K : Rv → Int → Prop} {KP : Rv → Prop} {pm pw py pa : Nat} {ws : List Nat} {s s' : Bool}
theorem allWords [HasF T pa F80_l_all_words] (q : KP (.new (.list (dW (wl true true))))) : PCall (callN W G T (n + 1)) pa [] KP := by
  refine Ev.pc_fn (d := F80_l_all_words) Ev.HasF.h rfl (by (conv => lhs; dsimp only [F80_l_all_words, Ev.slots, List.length_cons, List.length_nil, Nat.reduceAdd, Nat.reduceSub]; simp only [List.replicate, List.map_cons, List.map_nil, List.cons_append, List.nil_append])) (by dsimp only [F80_l_all_words] <;> rfl) ?_
  rfl'
  exact q
end
end Ev

namespace Ev
set_option autoImplicit false
open PySem
section
variable {NK : List (Str × Bool)} {e x y : En} {z : Say}
end
section
variable {W n : Nat} {G : Nat → Option D} {T : List FD} {M : Int} {K : Rv → Int → Prop} {KP : Rv → Prop} {pm pe ps pt : Nat} {NK : List (Str × Bool)} {e : En} {y : Say} {Y : List Say}
end
end Ev

namespace Ev
set_option autoImplicit false
open PySem
theorem o_reprG {d : D} {K : Rv → Prop} (h : reprOk d = true) (q : ∀ s, s = d.shown → K (.pur (.str s))) : OpQ (dBlt .repr [d]) K := o_repr h (q _ rfl)
def negF (f : Fr) : Fr := (-f.1, f.2)
def mirTm (t : TL) : TL := t.map fun x => (negF x.2, negF x.1)
theorem cmp_neg {a b : Fr} : cmpF (negF b) (negF a) = cmpF a b := by
  unfold cmpF negF
  dsimp only
  congr 1
  rw [Int.neg_mul, Int.neg_mul]
  omega
theorem FrB.neg {B : Int} {f : Fr} (h : FrB B f) : FrB B (negF f) := ⟨h.pos, h.hi, by have := h.up; show -B ≤ -f.1; omega, by have := h.lo; show -f.1 ≤ B; omega⟩
theorem Tm.neg {B : Int} {s : Bool} {a b : Fr} (h : Tm B s a b) : Tm B s (negF b) (negF a) := by
  have lz : ∀ {f : Fr}, Least f → Least (negF f) := fun {f} h => by
    unfold Least at h ⊢
    show Nat.gcd f.2.natAbs (-f.1).natAbs = 1
    rw [Int.natAbs_neg]
    exact h
  exact ⟨h.fb.neg, h.fa.neg, lz h.lb, lz h.la, fun hs => by rw [cmp_neg]; exact h.st hs, fun hs => by rw [h.pt hs]⟩
theorem TellB.neg {B : Int} {NK : List (Str × Bool)} {t : TL} (h : TellB B NK t) : TellB B NK (mirTm t) := by
  refine ⟨by unfold mirTm; rw [List.length_map, h.len], fun i p x h1 h2 => ?_⟩
  unfold mirTm at h2
  rw [List.getElem?_map] at h2
  obtain ⟨y, hy, rfl⟩ := Option.map_eq_some_iff.mp h2
  exact (h.at_ i p y h1 hy).neg
section
variable {W n : Nat} {G : Nat → Option D} {T : List FD} {M : Int} {K : Rv → Int → Prop} {KP : Rv → Prop} {pm pe ps pt pl pw pd : Nat} {NK : List (Str × Bool)} {t : TL} {B : Int}
abbrev Row := Str × Str × List Nat
structure RowB (NK : List (Str × Bool)) (r : Row) : Prop where
  a : ∃ p ∈ NK, p.1 = r.1
  b : ∃ p ∈ NK, p.1 = r.2.1
  w : ∃ s s' : Bool, r.2.2.Sublist (wl s s')
theorem RowB.len {r : Row} (h : RowB NK r) : (∀ w ∈ r.2.2, w ≤ 12) ∧ r.2.2.length ≤ 13 := by
  obtain ⟨s, s', hw⟩ := h.w
  exact ⟨fun j hj => wl_ok.2.1 j (hw.subset hj), Nat.le_trans hw.length_le wl_ok.2.2⟩
end
end Ev

namespace Ev
set_option autoImplicit false
open PySem
section
variable {X : Cx} {g : Sg} {M : Int} {P : Out → Int → Prop} {Q : Rv → Sg → Int → Prop} {i : Nat} {e k : E} {ks : List Str} {es : List E} {kvs : List (D × D)} {d : D}
theorem w1_ddis (h0 : ks ≠ []) (q : WEs X es g M fun ds g1 M1 => ks.length = ds.length ∧ ds.length ≤ 15 ∧ OwnQ i (.dict (dMerge [] (ks.zip ds))) g1 fun g2 => P (.nx g2) M1) : W1 X (.ddis i ks es) g M P := W1.mk fun h F r f => by
  obtain ⟨ds, g1, h1, F1, M1, e1, r1, f1, l1, l2, g2, eb, q1⟩ := q.run h F r f
  obtain ⟨h2, e2, r2⟩ := rel_setT (m := .own) r1 nofun eb
  refine ⟨.nx g2, .nx h2, F1, M1, ?_, r2, f1, q1⟩
  show (evEs X.C X.G es h).bind _ = _
  rw [e1]
  show (if ks.length = ds.length ∧ ds.length ≤ 15 ∧ ks ≠ [] then _ else _) = _
  rw [if_pos ⟨l1, l2, h0⟩]
  show (setV h1 i .own _).map _ = _
  rw [e2]
  rfl
theorem dctAt_ok {h : Sg} {F : List D} (r : Rel X g F h) (e : g[i]? = some (some (.own, .dict kvs))) : X.j ≠ some i ∧ dctAt h i = some (.own, kvs) := by
  obtain ⟨hj, o⟩ := rel_own r e
  refine ⟨hj, ?_⟩
  unfold dctAt
  rw [o]
/-- an own dict, as it stands -/
structure DcQ (g : Sg) (i : Nat) (K : List (D × D) → Prop) : Prop where
  out : ∃ kvs, g[i]? = some (some (.own, .dict kvs)) ∧ K kvs
theorem dcq {K : List (D × D) → Prop} (e : g[i]? = some (some (.own, .dict kvs))) (q : K kvs) : DcQ g i K := ⟨_, e, q⟩
theorem w1_dupd (h0 : ks ≠ []) (hd : g[i]? = some (some (.own, .dict kvs))) (hn : isN kvs = false) (q : WEs X es g M fun ds g1 M1 => ks.length = ds.length ∧ ds.length ≤ 15 ∧ DcQ g1 i fun kv1 => isN kv1 = false ∧ kv1.length ≤ 100000 ∧ P (.nx (g1.set i (some (.own, .dict (dMergeD kv1 (dMerge [] (ks.zip ds))))))) M1) : W1 X (.dupd i ks es) g M P := W1.mk fun h F r f => by
  obtain ⟨_, d0⟩ := dctAt_ok r hd
  obtain ⟨ds, g1, h1, F1, M1, e1, r1, f1, l1, l2, kv1, e2, hn2, l3, q1⟩ := q.run h F r f
  obtain ⟨hj, d1⟩ := dctAt_ok r1 e2
  refine ⟨.nx (g1.set i (some (.own, .dict (dMergeD kv1 (dMerge [] (ks.zip ds)))))), .nx (h1.set i (some (.own, .dict (dMergeD kv1 (dMerge [] (ks.zip ds)))))), F1, M1, ?_, rel_set r1 hj nofun, f1, q1⟩
  show (dctAt h i).bind _ = _
  rw [d0]
  show (evEs X.C X.G es h).bind _ = _
  rw [e1]
  show (dctAt h1 i).bind _ = _
  rw [d1]
  show (if ks.length = ds.length ∧ ds.length ≤ 15 ∧ ks ≠ [] ∧ isN kvs = false ∧ isN kv1 = false ∧ kv1.length ≤ 100000 then _ else _) = _
  rw [if_pos ⟨l1, l2, h0, hn, hn2, l3⟩]
end
end Ev

namespace Ev
set_option autoImplicit false
open PySem
section
variable {W n : Nat} {G : Nat → Option D} {T : List FD} {X : Cx} {g : Sg} {M : Int} {Q : Rv → Sg → Int → Prop} {K : Rv → Int → Prop} {KP : Rv → Prop} {i j pf pd pt : Nat}
end
end Ev

namespace Ev
set_option autoImplicit false
open PySem
section
variable {W n : Nat} {G : Nat → Option D} {T : List FD} {X : Cx} {g : Sg} {M : Int} {Q : Rv → Sg → Int → Prop} {K : Rv → Int → Prop} {KP : Rv → Prop} {i j pf pd pt : Nat}
end
end Ev

namespace Ev
set_option autoImplicit false
open PySem
theorem dW_at {l : List Nat} {i w : Nat} (h : l[i]? = some w) : (dW l)[i]? = some (.str (od w)) := by
  unfold dW
  rw [List.getElem?_map, h]
  rfl
section
variable {W n : Nat} {G : Nat → Option D} {T : List FD} {X : Cx} {g : Sg} {M : Int} {Q : Rv → Sg → Int → Prop} {K : Rv → Int → Prop} {KP : Rv → Prop} {i j pf pd pt pw pb ps pe pk pm pp pr : Nat} {s s' : Bool} {w : Nat} {z0 z1 z2 : Str} {NK : List (Str × Bool)}
def sdL (s : Bool) : List Nat := if s then [0, 1] else [0]
end
end Ev

namespace Ev
set_option autoImplicit false
open PySem
section
variable {X : Cx} {el : E} {p : Pat} {own : List (Str × Nat)} {g : Sg} {M : Int} {Q : Rv → Sg → Int → Prop} {ce : E}
theorem of_at {α : Type} {us xs : List α} (hl : us.length = xs.length) (h : ∀ (i : Nat) (x u : α), xs[i]? = some x → us[i]? = some u → u = x) : us = xs := by
  refine List.ext_getElem? fun i => ?_
  by_cases hi : i < xs.length
  · rw [List.getElem?_eq_getElem hi, List.getElem?_eq_getElem (show i < us.length by omega)]
    exact congrArg some (h i _ _ (List.getElem?_eq_getElem hi) (List.getElem?_eq_getElem (by omega)))
  · rw [List.getElem?_eq_none (by omega), List.getElem?_eq_none (by omega)]
/-- a comprehension over known things -/
theorem comp_x {α : Type} {xs : List α} (φ ψ : α → D) (hN : xs.length ≤ 1000000)
    (hs : ∀ x ∈ xs, BindQ p (φ x) (wipeG g own) fun g1 => WE X el g1 M fun r g3 M3 => r.pure? = some (ψ x) ∧ M3 ≤ M ∧ backG g g3 own = g)
    (hq : Q (.new (.list (xs.map ψ))) g M) : CompQ X el p none own (xs.map φ) g M Q := by
  refine comp_each ψ (fun i _ x => xs[i]? = some x) 0 (Int.le_refl _) (by rw [List.length_map]; exact hN) (fun i d hi M' m1 m2 => ?_) fun us l hR => ?_
  · rw [List.getElem?_map] at hi
    obtain ⟨x, hx, rfl⟩ := Option.map_eq_some_iff.mp hi
    have hM : M' = M := by omega
    subst hM
    obtain ⟨g1, e1, q⟩ := hs x (List.mem_of_getElem? hx)
    exact ⟨g1, e1, we_mono q fun r g3 M3 ⟨a, b, c⟩ => ⟨x, a, hx, by omega, c⟩⟩
  · rw [List.length_map] at l
    have e : us = xs := of_at l fun i x u hx hu => by
      have := hR i (φ x) u (by rw [List.getElem?_map, hx]; rfl) hu
      rw [hx] at this
      exact (Option.some.inj this).symm
    rw [e, Int.zero_mul, Int.add_zero]
    exact hq
theorem filt_of {α : Type} (β : α → Bool) : ∀ {xs : List α} {os : List (Option α)}, os.length = xs.length → (∀ (i : Nat) (x : α) (o : Option α), xs[i]? = some x → os[i]? = some o → o = if β x then some x else none) → os.filterMap id = xs.filter β
  | [], os, hl, _ => by
    rw [List.length_eq_zero_iff.mp hl]
    rfl
  | x :: xs, [], hl, _ => by cases hl
  | x :: xs, o :: os, hl, h => by
    have h0 := h 0 x o rfl rfl
    have ih := filt_of β (xs := xs) (os := os) (by simpa using hl) fun i y u hy hu => h (i + 1) y u (by simpa using hy) (by simpa using hu)
    rw [List.filter_cons]
    subst h0
    cases hb : β x with
    | true =>
      rw [if_pos rfl, if_pos rfl, List.filterMap_cons, ih]
      rfl
    | false =>
      rw [if_neg Bool.false_ne_true, if_neg Bool.false_ne_true, List.filterMap_cons, ih]
      rfl
theorem comp_xif {α : Type} {xs : List α} (φ ψ : α → D) (β : α → Bool) (hN : xs.length ≤ 1000000)
    (hs : ∀ x ∈ xs, BindQ p (φ x) (wipeG g own) fun g1 => WE X ce g1 M fun r g2 M2 => DatQ g2 r fun y => BlQ (dTru y) fun t => t = β x ∧ (β x = false → M2 ≤ M ∧ backG g g2 own = g) ∧ (β x = true → WE X el g2 M2 fun r g3 M3 => r.pure? = some (ψ x) ∧ M3 ≤ M ∧ backG g g3 own = g))
    (hq : Q (.new (.list ((xs.filter β).map ψ))) g M) : CompQ X el p (some ce) own (xs.map φ) g M Q := by
  refine comp_gen ψ (fun i _ o => ∃ x, xs[i]? = some x ∧ o = if β x then some x else none) 0 (Int.le_refl _) (by rw [List.length_map]; exact hN) (fun i d hi M' m1 m2 => ?_) fun os l hR => ?_
  · rw [List.getElem?_map] at hi
    obtain ⟨x, hx, rfl⟩ := Option.map_eq_some_iff.mp hi
    have hM : M' = M := by omega
    subst hM
    obtain ⟨g1, e1, q⟩ := hs x (List.mem_of_getElem? hx)
    refine ⟨g1, e1, ?_⟩
    refine we_mono q fun r g2 M2 ⟨y, e2, t, e3, e4, e5, e6⟩ => ⟨y, e2, t, e3, fun ht => ?_, fun ht => ?_⟩
    · have hb : β x = true := by rw [← e4]; exact ht
      exact we_mono (e6 hb) fun r g3 M3 ⟨a, b, c⟩ => ⟨x, a, ⟨x, hx, by rw [if_pos hb]⟩, by omega, c⟩
    · have hb : β x = false := by rw [← e4]; exact ht
      obtain ⟨a, b⟩ := e5 hb
      exact ⟨⟨x, hx, by rw [hb]; rfl⟩, by omega, b⟩
  · rw [List.length_map] at l
    have e : os.filterMap id = xs.filter β := filt_of β l fun i x o hx ho => by
      obtain ⟨y, hy, e⟩ := hR i (φ x) o (by rw [List.getElem?_map, hx]; rfl) ho
      rw [hx] at hy
      cases hy
      exact e
    rw [e, Int.zero_mul, Int.add_zero]
    exact hq
end
section
variable {W n : Nat} {G : Nat → Option D} {T : List FD} {X : Cx} {g : Sg} {M : Int} {Q : Rv → Sg → Int → Prop} {K : Rv → Int → Prop} {KP : Rv → Prop} {i j pf pd pt pw pb ps pe pk pm pp pr : Nat} {s s' : Bool} {w : Nat} {z0 z1 z2 : Str} {NK : List (Str × Bool)}
end
end Ev

namespace Ev
set_option autoImplicit false
open PySem
section
variable {W n : Nat} {G : Nat → Option D} {T : List FD} {X : Cx} {g : Sg} {M : Int} {Q : Rv → Sg → Int → Prop} {K : Rv → Int → Prop} {KP : Rv → Prop} {i j pf pd pt pw pb ps pe pk pm pp pr g0 : Nat} {s s' : Bool} {w : Nat} {z0 z1 z2 : Str} {NK : List (Str × Bool)} {ws : List Nat}
end
end Ev

namespace Ev
set_option autoImplicit false
open PySem
section
variable {W n : Nat} {G : Nat → Option D} {T : List FD} {X : Cx} {g : Sg} {M : Int} {Q : Rv → Sg → Int → Prop} {K : Rv → Int → Prop} {KP : Rv → Prop} {i j pf pd pt pw pb ps pe pk pm pp pr g0 p0 p1 p2 : Nat} {s s' : Bool} {w : Nat} {z0 z1 z2 : Str} {NK : List (Str × Bool)} {ws : List Nat}
end
end Ev

namespace Ev
set_option autoImplicit false
open PySem
abbrev Th := Str × Bool
def prR : List Th → List (Th × Th)
  | [] => []
  | p :: r => r.map (fun q => (p, q)) ++ prR r
theorem prR_mem : ∀ {NK : List Th} {x : Th × Th}, (NK.map (·.1)).Pairwise (fun a b => ltS a b = true) → x ∈ prR NK → x.1 ∈ NK ∧ x.2 ∈ NK ∧ ltS x.1.1 x.2.1 = true
  | [], _, _, h => by cases h
  | p :: r, x, hp, h => by
    rw [List.map_cons, List.pairwise_cons] at hp
    rcases List.mem_append.mp h with h | h
    · obtain ⟨q, hq, rfl⟩ := List.mem_map.mp h
      exact ⟨List.mem_cons_self, List.mem_cons_of_mem _ hq, hp.1 _ (List.mem_map_of_mem hq)⟩
    · obtain ⟨a, b, c⟩ := prR_mem hp.2 h
      exact ⟨List.mem_cons_of_mem _ a, List.mem_cons_of_mem _ b, c⟩
theorem lt_ne {a b : Str} (h : ltS a b = true) : a ≠ b := fun e => by
  subst e
  rw [ltS_irr] at h
  cases h
theorem prR_nd : ∀ {NK : List Th}, (NK.map (·.1)).Pairwise (fun a b => ltS a b = true) → ((prR NK).map fun x => (x.1.1, x.2.1)).Nodup
  | [], _ => List.nodup_nil
  | p :: r, hp => by
    have hp' := hp
    rw [List.map_cons, List.pairwise_cons] at hp'
    show ((r.map (fun q => (p, q)) ++ prR r).map fun x => (x.1.1, x.2.1)).Nodup
    rw [List.map_append, List.nodup_append]
    refine ⟨?_, prR_nd hp'.2, fun a ha b hb e => ?_⟩
    · rw [List.map_map]
      have e : ((fun x : Th × Th => (x.1.1, x.2.1)) ∘ fun q => (p, q)) = (fun z : Str => (p.1, z)) ∘ (·.1) := rfl
      rw [e, ← List.map_map]
      exact List.pairwise_map.mpr (hp'.2.imp fun {a b} h => fun e : (p.1, a) = (p.1, b) => lt_ne h (by injection e))
    · obtain ⟨x, hx, rfl⟩ := List.mem_map.mp ha
      obtain ⟨q, hq, rfl⟩ := List.mem_map.mp hx
      obtain ⟨y, hy, rfl⟩ := List.mem_map.mp hb
      obtain ⟨h1, h2, _⟩ := prR_mem hp'.2 hy
      have h3 : p.1 = y.1.1 := by injection e
      exact lt_ne (hp'.1 _ (List.mem_map_of_mem h1)) h3
abbrev RowT := Th × Th × List Nat
structure TabR (NK : List Th) (R : List RowT) : Prop where
  at_ : R.map (fun r => (r.1, r.2.1)) = prR NK
  w : ∀ r ∈ R, r.2.2.Sublist (wl r.1.2 r.2.1.2)
theorem TabR.len {NK : List Th} {R : List RowT} (h : TabR NK R) : R.length = (prR NK).length := by rw [← h.at_, List.length_map]
theorem TabR.mem {NK : List Th} {R : List RowT} (h : TabR NK R) (hk : Things NK) {r : RowT} (hr : r ∈ R) : r.1 ∈ NK ∧ r.2.1 ∈ NK ∧ ltS r.1.1 r.2.1.1 = true := by
  have : (r.1, r.2.1) ∈ prR NK := by
    rw [← h.at_]
    exact List.mem_map_of_mem (f := fun r : RowT => (r.1, r.2.1)) hr
  exact prR_mem hk.ris this
theorem TabR.nd {NK : List Th} {R : List RowT} (h : TabR NK R) (hk : Things NK) : (R.map fun r => (r.1.1, r.2.1.1)).Nodup := by
  have := prR_nd hk.ris
  rw [← h.at_, List.map_map] at this
  exact this
section
variable {W n : Nat} {G : Nat → Option D} {T : List FD} {X : Cx} {g : Sg} {M : Int} {Q : Rv → Sg → Int → Prop} {K : Rv → Int → Prop} {KP : Rv → Prop} {i j pf pd pt pw pb ps pe pk pm pp pr g0 p0 p1 p2 : Nat} {s s' : Bool} {w : Nat} {z0 z1 z2 : Str} {NK : List Th} {ws : List Nat} {R : List RowT}
end
end Ev

namespace Ev
set_option autoImplicit false
open PySem
section
variable {X : Cx} {g : Sg} {M : Int} {P : Out → Int → Prop} {i : Nat} {e k : E} {kvs kvs' : List (D × D)} {d : D}
end
theorem nget_map {α : Type} [DecidableEq α] {k v : α → D} (hk : ∀ x y, kEq (k x) (k y) = decide (x = y)) {a : α} : ∀ {l : List α}, a ∈ l → nGet (l.map fun x => (k x, v x)) (k a) = some (v a)
  | [], h => by cases h
  | x :: l, h => by
    unfold nGet
    rw [List.map_cons, List.find?_cons]
    dsimp only
    rw [hk]
    by_cases e : x = a
    · rw [decide_eq_true e, e]
      rfl
    · rw [decide_eq_false e]
      rcases List.mem_cons.mp h with h | h
      · exact absurd h.symm e
      · exact nget_map hk h
theorem nput_new {α : Type} [DecidableEq α] {k v : α → D} (hk : ∀ x y, kEq (k x) (k y) = decide (x = y)) {a : α} {l : List α} (h : a ∉ l) : nPut (l.map fun x => (k x, v x)) (k a) (v a) = (l ++ [a]).map fun x => (k x, v x) := by
  unfold nPut
  rw [if_neg, List.map_append]
  · rfl
  · rw [List.any_map, Bool.not_eq_true, List.any_eq_false]
    intro x hx
    show ¬ kEq (k x) (k a) = true
    rw [hk, decide_eq_true_eq]
    intro e
    exact h (e ▸ hx)
section
variable {W n : Nat} {G : Nat → Option D} {T : List FD} {X : Cx} {g : Sg} {M : Int} {Q : Rv → Sg → Int → Prop} {K : Rv → Int → Prop} {KP : Rv → Prop} {i j pf pd pt pw pb ps pe pk pm pp pr pa pc po pg : Nat} {s s' : Bool} {w : Nat} {z0 z1 z2 : Str} {NK : List (Str × Bool)} {t : TL} {B : Int} {a b : Fr}
end
end Ev

namespace Ev
set_option autoImplicit false
open PySem
section
variable {W n : Nat} {G : Nat → Option D} {T : List FD} {X : Cx} {g : Sg} {M : Int} {Q : Rv → Sg → Int → Prop} {K : Rv → Int → Prop} {KP : Rv → Prop} {i j pf pd pt pw pb ps pe pk pm pp pr pa pc po pg ph pi pl pv p0 g0 : Nat} {s s' : Bool} {w : Nat} {z0 z1 z2 : Str} {NK : List (Str × Bool)} {t : TL} {B : Int} {a b : Fr}
end
end Ev

namespace Ev
set_option autoImplicit false
open PySem
section
variable {W n : Nat} {G : Nat → Option D} {T : List FD} {X : Cx} {g : Sg} {M : Int} {Q : Rv → Sg → Int → Prop} {K : Rv → Int → Prop} {KP : Rv → Prop} {i j pf pd pt pw pb ps pe pk pm pp pr pa pc po pg ph pi pl pv p0 g0 : Nat} {s s' : Bool} {w : Nat} {z0 z1 z2 : Str} {NK : List (Str × Bool)} {t : TL} {B : Int} {a b : Fr} {x y : En} {f : Fr} {st : Bool} {ws : List Nat} {z z' : Str}
end
end Ev

namespace Ev
set_option autoImplicit false
open PySem
def place (s s' : Bool) (w x : Nat) : Int := ((sdL s').map fun y => hwI s s' w x y + 1).sum
def mk (l : List Nat) : List (Ev.D × Ev.D) := l.map fun j => (PyData.str (od j), PyData.bool true)
theorem pos2 {a b b' : Int} (h : b < b') : ((sg (a - b) + 1) + (sg (a - b') + 1 + 0) = 0 ∧ a < b) ∨ ((sg (a - b) + 1) + (sg (a - b') + 1 + 0) = 1 ∧ a = b) ∨ ((sg (a - b) + 1) + (sg (a - b') + 1 + 0) = 2 ∧ b < a ∧ a < b') ∨ ((sg (a - b) + 1) + (sg (a - b') + 1 + 0) = 3 ∧ a = b') ∨ ((sg (a - b) + 1) + (sg (a - b') + 1 + 0) = 4 ∧ b' < a) := by
  rcases sg3 a b with ⟨e1, l1⟩ | ⟨e1, l1⟩ | ⟨e1, l1⟩ <;> rcases sg3 a b' with ⟨e2, l2⟩ | ⟨e2, l2⟩ | ⟨e2, l2⟩ <;> rw [e1, e2] <;> omega
section
variable {X : Cx} {g : Sg} {M : Int} {Q : Rv → Sg → Int → Prop} {i : Nat} {kvs : List (D × D)}
theorem ints_of : ∀ L : List Int, ints? (L.map PyData.int) = some L
  | [] => rfl
  | x :: r => by
    show (ints? (r.map PyData.int)).map (x :: ·) = _
    rw [ints_of r]
    rfl
end
section
variable {W n : Nat} {G : Nat → Option D} {T : List FD} {KP : Rv → Prop} {ph pe pp pc pb pt pw pm g0 : Nat} {s s' s0 s1 s2 : Bool} {z0 z1 z2 : Str}
theorem int_at {P : List Int} {i : Nat} (h : i < P.length) : (P.map PyData.int)[i]? = some (.int (P.getD i 0)) := by
  rw [List.getElem?_map, List.getElem?_eq_getElem h, List.getD_eq_getElem?_getD, List.getElem?_eq_getElem h]
  rfl
end
end Ev

namespace Ev
set_option autoImplicit false
open PySem
theorem mem_insI {x y : Int} : ∀ {l : List Int}, x ∈ insI y l ↔ x = y ∨ x ∈ l
  | [] => by simp [insI]
  | z :: l => by
    unfold insI
    split
    · simp
    · split
      · rename_i h
        subst h
        simp
      · rw [List.mem_cons, mem_insI, List.mem_cons]
        constructor
        · rintro (h | h | h)
          · exact .inr (.inl h)
          · exact .inl h
          · exact .inr (.inr h)
        · rintro (h | h | h)
          · exact .inr (.inl h)
          · exact .inl h
          · exact .inr (.inr h)
theorem mem_sstI {x : Int} : ∀ {l : List Int}, x ∈ sstI l ↔ x ∈ l
  | [] => Iff.rfl
  | y :: l => by
    show x ∈ insI y (sstI l) ↔ _
    rw [mem_insI, mem_sstI, List.mem_cons]
def spanL (l : List Int) : List Int := if decide ((-1 : Int) ∈ l) && decide ((1 : Int) ∈ l) then [-1, 0, 1] else l
def endsP (s s' : Bool) : List (Nat × Nat) := (sdL s).flatMap fun x => (sdL s').map fun y => (x, y)
def sgS (s s' : Bool) (ws : List Nat) (p : Nat × Nat) : List Int := ws.map fun w => hwI s s' w p.1 p.2
def arB (s s' : Bool) (ws : List Nat) (w : Nat) : Bool := (endsP s s').all fun p => decide (hwI s s' w p.1 p.2 ∈ spanL (sstI (sgS s s' ws p)))
/-- the least plain may around some words -/
def arL (s s' : Bool) (ws : List Nat) : List Nat := (wl s s').filter (arB s s' ws)
def sg3B (x : Int) : Bool := decide (x = -1) || decide (x = 0) || decide (x = 1)
theorem hw3 : ∀ s s' : Bool, ∀ w ∈ wl s s', ∀ p ∈ endsP s s', sg3B (hwI s s' w p.1 p.2) = true := by decide +kernel
theorem sg3_iff {x : Int} (h : sg3B x = true) : x = -1 ∨ x = 0 ∨ x = 1 := by
  unfold sg3B at h
  simp only [Bool.or_eq_true, decide_eq_true_eq] at h
  omega
/-- covered by some signs -/
def cov (S : List Int) (x : Int) : Prop := x ∈ S ∨ ((-1 : Int) ∈ S ∧ (1 : Int) ∈ S)
theorem span_mem {S : List Int} {x : Int} (h : x = -1 ∨ x = 0 ∨ x = 1) : x ∈ spanL (sstI S) ↔ cov S x := by
  unfold spanL cov
  split
  · rename_i hb
    rw [Bool.and_eq_true, decide_eq_true_eq, decide_eq_true_eq, mem_sstI, mem_sstI] at hb
    constructor
    · exact fun _ => .inr hb
    · intro _
      rcases h with rfl | rfl | rfl <;> simp
  · rename_i hb
    rw [Bool.and_eq_true, decide_eq_true_eq, decide_eq_true_eq, mem_sstI, mem_sstI] at hb
    rw [mem_sstI]
    exact ⟨.inl, fun z => z.elim id fun z => absurd z hb⟩
section
variable {s s' : Bool} {ws vs P R : List Nat} {w : Nat} {p : Nat × Nat}
theorem ar_mem : w ∈ arL s s' ws ↔ w ∈ wl s s' ∧ ∀ p ∈ endsP s s', cov (sgS s s' ws p) (hwI s s' w p.1 p.2) := by
  unfold arL
  rw [List.mem_filter]
  refine and_congr_right fun hw => ?_
  unfold arB
  rw [List.all_eq_true]
  refine forall_congr' fun p => forall_congr' fun hp => ?_
  rw [decide_eq_true_iff]
  exact span_mem (sg3_iff (hw3 s s' w hw p hp))
theorem sgS_mem {x : Int} : x ∈ sgS s s' ws p ↔ ∃ w ∈ ws, hwI s s' w p.1 p.2 = x := List.mem_map
theorem cov_mono {S T : List Int} {x : Int} (h : ∀ y ∈ S, cov T y) (c : cov S x) : cov T x := by
  rcases c with c | ⟨a, b⟩
  · exact h x c
  · rcases h _ a with a' | ⟨a', b'⟩
    · rcases h _ b with b' | b'
      · exact .inr ⟨a', b'⟩
      · exact .inr b'
    · exact .inr ⟨a', b'⟩
theorem ar_ext (h : ∀ w ∈ ws, w ∈ wl s s') : ∀ w ∈ ws, w ∈ arL s s' ws := fun w hw => ar_mem.mpr ⟨h w hw, fun p _ => .inl (sgS_mem.mpr ⟨w, hw, rfl⟩)⟩
theorem ar_mono (h : ∀ w ∈ ws, w ∈ arL s s' vs) : ∀ w ∈ arL s s' ws, w ∈ arL s s' vs := fun w hw => by
  obtain ⟨h1, h2⟩ := ar_mem.mp hw
  refine ar_mem.mpr ⟨h1, fun p hp => cov_mono (fun y hy => ?_) (h2 p hp)⟩
  obtain ⟨v, hv, rfl⟩ := sgS_mem.mp hy
  exact (ar_mem.mp (h v hv)).2 p hp
theorem ar_sub : (arL s s' ws).Sublist (wl s s') := List.filter_sublist
/-- two selections with the same words -/
theorem sub_ext {L : List Nat} (nd : L.Nodup) (h1 : P.Sublist L) (h2 : R.Sublist L) (h : ∀ w, w ∈ P ↔ w ∈ R) : P = R := by
  rw [← filter_sub h1 nd, ← filter_sub h2 nd]
  refine List.filter_congr fun w _ => ?_
  rw [decide_eq_decide]
  exact h w
/-- a may that is its own least plain one -/
def Pln (s s' : Bool) (ws : List Nat) : Prop := ws.Sublist (wl s s') ∧ ∀ w ∈ arL s s' ws, w ∈ ws
theorem Pln.eq (h : Pln s s' ws) : arL s s' ws = ws := sub_ext wl_ok.1 ar_sub h.1 fun w => ⟨h.2 w, ar_ext (fun v hv => h.1.subset hv) w⟩
theorem pln_of (h : ws.Sublist (wl s s')) (e : arL s s' ws = ws) : Pln s s' ws := ⟨h, fun w hw => by rw [e] at hw; exact hw⟩
theorem ar_pln : Pln s s' (arL s s' ws) := ⟨ar_sub, fun w hw => ar_mono (fun v hv => hv) w hw⟩
end
end Ev

namespace Ev
set_option autoImplicit false
open PySem
theorem rel_borD {X : Cx} {g h : Sg} {F : List D} {i : Nat} {xs : List (D × D)} (q : Rel X g F h) (e : g[i]? = some (some (.bor, .dict xs))) : X.j ≠ some i ∧ h[i]? = some (some (.bor, .dict xs)) := by
  obtain ⟨t, e1, e2⟩ := q.at_ i _ e
  unfold Sl at e2
  split at e2
  · exact nomatch (show some (Md.bor, PyData.dict xs) = some (Md.bor, PyData.none) from e2.1)
  · rename_i hj
    have e2' : t = some (.bor, .dict xs) := e2
    rw [e2'] at e1
    exact ⟨hj, e1⟩
structure endDc (K : Rv → List (D × D) → Prop) (o : Out) (M : Int) : Prop where
  out : match o with
    | .nx g => ∃ xs, g[0]? = some (some (.bor, .dict xs)) ∧ K (.pur .none) xs
    | .rt r g => ∃ xs, g[0]? = some (some (.bor, .dict xs)) ∧ K r xs
    | _ => False
section
variable {W n : Nat} {G : Nat → Option D} {T : List FD} {f : Nat} {d : FD} {ds : List D} {xs : List (D × D)} {K : Rv → List (D × D) → Prop}
theorem edc_rt {r : Rv} {g : Sg} {M : Int} (e : g[0]? = some (some (.bor, .dict xs))) (q : K r xs) : endDc K (.rt r g) M := ⟨⟨xs, e, q⟩⟩
/-- a def whose first argument is lent, its list known -/
theorem bd_fn (hd : T[f]? = some d) (hm : (modesOk d.pm ((.bor, .dict xs) :: vals ds) && decide (ds.length + 1 ≤ d.n)) = true) {g0 : Sg} {b0 : List S} (hg : some (.bor, .dict xs) :: slots ds (d.n - (ds.length + 1)) = g0) (hb : d.body = b0) (q : WS (cxP (callN W G T n) G W) b0 g0 0 (endDc K)) : ∃ r xs', callN W G T (n + 1) f ((.bor, .dict xs) :: vals ds) = some (r, (.bor, .dict xs') :: vals ds) ∧ K r xs' := by
  subst hg hb
  have es : startG d.n ((.bor, .dict xs) :: vals ds) = some (.bor, .dict xs) :: slots ds (d.n - (ds.length + 1)) := by
    unfold startG slots vals
    rw [List.map_cons, List.map_map, List.length_cons, List.length_map]
    rfl
  have r0 : Rel (cxP (callN W G T n) G W) (some (.bor, .dict xs) :: slots ds (d.n - (ds.length + 1))) [] (some (.bor, .dict xs) :: slots ds (d.n - (ds.length + 1))) := by
    refine ⟨rfl, nofun, fun i s e => ⟨s, e, sl_self nofun fun b z => ?_⟩⟩
    subst z
    cases i with
    | zero => cases e
    | succ i =>
      have e' : (slots ds (d.n - (ds.length + 1)))[i]? = some (some (.bor, .bool b)) := by simpa using e
      have := List.mem_of_getElem? e'
      unfold slots at this
      rcases List.mem_append.mp this with h | h
      · obtain ⟨x, _, hx⟩ := List.mem_map.mp h
        cases hx
      · have := (List.mem_replicate.mp h).2
        cases this
  obtain ⟨o, o', F', M', e1, e2, _, e3⟩ := q.run _ [] r0 trivial
  have left : ∀ {g h : Sg} {ys : List (D × D)}, Rel (cxP (callN W G T n) G W) g F' h → g[0]? = some (some (.bor, .dict ys)) → leftOf h 0 ((.bor, .dict xs) :: vals ds) = some ((.bor, .dict ys) :: vals ds) := fun {g h ys} r e => by
    have h0 := (rel_borD r e).2
    show (match h[0]? with
      | some (some (.bor, d)) => (leftOf h 1 (vals ds)).map ((Md.bor, d) :: ·)
      | _ => none) = _
    rw [h0]
    show (leftOf h 1 (vals ds)).map _ = _
    rw [left_vals]
    rfl
  match o, o', e2, e3 with
  | .nx g, .nx h, e2, ⟨⟨ys, e4, hK⟩⟩ =>
    refine ⟨.pur .none, ys, callN_of hd (by simpa [vals_len] using hm) (by rw [es]; exact e1) ?_, hK⟩
    show (leftOf h 0 ((.bor, .dict xs) :: vals ds)).map _ = _
    rw [left e2 e4]
    rfl
  | .rt r g, .rt r' h, e2, ⟨⟨ys, e4, hK⟩⟩ =>
    obtain ⟨rfl, e2⟩ := e2
    refine ⟨r, ys, callN_of hd (by simpa [vals_len] using hm) (by rw [es]; exact e1) ?_, hK⟩
    show (leftOf h 0 ((.bor, .dict xs) :: vals ds)).map _ = _
    rw [left e2 e4]
    rfl
  | .bk _, _, _, e3 => exact e3.out.elim
  | .ct _, _, _, e3 => exact e3.out.elim
end

end Ev

namespace Ev
set_option autoImplicit false
open PySem
def fdD (cs : List Int) (a v t : Int) : List (D × D) := [(.str "cells", .list (cs.map PyData.int)), (.str "at", .int a), (.str "left", .int v), (.str "turn", .int t)]
def FeedD (M : Int) (F : List D) : Prop := ∃ (cs : List Int) (a v t : Int), F = [.dict (fdD cs a v t)] ∧ 0 ≤ a ∧ a ≤ M ∧ 0 ≤ v ∧ 0 ≤ t ∧ t ≤ M
theorem feedD : ∀ (M N : Int) (F : List D), FeedD M F → M ≤ N → FeedD N F := fun M N F ⟨cs, a, v, t, e, h⟩ h2 => ⟨cs, a, v, t, e, by omega, by omega, by omega, by omega, by omega⟩
section
variable {W n : Nat} {G : Nat → Option D} {T : List FD} {X : Cx} {g : Sg} {M : Int} {Q : Rv → Sg → Int → Prop} {K : Rv → Int → Prop} {KP : Rv → Prop} {i j pf pd pt : Nat}
structure AtD (X : Cx) (C : Fn) (j : Nat) (g : Sg) : Prop where
  hC : X.C = C
  hF : X.Fd = FeedD
  hJ : X.j = some j
  hG : g[j]? = some hole
theorem callD {f : Nat} {C : Fn} {ds : List D} {rs : List Rv} (h : AtD X C j g) (hp : purs rs = some ds) (q : FCall C FeedD f ds M fun r M' => Q r g M') : CallQ X f (.loc j :: rs) g M Q := by
  refine call_f h.hJ h.hG hp ?_
  rw [h.hC, h.hF]
  exact q
theorem drawD' [HasF T pd D_l_draw] {k : Int} (hM : M ≤ 1000000) (m0 : 0 < k) (m1 : k ≤ 1000000) (q : ∀ r, 0 ≤ r → r < k → K (.pur (.int r)) (M + 1)) : FCall (callN W G T (n + 1)) FeedD pd [.int k] M K := fc_ex fun F hF => by
  obtain ⟨cs, a, v, t, rfl, a0, a1, v0, t0, t1⟩ := hF
  have hd : divOk k = true := divOk_le m0 (by omega)
  obtain ⟨r, xs', e, i, rfl, i0, i1, hF'⟩ := bd_fn (d := D_l_draw) (W := W) (n := n) (G := G) (T := T) (f := pd) (ds := [.int k]) (xs := fdD cs a v t) (K := fun r xs => ∃ i, r = .pur (.int i) ∧ 0 ≤ i ∧ i < k ∧ FeedD (M + 1) [.dict xs]) HasF.h rfl (g0 := [some (.bor, .dict (fdD cs a v t)), some (.val, .int k), none, none, none, none]) rfl (b0 := D_l_draw.body) rfl (by
    unfold D_l_draw
    dsimp only
    have p18 : (0 : Int) ≤ 10 ^ Int.toNat 18 := by decide
    have fin : ∀ (a' v' x : Int), 0 ≤ a' → a' ≤ M + 1 → 0 ≤ v' → ∃ i, Rv.pur (.int (x % k)) = .pur (.int i) ∧ 0 ≤ i ∧ i < k ∧ FeedD (M + 1) [.dict (fdD cs a' v' (t + 1))] := fun a' v' x h1 h2 h3 => ⟨_, rfl, Int.emod_nonneg _ (by omega), Int.emod_lt_of_pos _ m0, cs, a', v', t + 1, rfl, h1, h2, h3, by omega, by omega⟩
    have tail : ∀ (c : Int) (s2 : Slot) (M' : Int), WS (cxP (callN W G T n) G W) [.ite (.and (.cmp .ge (.var 4) (.bin .pow (.cst (.int 10)) (.cst (.int 18)))) (.cmp .lt (.var 3) (.blt .len [.dget 0 (.cst (.str "cells"))]))) [.dset 0 (.cst (.str "left")) (.bin .fdiv (.var 4) (.var 1)), .ret (.bin .mod (.var 4) (.var 1))] [], .asg (.nm 5) (.bin .mod (.bin .mul (.bin .add (.bin .mod (.var 4) (.cst (.int 2147483629))) (.bin .mul (.cst (.int 1013)) (.dget 0 (.cst (.str "turn"))))) (.cst (.int 48271))) (.cst (.int 2147483647))), .asg (.nm 5) (.bin .mod (.bin .mul (.bin .add (.bin .fdiv (.var 5) (.cst (.int 64))) (.bin .mul (.cst (.int 37)) (.dget 0 (.cst (.str "turn"))))) (.cst (.int 69621))) (.cst (.int 2147483587))), .ret (.bin .mod (.bin .fdiv (.var 5) (.cst (.int 64))) (.var 1))] [some (.bor, .dict (fdD cs (a + 1) v (t + 1))), some (.val, .int k), s2, some (.val, .int a), some (.val, .int c), none] M' (endDc fun r xs => ∃ i, r = .pur (.int i) ∧ 0 ≤ i ∧ i < k ∧ FeedD (M + 1) [.dict xs]) := fun c s2 M' => by
      have last : ∀ (s5 : Slot) (M' : Int), WS (cxP (callN W G T n) G W) [.asg (.nm 5) (.bin .mod (.bin .mul (.bin .add (.bin .mod (.var 4) (.cst (.int 2147483629))) (.bin .mul (.cst (.int 1013)) (.dget 0 (.cst (.str "turn"))))) (.cst (.int 48271))) (.cst (.int 2147483647))), .asg (.nm 5) (.bin .mod (.bin .mul (.bin .add (.bin .fdiv (.var 5) (.cst (.int 64))) (.bin .mul (.cst (.int 37)) (.dget 0 (.cst (.str "turn"))))) (.cst (.int 69621))) (.cst (.int 2147483587))), .ret (.bin .mod (.bin .fdiv (.var 5) (.cst (.int 64))) (.var 1))] [some (.bor, .dict (fdD cs (a + 1) v (t + 1))), some (.val, .int k), s2, some (.val, .int a), some (.val, .int c), none] M' (endDc fun r xs => ∃ i, r = .pur (.int i) ∧ 0 ≤ i ∧ i < k ∧ FeedD (M + 1) [.dict xs]) := fun s5 M' => by
        bv_omega
        try refine dgq (kvs := fdD cs (a + 1) v (t + 1)) (d := .int (t + 1)) rfl rfl ?_
        bv_omega
        refine o_mulI (mulOk_le (by omega) (by omega)) ?_
        bv_omega
        refine o_mulI (mulOk_le (by omega) (by omega)) ?_
        bv_omega
        try refine dgq (kvs := fdD cs (a + 1) v (t + 1)) (d := .int (t + 1)) rfl rfl ?_
        bv_omega
        refine o_mulI (mulOk_le (by omega) (by omega)) ?_
        bv_omega
        refine o_mulI (mulOk_le (by omega) (by omega)) ?_
        bv_omega
        exact edc_rt rfl (fin _ _ _ (by omega) (by omega) v0)
      refine ws_at 1 ?_
      dsimp only [List.take, List.drop]
      bv_omega
      refine bo_d rfl (fun h => ?_) fun h => ?_
      · bv_omega
        try refine dgq (kvs := fdD cs (a + 1) v (t + 1)) (d := .list (cs.map PyData.int)) rfl rfl ?_
        bv_omega
        refine if_d rfl (fun h2 => ?_) fun h2 => ?_
        · bv_omega
          refine dpq (kvs := fdD cs (a + 1) v (t + 1)) (kvs' := fdD cs (a + 1) (c / k) (t + 1)) rfl (Nat.le_of_ble_eq_true rfl) rfl ?_
          bv_omega
          exact edc_rt rfl (fin _ _ _ (by omega) (by omega) (Int.ediv_nonneg (by omega) (by omega)))
        · bv_omega
          exact ⟨last none _⟩
      · bv_omega
        exact ⟨last none _⟩
    bv_omega
    refine dpq (kvs := fdD cs a v t) (kvs' := fdD cs a v (t + 1)) rfl (Nat.le_of_ble_eq_true rfl) rfl ?_
    try dsimp only [List.set]
    bv_omega
    try refine dgq (kvs := fdD cs a v (t + 1)) (d := .int v) rfl rfl ?_
    bv_omega
    try refine dgq (kvs := fdD cs a v (t + 1)) (d := .int v) rfl rfl ?_
    bv_omega
    refine if_d rfl (fun h => ?_) fun h => ?_
    · bv_omega
      try refine dgq (kvs := fdD cs a v (t + 1)) (d := .int v) rfl rfl ?_
      bv_omega
      refine dpq (kvs := fdD cs a v (t + 1)) (kvs' := fdD cs a (v / k) (t + 1)) rfl (Nat.le_of_ble_eq_true rfl) rfl ?_
      bv_omega
      exact edc_rt rfl (fin _ _ _ a0 (by omega) (Int.ediv_nonneg v0 (by omega)))
    · bv_omega
      try refine dgq (kvs := fdD cs a v (t + 1)) (d := .int a) rfl rfl ?_
      bv_omega
      refine dpq (kvs := fdD cs a v (t + 1)) (kvs' := fdD cs (a + 1) v (t + 1)) rfl (Nat.le_of_ble_eq_true rfl) rfl ?_
      refine nx_nx ?_
      try dsimp only [List.set]
      refine ws_at 2 ?_
      dsimp only [List.take, List.drop]
      bv_omega
      try refine dgq (kvs := fdD cs (a + 1) v (t + 1)) (d := .list (cs.map PyData.int)) rfl rfl ?_
      bv_omega
      refine ne_nil ?_
      bv_omega
      refine if_nb rfl (fun h2 => ?_) fun h2 => ?_
      · have hl : 0 < (cs.map PyData.int).length := by
          rw [List.length_map]
          cases cs with
          | nil => cases h2
          | cons _ _ => exact Nat.succ_pos _
        bv_omega
        try refine dgq (kvs := fdD cs (a + 1) v (t + 1)) (d := .list (cs.map PyData.int)) rfl rfl ?_
        bv_omega
        try refine dgq (kvs := fdD cs (a + 1) v (t + 1)) (d := .list (cs.map PyData.int)) rfl rfl ?_
        bv_omega
        obtain ⟨x, hx, ex⟩ := pick (xs := cs.map PyData.int) (i := a % ((cs.map PyData.int).length : Int)) (Int.emod_nonneg _ (by omega)) (Int.emod_lt_of_pos _ (by omega))
        obtain ⟨c, _, rfl⟩ := List.mem_map.mp hx
        refine tq_ ex ?_
        bv_omega
        exact ⟨tail _ _ _⟩
      · bv_omega
        exact ⟨tail _ _ _⟩)
  obtain ⟨cs', a', v', t', e', h'⟩ := hF'
  cases e'
  exact ⟨_, _, M + 1, e, ⟨cs', a', v', t', rfl, h'⟩, q i i0 i1⟩
theorem drawD [HasF T pd D_l_draw] {k : Int} (h : AtD X (callN W G T (n + 1)) j g) (hM : M ≤ 1000000) (m0 : 0 < k) (m1 : k ≤ 1000000) (q : ∀ r, 0 ≤ r → r < k → Q (.pur (.int r)) g (M + 1)) : CallQ X pd [.loc j, .pur (.int k)] g M Q := callD h rfl (drawD' hM m0 m1 q)
theorem feedD_ok [HasF T pf D_l_feed] {ns : List Int} (hl : ns.length ≤ 63) : ∃ F, callN W G T (n + 1) pf (vals [.list (ns.map PyData.int)]) = some (.new (unF F), vals [.list (ns.map PyData.int)]) ∧ FeedD 0 F := by
  have e : cutD (ns.map PyData.int) none (some 63) = (ns.take 63).map PyData.int := by
    rw [show (63 : Int) = ((63 : Nat) : Int) from rfl, cut_take, List.map_take]
  obtain ⟨r, e, h⟩ := pc_inv (C := callN W G T (n + 1)) (f := pf) (ds := [.list (ns.map PyData.int)]) (K := fun r => r = .new (.dict (fdD (ns.take 63) 0 0 0))) (by
    refine Ev.pc_fn (d := D_l_feed) Ev.HasF.h rfl (by (conv => lhs; dsimp only [D_l_feed, Ev.slots, List.length_cons, List.length_nil, Nat.reduceAdd, Nat.reduceSub]; simp only [List.replicate, List.map_cons, List.map_nil, List.cons_append, List.nil_append])) (by dsimp only [D_l_feed] <;> rfl) ?_
    rfl'
    rw [e]
    rfl)
  exact ⟨[.dict (fdD (ns.take 63) 0 0 0)], by rw [e, h], ns.take 63, 0, 0, 0, rfl, by omega, by omega, by omega, by omega, by omega⟩
end
end Ev

namespace Ev
set_option autoImplicit false
open PySem
/-- a row of a paper -/
inductive Rw where
  | may (a b : Str × Bool) (ws : List Nat)
  | gap (x y : En) (f : Fr) (st : Bool)
section
variable {W n : Nat} {G : Nat → Option D} {T : List FD} {KP : Rv → Prop} {pk pw pb pr ph ps pn pd pf pp g0 g1 : Nat} {NK : List (Str × Bool)} {a b c d : Str × Bool} {V U : List Nat} {z0 z1 z2 : Str} {x y x' y' : En} {f f' : Fr} {st st' : Bool}
end
end Ev

namespace Ev
set_option autoImplicit false
open PySem
def plsF (a b : Fr) : Fr := nrm (a.1 * b.2 + b.1 * a.2) (a.2 * b.2)
theorem TellB.mono {B C : Int} {NK : List (Str × Bool)} {t : TL} (h : TellB B NK t) (hB : B ≤ C) : TellB C NK t := ⟨h.len, fun i p x a b => (h.at_ i p x a b).mono hB⟩
end Ev

namespace Ev
set_option autoImplicit false
open PySem
section
variable {W n : Nat} {G : Nat → Option D} {T : List FD} {K : Rv → Prop} {pf pd pp pq pm pv pt pr px ps pw : Nat} {NK : List (Str × Bool)} {t : TL} {o m f : Fr} {B : Int}
end
end Ev

namespace Ev
set_option autoImplicit false
open PySem
section
variable {W n : Nat} {G : Nat → Option D} {T : List FD} {KP : Rv → Prop} {pk pw pb pr ph ps pn pd pf pp g0 g1 : Nat} {NK : List (Str × Bool)} {a b c d : Str × Bool} {V U : List Nat} {z0 z1 z2 : Str} {x y x' y' : En} {f f' : Fr} {st st' : Bool}
end
end Ev

namespace Ev
set_option autoImplicit false
open PySem
section
variable {NK : List (Str × Bool)} {a b c d : Str × Bool} {V U : List Nat} {x y x' y' : En} {f f' : Fr} {st st' : Bool} {t : TL} {B : Int}
theorem nrm_row {p q z D : Int} (hq : 0 < q) (e : z * q = p * D) : z * (nrm p q).2 = (nrm p q).1 * D := by
  have g := gc_pos (t := p) hq
  have e1 := gc_t (t := p) (b := q)
  have e2 := gc_b (t := p) (b := q)
  refine Int.eq_of_mul_eq_mul_right (by omega : gc p q ≠ 0) ?_
  show z * (q / gc p q) * gc p q = p / gc p q * D * gc p q
  rw [Int.mul_assoc, e2, Int.mul_right_comm, e1, e]
theorem plus_row {p q : Fr} {D zp zq : Int} (hp : 0 < p.2) (hq : 0 < q.2) (e1 : zp * p.2 = p.1 * D) (e2 : zq * q.2 = q.1 * D) : (zp + zq) * (plsF p q).2 = (plsF p q).1 * D := by
  refine nrm_row (Int.mul_pos hp hq) ?_
  rw [Int.add_mul, Int.add_mul]
  have k1 : zp * (p.2 * q.2) = p.1 * q.2 * D := by rw [← Int.mul_assoc, e1, Int.mul_right_comm]
  have k2 : zq * (p.2 * q.2) = q.1 * p.2 * D := by rw [Int.mul_comm p.2 q.2, ← Int.mul_assoc, e2, Int.mul_right_comm]
  rw [k1, k2]
end
end Ev

namespace Ev
set_option autoImplicit false
open PySem
/-- a number of so many D-ths, at most K of them -/
structure GapB (D K : Int) (f : Fr) : Prop where
  pos : 0 < f.2
  least : Least f
  row : ∃ N : Int, N * f.2 = f.1 * D ∧ -K ≤ N ∧ N ≤ K
theorem GapB.dvd {D K : Int} {f : Fr} (h : GapB D K f) : f.2 ∣ D := by
  obtain ⟨N, e, _⟩ := h.row
  have h1 : f.2 ∣ f.1 * D := ⟨N, by rw [← e, Int.mul_comm]⟩
  have h2 : f.2.natAbs ∣ f.1.natAbs * D.natAbs := by
    rw [← Int.natAbs_mul]
    exact Int.natAbs_dvd_natAbs.mpr h1
  exact Int.natAbs_dvd_natAbs.mp (Nat.Coprime.dvd_of_dvd_mul_left h.least h2)
theorem GapB.fr {D K B : Int} {f : Fr} (h : GapB D K f) (hD : 0 < D) (h1 : D ≤ B) (h2 : K ≤ B) : FrB B f := by
  obtain ⟨N, e, n1, n2⟩ := h.row
  have p := h.pos
  have le : f.2 ≤ D := Int.le_of_dvd hD h.dvd
  have K0 : 0 ≤ K := by omega
  have a1 : f.1 * D ≤ K * D := by
    rw [← e]
    have : N * f.2 ≤ K * f.2 := Int.mul_le_mul_of_nonneg_right n2 (by omega)
    have : K * f.2 ≤ K * D := Int.mul_le_mul_of_nonneg_left le K0
    omega
  have a2 : -K * D ≤ f.1 * D := by
    rw [← e]
    have : -K * f.2 ≤ N * f.2 := Int.mul_le_mul_of_nonneg_right n1 (by omega)
    have : K * f.2 ≤ K * D := Int.mul_le_mul_of_nonneg_left le K0
    rw [Int.neg_mul] at *
    omega
  have b1 := Int.le_of_mul_le_mul_right a1 hD
  have b2 := Int.le_of_mul_le_mul_right a2 hD
  exact ⟨p, by omega, by omega, by omega⟩
theorem GapB.mono {D K K' : Int} {f : Fr} (h : GapB D K f) (hk : K ≤ K') : GapB D K' f := by
  obtain ⟨N, e, n1, n2⟩ := h.row
  exact ⟨h.pos, h.least, N, e, by omega, by omega⟩
theorem GapB.plus {D K K' : Int} {f g : Fr} (h : GapB D K f) (h' : GapB D K' g) : GapB D (K + K') (plsF f g) := by
  obtain ⟨N, e, n1, n2⟩ := h.row
  obtain ⟨N', e', n1', n2'⟩ := h'.row
  have p := Int.mul_pos h.pos h'.pos
  exact ⟨nrm_pos p, nrm_least p, N + N', plus_row h.pos h'.pos e e', by omega, by omega⟩
inductive RwG (NK : List (Str × Bool)) (D K : Int) : Rw → Prop where
  | may {a b : Str × Bool} {ws : List Nat} (ha : a ∈ NK) (hb : b ∈ NK) (hne : a.1 ≠ b.1) (hw : ws.Sublist (wl a.2 b.2)) : RwG NK D K (.may a b ws)
  | gap {x y : En} {f : Fr} {st : Bool} (hx : x ∈ endsL NK) (hy : y ∈ endsL NK) (hf : GapB D K f) : RwG NK D K (.gap x y f st)
theorem RwG.mono {NK : List (Str × Bool)} {D K K' : Int} {r : Rw} (h : RwG NK D K r) (hk : K ≤ K') : RwG NK D K' r := by
  cases h with
  | may ha hb hne hw => exact .may ha hb hne hw
  | gap hx hy hf => exact .gap hx hy (hf.mono hk)
section
variable {W n : Nat} {G : Nat → Option D} {T : List FD} {KP : Rv → Prop} {pk pw pb pr ph ps pn pd pf pp pl pc pt pe p1 p2 p3 p4 p5 g0 g1 : Nat} {NK : List (Str × Bool)} {a b c d : Str × Bool} {V U : List Nat} {z0 z1 z2 : Str} {x y : En} {t : TL} {D0 K0 : Int} {R Y : List Rw}
end
end Ev

namespace Ev
set_option autoImplicit false
open PySem
abbrev endsG : D := .dict [(.str "point", .tuple [.int 0]), (.str "stretch", .tuple [.int 0, .int 1])]
abbrev pnD (p : Nat × Nat) : D := .tuple [.int (p.1 : Int), .int (p.2 : Int)]
abbrev itD (l : List Int) : D := .tuple (l.map PyData.int)
/-- the spans of a may, by ends -/
def spD (s s' : Bool) (ws : List Nat) (l : List (Nat × Nat)) : List (D × D) := l.map fun p => (pnD p, itD (spanL (sstI (sgS s s' ws p))))
theorem kEq_pn (x y : Nat × Nat) : kEq (pnD x) (pnD y) = decide (x = y) := by
  have e : kEq (pnD x) (pnD y) = NestedKey.beq (.tup [.num (x.1 : Int), .num (x.2 : Int)]) (.tup [.num (y.1 : Int), .num (y.2 : Int)]) := rfl
  rw [e, ← NestedKey.decide_eq, decide_eq_decide]
  constructor
  · intro h
    injection h with h
    injection h with h1 h
    injection h with h2 h
    injection h1 with h1
    injection h2 with h2
    exact Prod.ext (by omega) (by omega)
  · rintro rfl
    rfl
theorem keyN_pn (x : Nat × Nat) : keyN (pnD x) = true := rfl
section
variable {W n : Nat} {G : Nat → Option D} {T : List FD} {X : Cx} {g : Sg} {M : Int} {Q : Rv → Sg → Int → Prop} {K : Rv → Int → Prop} {KP : Rv → Prop} {g0 g1 ph pp ps pn pw pa : Nat} {s s' : Bool} {w : Nat} {z0 z1 : Str} {ws : List Nat}
theorem ppairs [HasG G g0 endsG] [HasF T pp (P_pairs_of_ends g0 z0)] (q : KP (.new (.list ((endsP s s').map pnD)))) : PCall (callN W G T (n + 1)) pp [kdD s s'] KP := by
  refine Ev.pc_fn (d := (P_pairs_of_ends g0 z0)) Ev.HasF.h rfl (by (conv => lhs; dsimp only [P_pairs_of_ends, Ev.slots, List.length_cons, List.length_nil, Nat.reduceAdd, Nat.reduceSub]; simp only [List.replicate, List.map_cons, List.map_nil, List.cons_append, List.nil_append])) (by dsimp only [P_pairs_of_ends] <;> rfl) ?_
  cases s <;> cases s' <;> rfl'
  all_goals
    refine forq_cons ?_
    rfl'
    refine comp_fn (fun d => .tuple [.int 0, d]) (by decide) (fun i d hd => ?_) ?_
    · rfl'
      exact ⟨rfl, Int.le_refl _, rfl⟩
    rfl'
    try (refine mut_extL rfl (Nat.le_of_ble_eq_true rfl) ?_; rfl')
    try dsimp only [List.set]
  iterate 2
    · refine forq_nil ?_
      rfl'
      exact q
  all_goals
    refine forq_cons ?_
    rfl'
    refine comp_fn (fun d => .tuple [.int 1, d]) (by decide) (fun i d hd => ?_) ?_
    · rfl'
      exact ⟨rfl, Int.le_refl _, rfl⟩
    rfl'
    try (refine mut_extL rfl (Nat.le_of_ble_eq_true rfl) ?_; rfl')
    try dsimp only [List.set]
    refine forq_nil ?_
    rfl'
    exact q
theorem o_sst {l : List Int} {K : Rv → Prop} (hl : l.length < 64) (q : K (.new (.list ((sstI l).map PyData.int)))) : OpQ (dX .sst [.list (l.map PyData.int)]) K := by
  refine oq ?_ q
  show (match ints? (l.map PyData.int) with
    | some is => if is.length < 64 then some (Rv.new (.list ((sstI is).map PyData.int))) else none
    | none => (strs? (l.map PyData.int)).bind fun ss => if ss.length ≤ 1000 ∧ (dedS ss).length < 64 then some (Rv.new (.list ((sortS (dedS ss)).map .str))) else none) = _
  rw [ints_of]
  exact if_pos hl
theorem psigns [HasG G g1 signsD] [HasF T ph (P_how_ends g1)] [HasF T ps (P_signs_in ph z0)] {p : Nat × Nat} (h12 : ∀ w ∈ ws, w ≤ 12) (hl : ws.length ≤ 14) (hx : p.1 ≤ 1) (hy : p.2 ≤ 1) (q : KP (.pur (itD (sstI (sgS s s' ws p))))) : PCall (callN W G T (n + 2)) ps [kdD s s', .tuple (dW ws), .int (p.1 : Int), .int (p.2 : Int)] KP := by
  refine Ev.pc_fn (d := (P_signs_in ph z0)) Ev.HasF.h rfl (by (conv => lhs; dsimp only [P_signs_in, Ev.slots, List.length_cons, List.length_nil, Nat.reduceAdd, Nat.reduceSub]; simp only [List.replicate, List.map_cons, List.map_nil, List.cons_append, List.nil_append])) (by dsimp only [P_signs_in] <;> rfl) ?_
  rfl'
  refine comp_x (xs := ws) (fun w => .str (od w)) (fun w => .int (hwI s s' w p.1 p.2)) (by omega) (fun w hw => ?_) ?_
  · rfl'
    refine call_p rfl (phow (g0 := g1) (h12 w hw) hx hy ?_)
    exact ⟨rfl, Int.le_refl _, rfl⟩
  rfl'
  have e : ws.map (fun w => PyData.int (hwI s s' w p.1 p.2)) = (sgS s s' ws p).map PyData.int := by
    unfold sgS
    rw [List.map_map]
    rfl
  rw [e]
  refine o_sst (by unfold sgS; rw [List.length_map]; omega) ?_
  rfl'
  exact q
theorem shp_itD {l : List Int} : Ev.shp (itD l) = true := by
  have := shp_ints l
  exact this
theorem b_inI {x : Int} {l : List Int} {B : Bool → Prop} (q : B (decide (x ∈ l))) : BlQ (dCmp .in_ (.int x) (itD l)) B := by
  refine bq ?_ q
  show (if Ev.shp (.int x) && Ev.shp (itD l) then some ((l.map PyData.int).any fun z => PyData.eqv z (.int x)) else none) = _
  rw [shp_int, shp_itD]
  show some ((l.map PyData.int).any fun z => PyData.eqv z (.int x)) = _
  rw [List.any_map]
  congr 1
  rw [Bool.eq_iff_iff, List.any_eq_true, decide_eq_true_iff]
  constructor
  · rintro ⟨y, hy, h⟩
    have : y = x := by simpa [PyData.eqv] using h
    rw [← this]
    exact hy
  · intro h
    exact ⟨x, h, by simp [PyData.eqv]⟩
theorem pspan [HasF T pp P_span] {l : List Int} (q : KP (.pur (itD (spanL l)))) : PCall (callN W G T (n + 1)) pp [itD l] KP := by
  unfold spanL at q
  refine Ev.pc_fn (d := P_span) Ev.HasF.h rfl (by (conv => lhs; dsimp only [P_span, Ev.slots, List.length_cons, List.length_nil, Nat.reduceAdd, Nat.reduceSub]; simp only [List.replicate, List.map_cons, List.map_nil, List.cons_append, List.nil_append])) (by dsimp only [P_span] <;> rfl) ?_
  rfl'
  refine b_inI ?_
  refine bo_b rfl (fun h => ?_) fun h => ?_
  · rfl'
    refine b_inI ?_
    rfl'
    rw [h, Bool.true_and] at q
    refine if_b rfl (fun h2 => ?_) fun h2 => ?_
    · rw [h2, if_pos rfl] at q
      rfl'
      exact q
    · rw [h2, if_neg Bool.false_ne_true] at q
      rfl'
      exact q
  · rfl'
    rw [h, Bool.false_and, if_neg Bool.false_ne_true] at q
    exact q
theorem w1_frzB {c : Prop} [Decidable c] {i : Nat} {d : D} {P : Out → Int → Prop} (e0 : g[i]? = some (some (if c then .own else .val, d))) (q : P (.nx (g.set i (some (.val, d)))) M) : W1 X (.frz i) g M P := by
  by_cases h : c
  · rw [if_pos h] at e0
    exact w1_frzO e0 q
  · rw [if_neg h] at e0
    refine w1_frzV e0 ?_
    have e : g.set i (some (.val, d)) = g := by
      refine List.ext_getElem? fun j => ?_
      by_cases hj : i = j
      · subst hj
        rw [List.getElem?_set_self (List.getElem?_eq_some_iff.mp e0).1, e0]
      · rw [List.getElem?_set_ne hj]
    rw [e] at q
    exact q
theorem endsP_le : ∀ s s' : Bool, ∀ p ∈ endsP s s', p.1 ≤ 1 ∧ p.2 ≤ 1 := by decide +kernel
theorem endsP_nd : ∀ s s' : Bool, (endsP s s').Nodup := by decide +kernel
theorem endsP_len : ∀ s s' : Bool, (endsP s s').length ≤ 4 ∧ 0 < (endsP s s').length := by decide +kernel
theorem sp_put {l : List (Nat × Nat)} {p : Nat × Nat} (h : p ∉ l) : dPutA (if l = [] then [] else ((.bool true, .none) :: spD s s' ws l)) (pnD p) (itD (spanL (sstI (sgS s s' ws p)))) = some ((.bool true, .none) :: spD s s' ws (l ++ [p])) := by
  have e := nput_new (a := p) (l := l) (k := pnD) (v := fun p => itD (spanL (sstI (sgS s s' ws p)))) kEq_pn h
  cases l with
  | nil => rfl
  | cons x l =>
    rw [if_neg nofun]
    show (if keyN (pnD p) then some _ else none) = _
    rw [keyN_pn, if_pos rfl]
    exact congrArg (fun z => some ((PyData.bool true, PyData.none) :: z)) e
theorem pplain [HasG G g0 endsG] [HasG G g1 signsD] [HasF T pp (P_pairs_of_ends g0 z0)] {z2 z3 z4 : Str} [HasF T pn P_span] [HasF T ph (P_how_ends g1)] [HasF T ps (P_signs_in ph z2)] [HasF T pa (P_plain_around pp pn ps pw ph z3 z4)] (hwd : ∀ {m : Nat} {KP : Rv → Prop}, KP (.pur (.tuple (dW (wl s s')))) → PCall (callN W G T (m + 1)) pw [kdD s s'] KP) (h12 : ∀ w ∈ ws, w ≤ 12) (hl : ws.length ≤ 14) (q : KP (.pur (.tuple (dW (arL s s' ws))))) : PCall (callN W G T (n + 3)) pa [kdD s s', .tuple (dW ws)] KP := by
  have lw := (wl_ok (s := s) (s' := s')).2.2
  have le := (endsP_len s s').1
  refine Ev.pc_fn (d := (P_plain_around pp pn ps pw ph z3 z4)) Ev.HasF.h rfl (by (conv => lhs; dsimp only [P_plain_around, Ev.slots, List.length_cons, List.length_nil, Nat.reduceAdd, Nat.reduceSub]; simp only [List.replicate, List.map_cons, List.map_nil, List.cons_append, List.nil_append])) (by dsimp only [P_plain_around] <;> rfl) ?_
  bv_omega
  refine call_p rfl (ppairs (g0 := g0) (z0 := z0) ?_)
  bv_omega
  refine for_inv (fun i g' _ => g' = [some (.val, kdD s s'), some (.val, .tuple (dW ws)), some (.own, .dict (if (endsP s s').take i = [] then [] else ((.bool true, .none) :: spD s s' ws ((endsP s s').take i)))), none, none, none, none]) rfl (fun i d hd g' M' hI => ?_) fun g' M' hI => ?_
  · subst hI
    rw [List.getElem?_map] at hd
    obtain ⟨p, hp, rfl⟩ := Option.map_eq_some_iff.mp hd
    have pm := List.mem_of_getElem? hp
    obtain ⟨p1, p2⟩ := endsP_le s s' p pm
    have hi := (List.getElem?_eq_some_iff.mp hp).1
    bv_omega
    refine call_p rfl (psigns (g1 := g1) (z0 := z2) h12 hl p1 p2 ?_)
    bv_omega
    refine call_p rfl (pspan ?_)
    bv_omega
    have hn : p ∉ (endsP s s').take i := fun h => by
      obtain ⟨j, hj, e⟩ := List.mem_iff_getElem.mp h
      rw [List.getElem_take] at e
      rw [List.length_take] at hj
      have e2 : (endsP s s')[i] = p := (List.getElem?_eq_some_iff.mp hp).2
      have := (List.getElem_inj (endsP_nd s s')).mp (e.trans e2.symm)
      omega
    refine dpq rfl ?_ (sp_put (s := s) (s' := s') (ws := ws) hn) ?_
    · split
      · decide
      · unfold spD
        rw [List.length_cons, List.length_map, List.length_take]
        omega
    have e3 : (endsP s s').take (i + 1) = (endsP s s').take i ++ [p] := by rw [List.take_add_one, hp]; rfl
    have e4 : ∀ Y : List (D × D), (if (endsP s s').take (i + 1) = [] then [] else Y) = Y := fun Y => if_neg (by rw [e3]; simp)
    bv_omega
    refine ⟨_, ?_, rfl⟩
    rw [e4, e3]
    and_intros
  · subst hI
    rw [List.length_map, List.take_length, if_neg (by
      intro h
      have := (endsP_len s s').2
      rw [h] at this
      exact absurd this (by decide))]
    bv_omega
    refine call_p rfl (hwd ?_)
    bv_omega
    refine for_inv (fun i g' _ => g' = [some (.val, kdD s s'), some (.val, .tuple (dW ws)), some (if i = 0 then .own else .val, nD (spD s s' ws (endsP s s'))), none, none, some (.own, .list (dW (((wl s s').take i).filter (arB s s' ws)))), none]) rfl (fun i d hd g' M' hI => ?_) fun g' M' hI => ?_
    · subst hI
      unfold dW at hd
      rw [List.getElem?_map] at hd
      obtain ⟨w, hw, rfl⟩ := Option.map_eq_some_iff.mp hd
      have wm := List.mem_of_getElem? hw
      have w12 := wl_ok.2.1 w wm
      have hi := (List.getElem?_eq_some_iff.mp hw).1
      have e3 : (wl s s').take (i + 1) = (wl s s').take i ++ [w] := by rw [List.take_add_one, hw]; rfl
      have lt : ((List.filter (arB s s' ws) (List.take i (wl s s'))).length) ≤ 13 := Nat.le_trans (List.length_filter_le _ _) (by rw [List.length_take]; omega)
      have lt2 : (dW (List.filter (arB s s' ws) (List.take i (wl s s')))).length ≤ 13 := by rw [dW_len]; exact lt
      bv_omega
      refine w1_frzB (c := i = 0) (d := nD (spD s s' ws (endsP s s'))) rfl ?_
      bv_omega
      have ek : (spD s s' ws (endsP s s')).map (·.1) = (endsP s s').map pnD := by
        unfold spD
        rw [List.map_map]
        rfl
      rw [ek]
      bv_omega
      refine comp_x (xs := endsP s s') pnD (fun p => .bool (decide (hwI s s' w p.1 p.2 ∈ spanL (sstI (sgS s s' ws p))))) (by omega) (fun p hp => ?_) ?_
      · obtain ⟨p1, p2⟩ := endsP_le s s' p hp
        bv_omega
        refine call_p rfl (phow (g0 := g1) w12 p1 p2 ?_)
        bv_omega
        refine tq_ (d := itD (spanL (sstI (sgS s s' ws p)))) ?_ ?_
        · show (if keyN (pnD p) then nGet (spD s s' ws (endsP s s')) (pnD p) else none) = _
          rw [keyN_pn, if_pos rfl]
          exact nget_map (a := p) (k := pnD) (v := fun p => itD (spanL (sstI (sgS s s' ws p)))) kEq_pn hp
        bv_omega
        refine b_inI ?_
        exact ⟨rfl, Int.le_refl _, rfl⟩
      bv_omega
      refine o_all ?_
      bv_omega
      show IfQ (some (arB s s' ws w)) _ _
      refine if_b rfl (fun h => ?_) fun h => ?_
      · have e5 : dW (((wl s s').take (i + 1)).filter (arB s s' ws)) = dW (((wl s s').take i).filter (arB s s' ws)) ++ [.str (od w)] := by
          unfold dW
          rw [e3, List.filter_append, List.map_append, List.filter_cons_of_pos h]
          rfl
        bv_omega
        refine ⟨_, ?_, rfl⟩
        rw [e5, if_neg (Nat.succ_ne_zero i)]
        and_intros
      · have e5 : dW (((wl s s').take (i + 1)).filter (arB s s' ws)) = dW (((wl s s').take i).filter (arB s s' ws)) := by
          unfold dW
          rw [e3, List.filter_append, List.filter_cons_of_neg (by rw [h]; exact Bool.false_ne_true), List.filter_nil, List.append_nil]
        bv_omega
        refine ⟨_, ?_, rfl⟩
        rw [e5, if_neg (Nat.succ_ne_zero i)]
        and_intros
    · subst hI
      bv_omega
      have e6 : (dW (wl s s')).length = (wl s s').length := List.length_map _
      rw [e6, List.take_length]
      exact q
theorem eqv_dW : ∀ {a b : List Nat}, (∀ w ∈ a, w ≤ 12) → (∀ w ∈ b, w ≤ 12) → PyData.eqvAll (dW a) (dW b) = decide (a = b)
  | [], [], _, _ => rfl
  | [], _ :: _, _, _ => rfl
  | _ :: _, [], _, _ => rfl
  | x :: a, y :: b, ha, hb => by
    show (PyData.eqv (.str (od x)) (.str (od y)) && PyData.eqvAll (dW a) (dW b)) = _
    rw [eqv_dW (fun w h => ha w (List.mem_cons_of_mem _ h)) fun w h => hb w (List.mem_cons_of_mem _ h), eqv_str, Bool.eq_iff_iff, Bool.and_eq_true, beq_iff_eq, decide_eq_true_iff, decide_eq_true_iff]
    constructor
    · rintro ⟨h1, rfl⟩
      rw [od_inj x y (ha x List.mem_cons_self) (hb y List.mem_cons_self) h1]
    · intro h
      injection h with h1 h2
      exact ⟨by rw [h1], h2⟩
theorem eqdW {a b : List Nat} {B : Bool → Prop} (ha : ∀ w ∈ a, w ≤ 12) (hb : ∀ w ∈ b, w ≤ 12) (la : a.length ≤ 13) (lb : b.length ≤ 13) (q : B (decide (a = b))) : BlQ (dCmp .eq (.tuple (dW a)) (.tuple (dW b))) B :=
  eqT ((nc_tup (ncs_dW2 0 ha (by omega))).shp (by decide)) ((nc_tup (ncs_dW2 0 hb (by omega))).shp (by decide)) (eqv_dW ha hb) q
theorem pisplain [HasF T pn (P_is_plain pa)] (hw : ws.Sublist (wl s s')) (hpl : ∀ {KP : Rv → Prop}, KP (.pur (.tuple (dW (arL s s' ws)))) → PCall (callN W G T n) pa [kdD s s', .tuple (dW ws)] KP) (q : KP (.pur (.bool (decide (arL s s' ws = ws))))) : PCall (callN W G T (n + 1)) pn [kdD s s', .tuple (dW ws)] KP := by
  have h12 : ∀ w ∈ ws, w ≤ 12 := fun w h => wl_ok.2.1 w (hw.subset h)
  have h13 : ∀ w ∈ arL s s' ws, w ≤ 12 := fun w h => wl_ok.2.1 w (ar_sub.subset h)
  refine Ev.pc_fn (d := (P_is_plain pa)) Ev.HasF.h rfl (by (conv => lhs; dsimp only [P_is_plain, Ev.slots, List.length_cons, List.length_nil, Nat.reduceAdd, Nat.reduceSub]; simp only [List.replicate, List.map_cons, List.map_nil, List.cons_append, List.nil_append])) (by dsimp only [P_is_plain] <;> rfl) ?_
  bv_omega
  refine call_p rfl (hpl ?_)
  bv_omega
  refine eqdW h13 h12 (Nat.le_trans ar_sub.length_le wl_ok.2.2) (Nat.le_trans hw.length_le wl_ok.2.2) ?_
  bv_omega
  exact q
end
end Ev

namespace Ev
set_option autoImplicit false
open PySem
theorem nd_map {α β : Type} {f : α → β} : ∀ {l : List α}, (∀ a ∈ l, ∀ b ∈ l, f a = f b → a = b) → l.Nodup → (l.map f).Nodup
  | [], _, _ => List.nodup_nil
  | a :: l, h, hn => by
    obtain ⟨h1, h2⟩ := List.nodup_cons.mp hn
    refine List.nodup_cons.mpr ⟨fun z => ?_, nd_map (fun x hx y hy => h x (List.mem_cons_of_mem _ hx) y (List.mem_cons_of_mem _ hy)) h2⟩
    obtain ⟨b, hb, e⟩ := List.mem_map.mp z
    rw [h b (List.mem_cons_of_mem _ hb) a List.mem_cons_self e] at hb
    exact h1 hb
def cm (x y : Int) : Int := (if decide (y < x) = true then 1 else 0) - (if decide (x < y) = true then 1 else 0)
def spots : List (Nat × Nat) := [(0, 0), (0, 1), (1, 0), (1, 1)]
def sgX (s s' : Bool) (w : Nat) (p : Nat × Nat) : Int := hwI s s' w (if s then p.1 else 0) (if s' then p.2 else 0)
def layA (s s' : Bool) (w : Nat) : Int × Int := match s, s', w with
  | true, true, 0 => (1, 2)
  | true, true, 1 => (1, 4)
  | true, true, 2 => (1, 6)
  | true, true, 3 => (4, 6)
  | true, true, 4 => (5, 7)
  | true, true, 5 => (6, 8)
  | true, true, 6 => (4, 8)
  | true, true, 7 => (1, 8)
  | true, true, 8 => (1, 9)
  | true, true, 9 => (4, 9)
  | true, true, 10 => (6, 9)
  | true, true, 11 => (8, 9)
  | true, true, _ => (9, 10)
  | false, true, 0 => (1, 1)
  | false, true, 3 => (4, 4)
  | false, true, 4 => (6, 6)
  | false, true, 5 => (8, 8)
  | false, true, _ => (9, 9)
  | true, false, 0 => (1, 2)
  | true, false, 7 => (1, 5)
  | true, false, 8 => (1, 9)
  | true, false, 9 => (5, 9)
  | true, false, _ => (8, 9)
  | false, false, 0 => (1, 1)
  | false, false, 6 => (5, 5)
  | false, false, _ => (9, 9)
def layO (s' : Bool) : Int × Int := if s' then (4, 8) else (5, 5)
theorem lay_sg : ∀ s s' : Bool, ∀ w ∈ wl s s', (cm (layA s s' w).1 (layO s').1 = sgX s s' w (0, 0) ∧ cm (layA s s' w).1 (layO s').2 = sgX s s' w (0, 1)) ∧ cm (layA s s' w).2 (layO s').1 = sgX s s' w (1, 0) ∧ cm (layA s s' w).2 (layO s').2 = sgX s s' w (1, 1) := by decide +kernel
def sgN (s s' : Bool) (w : Nat) : D := nD (spots.map fun p => (pnD p, .int (sgX s s' w p)))
def layD (s s' : Bool) : D := .dict ((wl s s').map fun w => (.str (od w), sgN s s' w))
section
variable {W n : Nat} {G : Nat → Option D} {T : List FD} {X : Cx} {g : Sg} {M : Int} {Q : Rv → Sg → Int → Prop} {K : Rv → Int → Prop} {KP : Rv → Prop} {pa pw ps pl pd pm : Nat} {s s' : Bool} {w : Nat} {z0 z1 : Str} {ws : List Nat}
theorem lwordsD [HasF T pa F80_l_all_words] [HasF T pw (D_l_words pa)] (q : KP (.pur (.list (dW (wl s s'))))) : PCall (callN W G T (n + 2)) pw [kdD s s'] KP := by
  refine Ev.pc_fn (d := (D_l_words pa)) Ev.HasF.h rfl (by (conv => lhs; dsimp only [D_l_words, Ev.slots, List.length_cons, List.length_nil, Nat.reduceAdd, Nat.reduceSub]; simp only [List.replicate, List.map_cons, List.map_nil, List.cons_append, List.nil_append])) (by dsimp only [D_l_words] <;> rfl) ?_
  cases s <;> cases s' <;> bv_omega
  all_goals
    refine call_p rfl (allWords ?_)
    bv_omega
    exact q
theorem lsignsD [HasF T ps D_l_signs] {a b c d : Int} (q : KP (.pur (nD [(pnD (0, 0), .int (cm a c)), (pnD (0, 1), .int (cm a d)), (pnD (1, 0), .int (cm b c)), (pnD (1, 1), .int (cm b d))]))) : PCall (callN W G T (n + 1)) ps [.tuple [.int a, .int b], .tuple [.int c, .int d]] KP := by
  refine Ev.pc_fn (d := D_l_signs) Ev.HasF.h rfl (by (conv => lhs; dsimp only [D_l_signs, Ev.slots, List.length_cons, List.length_nil, Nat.reduceAdd, Nat.reduceSub]; simp only [List.replicate, List.map_cons, List.map_nil, List.cons_append, List.nil_append])) (by dsimp only [D_l_signs] <;> rfl) ?_
  bv_omega
  rw [show rangeL 0 (Int.toNat 2) = [PyData.int 0, PyData.int 1] from rfl]
  refine forq_cons ?_
  bv_omega
  rw [show rangeL 0 (Int.toNat 2) = [PyData.int 0, PyData.int 1] from rfl]
  refine forq_cons ?_
  bv_omega
  try refine dpq (kvs' := (.bool true, .none) :: [(pnD (0, 0), .int (cm a c))]) rfl (Nat.le_of_ble_eq_true rfl) rfl ?_
  bv_omega
  try dsimp only [List.set]
  refine forq_cons ?_
  bv_omega
  refine dpq (kvs' := (.bool true, .none) :: [(pnD (0, 0), .int (cm a c)), (pnD (0, 1), .int (cm a d))]) rfl (Nat.le_of_ble_eq_true rfl) rfl ?_
  bv_omega
  try dsimp only [List.set]
  refine forq_nil ?_
  bv_omega
  refine forq_cons ?_
  bv_omega
  rw [show rangeL 0 (Int.toNat 2) = [PyData.int 0, PyData.int 1] from rfl]
  refine forq_cons ?_
  bv_omega
  refine dpq (kvs' := (.bool true, .none) :: [(pnD (0, 0), .int (cm a c)), (pnD (0, 1), .int (cm a d)), (pnD (1, 0), .int (cm b c))]) rfl (Nat.le_of_ble_eq_true rfl) rfl ?_
  bv_omega
  try dsimp only [List.set]
  refine forq_cons ?_
  bv_omega
  refine dpq (kvs' := (.bool true, .none) :: [(pnD (0, 0), .int (cm a c)), (pnD (0, 1), .int (cm a d)), (pnD (1, 0), .int (cm b c)), (pnD (1, 1), .int (cm b d))]) rfl (Nat.le_of_ble_eq_true rfl) rfl ?_
  bv_omega
  try dsimp only [List.set]
  refine forq_nil ?_
  bv_omega
  refine forq_nil ?_
  bv_omega
  exact q
theorem ly_get : ∀ s s' : Bool, ∀ w ∈ wl s s', dGet ((wl s s').map fun w => (PyData.str (od w), PyData.tuple [.int (layA s s' w).1, .int (layA s s' w).2])) (od w) = some (.tuple [.int (layA s s' w).1, .int (layA s s' w).2]) := fun s s' w hw => by
  have nd : ((wl s s').map od).Nodup := by
    refine nd_map (fun a ha b hb e => od_inj a b (wl_ok.2.1 a ha) (wl_ok.2.1 b hb) e) wl_ok.1
  have := dict_at (xs := wl s s') (f := od) (v := fun w => PyData.tuple [.int (layA s s' w).1, .int (layA s s' w).2]) nd hw
  exact this
theorem od_nodup : ((wl s s').map od).Nodup := nd_map (fun a ha b hb e => od_inj a b (wl_ok.2.1 a ha) (wl_ok.2.1 b hb) e) wl_ok.1
theorem lay_at {w : Nat} (hw : w ∈ wl s s') : dIdx (layD s s') (.str (od w)) = some (sgN s s' w) := dict_at (xs := wl s s') (f := od) (v := fun w => sgN s s' w) od_nodup hw
theorem llaysD [HasF T ps D_l_signs] [HasF T pl (D_l_lays ps z0)] (q : KP (.pur (layD s s'))) : PCall (callN W G T (n + 2)) pl [kdD s s'] KP := by
  have tail : ∀ (M : Int), W1 (cxP (callN W G T (n + 1)) G W) (.lck 2) [some (.val, kdD s s'), some (.val, .tuple [.int (layO s').1, .int (layO s').2]), some (.own, .dict ((wl s s').map fun w => (PyData.str (od w), PyData.tuple [.int (layA s s' w).1, .int (layA s s' w).2]))), none] M (Nx (fun g1 M1 => WS (cxP (callN W G T (n + 1)) G W) [.ret (.blt .dict [.comp (.tup [.var 3, .call ps [.idx (.var 2) (.var 3), .var 1]]) (.nm 3) (.var 2) none [(z0, 3)]])] g1 M1 (endK fun r _ => KP r)) (endK fun r _ => KP r)) := fun M => by
    have lw := (wl_ok (s := s) (s' := s')).2.2
    have lno : isN ((wl s s').map fun w => (PyData.str (od w), PyData.tuple [.int (layA s s' w).1, .int (layA s s' w).2])) = false ∧ isL ((wl s s').map fun w => (PyData.str (od w), PyData.tuple [.int (layA s s' w).1, .int (layA s s' w).2])) = false := by
      cases s <;> cases s' <;> exact ⟨rfl, rfl⟩
    refine w1_lckO rfl lno ?_
    bv_omega
    rw [List.map_map]
    refine comp_x (xs := wl s s') (fun w => .str (od w)) (fun w => .tuple [.str (od w), sgN s s' w]) (by omega) (fun w hw => ?_) ?_
    · bv_omega
      refine tq_ (d := .tuple [.int (layA s s' w).1, .int (layA s s' w).2]) (ly_get s s' w hw) ?_
      bv_omega
      refine call_p (ds := [.tuple [.int (layA s s' w).1, .int (layA s s' w).2], .tuple [.int (layO s').1, .int (layO s').2]]) rfl (lsignsD ?_)
      obtain ⟨⟨e1, e2⟩, e3, e4⟩ := lay_sg s s' w hw
      rw [e1, e2, e3, e4]
      bv_omega
      exact ⟨rfl, Int.le_refl _, rfl⟩
    bv_omega
    refine o_dictL od_nodup ?_
    bv_omega
    exact q
  refine Ev.pc_fn (d := (D_l_lays ps z0)) Ev.HasF.h rfl (by (conv => lhs; dsimp only [D_l_lays, Ev.slots, List.length_cons, List.length_nil, Nat.reduceAdd, Nat.reduceSub]; simp only [List.replicate, List.map_cons, List.map_nil, List.cons_append, List.nil_append])) (by dsimp only [D_l_lays] <;> rfl) ?_
  bv_omega
  rw [kd_st]
  cases s <;> cases s' <;> bv_omega
  · refine w1_ddis nofun ?_
    rfl'
    refine ⟨rfl, by decide, ownq rfl ?_⟩
    refine nx_nx (ws_cons (w1_dupd nofun rfl rfl ?_))
    rfl'
    refine ⟨rfl, by decide, dcq rfl ⟨rfl, by decide, ?_⟩⟩
    refine nx_nx (ws_cons (w1_dupd nofun rfl rfl ?_))
    rfl'
    refine ⟨rfl, by decide, dcq rfl ⟨rfl, by decide, ?_⟩⟩
    refine nx_nx ?_
    rfl'
    refine kd_eq (a := false) (b := true) ?_
    rfl'
    refine kd_eq (a := true) (b := false) ?_
    rfl'
    refine kd_eq (a := false) (b := false) ?_
    rfl'
    refine w1_ddis nofun ?_
    rfl'
    refine ⟨rfl, by decide, ownq rfl ?_⟩
    refine nx_nx ?_
    rfl'
    exact tail _
  · refine w1_ddis nofun ?_
    rfl'
    refine ⟨rfl, by decide, ownq rfl ?_⟩
    refine nx_nx (ws_cons (w1_dupd nofun rfl rfl ?_))
    rfl'
    refine ⟨rfl, by decide, dcq rfl ⟨rfl, by decide, ?_⟩⟩
    refine nx_nx (ws_cons (w1_dupd nofun rfl rfl ?_))
    rfl'
    refine ⟨rfl, by decide, dcq rfl ⟨rfl, by decide, ?_⟩⟩
    refine nx_nx ?_
    rfl'
    refine kd_eq (a := false) (b := true) ?_
    rfl'
    refine w1_ddis nofun ?_
    rfl'
    refine ⟨rfl, by decide, ownq rfl ?_⟩
    refine nx_nx ?_
    rfl'
    refine kd_eq (a := true) (b := false) ?_
    rfl'
    refine kd_eq (a := false) (b := false) ?_
    rfl'
    exact tail _
  · refine w1_ddis nofun ?_
    rfl'
    refine ⟨rfl, by decide, ownq rfl ?_⟩
    refine nx_nx (ws_cons (w1_dupd nofun rfl rfl ?_))
    rfl'
    refine ⟨rfl, by decide, dcq rfl ⟨rfl, by decide, ?_⟩⟩
    refine nx_nx (ws_cons (w1_dupd nofun rfl rfl ?_))
    rfl'
    refine ⟨rfl, by decide, dcq rfl ⟨rfl, by decide, ?_⟩⟩
    refine nx_nx ?_
    rfl'
    refine kd_eq (a := false) (b := true) ?_
    rfl'
    refine kd_eq (a := true) (b := false) ?_
    rfl'
    refine w1_ddis nofun ?_
    rfl'
    refine ⟨rfl, by decide, ownq rfl ?_⟩
    refine nx_nx ?_
    rfl'
    refine kd_eq (a := false) (b := false) ?_
    rfl'
    exact tail _
  · refine w1_ddis nofun ?_
    rfl'
    refine ⟨rfl, by decide, ownq rfl ?_⟩
    refine nx_nx (ws_cons (w1_dupd nofun rfl rfl ?_))
    rfl'
    refine ⟨rfl, by decide, dcq rfl ⟨rfl, by decide, ?_⟩⟩
    refine nx_nx (ws_cons (w1_dupd nofun rfl rfl ?_))
    rfl'
    refine ⟨rfl, by decide, dcq rfl ⟨rfl, by decide, ?_⟩⟩
    refine nx_nx ?_
    rfl'
    refine kd_eq (a := false) (b := true) ?_
    rfl'
    refine kd_eq (a := true) (b := false) ?_
    rfl'
    refine kd_eq (a := false) (b := false) ?_
    rfl'
    exact tail _
end
theorem minI_le : ∀ (r : List Int) (m x : Int), (x = m ∨ x ∈ r) → minI m r ≤ x
  | [], m, x, h => by
    rcases h with rfl | h
    · exact Int.le_refl _
    · cases h
  | y :: r, m, x, h => by
    show minI (if y < m then y else m) r ≤ x
    rcases h with rfl | h
    · refine Int.le_trans (minI_le r _ _ (.inl rfl)) ?_
      split <;> omega
    · rcases List.mem_cons.mp h with rfl | h
      · refine Int.le_trans (minI_le r _ _ (.inl rfl)) ?_
        split <;> omega
      · exact minI_le r _ x (.inr h)
theorem minI_mem : ∀ (r : List Int) (m : Int), minI m r = m ∨ minI m r ∈ r
  | [], m => .inl rfl
  | y :: r, m => by
    show minI (if y < m then y else m) r = m ∨ minI (if y < m then y else m) r ∈ y :: r
    rcases minI_mem r (if y < m then y else m) with h | h
    · split at h
      · rw [if_pos ‹_›, h]
        exact .inr List.mem_cons_self
      · rw [if_neg ‹_›, h]
        exact .inl rfl
    · exact .inr (List.mem_cons_of_mem _ h)
theorem maxI_le : ∀ (r : List Int) (m x : Int), (x = m ∨ x ∈ r) → x ≤ maxI m r
  | [], m, x, h => by
    rcases h with rfl | h
    · exact Int.le_refl _
    · cases h
  | y :: r, m, x, h => by
    show x ≤ maxI (if y > m then y else m) r
    rcases h with rfl | h
    · refine Int.le_trans ?_ (maxI_le r _ _ (.inl rfl))
      split <;> omega
    · rcases List.mem_cons.mp h with rfl | h
      · refine Int.le_trans ?_ (maxI_le r _ _ (.inl rfl))
        split <;> omega
      · exact maxI_le r _ x (.inr h)
theorem maxI_mem : ∀ (r : List Int) (m : Int), maxI m r = m ∨ maxI m r ∈ r
  | [], m => .inl rfl
  | y :: r, m => by
    show maxI (if y > m then y else m) r = m ∨ maxI (if y > m then y else m) r ∈ y :: r
    rcases maxI_mem r (if y > m then y else m) with h | h
    · split at h
      · rw [if_pos ‹_›, h]
        exact .inr List.mem_cons_self
      · rw [if_neg ‹_›, h]
        exact .inl rfl
    · exact .inr (List.mem_cons_of_mem _ h)
def rngB (x : Int) : List Int → Bool
  | [] => false
  | m :: r => decide (minI m r ≤ x) && decide (x ≤ maxI m r)
theorem rng_cov {L : List Int} {x : Int} (hn : L ≠ []) (hL : ∀ y ∈ L, y = -1 ∨ y = 0 ∨ y = 1) (hx : x = -1 ∨ x = 0 ∨ x = 1) : rngB x L = true ↔ cov L x := by
  cases L with
  | nil => exact absurd rfl hn
  | cons m r =>
    unfold rngB
    rw [Bool.and_eq_true, decide_eq_true_iff, decide_eq_true_iff]
    have a1 := minI_le r m
    have a2 : minI m r ∈ m :: r := (minI_mem r m).elim (fun h => by rw [h]; exact List.mem_cons_self) fun h => List.mem_cons_of_mem _ h
    have b1 := maxI_le r m
    have b2 : maxI m r ∈ m :: r := (maxI_mem r m).elim (fun h => by rw [h]; exact List.mem_cons_self) fun h => List.mem_cons_of_mem _ h
    generalize minI m r = lo at a1 a2
    generalize maxI m r = hi at b1 b2
    have c1 := hL _ a2
    have c2 := hL _ b2
    unfold cov
    constructor
    · rintro ⟨h1, h2⟩
      by_cases e1 : x = lo
      · rw [e1]
        exact .inl a2
      · by_cases e2 : x = hi
        · rw [e2]
          exact .inl b2
        · right
          have : lo = -1 := by omega
          have : hi = 1 := by omega
          subst lo hi
          exact ⟨a2, b2⟩
    · rintro (h | ⟨h1, h2⟩)
      · exact ⟨a1 x (List.mem_cons.mp h), b1 x (List.mem_cons.mp h)⟩
      · have := a1 _ (List.mem_cons.mp h1)
        have := b1 _ (List.mem_cons.mp h2)
        omega
def arM (s s' : Bool) (ws : List Nat) (w : Nat) : Bool := decide (0 < ws.length) && spots.all fun p => rngB (sgX s s' w p) (ws.map fun u => sgX s s' u p)
theorem sgX_ends : ∀ s s' : Bool, ∀ p ∈ spots, ((if s then p.1 else 0), (if s' then p.2 else 0)) ∈ endsP s s' := by decide +kernel
theorem ends_sgX : ∀ s s' : Bool, ∀ p ∈ endsP s s', p ∈ spots ∧ (if s then p.1 else 0) = p.1 ∧ (if s' then p.2 else 0) = p.2 := by decide +kernel
theorem arM_eq {s s' : Bool} {ws : List Nat} {w : Nat} (hw : w ∈ wl s s') (h : ∀ u ∈ ws, u ∈ wl s s') : arM s s' ws w = arB s s' ws w := by
  have key : arB s s' ws w = true ↔ ∀ p ∈ endsP s s', cov (sgS s s' ws p) (hwI s s' w p.1 p.2) := by
    have := ar_mem (s := s) (s' := s') (ws := ws) (w := w)
    unfold arL at this
    rw [List.mem_filter] at this
    exact ⟨fun z => (this.mp ⟨hw, z⟩).2, fun z => (this.mpr ⟨hw, z⟩).2⟩
  rw [Bool.eq_iff_iff, key]
  unfold arM
  rw [Bool.and_eq_true, decide_eq_true_iff, List.all_eq_true]
  have sg : ∀ u ∈ wl s s', ∀ p ∈ spots, sgX s s' u p = -1 ∨ sgX s s' u p = 0 ∨ sgX s s' u p = 1 := fun u hu p hp => sg3_iff (hw3 s s' u hu _ (sgX_ends s s' p hp))
  have all3 : ∀ p ∈ spots, ∀ y ∈ ws.map (fun u => sgX s s' u p), y = -1 ∨ y = 0 ∨ y = 1 := fun p hp y hy => by
    obtain ⟨u, hu, rfl⟩ := List.mem_map.mp hy
    exact sg u (h u hu) p hp
  constructor
  · rintro ⟨h0, h1⟩ p hp
    obtain ⟨e1, e2, e3⟩ := ends_sgX s s' p hp
    have c := (rng_cov (by intro z; rw [List.map_eq_nil_iff] at z; rw [z] at h0; exact absurd h0 (by decide)) (all3 p e1) (sg w hw p e1)).mp (h1 p e1)
    have e4 : (fun u => sgX s s' u p) = fun u => hwI s s' u p.1 p.2 := by
      funext u
      unfold sgX
      rw [e2, e3]
    rw [e4] at c
    have e5 : sgX s s' w p = hwI s s' w p.1 p.2 := congrFun e4 w
    rw [e5] at c
    exact c
  · intro h1
    have h0 : 0 < ws.length := by
      cases ws with
      | nil =>
        exfalso
        have l0 := (endsP_len s s').2
        obtain ⟨p, hp⟩ := List.exists_mem_of_length_pos l0
        rcases h1 p hp with z | ⟨z, _⟩ <;> cases z
      | cons _ _ => exact Nat.succ_pos _
    refine ⟨h0, fun p hp => ?_⟩
    refine (rng_cov (by intro z; rw [List.map_eq_nil_iff] at z; rw [z] at h0; exact absurd h0 (by decide)) (all3 p hp) (sg w hw p hp)).mpr ?_
    exact h1 _ (sgX_ends s s' p hp)
section
variable {W n : Nat} {G : Nat → Option D} {T : List FD} {X : Cx} {g : Sg} {M : Int} {Q : Rv → Sg → Int → Prop} {K : Rv → Int → Prop} {KP : Rv → Prop} {pa pw ps pl pd pm po : Nat} {s s' : Bool} {w : Nat} {z0 z1 : Str} {ws : List Nat}
theorem sgN_at {w : Nat} {p : Nat × Nat} (hp : p ∈ spots) : dIdx (sgN s s' w) (pnD p) = some (.int (sgX s s' w p)) := by
  show (if keyN (pnD p) then nGet (spots.map fun p => (pnD p, PyData.int (sgX s s' w p))) (pnD p) else none) = _
  rw [keyN_pn, if_pos rfl]
  exact nget_map (a := p) (k := pnD) (v := fun p => PyData.int (sgX s s' w p)) kEq_pn hp
theorem o_min {L : List Int} {m : Int} {r : List Int} {K : Rv → Prop} (e : L = m :: r) (q : K (.pur (.int (minI m r)))) : OpQ (dBlt .minL [.list (L.map PyData.int)]) K := by
  subst e
  refine oq ?_ q
  show (ints? ((m :: r).map PyData.int)).bind _ = _
  rw [ints_of]
  rfl
theorem o_max {L : List Int} {m : Int} {r : List Int} {K : Rv → Prop} (e : L = m :: r) (q : K (.pur (.int (maxI m r)))) : OpQ (dBlt .maxL [.list (L.map PyData.int)]) K := by
  subst e
  refine oq ?_ q
  show (ints? ((m :: r).map PyData.int)).bind _ = _
  rw [ints_of]
  rfl
theorem laroundD [HasF T po F80_l_all_words] [HasF T pw (D_l_words po)] [HasF T ps D_l_signs] [HasF T pl (D_l_lays ps z1)] [HasF T pa (D_l_around pl pw z0)] (h : ∀ w ∈ ws, w ∈ wl s s') (hl : ws.length ≤ 13) (q : KP (.pur (.tuple (dW (arL s s' ws))))) : PCall (callN W G T (n + 3)) pa [kdD s s', .tuple (dW ws)] KP := by
  have lw := (wl_ok (s := s) (s' := s')).2.2
  have l1 := dW_len (l := ws)
  have l2 := dW_len (l := wl s s')
  refine Ev.pc_fn (d := (D_l_around pl pw z0)) Ev.HasF.h rfl (by (conv => lhs; dsimp only [D_l_around, Ev.slots, List.length_cons, List.length_nil, Nat.reduceAdd, Nat.reduceSub]; simp only [List.replicate, List.map_cons, List.map_nil, List.cons_append, List.nil_append])) (by dsimp only [D_l_around] <;> rfl) ?_
  bv_omega
  refine call_p rfl (llaysD (ps := ps) (z0 := z1) ?_)
  bv_omega
  refine call_p rfl (lwordsD (pa := po) ?_)
  bv_omega
  refine for_inv (fun i g' _ => g' = [some (.val, kdD s s'), some (.val, .tuple (dW ws)), some (.val, layD s s'), some (.own, .list (dW (((wl s s').take i).filter (arB s s' ws)))), none, none, none, none, none]) rfl (fun i d hd g' M' hI => ?_) fun g' M' hI => ?_
  · subst hI
    unfold dW at hd
    rw [List.getElem?_map] at hd
    obtain ⟨w, hw, rfl⟩ := Option.map_eq_some_iff.mp hd
    have wm := List.mem_of_getElem? hw
    have hi := (List.getElem?_eq_some_iff.mp hw).1
    have e3 : (wl s s').take (i + 1) = (wl s s').take i ++ [w] := by rw [List.take_add_one, hw]; rfl
    have lt2 : (dW (List.filter (arB s s' ws) (List.take i (wl s s')))).length ≤ 13 := by
      rw [dW_len]
      exact Nat.le_trans (List.length_filter_le _ _) (by rw [List.length_take]; omega)
    bv_omega
    rw [l1]
    refine tq_ (lay_at wm) ?_
    bv_omega
    rw [List.map_map]
    refine for_inv (fun j g' _ => g' = [some (.val, kdD s s'), some (.val, .tuple (dW ws)), some (.val, layD s s'), some (.own, .list (dW (((wl s s').take i).filter (arB s s' ws)))), some (.val, .str (od w)), some (.val, .bool (decide (0 < ws.length) && (spots.take j).all fun p => rngB (sgX s s' w p) (ws.map fun u => sgX s s' u p))), none, none, none]) (by
      rw [List.take_zero, List.all_nil, Bool.and_true]
      have e0 : decide ((0 : Int) < (ws.length : Int)) = decide (0 < ws.length) := by
        rw [decide_eq_decide]
        omega
      rw [e0]
      rfl) (fun j d hd g' M' hI => ?_) fun g' M' hI => ?_
    · subst hI
      rw [List.getElem?_map] at hd
      obtain ⟨p, hp, rfl⟩ := Option.map_eq_some_iff.mp hd
      have pm := List.mem_of_getElem? hp
      have e5 : spots.take (j + 1) = spots.take j ++ [p] := by rw [List.take_add_one, hp]; rfl
      bv_omega
      refine comp_x (xs := ws) (fun w => .str (od w)) (fun u => .int (sgX s s' u p)) (by omega) (fun u hu => ?_) ?_
      · bv_omega
        refine tq_ (lay_at (h u hu)) ?_
        bv_omega
        refine tq_ (sgN_at pm) ?_
        exact ⟨rfl, Int.le_refl _, rfl⟩
      have em : ws.map (fun u => PyData.int (sgX s s' u p)) = (ws.map fun u => sgX s s' u p).map PyData.int := by
        rw [List.map_map]
        rfl
      rw [em]
      bv_omega
      rw [e5, List.all_append, List.all_cons, List.all_nil, Bool.and_true, ← Bool.and_assoc]
      refine bo_b rfl (fun hg => ?_) fun hg => ?_
      · obtain ⟨h0, _⟩ := Bool.and_eq_true_iff.mp hg
        rw [hg, Bool.true_and]
        obtain ⟨m, r, er⟩ : ∃ m r, (ws.map fun u => sgX s s' u p) = m :: r := by
          cases ws with
          | nil => cases h0
          | cons u ws => exact ⟨_, _, rfl⟩
        bv_omega
        refine o_min er ?_
        bv_omega
        refine tq_ (lay_at wm) ?_
        bv_omega
        refine tq_ (sgN_at pm) ?_
        bv_omega
        have eb : rngB (sgX s s' w p) (ws.map fun u => sgX s s' u p) = (decide (minI m r ≤ sgX s s' w p) && decide (sgX s s' w p ≤ maxI m r)) := by
          rw [er]
          rfl
        rw [eb]
        refine if_d rfl (fun h1 => ?_) fun h1 => ?_
        · rw [decide_eq_true h1, Bool.true_and]
          bv_omega
          refine o_max er ?_
          bv_omega
          exact ⟨_, (by and_intros), rfl⟩
        · rw [decide_eq_false h1, Bool.false_and]
          bv_omega
          exact ⟨_, (by and_intros), rfl⟩
      · rw [hg, Bool.false_and]
        bv_omega
        exact ⟨_, (by and_intros), rfl⟩
    · subst hI
      have e6 : (List.map ((fun x : D × D => x.1) ∘ fun p => (pnD p, PyData.int (sgX s s' w p))) spots).length = spots.length := List.length_map _
      rw [e6, List.take_length]
      have e7 : (decide (0 < ws.length) && spots.all fun p => rngB (sgX s s' w p) (ws.map fun u => sgX s s' u p)) = arB s s' ws w := arM_eq wm h
      rw [e7]
      bv_omega
      refine if_b rfl (fun hb => ?_) fun hb => ?_
      · have e8 : dW (((wl s s').take (i + 1)).filter (arB s s' ws)) = dW (((wl s s').take i).filter (arB s s' ws)) ++ [.str (od w)] := by
          unfold dW
          rw [e3, List.filter_append, List.map_append, List.filter_cons_of_pos hb]
          rfl
        bv_omega
        refine ⟨_, ?_, rfl⟩
        rw [e8]
        and_intros
      · have e8 : dW (((wl s s').take (i + 1)).filter (arB s s' ws)) = dW (((wl s s').take i).filter (arB s s' ws)) := by
          unfold dW
          rw [e3, List.filter_append, List.filter_cons_of_neg (by rw [hb]; exact Bool.false_ne_true), List.filter_nil, List.append_nil]
        bv_omega
        refine ⟨_, ?_, rfl⟩
        rw [e8]
        and_intros
  · subst hI
    bv_omega
    rw [l2, List.take_length]
    exact q
/-- some words, a told one among them -/
theorem lsomeD [HasF T po F80_l_all_words] [HasF T pw (D_l_words po)] [HasF T pd D_l_draw] [HasF T pm (D_l_some pd pw z0)] {w0 : Nat} (hw0 : w0 ∈ wl s s') (hM : M ≤ 900000) (q : ∀ vs : List Nat, vs.Sublist (wl s s') → w0 ∈ vs → K (.pur (.tuple (dW vs))) (M + 14)) : FCall (callN W G T (n + 3)) FeedD pm [kdD s s', .str (od w0)] M K := by
  have l1 := (wl_ok (s := s) (s' := s')).2.2
  have l3 := dW_len (l := wl s s')
  refine fc_upto feedD (M + 14) ?_
  refine Ev.fc_fn (mono := feedD) (d := (D_l_some pd pw z0)) Ev.HasF.h (fun _ => rfl) (by (conv => lhs; dsimp only [D_l_some, Ev.slots, List.length_cons, List.length_nil, Nat.reduceAdd, Nat.reduceSub]; simp only [List.replicate, List.map_cons, List.map_nil, List.cons_append, List.nil_append])) (by dsimp only [D_l_some] <;> rfl) ?_
  rfl'
  refine Ev.drawD ⟨rfl, rfl, rfl, rfl⟩ (by omega) (by first | decide | omega) (by first | decide | omega) fun r a b => ?_
  rfl'
  refine call_p rfl (lwordsD (pa := po) ?_)
  rfl'
  have w012 := wl_ok.2.1 w0 hw0
  refine comp_gen (fun i : Nat => PyData.str (od i)) (fun i d o => (o = none ∧ d ≠ .str (od w0)) ∨ ∃ k, (wl s s')[i]? = some k ∧ o = some k) 1 (by decide) (by omega) (fun i d hd' M' m1 m2 => ?_) fun os ol hR => ?_
  · obtain ⟨k, hk, rfl⟩ : ∃ k, (wl s s')[i]? = some k ∧ d = .str (od k) := by
      unfold dW at hd'
      rw [List.getElem?_map] at hd'
      obtain ⟨k, h1, h2⟩ := Option.map_eq_some_iff.mp hd'
      exact ⟨k, h1, h2.symm⟩
    have hi : i < 13 := by
      have := (List.getElem?_eq_some_iff.mp hk).1
      omega
    rfl'
    refine bo_d rfl (fun h => ?_) fun h => ?_
    · rfl'
      refine ⟨fun _ => ?_, fun z => nomatch z⟩
      rfl'
      exact ⟨k, rfl, .inr ⟨k, hk, rfl⟩, by omega, rfl⟩
    rfl'
    refine Ev.drawD ⟨rfl, rfl, rfl, rfl⟩ (by omega) (by first | decide | omega) (by first | decide | omega) fun r2 a2 b2 => ?_
    rfl'
    refine ⟨fun _ => ?_, fun _ => ⟨.inl ⟨rfl, fun z => h (by injection z)⟩, by omega, rfl⟩⟩
    rfl'
    exact ⟨k, rfl, .inr ⟨k, hk, rfl⟩, by omega, rfl⟩
  rw [l3] at ol ⊢
  have hat : ∀ (i : Nat) (k : Nat), (wl s s')[i]? = some k → (dW (wl s s'))[i]? = some (.str (od k)) := fun i k h => dW_at h
  have hsub : (os.filterMap id).Sublist (wl s s') := filt_sub ol fun i k o h1 h2 => by
    rcases hR i (.str (od k)) o (hat i k h1) h2 with ⟨h, _⟩ | ⟨k', h3, h4⟩
    · exact .inl h
    · rw [h1] at h3
      cases h3
      exact .inr h4
  have hmem : w0 ∈ os.filterMap id := by
    obtain ⟨i, hi⟩ := List.getElem?_of_mem hw0
    have hlt : i < os.length := by
      rw [ol]
      exact (List.getElem?_eq_some_iff.mp hi).1
    rcases hR i _ _ (hat i w0 hi) (List.getElem?_eq_getElem hlt) with ⟨_, h⟩ | ⟨k', h3, h4⟩
    · exact absurd rfl h
    · rw [hi] at h3
      cases h3
      exact List.mem_filterMap.mpr ⟨_, List.mem_of_getElem? (List.getElem?_eq_getElem hlt), by rw [h4]; rfl⟩
  generalize os.filterMap id = vs at hsub hmem
  rfl'
  exact ⟨by omega, q _ hsub hmem⟩
end
end Ev

namespace K38
open Ev PySem
abbrev Gc : Nat → Option Ev.D := gOf cs
theorem notinT {a : Ev.D} {ds : List Ev.D} {b : Bool} (h : dCmp .in_ a (.tuple ds) = some b) : dCmp .notin a (.tuple ds) = some (!b) := by
  have h' : (if Ev.shp a && Ev.shp (.tuple ds) then some (ds.any fun z => PyData.eqv z a) else none) = some b := h
  show (if Ev.shp a && Ev.shp (.tuple ds) then some (!ds.any fun z => PyData.eqv z a) else none) = _
  split at h'
  · rename_i hs
    rw [if_pos hs]
    cases h'
    rfl
  · cases h'
theorem b_inF {α : Type} {ds : List α} {B : Bool → Prop} (q : B false) : BlQ (dCmp .in_ (.bool false) (.list (ds.map fun _ => .bool true))) B := by
  refine bq (b := false) ?_ q
  have e : dCmp .notin (.bool false) (.list (ds.map fun _ => PyData.bool true)) = some true := by
    obtain ⟨b, e, hb⟩ := b_noF (ds := ds) (β := fun _ => true) (B := fun b => b = true) (List.all_eq_true.mpr fun _ _ => rfl)
    rw [e, hb]
  have h' : (if Ev.shp (.bool false) && Ev.shp (.list (ds.map fun _ => PyData.bool true)) then some (!(ds.map fun _ => PyData.bool true).any fun z => PyData.eqv z (.bool false)) else none) = some true := e
  show (if Ev.shp (.bool false) && Ev.shp (.list (ds.map fun _ => PyData.bool true)) then some ((ds.map fun _ => PyData.bool true).any fun z => PyData.eqv z (.bool false)) else none) = _
  split at h'
  · rename_i hs
    rw [if_pos hs]
    injection h' with h'
    rw [Bool.not_eq_true'] at h'
    rw [h']
  · cases h'
theorem dW_app {l m : List Nat} : dW (l ++ m) = dW l ++ dW m := List.map_append
theorem dW_take {l : List Nat} {k : Nat} : (dW l).take k = dW (l.take k) := by unfold dW; rw [List.map_take]
theorem dW_drop {l : List Nat} {k : Nat} : (dW l).drop k = dW (l.drop k) := by unfold dW; rw [List.map_drop]
theorem ar_one : ∀ s s' : Bool, ∀ w ∈ wl s s', arL s s' [w] = [w] := by decide +kernel
/-- what the parts of a may are -/
structure PartsOk (s s' : Bool) (ws : List Nat) (ps : List (List Nat)) : Prop where
  each : ∀ p ∈ ps, Pln s s' p ∧ p ≠ [] ∧ ∀ v ∈ p, v ∈ ws
  cov : ∀ v ∈ ws, ∃ p ∈ ps, v ∈ p
  len : ps.length ≤ 13
abbrev psD (ps : List (List Nat)) : List Ev.D := ps.map fun p => .tuple (dW p)
theorem cutW {vs : List Nat} {r : Int} (hr : 0 ≤ r) (hn : vs ≠ []) : ∃ V, cutD (dW vs) none (some (1 + r)) = dW V ∧ V.Sublist vs ∧ V ≠ [] := by
  refine ⟨vs.take (1 + r).toNat, ?_, List.take_sublist _ _, ?_⟩
  · have e : (1 + r) = (((1 + r).toNat : Nat) : Int) := by omega
    rw [e, cut_take, ← dW_take]
    rfl
  · intro h
    rcases List.take_eq_nil_iff.mp h with h | h
    · omega
    · exact hn h
theorem cutE {vs : List Nat} {r : Int} (hr : 0 ≤ r) : cutD (dW vs) none (some r) ++ cutD (dW vs) (some (r + 1)) none = dW (vs.eraseIdx r.toNat) := by
  have e : r = ((r.toNat : Nat) : Int) := by omega
  have e2 : r + 1 = ((r.toNat + 1 : Nat) : Int) := by omega
  rw [e2]
  conv => lhs; rw [e]
  rw [cut_take, cut_dropI, dW_take, dW_drop, ← dW_app, List.eraseIdx_eq_take_drop_succ, Int.toNat_natCast]
section
variable {W n : Nat} {M : Int} {K : Rv → Int → Prop} {KP : Rv → Prop} {s s' : Bool} {ws : List Nat}
theorem words_q (q : KP (.pur (.tuple (dW (wl s s'))))) : PCall (callN W Gc T (n + 1)) 0 [kdD s s'] KP := wordsP (g0 := 0) (g1 := 1) (g2 := 2) (g3 := 3) q
theorem plain_q (h12 : ∀ w ∈ ws, w ≤ 12) (hl : ws.length ≤ 14) (q : KP (.pur (.tuple (dW (arL s s' ws))))) : PCall (callN W Gc T (n + 3)) 5 [kdD s s', .tuple (dW ws)] KP :=
  pplain (g0 := 5) (g1 := 4) (pp := 2) (pn := 4) (ps := 3) (ph := 1) (pw := 0) words_q h12 hl q
theorem isplain_q (hw : ws.Sublist (wl s s')) (q : KP (.pur (.bool (decide (arL s s' ws = ws))))) : PCall (callN W Gc T (n + 4)) 6 [kdD s s', .tuple (dW ws)] KP :=
  pisplain (pa := 5) hw (plain_q (fun w h => wl_ok.2.1 w (hw.subset h)) (Nat.le_succ_of_le (Nat.le_trans hw.length_le wl_ok.2.2))) q
theorem parts_q (hw : ws.Sublist (wl s s')) (hW : 20 < W) (q : ∀ ps, PartsOk s s' ws ps → KP (.pur (.tuple (psD ps)))) : PCall (callN W Gc T (n + 4)) 7 [kdD s s', .tuple (dW ws)] KP := by
  have h12 : ∀ w ∈ ws, w ≤ 12 := fun w h => wl_ok.2.1 w (hw.subset h)
  have hl : ws.length ≤ 13 := Nat.le_trans hw.length_le wl_ok.2.2
  refine Ev.pc_fn (d := f7) rfl rfl (by (conv => lhs; dsimp only [f7, Ev.slots, List.length_cons, List.length_nil, Nat.reduceAdd, Nat.reduceSub]; simp only [List.replicate, List.map_cons, List.map_nil, List.cons_append, List.nil_append])) (by dsimp only [f7] <;> rfl) ?_
  rfl'
  refine w1_while (fun k g' _ => ∃ (left : List Nat) (ps : List (List Nat)), left.length ≤ k ∧ g' = [some (.val, kdD s s'), some (.val, .tuple (dW ws)), some (.val, .list (dW left)), some (.own, .list (psD ps)), none, none, none, none] ∧ (∀ v ∈ left, v ∈ ws) ∧ (∀ p ∈ ps, Pln s s' p ∧ p ≠ [] ∧ ∀ v ∈ p, v ∈ ws) ∧ (∀ v ∈ ws, v ∈ left ∨ ∃ p ∈ ps, v ∈ p) ∧ ps.length + left.length ≤ 13) (k := ws.length) (show ws.length < W by omega)
    ⟨ws, [], Nat.le_refl _, rfl, fun v h => h, (fun p h => nomatch h), (fun v h => .inl h), (by rw [List.length_nil]; omega)⟩ fun k g' M' ⟨left, ps, hk, eg, hL, hP, hC, hn⟩ => ?_
  subst eg
  have lL := dW_len (l := left)
  rfl'
  rw [lL]
  refine if_d rfl (fun h => ?_) fun h => ?_
  · obtain ⟨l0, lr, rfl⟩ : ∃ l0 lr, left = l0 :: lr := by
      cases left with
      | nil => simp at h
      | cons a b => exact ⟨a, b, rfl⟩
    have m0 := hL l0 List.mem_cons_self
    have hl0 := hw.subset m0
    have hS : ([l0] : List Nat).Sublist (wl s s') := List.singleton_sublist.mpr hl0
    rw [List.length_cons] at hk hn
    refine ⟨k - 1, by omega, ?_⟩
    have lp : (psD ps).length ≤ 13 := by rw [List.length_map]; omega
    rfl'
    refine tq_ (at_some (n := 0) rfl (dW_at rfl)) ?_
    rfl'
    refine for_inv (fun i g' _ => ∃ p : List Nat, (Pln s s' p ∧ l0 ∈ p ∧ ∀ v ∈ p, v ∈ ws) ∧ g' = [some (.val, kdD s s'), some (.val, .tuple (dW ws)), some (.val, .list (dW (l0 :: lr))), some (.own, .list (psD ps)), some (.val, .tuple (dW p)), none, none, none]) ⟨[l0], ⟨pln_of hS (ar_one s s' l0 hl0), List.mem_singleton.mpr rfl, fun v hv => by rw [List.mem_singleton.mp hv]; exact m0⟩, rfl⟩ (fun i d hd g' M' hI => ?_) fun g' M' hI => ?_
    · obtain ⟨p, ⟨hp, h0, hs⟩, rfl⟩ := hI
      obtain ⟨w, hwm, rfl⟩ := List.mem_map.mp (List.mem_of_getElem? hd)
      have w12 := h12 w hwm
      have pl := Nat.le_trans hp.1.length_le wl_ok.2.2
      have dl := dW_len (l := p)
      have p12 : ∀ v ∈ p ++ [w], v ≤ 12 := fun v hv => by
        rcases List.mem_append.mp hv with hv | hv
        · exact h12 v (hs v hv)
        · rw [List.mem_singleton.mp hv]
          exact w12
      have pin : ∀ v ∈ p ++ [w], v ∈ wl s s' := fun v hv => by
        rcases List.mem_append.mp hv with hv | hv
        · exact hp.1.subset hv
        · rw [List.mem_singleton.mp hv]
          exact hw.subset hwm
      have one : ([PyData.str (od w)] : List Ev.D).length = 1 := rfl
      rfl'
      have ea : dW p ++ [PyData.str (od w)] = dW (p ++ [w]) := (dW_app (l := p) (m := [w])).symm
      rw [ea]
      refine call_p rfl (plain_q p12 (by rw [List.length_append, List.length_singleton]; omega) ?_)
      rfl'
      have al : (arL s s' (p ++ [w])).length ≤ 13 := Nat.le_trans ar_sub.length_le wl_ok.2.2
      refine comp_x (xs := arL s s' (p ++ [w])) (fun w => .str (od w)) (fun u => .bool (decide (u ∈ ws))) (by omega) (fun u hu => ?_) ?_
      · rfl'
        refine bq (in_dWT h12 hl (wl_ok.2.1 u (ar_sub.subset hu))) ?_
        rfl'
        exact ⟨rfl, Int.le_refl _, rfl⟩
      rfl'
      refine o_all ?_
      rfl'
      refine if_b rfl (fun hb => ?_) fun hb => ?_
      · rfl'
        refine ⟨_, ?_, arL s s' (p ++ [w]), ⟨ar_pln, ar_ext pin l0 (List.mem_append_left _ h0), fun v hv => of_decide_eq_true (List.all_eq_true.mp hb v hv)⟩, rfl⟩
        and_intros
      · rfl'
        exact ⟨_, (by and_intros), p, ⟨hp, h0, hs⟩, rfl⟩
    · obtain ⟨p, ⟨hp, h0, hs⟩, rfl⟩ := hI
      have pl := Nat.le_trans hp.1.length_le wl_ok.2.2
      rfl'
      refine comp_xif (xs := l0 :: lr) (fun w => .str (od w)) (fun w => .str (od w)) (fun j => !decide (j ∈ p)) (by rw [List.length_cons]; omega) (fun j hj => ?_) ?_
      · rfl'
        refine bq (notinT (in_dWT (fun v hv => h12 v (hs v hv)) pl (h12 j (hL j hj)))) ?_
        rfl'
        refine ⟨rfl, fun _ => ⟨Int.le_refl _, rfl⟩, fun _ => ?_⟩
        rfl'
        exact ⟨rfl, Int.le_refl _, rfl⟩
      have el : (l0 :: lr).filter (fun j => !decide (j ∈ p)) = lr.filter (fun j => !decide (j ∈ p)) := List.filter_cons_of_neg (by rw [decide_eq_true h0]; decide)
      have ll := List.length_filter_le (fun j => !decide (j ∈ p)) lr
      rfl'
      refine ⟨_, ?_, (l0 :: lr).filter (fun j => !decide (j ∈ p)), ps ++ [p], by rw [el]; omega, rfl, fun v hv => hL v (List.mem_filter.mp hv).1, fun r hr => ?_, fun v hv => ?_, by rw [el, List.length_append, List.length_singleton]; omega⟩
      · have e2 : psD (ps ++ [p]) = psD ps ++ [.tuple (dW p)] := List.map_append
        rw [e2]
        and_intros
      · rcases List.mem_append.mp hr with h | h
        · exact hP r h
        · rw [List.mem_singleton.mp h]
          exact ⟨hp, List.ne_nil_of_mem h0, hs⟩
      · by_cases hvp : v ∈ p
        · exact .inr ⟨p, List.mem_append_right _ (List.mem_singleton.mpr rfl), hvp⟩
        · rcases hC v hv with h | ⟨r, hr, h⟩
          · exact .inl (List.mem_filter.mpr ⟨h, by rw [decide_eq_false hvp]; rfl⟩)
          · exact .inr ⟨r, List.mem_append_left _ hr, h⟩
  · have e0 : left = [] := by
      cases left with
      | nil => rfl
      | cons a b => rw [List.length_cons] at h; omega
    subst e0
    rfl'
    refine q ps ⟨hP, fun v hv => ?_, by rw [List.length_nil] at hn; omega⟩
    rcases hC v hv with h | h
    · cases h
    · exact h
theorem lwords_q (q : KP (.pur (.list (dW (wl s s'))))) : PCall (callN W Gc T (n + 2)) 11 [kdD s s'] KP := lwordsD (pa := 10) q
theorem laround_q (h : ∀ w ∈ ws, w ∈ wl s s') (hl : ws.length ≤ 13) (q : KP (.pur (.tuple (dW (arL s s' ws))))) : PCall (callN W Gc T (n + 3)) 14 [kdD s s', .tuple (dW ws)] KP :=
  laroundD (po := 10) (pw := 11) (ps := 12) (pl := 13) (z0 := "_law_one") (z1 := "_law_word") h hl q
theorem shp_dW {m : List Nat} (h12 : ∀ w ∈ m, w ≤ 12) (hl : m.length ≤ 13) : Ev.shp (.list (dW m)) = true := (nc_lst (ncs_dW2 0 h12 (by omega))).shp (by decide)
theorem eqL_dW {m : List Nat} {B : Bool → Prop} (h12 : ∀ w ∈ m, w ≤ 12) (hl : m.length ≤ 13) (q : B true) : BlQ (dCmp .eq (.list (dW m)) (.list (dW m))) B := by
  refine bq (b := true) ?_ q
  show (if Ev.shp (.list (dW m)) && Ev.shp (.list (dW m)) then some (PyData.eqvAll (dW m) (dW m)) else none) = _
  rw [shp_dW h12 hl, eqv_dW h12 h12, decide_eq_true rfl]
  rfl
theorem ismay_q (hw : ws.Sublist (wl s s')) (q : KP (.pur (.bool true))) : PCall (callN W Gc T (n + 3)) 17 [kdD s s', .tuple (dW ws)] KP := by
  have h12 : ∀ w ∈ ws, w ≤ 12 := fun w h => wl_ok.2.1 w (hw.subset h)
  have hl : ws.length ≤ 13 := Nat.le_trans hw.length_le wl_ok.2.2
  have lw := (wl_ok (s := s) (s' := s')).2.2
  refine Ev.pc_fn (d := f17) rfl rfl (by (conv => lhs; dsimp only [f17, Ev.slots, List.length_cons, List.length_nil, Nat.reduceAdd, Nat.reduceSub]; simp only [List.replicate, List.map_cons, List.map_nil, List.cons_append, List.nil_append])) (by dsimp only [f17] <;> rfl) ?_
  rfl'
  refine comp_x (xs := ws) (fun w => .str (od w)) (fun _ => .bool true) (by omega) (fun w hw => ?_) ?_
  · rfl'
    exact ⟨rfl, Int.le_refl _, rfl⟩
  rfl'
  refine b_inF ?_
  rfl'
  refine call_p rfl (lwords_q ?_)
  rfl'
  refine comp_xif (xs := wl s s') (fun w => .str (od w)) (fun w => .str (od w)) (fun w => decide (w ∈ ws)) (by omega) (fun w hw => ?_) ?_
  · rfl'
    refine bq (in_dWT h12 hl (wl_ok.2.1 w hw)) ?_
    rfl'
    refine ⟨rfl, fun _ => ⟨Int.le_refl _, rfl⟩, fun _ => ?_⟩
    rfl'
    exact ⟨rfl, Int.le_refl _, rfl⟩
  rw [filter_sub hw wl_ok.1]
  rfl'
  refine eqL_dW h12 hl ?_
  rfl'
  exact q
theorem od_nd {V : List Nat} (h12 : ∀ w ∈ V, w ≤ 12) (hn : V.Nodup) : (V.map od).Nodup := nd_map (fun a ha b hb e => od_inj a b (h12 a ha) (h12 b hb) e) hn
theorem dW_eq {V : List Nat} : dW V = (V.map od).map PyData.str := by unfold dW; rw [List.map_map]; rfl
theorem sort_same {a b : List Str} (h : a.Perm b) : sortS a = sortS b :=
  (sort_perm.trans (h.trans sort_perm.symm)).eq_of_pairwise (le := leS) (fun _ _ _ _ h1 h2 => leS_anti h1 h2) sort_pw sort_pw
theorem o_sstT {V : List Nat} {K : Rv → Prop} (h12 : ∀ w ∈ ws, w ≤ 12) (hn : ws.Nodup) (h13 : ws.length ≤ 13) (hl : V.length ≤ 1000) (hm : ∀ w, w ∈ ws ↔ w ∈ V) (q : K (.new (.list ((sortS (ws.map od)).map .str)))) : OpQ (dX .sst [.list (dW V)]) K := by
  have hp : (ws.map od).Perm (dedS (V.map od)) := ded_perm (od_nd h12 hn) fun k => by
    rw [List.mem_map, List.mem_map]
    exact ⟨fun ⟨w, a, b⟩ => ⟨w, (hm w).mp a, b⟩, fun ⟨w, a, b⟩ => ⟨w, (hm w).mpr a, b⟩⟩
  have hd := hp.length_eq
  rw [List.length_map] at hd
  refine oq ?_ q
  rw [dW_eq, sort_same hp]
  cases V with
  | nil => rfl
  | cons v V =>
    have e : ints? (((v :: V).map od).map PyData.str) = none := rfl
    show (match ints? (((v :: V).map od).map PyData.str) with
    | some is => if is.length < 64 then some (Rv.new (.list ((sstI is).map PyData.int))) else none
    | none => (strs? (((v :: V).map od).map PyData.str)).bind fun ss => if ss.length ≤ 1000 ∧ (dedS ss).length < 64 then some (Rv.new (.list ((sortS (dedS ss)).map .str))) else none) = _
    rw [e]
    show (strs? (((v :: V).map od).map PyData.str)).bind _ = _
    rw [strs_map2]
    exact if_pos ⟨by rw [List.length_map]; exact hl, by omega⟩
theorem sorted_qT {zs : List Str} {K : Rv → Prop} (hl : zs.length < 64) (q : K (.new (.list ((sortS zs).map .str)))) : OpQ (dBlt .sorted [.tuple (zs.map .str)]) K := by
  refine oq ?_ q
  show (strs? (zs.map PyData.str)).bind _ = _
  rw [strs_map2]
  exact if_pos hl
theorem eqL_self {xs : List Ev.D} {B : Bool → Prop} (hx : Ev.shp (.list xs) = true) (q : B true) : BlQ (dCmp .eq (.list xs) (.list xs)) B := by
  refine bq (b := true) ?_ q
  show (if Ev.shp (.list xs) && Ev.shp (.list xs) then some (PyData.eqvAll xs xs) else none) = _
  have : PyData.canLay0 (.list xs) = true := by
    have h := hx
    unfold Ev.shp at h
    exact (Bool.and_eq_true_iff.mp (show (PyData.canLay0 (.list xs) && decide (PyData.depth (.list xs) ≤ 64)) = true from h)).1
  rw [hx, show PyData.eqvAll xs xs = true from eqvAll_refl xs this]
  rfl
theorem shp_sort (h12 : ∀ w ∈ ws, w ≤ 12) (hl : ws.length ≤ 13) : Ev.shp (.list ((sortS (ws.map od)).map PyData.str)) = true := by
  have hp : (sortS (ws.map od)).Perm (ws.map od) := sort_perm
  refine (nc_lst (ncs_le (m := 0) (w := 20) 13 (fun d hd => ?_) (by rw [List.length_map, hp.length_eq, List.length_map]; exact hl))).shp (by decide)
  obtain ⟨z, hz, rfl⟩ := List.mem_map.mp hd
  obtain ⟨w, hw, rfl⟩ := List.mem_map.mp (hp.mem_iff.mp hz)
  exact nc_od (h12 w hw)
theorem flat_len : ∀ {ps : List (List Nat)}, (∀ p ∈ ps, p.length ≤ 13) → ps.flatten.length ≤ 13 * ps.length
  | [], _ => Nat.le_refl _
  | p :: ps, h => by
    have := flat_len fun q hq => h q (List.mem_cons_of_mem _ hq)
    have := h p List.mem_cons_self
    rw [List.flatten_cons, List.length_append, List.length_cons]
    omega
theorem flat_take {ps : List (List Nat)} {i : Nat} {p : List Nat} (h : ps[i]? = some p) : (ps.take (i + 1)).flatten = (ps.take i).flatten ++ p := by
  rw [List.take_add_one, h, List.flatten_append]
  show (ps.take i).flatten ++ [p].flatten = _
  rw [List.flatten_singleton]
theorem partsright_q {ps : List (List Nat)} (hw : ws.Sublist (wl s s')) (hP : PartsOk s s' ws ps) (q : KP (.pur (.bool true))) : PCall (callN W Gc T (n + 5)) 18 [kdD s s', .tuple (dW ws), .tuple (psD ps)] KP := by
  have h12 : ∀ w ∈ ws, w ≤ 12 := fun w h => wl_ok.2.1 w (hw.subset h)
  have hl : ws.length ≤ 13 := Nat.le_trans hw.length_le wl_ok.2.2
  have lps := hP.len
  have hp13 : ∀ p ∈ ps, p.length ≤ 13 := fun p hp => Nat.le_trans (hP.each p hp).1.1.length_le wl_ok.2.2
  have hp12 : ∀ p ∈ ps, ∀ w ∈ p, w ≤ 12 := fun p hp w hw => h12 w ((hP.each p hp).2.2 w hw)
  refine Ev.pc_fn (d := f18) rfl rfl (by (conv => lhs; dsimp only [f18, Ev.slots, List.length_cons, List.length_nil, Nat.reduceAdd, Nat.reduceSub]; simp only [List.replicate, List.map_cons, List.map_nil, List.cons_append, List.nil_append])) (by dsimp only [f18] <;> rfl) ?_
  rfl'
  refine comp_x (xs := ps) (fun p => .tuple (dW p)) (fun _ => .bool true) (by omega) (fun p hp => ?_) ?_
  · have lp := dW_len (l := p)
    have hne : 0 < p.length := List.length_pos_iff.mpr (hP.each p hp).2.1
    rfl'
    refine call_p (ds := [kdD s s', .tuple (dW p)]) rfl (ismay_q (n := n + 1) (hP.each p hp).1.1 ?_)
    rfl'
    rw [lp]
    exact ⟨by rw [decide_eq_true (show (0 : Int) < (p.length : Int) by omega)]; rfl, Int.le_refl _, rfl⟩
  rfl'
  refine b_inF ?_
  rfl'
  refine comp_x (xs := ps) (fun p => .tuple (dW p)) (fun _ => .bool true) (by omega) (fun p hp => ?_) ?_
  · rfl'
    refine call_p (ds := [kdD s s', .tuple (dW p)]) rfl (laround_q (n := n + 1) (fun w hw => (hP.each p hp).1.1.subset hw) (hp13 p hp) ?_)
    rw [(hP.each p hp).1.eq]
    rfl'
    refine eqdW (hp12 p hp) (hp12 p hp) (hp13 p hp) (hp13 p hp) ?_
    rw [decide_eq_true rfl]
    exact ⟨rfl, Int.le_refl _, rfl⟩
  rfl'
  refine b_inF ?_
  rfl'
  refine for_inv (fun i g' _ => g' = [some (.val, kdD s s'), some (.val, .tuple (dW ws)), some (.val, .tuple (psD ps)), some (.own, .list (dW (ps.take i).flatten)), none]) rfl (fun i d hd g' M' hI => ?_) fun g' M' hI => ?_
  · subst hI
    rw [List.getElem?_map] at hd
    obtain ⟨p, hp, rfl⟩ := Option.map_eq_some_iff.mp hd
    have hpm := List.mem_of_getElem? hp
    have lt := flat_len (ps := ps.take i) fun p hp => hp13 p (List.mem_of_mem_take hp)
    have lt2 : (ps.take i).length ≤ 13 := Nat.le_trans (List.length_take_le' _ _) lps
    have l1 := dW_len (l := (ps.take i).flatten)
    have l2 := dW_len (l := p)
    have l3 := hp13 p hpm
    rfl'
    refine mut_extT rfl (by omega) ?_
    rfl'
    refine ⟨_, ?_, rfl⟩
    rw [flat_take hp, dW_app]
    and_intros
  · subst hI
    have e : ps.take (psD ps).length = ps := by rw [List.length_map, List.take_length]
    rw [e]
    have lf := flat_len hp13
    rfl'
    refine o_sstT h12 (hw.nodup wl_ok.1) hl (by omega) (fun w => ?_) ?_
    · rw [List.mem_flatten]
      exact ⟨fun h => hP.cov w h, fun ⟨p, hp, h⟩ => (hP.each p hp).2.2 w h⟩
    rfl'
    rw [dW_eq (V := ws)]
    refine sorted_qT (by rw [List.length_map]; omega) ?_
    rfl'
    refine eqL_self (shp_sort h12 hl) ?_
    rfl'
    exact q
theorem right_q (hw : ws.Sublist (wl s s')) (hW : 20 < W) (q : KP (.pur (.bool true))) : PCall (callN W Gc T (n + 6)) 19 [kdD s s', .tuple (dW ws)] KP := by
  have h12 : ∀ w ∈ ws, w ≤ 12 := fun w h => wl_ok.2.1 w (hw.subset h)
  have hl : ws.length ≤ 13 := Nat.le_trans hw.length_le wl_ok.2.2
  have a12 : ∀ w ∈ arL s s' ws, w ≤ 12 := fun w h => wl_ok.2.1 w (ar_sub.subset h)
  have al : (arL s s' ws).length ≤ 13 := Nat.le_trans ar_sub.length_le wl_ok.2.2
  have ra := rep_dW a12 al
  refine Ev.pc_fn (d := f19) rfl rfl (by (conv => lhs; dsimp only [f19, Ev.slots, List.length_cons, List.length_nil, Nat.reduceAdd, Nat.reduceSub]; simp only [List.replicate, List.map_cons, List.map_nil, List.cons_append, List.nil_append])) (by dsimp only [f19] <;> rfl) ?_
  rfl'
  refine call_p rfl (laround_q (n := n + 2) (fun w h => hw.subset h) hl ?_)
  rfl'
  refine call_p rfl (plain_q (n := n + 2) h12 (by omega) ?_)
  rfl'
  refine o_reprG ra fun s1 hs1 => ?_
  rfl'
  refine o_reprG ra fun s2 hs2 => ?_
  rfl'
  refine if_nd rfl (fun h => absurd (hs1.trans hs2.symm) h) fun _ => ?_
  rfl'
  refine call_p rfl (isplain_q (n := n + 1) hw ?_)
  have rb : ∀ b : Bool, reprOk (.bool b) = true := fun b => (nc_bool (m := 0) (w := 4)).repr (by decide) (by decide)
  rfl'
  refine o_reprG (rb _) fun s3 hs3 => ?_
  rfl'
  refine eqdW h12 a12 hl al ?_
  have ec : decide (ws = arL s s' ws) = decide (arL s s' ws = ws) := by
    rw [decide_eq_decide]
    exact eq_comm
  rw [ec]
  rfl'
  refine o_reprG (rb _) fun s4 hs4 => ?_
  rfl'
  refine bo_nd rfl (fun h => absurd (hs3.trans hs4.symm) h) fun _ => ?_
  rfl'
  refine call_p (ds := [kdD s s', .tuple (dW (arL s s' ws))]) rfl (isplain_q (n := n + 1) ar_sub ?_)
  rw [decide_eq_true ar_pln.eq]
  rfl'
  refine call_p rfl (parts_q (n := n + 1) hw hW fun ps hP => ?_)
  rfl'
  refine call_p (ds := [kdD s s', .tuple (dW ws), .tuple (psD ps)]) rfl (partsright_q hw hP ?_)
  rfl'
  exact q
theorem drawn_q (hM : M ≤ 800000) (q : ∀ vs : List Nat, vs.Sublist (wl s s') → K (.pur (.tuple (dW vs))) (M + 30)) : FCall (callN W Gc T (n + 5)) FeedD 16 [kdD s s'] M K := by
  have l1 := (wl_ok (s := s) (s' := s')).2.2
  have l2 : 0 < (wl s s').length := by cases s <;> cases s' <;> decide
  have l3 := dW_len (l := wl s s')
  refine fc_upto feedD (M + 30) ?_
  refine Ev.fc_fn (mono := feedD) (d := f16) rfl (fun _ => rfl) (by (conv => lhs; dsimp only [f16, Ev.slots, List.length_cons, List.length_nil, Nat.reduceAdd, Nat.reduceSub]; simp only [List.replicate, List.map_cons, List.map_nil, List.cons_append, List.nil_append])) (by dsimp only [f16] <;> rfl) ?_
  rfl'
  refine Ev.drawD ⟨rfl, rfl, rfl, rfl⟩ (by omega) (by first | decide | omega) (by first | decide | omega) fun r a b => ?_
  rfl'
  refine call_p rfl (lwords_q (n := n + 2) ?_)
  rfl'
  refine if_d rfl (fun h => ?_) fun h => ?_
  · rfl'
    refine Ev.drawD ⟨rfl, rfl, rfl, rfl⟩ (by omega) (by first | decide | omega) (by first | decide | omega) fun r2 a2 b2 => ?_
    rfl'
    rcases (show r2 = 0 ∨ r2 = 1 by omega) with rfl | rfl
    · refine tq_ (d := .tuple (dW [])) rfl ?_
      rfl'
      exact ⟨by omega, q [] (List.nil_sublist _)⟩
    · refine tq_ (d := .tuple (dW (wl s s'))) rfl ?_
      rfl'
      exact ⟨by omega, q _ (List.Sublist.refl _)⟩
  rfl'
  rw [l3]
  refine Ev.drawD ⟨rfl, rfl, rfl, rfl⟩ (by omega) (by first | decide | omega) (by first | decide | omega) fun r2 a2 b2 => ?_
  rfl'
  obtain ⟨w0, e0⟩ : ∃ w0, (wl s s')[r2.toNat]? = some w0 := ⟨_, List.getElem?_eq_getElem (by omega)⟩
  refine tq_ (at_some (n := r2.toNat) (by omega) (dW_at e0)) ?_
  rfl'
  have wm := List.mem_of_getElem? e0
  refine callD (ds := [kdD s s', .str (od w0)]) ⟨rfl, rfl, rfl, rfl⟩ rfl (lsomeD (po := 10) (pw := 11) (pd := 9) (z0 := "_law_one") (n := n + 1) wm (by omega) fun vs hvs hv0 => ?_)
  rfl'
  refine if_d rfl (fun h => ?_) fun h => ?_
  · rfl'
    rw [l3]
    refine Ev.drawD ⟨rfl, rfl, rfl, rfl⟩ (by omega) (by first | decide | omega) (by first | decide | omega) fun r3 a3 b3 => ?_
    rfl'
    obtain ⟨w1, e1⟩ : ∃ w1, (wl s s')[r3.toNat]? = some w1 := ⟨_, List.getElem?_eq_getElem (by omega)⟩
    refine tq_ (at_some (n := r3.toNat) (by omega) (dW_at e1)) ?_
    rfl'
    exact ⟨by omega, q [w1] (List.singleton_sublist.mpr (List.mem_of_getElem? e1))⟩
  rfl'
  refine if_d rfl (fun h => ?_) fun h => ?_
  · rfl'
    exact ⟨by omega, q _ hvs⟩
  rfl'
  refine Ev.drawD ⟨rfl, rfl, rfl, rfl⟩ (by omega) (by first | decide | omega) (by first | decide | omega) fun r3 a3 b3 => ?_
  rfl'
  obtain ⟨V, eV, hV, hVn⟩ := cutW (vs := vs) a3 (List.ne_nil_of_mem hv0)
  rw [eV]
  have hVw : ∀ w ∈ V, w ∈ wl s s' := fun w h => hvs.subset (hV.subset h)
  refine call_p (ds := [kdD s s', .tuple (dW V)]) rfl (laround_q (n := n + 1) hVw (Nat.le_trans (hV.trans hvs).length_le l1) ?_)
  have an : arL s s' V ≠ [] := by
    obtain ⟨v, hv⟩ := List.exists_mem_of_ne_nil _ hVn
    exact List.ne_nil_of_mem (ar_ext hVw v hv)
  have al : (arL s s' V).length ≤ 13 := Nat.le_trans ar_sub.length_le wl_ok.2.2
  have ap : 0 < (arL s s' V).length := List.length_pos_iff.mpr an
  have l4 := dW_len (l := arL s s' V)
  rfl'
  rw [l4]
  refine Ev.drawD ⟨rfl, rfl, rfl, rfl⟩ (by omega) (by first | decide | omega) (by first | decide | omega) fun r4 a4 b4 => ?_
  rfl'
  refine if_d rfl (fun h => ?_) fun h => ?_
  · have c1 := cut_len (xs := dW (arL s s' V)) (lo := none) (hi := some r4)
    have c2 := cut_len (xs := dW (arL s s' V)) (lo := some (r4 + 1)) (hi := none)
    rfl'
    rw [cutE a4]
    exact ⟨by omega, q _ ((List.eraseIdx_sublist _ _).trans ar_sub)⟩
  · rfl'
    exact ⟨by omega, q _ ar_sub⟩
def W0 : Nat := 2 ^ 20
abbrev itD2 (x : (Bool × Bool) × List Nat) : Ev.D := .tuple [kdD x.1.1 x.1.2, .tuple (dW x.2)]
theorem law_q (hW : 20 < W) {ns : List Int} (hl : ns.length ≤ 63) : PCall (callN W Gc T (n + 8)) 20 [.list (ns.map PyData.int)] fun r => r = .pur (.bool true) := by
  generalize hsc : PyData.list (ns.map PyData.int) = sc
  obtain ⟨F0, e0, hF0⟩ := feedD_ok (W := W) (n := n + 6) (G := Gc) (T := T) (pf := 8) (ns := ns) hl
  rw [hsc] at e0
  refine Ev.pc_fn (d := f20) rfl rfl (by (conv => lhs; dsimp only [f20, Ev.slots, List.length_cons, List.length_nil, Nat.reduceAdd, Nat.reduceSub]; simp only [List.replicate, List.map_cons, List.map_nil, List.cons_append, List.nil_append])) (by dsimp only [f20] <;> rfl) ?_
  refine ws_feed (Fd := FeedD) (mono := feedD) rfl ?_
  rfl'
  refine ⟨[sc], F0, none, rfl, e0, hF0, rfl, rfl, ?_⟩
  rfl'
  refine for_inv (fun i g' M' => ∃ X : List ((Bool × Bool) × List Nat), X.length = i ∧ (∀ x ∈ X, x.2.Sublist (wl x.1.1 x.1.2)) ∧ g' = [some (.val, sc), hole, some (.val, .list [.str "point", .str "stretch"]), some (.own, .list (X.map itD2)), none, none, none] ∧ M' ≤ 40 * (i : Int)) ⟨[], rfl, (fun x h => by cases h), rfl, by omega⟩ (fun i d hd g' M' hI => ?_) fun g' M' hI => ?_
  · obtain ⟨X, hX, hXs, rfl, hM⟩ := hI
    obtain ⟨hi, rfl⟩ := rangeL_inv hd
    have hi2 : i < 12 := hi
    have lX : (X.map itD2).length = i := by rw [List.length_map, hX]
    rfl'
    refine Ev.drawD ⟨rfl, rfl, rfl, rfl⟩ (by omega) (by first | decide | omega) (by first | decide | omega) fun r r0 r1 => ?_
    rfl'
    refine tq_ (d := .str (kd (decide (0 < r)))) ?_ ?_
    · by_cases h : 0 < r
      · rw [decide_eq_true h]
        rfl
      · rw [decide_eq_false h]
        rfl
    rfl'
    refine Ev.drawD ⟨rfl, rfl, rfl, rfl⟩ (by omega) (by first | decide | omega) (by first | decide | omega) fun t t0 t1 => ?_
    rfl'
    refine tq_ (d := .str (kd (decide (0 < t)))) ?_ ?_
    · by_cases h : 0 < t
      · rw [decide_eq_true h]
        rfl
      · rw [decide_eq_false h]
        rfl
    generalize decide (0 < r) = k0
    generalize decide (0 < t) = k1
    rfl'
    try dsimp only [List.set]
    refine callD (ds := [kdD k0 k1]) ⟨rfl, rfl, rfl, rfl⟩ rfl (drawn_q (n := n + 2) (by omega) fun vs hvs => ?_)
    rfl'
    refine ⟨_, ?_, X ++ [((k0, k1), vs)], by rw [List.length_append, hX]; rfl, fun x hx => ?_, rfl, by omega⟩
    · have e2 : (X ++ [((k0, k1), vs)]).map itD2 = X.map itD2 ++ [.tuple [kdD k0 k1, .tuple (dW vs)]] := List.map_append
      rw [e2]
      and_intros
    · rcases List.mem_append.mp hx with h | h
      · exact hXs x h
      · rw [List.mem_singleton.mp h]
        exact hvs
  · obtain ⟨X, hX, hXs, rfl, hM⟩ := hI
    have e3 : (rangeL 0 (Int.toNat 12)).length = 12 := rfl
    rw [e3] at hX
    have lX : (X.map itD2).length = 12 := by rw [List.length_map, hX]
    have c1 := cut_len (xs := X.map itD2) (lo := none) (hi := some 2)
    rfl'
    refine for_inv (fun i g' _ => g' = [some (.val, sc), hole, some (.val, .list [.str "point", .str "stretch"]), some (.own, .list (X.map itD2)), none, none, none]) rfl (fun i d hd g' M' hI => ?_) fun g' M' hI => ?_
    · subst hI
      obtain ⟨x, hx, rfl⟩ : ∃ x ∈ X, itD2 x = d := by
        rcases List.mem_append.mp (List.mem_of_getElem? hd) with h | h
        · exact List.mem_map.mp h
        · exact List.mem_map.mp (cut_mem h)
      obtain ⟨⟨k0, k1⟩, vs⟩ := x
      rfl'
      refine call_p (ds := [kdD k0 k1, .tuple (dW vs)]) rfl (right_q (n := n + 1) (hXs _ hx) hW ?_)
      rfl'
      exact ⟨_, (by and_intros), rfl⟩
    · subst hI
      rfl'
      refine call_p (ds := [kdD true false, .tuple (dW [])]) rfl (parts_q (n := n + 3) (List.nil_sublist _) hW fun ps hP => ?_)
      have e : ps = [] := by
        cases ps with
        | nil => rfl
        | cons p ps =>
          obtain ⟨_, h1, h2⟩ := hP.each p List.mem_cons_self
          obtain ⟨v, hv⟩ := List.exists_mem_of_ne_nil _ h1
          exact absurd (h2 v hv) List.not_mem_nil
      subst e
      rfl'
      rfl
theorem law : ∀ ns : List Int, ns.length ≤ 63 → ∃ as', callN W0 (gOf cs) (is.map (·.d)) 20 20 [(.val, .list (ns.map PyData.int))] = some (.pur (.bool true), as') := by
  intro ns hl
  have hT : is.map (·.d) = T := rfl
  rw [hT]
  obtain ⟨r, e, rfl⟩ := pc_inv (law_q (W := W0) (n := 12) (by decide) hl)
  exact ⟨_, e⟩
end
end K38

open PySem PySem.W PySem.Calls PyProof.Rows
theorem PySem.Challenge.cw_whens_k38_plain_mays_and_parts_holds : PySem.Challenge.rw_whens_k38_plain_mays_and_parts.Holds := by
  w_on; o_law
  refine HandSHeadRun.head_any (r := PySem.W.OpenLaw.row PySem.Challenge.rw_whens_k38_plain_mays_and_parts) (q := PySem.W.view (PySem.W.OpenLaw.row PySem.Challenge.rw_whens_k38_plain_mays_and_parts).prog [29]) (H := K38.hk) (ob := K38.ob) (M := 4000) (loose := K38.loose) (d := HandSHeadRun.topDef (PySem.W.OpenLaw.row PySem.Challenge.rw_whens_k38_plain_mays_and_parts).prog 29) (kwd := []) K38.ob_eq
    (by kernel_rfl) (fun s => by kernel_rfl) K38.run (by kernel_rfl) (by kernel_rfl) (by kernel_rfl) (by rfl) (by first | assumption | decide +kernel) (by decide +kernel) ⟨rfl, rfl, rfl, rfl, rfl, by decide +kernel⟩ ?hw ?hc
  case hw => w_witness2
  case hc =>
    exact Ev.walk_g (l := PySem.Challenge.rw_whens_k38_plain_mays_and_parts) (n := 63) (k := 20) (W := K38.W0) (is := K38.is) (cs := K38.cs) (li := 20) (i := K38.d20) (m := 6) rfl (by decide) (by kernel_rfl) ⟨rfl, by decide, by decide⟩ rfl (by kernel_rfl) rfl K38.isOk K38.bAll K38.law

