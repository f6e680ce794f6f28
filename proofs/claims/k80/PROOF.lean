import PyProof.Rows.All
import Wide.All
import OpenK.AllK
import Wide.FinOn
import HandS.ForMost
import HandS.ForExc
import HandS.Flow
import HandS.Wide
import KE.SortData
import KE.DatumOrd
import KE.DataEq
import KE.DataCmp
import KE.DataMinMax
import KE.DataFind
import KE.KDictKeyed
import KE.KDictPairs
import KE.KDictWalk
import HandS.IsInst
import HandS.TupAny
import HandS.Conv
import HandS.DictTup
import HandS.SetKeys
import HandS.Style
import HandS.More
import HandS.HeadHook2
import HandS.HeadEnd
import HandS.Head2
import KE.KStateDown
import HandS.TryMany
import HandS.EndBits
import HandS.TupLen
import HandS.Small
import HandS.Codes
import HandS.ExcIs
import HandS.ExcInit
import HandS.HeadHook3
import HandS.HeadHook4
import HandS.Text
import HandS.Base
import HandS.Call
import HandS.Ends
import HandS.Words
import HandS.Defaults
import HandS.Head0
import HandS.Head1
import HandS.HeadHook1
import PySem.Challenge.RW_fewstand_k80_many_lots_written
import KE.IntTextLaws
set_option Elab.async false
set_option linter.all false
set_option maxRecDepth 100000
set_option maxHeartbeats 4000000
namespace Fs
open PySem L2
/-- a value: tuples are plain values; tl: a list that only the reckoning itself holds -/
inductive Val where
  | non | bl (b : Bool) | int (i : Int) | str (s : Str) | tup (xs : List Val) | ref (n : Nat) | tl (xs : List Val)
  deriving Inhabited
inductive Ob where
  | lst (xs : List Val) | ro (xs : List Val)
  | dK (fz : Bool) (kvs : List (Key × Val)) | dT (fz : Bool) (kvs : List (List Key × Val))
  | ins (c : Str) (fs : List (Str × Val))
  | exc (c : Str) (fs : List (Str × Val))
  deriving Inhabited
abbrev Hep := List Ob
abbrev Evn := List (Option Val)
structure Ex where
  cls : Str
  fs : List (Str × Val)
inductive Res (α : Type) where
  | ok (a : α) (h : Hep) | ex (x : Ex) (h : Hep) | bad
@[reducible] def Res.bind {α β : Type} (r : Res α) (f : α → Hep → Res β) : Res β := match r with
  | .ok a h => f a h
  | .ex x h => .ex x h
  | .bad => .bad
def Res.of {α : Type} (o : Option α) (h : Hep) : Res α := match o with
  | some a => .ok a h
  | none => .bad
def keyOf : Val → Option Key
  | .int i => some (.inl i)
  | .str s => some (.inr s)
  | _ => none
def keysOf : Val → Option (List Key)
  | .tup xs => xs.mapM keyOf
  | _ => none
def kVal : Key → Val
  | .inl i => .int i
  | .inr s => .str s
section
variable {κ α : Type} [DecidableEq κ]
def look (kvs : List (κ × α)) (k : κ) : Option α := (kvs.find? fun kv => decide (kv.1 = k)).map (·.2)
def put (kvs : List (κ × α)) (k : κ) (v : α) : List (κ × α) :=
  if (kvs.any fun kv => decide (kv.1 = k)) = true then kvs.map fun kv => if kv.1 = k then (kv.1, v) else kv else kvs ++ [(k, v)]
def drp (kvs : List (κ × α)) (k : κ) : List (κ × α) := kvs.filter fun kv => decide (kv.1 ≠ k)
end
def setF {α : Type} (f : Str) (v : α) : List (Str × α) → List (Str × α)
  | [] => [(f, v)]
  | p :: r => if p.1 = f then (f, v) :: r else p :: setF f v r
/-- what a value reads as -/
def rei (h : Hep) : Nat → Val → Option PyData
  | 0, _ => none
  | _ + 1, .non => some .none
  | _ + 1, .bl b => some (.bool b)
  | _ + 1, .int i => some (.int i)
  | _ + 1, .str s => some (.str s)
  | k + 1, .tup xs => (xs.mapM (rei h k)).map .tuple
  | k + 1, .tl xs => (xs.mapM (rei h k)).map .list
  | k + 1, .ref n => match h[n]? with
    | some (.lst xs) => (xs.mapM (rei h k)).map .list
    | _ => none
/-- the items of a list -/
def lstOf (h : Hep) : Val → Option (List Val)
  | .tl xs => some xs
  | .ref n => match h[n]? with
    | some (.lst xs) => some xs
    | _ => none
  | _ => none
def seqOf (h : Hep) : Val → Option (List Val)
  | .tup xs => some xs
  | v => lstOf h v
def mat (v : Val) (h : Hep) : Val × Hep := match v with
  | .tl xs => (.ref h.length, h ++ [.lst xs])
  | v => (v, h)
inductive Bop | add | sub | mul | fdiv | mod | pow
inductive Cop | eq | ne | lt | le | gt | ge | is_ | isn | in_ | nin
inductive Ty | int | bool | str | list | tuple | cls (c : Str)
def lim : Nat := 16777216
def addO (h : Hep) : Val → Val → Option Val
  | .int i, .int j => some (.int (i + j))
  | .str a, .str b => if a.length + b.length ≤ lim then some (.str (a ++ b)) else none
  | .tup a, .tup b => if a.length + b.length ≤ lim then some (.tup (a ++ b)) else none
  | a, b => match lstOf h a, lstOf h b with
    | some xs, some ys => if xs.length + ys.length ≤ lim then some (.tl (xs ++ ys)) else none
    | _, _ => none
def subO : Val → Val → Option Val
  | .int i, .int j => some (.int (i - j))
  | _, _ => none
def mulO (h : Hep) : Val → Val → Option Val
  | .int i, .int j => if i.natAbs.log2 + j.natAbs.log2 < 4000000 then some (.int (i * j)) else none
  | a, .int j => match lstOf h a with
    | some xs => if 0 ≤ j ∧ j < 2 ^ 62 ∧ xs.length * j.toNat ≤ lim then some (.tl (List.replicate j.toNat xs).flatten) else none
    | none => none
  | _, _ => none
def fdivO : Val → Val → Option Val
  | .int i, .int j => if 0 < j ∧ j.natAbs.log2 < 9000 then some (.int (i / j)) else none
  | _, _ => none
def modO : Val → Val → Option Val
  | .int i, .int j => if 0 < j then some (.int (i % j)) else none
  | _, _ => none
def powO : Val → Val → Option Val
  | .int i, .int j => if 0 ≤ j ∧ j ≤ 1000000 ∧ i.natAbs < 2 ^ 64 then some (.int (i ^ j.toNat)) else none
  | _, _ => none
def bop (h : Hep) : Bop → Val → Val → Option Val
  | .add, u, v => addO h u v
  | .sub, u, v => subO u v
  | .mul, u, v => mulO h u v
  | .fdiv, u, v => fdivO u v
  | .mod, u, v => modO u v
  | .pow, u, v => powO u v
/-- do two values read alike? -/
def eqO (h : Hep) (u v : Val) : Option Bool := match u, v with
  | .int i, .int j => some (decide (i = j))
  | .str a, .str b => some (decide (a = b))
  | .bl a, .bl b => some (decide (a = b))
  | u, v => match rei h 12 u, rei h 12 v with
    | some d, some e => some (PyData.eqv d e)
    | _, _ => none
def inO (h : Hep) (u v : Val) : Option Bool := match v with
  | .str b => match u with
    | .str a => some (!(Builtin.Str.occurrences b a 0 b.length 1).isEmpty)
    | _ => none
  | .ref n => match h[n]? with
    | some (.dK _ kvs) => (keyOf u).map fun k => (look kvs k).isSome
    | some (.dT _ kvs) => (keysOf u).map fun k => (look kvs k).isSome
    | some (.lst xs) => match rei h 12 u, xs.mapM (rei h 11) with
      | some d, some ds => some (ds.any fun e => PyData.eqv e d)
      | _, _ => none
    | _ => none
  | .tl xs => match rei h 12 u, xs.mapM (rei h 11) with
      | some d, some ds => some (ds.any fun e => PyData.eqv e d)
      | _, _ => none
  | .tup xs => match rei h 12 u, xs.mapM (rei h 11) with
      | some d, some ds => some (ds.any fun e => PyData.eqv e d)
      | _, _ => none
  | _ => none
def ltO (h : Hep) (u v : Val) : Option Bool := match u, v with
  | .int i, .int j => some (decide (i < j))
  | .tup xs, .tup ys => match rei h 12 (.tup xs), rei h 12 (.tup ys) with
    | some d, some e => if PySem.W.alike d e = true then some (PySem.W.dataLt d e) else none
    | _, _ => none
  | _, _ => none
def gtO : Val → Val → Option Bool
  | .int i, .int j => some (decide (j < i))
  | _, _ => none
def leO : Val → Val → Option Bool
  | .int i, .int j => some (decide (i ≤ j))
  | _, _ => none
def geO : Val → Val → Option Bool
  | .int i, .int j => some (decide (j ≤ i))
  | _, _ => none
def isNon : Val → Bool
  | .non => true
  | _ => false
def isO : Val → Val → Option Bool
  | .bl a, .bl b => some (decide (a = b))
  | u, .non => some (isNon u)
  | _, _ => none
def cop (h : Hep) : Cop → Val → Val → Option Bool
  | .eq, u, v => eqO h u v
  | .ne, u, v => (eqO h u v).map (!·)
  | .lt, u, v => ltO h u v
  | .gt, u, v => gtO u v
  | .le, u, v => leO u v
  | .ge, u, v => geO u v
  | .is_, u, v => isO u v
  | .isn, u, v => (isO u v).map (!·)
  | .in_, u, v => inO h u v
  | .nin, u, v => (inO h u v).map (!·)
def tru (h : Hep) : Val → Option Bool
  | .non => some false
  | .bl b => some b
  | .int i => some (i != 0)
  | .str s => if s.length ≤ lim then some (!decide (s.length = 0)) else none
  | .tup xs => some (!xs.isEmpty)
  | .tl xs => some (!xs.isEmpty)
  | .ref n => match h[n]? with
    | some (.lst xs) => some (!xs.isEmpty)
    | some (.dK false kvs) => some (!kvs.isEmpty)
    | _ => none
inductive Tn | none | bool | int | str | tuple | list | dict
  deriving DecidableEq
def tyN (h : Hep) : Val → Option Tn
  | .non => some .none
  | .bl _ => some .bool
  | .int _ => some .int
  | .str _ => some .str
  | .tup _ => some .tuple
  | .tl _ => some .list
  | .ref n => match h[n]? with
    | some (.lst _) => some .list
    | some (.dK ..) => some .dict
    | some (.dT false _) => some .dict
    | _ => none
def isTn : Tn → Ty → Option Bool
  | .int, .int => some true
  | .bool, .int => some true
  | .bool, .bool => some true
  | .str, .str => some true
  | .tuple, .tuple => some true
  | .list, .list => some true
  | _, .cls _ => none
  | _, _ => some false
def isi (h : Hep) (v : Val) (t : Ty) : Option Bool := (tyN h v).bind fun a => isTn a t
def cut {α : Type} (xs : List α) (lo hi : Option Int) : List α := (xs.drop (HT.sIx xs.length 0 lo)).take (HT.sIx xs.length xs.length hi - HT.sIx xs.length 0 lo)
def ixO (h : Hep) (a i : Val) : Option Val := match a with
  | .str s => match i with
    | .int j => if s.length ≤ lim then (atI s.cps.toList j).map fun c => .str ⟨#[c]⟩ else none
    | _ => none
  | .tup xs => match i with
    | .int j => atI xs j
    | _ => none
  | .tl xs => match i with
    | .int j => atI xs j
    | _ => none
  | .ref n => match h[n]? with
    | some (.lst xs) => match i with
      | .int j => atI xs j
      | _ => none
    | some (.ro xs) => match i with
      | .int j => atI xs j
      | _ => none
    | some (.dK _ kvs) => (keyOf i).bind (look kvs)
    | some (.dT _ kvs) => (keysOf i).bind (look kvs)
    | _ => none
  | _ => none
def optI : Val → Option (Option Int)
  | .non => some none
  | .int i => some (some i)
  | _ => none
def slO (h : Hep) (a : Val) (lo hi : Option Int) : Option Val := match a with
  | .str s => if s.length ≤ lim then some (.str (cutS s lo hi)) else none
  | .tup xs => some (.tup (cut xs lo hi))
  | a => match lstOf h a with
    | some xs => some (.tl (cut xs lo hi))
    | none => none
def fldO (c f : Str) (h : Hep) (a : Val) : Option Val := match a with
  | .ref n => match h[n]? with
    | some (.ins d fs) => if d = c then fs.lookup f else none
    | _ => none
  | _ => none
/-! ### built-ins -/
inductive Blt | len | list | tuple | sorted | sum | max | maxN | min | all | any | dict | int | str | repr | lenset | sortedset
def isIn (xs : List Val) : Option (List Int) := xs.mapM fun | .int i => some i | _ => none
def isBl (xs : List Val) : Option (List Bool) := xs.mapM fun | .bl i => some i | _ => none
def isSt (xs : List Val) : Option (List Str) := xs.mapM fun | .str i => some i | _ => none
def isPr (xs : List Val) : Option (List (Val × Val)) := xs.mapM fun | .tup [a, b] => some (a, b) | _ => none
def isTupC : PyData → Bool
  | .tuple (_ :: _) => true
  | _ => false
def isPlainD : PyData → Bool
  | .none => false
  | .tuple _ => false
  | _ => true
def encD (h : Hep) (v : Val) : PyData := (rei h 12 v).getD .none
def sortable (h : Hep) (xs : List Val) : Bool := (xs.all fun x => (rei h 12 x).isSome) && (xs.all fun x => xs.all fun y => PySem.W.alike (encD h x) (encD h y)) &&
  ((xs.all fun x => isTupC (encD h x)) || (xs.all fun x => isPlainD (encD h x)))
def sortO (h : Hep) (xs : List Val) : Option (List Val) := if sortable h xs = true ∧ xs.length ≤ lim then some (xs.mergeSort (PySem.W.dataLe false (encD h))) else none
def maxL (h : Hep) : Val → List Val → Val
  | m, [] => m
  | m, y :: ys => maxL h (if PySem.W.dataLt (encD h m) (encD h y) then y else m) ys
def newD (ps : List (Val × Val)) : Option Ob := if ps.isEmpty = true then some (.dT false []) else match ps.mapM fun p => (keyOf p.1).map (·, p.2) with
  | some kvs => some (.dK false (kvs.foldl (fun acc kv => put acc kv.1 kv.2) []))
  | none => match ps.mapM fun p => (keysOf p.1).map (·, p.2) with
    | some kvs => some (.dT false (kvs.foldl (fun acc kv => put acc kv.1 kv.2) []))
    | none => none
def un (f : Hep → Val → Option Val) (h : Hep) : List Val → Option (Val × Hep)
  | [v] => (f h v).map fun w => (w, h)
  | _ => none
def lenV (h : Hep) (v : Val) : Option Val := match v with
  | .str s => if s.length ≤ lim then some (.int s.length) else none
  | .tup xs => some (.int xs.length)
  | .tl xs => some (.int xs.length)
  | .ref n => match h[n]? with
    | some (.dK _ kvs) => some (.int kvs.length)
    | some (.dT _ kvs) => some (.int kvs.length)
    | some (.ro xs) => some (.int xs.length)
    | some (.lst xs) => some (.int xs.length)
    | _ => none
  | _ => none
def listV (h : Hep) (v : Val) : Option Val := match v with
  | .tup xs => some (.tl xs)
  | .tl xs => some (.tl xs)
  | .ref n => match h[n]? with
    | some (.dT _ kvs) => some (.tl (kvs.map fun kv => .tup (kv.1.map kVal)))
    | some (.dK false kvs) => some (.tl (kvs.map fun kv => kVal kv.1))
    | some (.lst xs) => some (.tl xs)
    | _ => none
  | _ => none
def tupleV (h : Hep) (v : Val) : Option Val := (seqOf h v).map .tup
def sortedV (h : Hep) (v : Val) : Option Val := ((lstOf h v).bind (sortO h)).map .tl
def sumV (h : Hep) (v : Val) : Option Val := ((lstOf h v).bind isIn).map fun ns => .int ns.sum
def allV (h : Hep) (v : Val) : Option Val := ((lstOf h v).bind isBl).map fun bs => .bl (bs.all id)
def anyV (h : Hep) (v : Val) : Option Val := ((lstOf h v).bind isBl).map fun bs => .bl (bs.any id)
def intV (_ : Hep) (v : Val) : Option Val := match v with
  | .int i => some (.int i)
  | .bl b => some (.int (if b = true then 1 else 0))
  | .str s => if s.length ≤ 640 then (PySem.intText? s).map .int else none
  | _ => none
def strV (_ : Hep) (v : Val) : Option Val := match v with
  | .int i => if i.natAbs.log2 < 1920 then some (.str (toString i)) else none
  | _ => none
def maxB (h : Hep) : List Val → Option (Val × Hep)
  | [.int i, .int j] => some (.int (if j > i then j else i), h)
  | _ => none
def minB (h : Hep) : List Val → Option (Val × Hep)
  | [.int i, .int j] => some (.int (if j < i then j else i), h)
  | _ => none
def dictB (h : Hep) : List Val → Option (Val × Hep)
  | [v] => ((lstOf h v).bind isPr).bind newD |>.map fun o => (.ref h.length, h ++ [o])
  | _ => none
def bltF (h : Hep) : Blt → List Val → Option (Val × Hep)
  | .len, vs => un lenV h vs
  | .list, vs => un listV h vs
  | .tuple, vs => un tupleV h vs
  | .sorted, vs => un sortedV h vs
  | .sum, vs => un sumV h vs
  | .all, vs => un allV h vs
  | .any, vs => un anyV h vs
  | .int, vs => un intV h vs
  | .str, vs => un strV h vs
  | .max, vs => maxB h vs
  | .min, vs => minB h vs
  | .dict, vs => dictB h vs
  | _, _ => none
inductive Mt | append | extend | pop | reverse | get | popD | join | split | startswith | lower
def noTl : Val → Bool
  | .tl _ => false
  | _ => true
def kp (f : Hep → Val → List Val → Option (Val × Hep)) : Hep → Val → List Val → Option (Val × Hep) := fun h u us => if us.all noTl = true then f h u us else none
def appM (h : Hep) : Val → List Val → Option (Val × Hep)
  | .ref n, [v] => match h[n]? with
    | some (.lst xs) => if xs.length < lim then some (.non, h.set n (.lst (xs ++ [v]))) else none
    | _ => none
  | _, _ => none
def extM (h : Hep) : Val → List Val → Option (Val × Hep)
  | .ref n, [v] => match h[n]?, lstOf h v with
    | some (.lst xs), some ys => if xs.length + ys.length ≤ lim then some (.non, h.set n (.lst (xs ++ ys))) else none
    | _, _ => none
  | _, _ => none
def popM (h : Hep) : Val → List Val → Option (Val × Hep)
  | .ref n, [] => match h[n]? with
    | some (.lst xs) => (xs[xs.length - 1]?).map fun y => (y, h.set n (.lst xs.dropLast))
    | _ => none
  | .ref n, [.int i] => match h[n]? with
    | some (.lst xs) => if i.natAbs < 2 ^ 62 then (ixN xs.length i).bind fun k => (xs[k]?).map fun y => (y, h.set n (.lst (xs.eraseIdx k))) else none
    | _ => none
  | _, _ => none
def popD (h : Hep) : Val → List Val → Option (Val × Hep)
  | .ref n, [v] => match h[n]? with
    | some (.dK false kvs) => (keyOf v).bind fun k => (look kvs k).map fun y => (y, h.set n (.dK false (drp kvs k)))
    | _ => none
  | _, _ => none
def revM (h : Hep) : Val → List Val → Option (Val × Hep)
  | .ref n, [] => match h[n]? with
    | some (.lst xs) => some (.non, h.set n (.lst xs.reverse))
    | _ => none
  | _, _ => none
def getM (h : Hep) : Val → List Val → Option (Val × Hep)
  | .ref n, [k, d] => match h[n]? with
    | some (.dK _ kvs) => (keyOf k).map fun k => ((look kvs k).getD d, h)
    | some (.dT _ kvs) => (keysOf k).map fun k => ((look kvs k).getD d, h)
    | _ => none
  | _, _ => none
def joinM (h : Hep) : Val → List Val → Option (Val × Hep)
  | .str s, [v] => ((lstOf h v).bind isSt).bind fun ys => if (ys.map (·.length)).sum + ys.length * s.length ≤ lim then some (.str (Txt.join s ys), h) else none
  | _, _ => none
def splitM (h : Hep) : Val → List Val → Option (Val × Hep)
  | .str s, [.str b] => if (b.length == 0) = false ∧ s.length + 2 ≤ lim then some (.tl ((Txt.split s b).map .str), h) else none
  | _, _ => none
def startM (h : Hep) : Val → List Val → Option (Val × Hep)
  | .str s, [.str b] => some (.bl (Txt.startswith s b), h)
  | _, _ => none
def lowerM (h : Hep) : Val → List Val → Option (Val × Hep)
  | .str s, [] => if s.length ≤ 5592405 then some (.str (Txt.lower s), h) else none
  | _, _ => none
def isD (h : Hep) (v : Val) : Bool := match v with
  | .ref n => match h[n]? with
    | some (.dK false _) => true
    | some (.dT false _) => true
    | _ => false
  | _ => false
def isDr (h : Hep) (v : Val) : Bool := match v with
  | .ref n => match h[n]? with
    | some (.dK _ _) => true
    | some (.dT _ _) => true
    | _ => false
  | _ => false
/-- the receiver's own type -/
def recv (h : Hep) : Mt → Val → Bool
  | .append, v => decide (tyN h v = some .list)
  | .extend, v => decide (tyN h v = some .list)
  | .pop, v => decide (tyN h v = some .list)
  | .reverse, v => decide (tyN h v = some .list)
  | .get, v => isDr h v
  | .popD, v => isD h v
  | .join, v => decide (tyN h v = some .str)
  | .split, v => decide (tyN h v = some .str)
  | .startswith, v => decide (tyN h v = some .str)
  | .lower, v => decide (tyN h v = some .str)
/-- arguments that the method keeps -/
def keeps : Mt → Bool
  | .extend => false
  | .join => false
  | _ => true
def mtF (h : Hep) : Mt → Val → List Val → Option (Val × Hep)
  | .append, u, vs => kp appM h u vs
  | .extend, u, vs => extM h u vs
  | .pop, u, vs => popM h u vs
  | .popD, u, vs => popD h u vs
  | .reverse, u, vs => revM h u vs
  | .get, u, vs => kp getM h u vs
  | .join, u, vs => joinM h u vs
  | .split, u, vs => splitM h u vs
  | .startswith, u, vs => startM h u vs
  | .lower, u, vs => lowerM h u vs
/-! ### the AST -/
inductive Tg | nm (i : Nat) | tp (ts : List Tg)
mutual
inductive E where
  | var (i : Nat) | non | bl (b : Bool) | int (i : Int) | str (s : Str) | gint (x : Str) (i : Int) | gstr (x : Str) (s : Str)
  | bin (o : Bop) (a b : E) | neg (a : E) | cmp (o : Cop) (a b : E) | chain (o p : Cop) (a b c : E)
  | and (a b : E) | or (a b : E) | not (a : E)
  | tup (es : Es) | lst (es : Es) | dnew (t : Bool) | disp (k v : E)
  | idx (a i : E) | sl (a : E) (lo hi : Oe) | rev (a : E) | fld (a : E) (c f : Str)
  | call (f : Str) (es : Es) | make (c : Str) (es : Es) | meth (o : E) (c m : Str) (es : Es)
  | blt (b : Blt) (es : Es) | bm (m : Mt) (o : E) (es : Es) | isi (a : E) (t : Ty) | isc (a : E) (c : Str) (sub non : List Str) | rng (es : Es) | sitems (a : E)
  | lc (own : List Nat) (elt : E) (tg : Tg) (it : I) (c : Oe) | lay (e : E)
inductive Es where
  | nil | cons (e : E) (es : Es)
inductive Oe where
  | none | some (e : E)
inductive I where
  | of (e : E) | rng (es : Es) | enum (e : E) | zip (a b : E) | items (e : E) | values (e : E)
end
mutual
inductive S where
  | expr (e : E) | asg (tg : Tg) (e : E) | aug (i : Nat) (e : E) | seti (o i e : E) | setf (o : E) (c f : Str) (e : E)
  | ret (e : E) | retN | pass | never | wipe (l : List Nat)
  | ifs (t : E) (a b : Ss) | whl (t : E) (b : Ss) | for_ (tg : Tg) (it : I) (b : Ss)
  | raise (c : Str) | tryE (b : Ss) (c : Str) (sub non : List Str) (i j : Nat)
inductive Ss where
  | nil | cons (s : S) (ss : Ss)
end
structure Def where
  ps : List Str
  ns : List Str
  body : Ss
abbrev Orc := Str → List Val → Hep → Res Val
/-! ### the evaluator -/
def asgT (h : Hep) : Tg → Val → Evn → Option Evn
  | .nm i, v, σ => if i < σ.length then some (σ.set i (some v)) else none
  | .tp ts, v, σ => match v with
    | .tup xs => asgTs h ts xs σ
    | .ref n => match h[n]? with
      | some (.lst xs) => asgTs h ts xs σ
      | _ => none
    | _ => none
where asgTs (h : Hep) : List Tg → List Val → Evn → Option Evn
  | [], [], σ => some σ
  | t :: ts, x :: xs, σ => (asgT h t x σ).bind (asgTs h ts xs)
  | _, _, _ => none
/-- what is walked -/
inductive Src where
  | snap (xs : List Val) | live (n : Nat)
inductive Wk where
  | lst (s : Src) | enum (s : Src) | zip (s t : Src) | fix (xs : List Val)
def srcAt (h : Hep) : Src → Option (List Val)
  | .snap xs => some xs
  | .live n => match h[n]? with
    | some (.lst xs) => some xs
    | some (.ro xs) => some xs
    | _ => none
def srcOf (h : Hep) : Val → Option Src
  | .tl xs => some (.snap xs)
  | .ref n => match h[n]? with
    | some (.lst xs) => some (.live n)
    | some (.ro xs) => some (.live n)
    | _ => none
  | _ => none
/-- the i-th item: none: the walk can't go on; some none: it ends -/
def itAt (h : Hep) : Wk → Nat → Option (Option Val)
  | .lst s, i => (srcAt h s).map (·[i]?)
  | .enum s, i => (srcAt h s).map fun xs => xs[i]?.map fun x => .tup [.int i, x]
  | .zip s t, i => match srcAt h s, srcAt h t with
    | some xs, some ys => some (match xs[i]?, ys[i]? with
      | some x, some y => some (.tup [x, y])
      | _, _ => none)
    | _, _ => none
  | .fix xs, i => some xs[i]?
def itLen (h : Hep) : Wk → Nat
  | .lst s => ((srcAt h s).getD []).length
  | .enum s => ((srcAt h s).getD []).length
  | .zip s _ => ((srcAt h s).getD []).length
  | .fix xs => xs.length
def lockD (n : Nat) (h : Hep) : Option Hep := match h[n]? with
  | some (.dK false kvs) => some (h.set n (.dK true kvs))
  | some (.dT false kvs) => some (h.set n (.dT true kvs))
  | _ => none
def unlockD (n : Nat) (h : Hep) : Option Hep := match h[n]? with
  | some (.dK true kvs) => some (h.set n (.dK false kvs))
  | some (.dT true kvs) => some (h.set n (.dT false kvs))
  | _ => none
def keysD (h : Hep) (n : Nat) : Option (List Val) := match h[n]? with
  | some (.dK true kvs) => some (kvs.map fun kv => kVal kv.1)
  | some (.dT true kvs) => some (kvs.map fun kv => .tup (kv.1.map kVal))
  | _ => none
def itemsD (h : Hep) (n : Nat) : Option (List Val) := match h[n]? with
  | some (.dK true kvs) => some (kvs.map fun kv => .tup [kVal kv.1, kv.2])
  | _ => none
def valsD (h : Hep) (n : Nat) : Option (List Val) := match h[n]? with
  | some (.dK true kvs) => some (kvs.map fun kv => kv.2)
  | _ => none
/-- of a dict that is locked -/
def keysL (h : Hep) : Val → Option (List Val)
  | .ref n => keysD h n
  | _ => none
def itemsL (h : Hep) : Val → Option (List Val)
  | .ref n => itemsD h n
  | _ => none
def valsL (h : Hep) : Val → Option (List Val)
  | .ref n => valsD h n
  | _ => none
/-- the dict that a walk would lock -/
def dictOf (h : Hep) : Val → Option Nat
  | .ref n => match h[n]? with
    | some (.dK false _) => some n
    | some (.dT false _) => some n
    | _ => none
  | _ => none
def rngO : List Val → Option (List Val)
  | [.int j] => if j.natAbs < 2 ^ 62 then some ((List.range j.toNat).map fun (i : Nat) => .int (0 + (i : Int))) else none
  | [.int i, .int j] => if i.natAbs < 2 ^ 62 ∧ j.natAbs < 2 ^ 62 then some ((List.range (j - i).toNat).map fun (k : Nat) => .int (i + (k : Int))) else none
  | [.int i, .int j, .int (-1)] => if i.natAbs < 2 ^ 62 ∧ j.natAbs < 2 ^ 62 then some ((List.range (i - j).toNat).map fun (k : Nat) => .int (i + (k : Nat) * (-1))) else none
  | _ => none
def rngL (vs : List Val) : Option Val := match vs with
  | [.int j] => if j.natAbs < 2 ^ 62 ∧ j.toNat ≤ lim then some (.tl ((List.range j.toNat).map fun (i : Nat) => .int (0 + (i : Int)))) else none
  | [.int i, .int j] => if i.natAbs < 2 ^ 62 ∧ j.natAbs < 2 ^ 62 ∧ (j - i).toNat ≤ lim then some (.tl ((List.range (j - i).toNat).map fun (k : Nat) => .int (i + (k : Int)))) else none
  | _ => none
def signs (s : Str) : List Val := s.cps.toList.map fun c => .str ⟨#[c]⟩
def wkOf (h : Hep) : Val → Option Wk
  | .tup xs => some (.fix xs)
  | .str s => some (.fix (signs s))
  | v => (srcOf h v).map .lst
inductive SRes where
  | nx (σ : Evn) (h : Hep) | rt (v : Val) (h : Hep) | ex (x : Ex) (σ : Evn) (h : Hep) | bad
@[reducible] def Res.sb {α : Type} (σ : Evn) (r : Res α) (f : α → Hep → SRes) : SRes := match r with
  | .ok a h => f a h
  | .ex x h => .ex x σ h
  | .bad => .bad
@[reducible] def SRes.sq (r : SRes) (f : Evn → Hep → SRes) : SRes := match r with
  | .nx σ h => f σ h
  | .rt v h => .rt v h
  | .ex x σ h => .ex x σ h
  | .bad => .bad
/-- isinstance of a kept exception, of None -/
def iscO (sub non : List Str) (h : Hep) (v : Val) : Option Bool := match v with
  | .non => some false
  | .ref n => match h[n]? with
    | some (.exc k _) => if k ∈ sub then some true else if k ∈ non then some false else none
    | _ => none
  | _ => none
/-- nothing is raised out of a comprehension -/
def Res.nox {α : Type} : Res α → Res α
  | .ok a h => .ok a h
  | _ => .bad
def lcGo (w : Wk) (step : Val → Hep → Res (Option Val)) : Nat → Nat → List Val → Hep → Res (List Val)
  | 0, _, _, _ => .bad
  | k + 1, i, acc, h => match itAt h w i with
    | none => .bad
    | some none => .ok acc h
    | some (some x) => match step x h with
      | .ok none h' => lcGo w step k (i + 1) acc h'
      | .ok (some v) h' => if acc.length < lim then lcGo w step k (i + 1) (acc ++ [v]) h' else .bad
      | _ => .bad
def forGo (w : Wk) (step : Val → Evn → Hep → SRes) : Nat → Nat → Evn → Hep → SRes
  | 0, _, _, _ => .bad
  | k + 1, i, σ, h => match itAt h w i with
    | none => .bad
    | some none => .nx σ h
    | some (some x) => (step x σ h).sq fun σ' h' => forGo w step k (i + 1) σ' h'
def whGo (test : Evn → Hep → Res Bool) (step : Evn → Hep → SRes) : Nat → Evn → Hep → SRes
  | 0, _, _ => .bad
  | k + 1, σ, h => (test σ h).sb σ fun b h' => if b = true then (step σ h').sq fun σ' h'' => whGo test step k σ' h'' else .nx σ h'
def wipeE (σ : Evn) : List Nat → Evn
  | [] => σ
  | v :: vs => (wipeE σ vs).set v none
def resO {α : Type} (o : Option (α × Hep)) : Res α := match o with
  | some (a, h) => .ok a h
  | none => .bad
def mats : List Val → Hep → List Val × Hep
  | [], h => ([], h)
  | v :: vs, h => let (v', h1) := mat v h; let (vs', h2) := mats vs h1; (v' :: vs', h2)
/-- behind a walk over a dict: it is unlocked; nothing is raised within -/
def unlkE {α : Type} (n : Nat) : Res α → Res α
  | .ok a h => match unlockD n h with
    | some h' => .ok a h'
    | none => .bad
  | _ => .bad
def unlkS (n : Nat) : SRes → SRes
  | .nx σ h => match unlockD n h with
    | some h' => .nx σ h'
    | none => .bad
  | .rt v h => match unlockD n h with
    | some h' => .rt v h'
    | none => .bad
  | _ => .bad
section
variable (F : Orc)
mutual
def evE : E → Evn → Hep → Res Val
  | .var i, σ, h => match σ[i]? with
    | some (some v) => .ok v h
    | _ => .bad
  | .non, _, h => .ok .non h
  | .bl b, _, h => .ok (.bl b) h
  | .int i, _, h => .ok (.int i) h
  | .str s, _, h => .ok (.str s) h
  | .gint _ i, _, h => .ok (.int i) h
  | .gstr _ s, _, h => .ok (.str s) h
  | .bin o a b, σ, h => (evE a σ h).bind fun u h1 => (evE b σ h1).bind fun v h2 => Res.of (bop h2 o u v) h2
  | .neg a, σ, h => (evE a σ h).bind fun u h1 => match u with
    | .int i => .ok (.int (-i)) h1
    | _ => .bad
  | .cmp o a b, σ, h => (evE a σ h).bind fun u h1 => (evE b σ h1).bind fun v h2 => (Res.of (cop h2 o u v) h2).bind fun b h3 => .ok (.bl b) h3
  | .chain o p a b c, σ, h => (evE a σ h).bind fun u h1 => (evE b σ h1).bind fun v h2 => (Res.of (cop h2 o u v) h2).bind fun k h3 =>
      if k = true then (evE c σ h3).bind fun w h4 => (Res.of (cop h4 p v w) h4).bind fun b h5 => .ok (.bl b) h5 else .ok (.bl false) h3
  | .and a b, σ, h => (evE a σ h).bind fun u h1 => (Res.of (tru h1 u) h1).bind fun k h2 => if k = true then evE b σ h2 else .ok u h2
  | .or a b, σ, h => (evE a σ h).bind fun u h1 => (Res.of (tru h1 u) h1).bind fun k h2 => if k = true then .ok u h2 else evE b σ h2
  | .not a, σ, h => (evE a σ h).bind fun u h1 => (Res.of (tru h1 u) h1).bind fun k h2 => .ok (.bl (!k)) h2
  | .tup es, σ, h => (evEs es σ h).bind fun vs h1 => if vs.length ≤ lim then .ok (.tup vs) h1 else .bad
  | .lst es, σ, h => (evEs es σ h).bind fun vs h1 => if vs.length ≤ lim then .ok (.tl vs) h1 else .bad
  | .dnew t, _, h => .ok (.ref h.length) (h ++ [if t = true then .dT false [] else .dK false []])
  | .disp k v, σ, h => (evE k σ h).bind fun u h1 => (evE v σ h1).bind fun w h2 => let (w', h3) := mat w h2; match keyOf u with
    | some k => .ok (.ref h3.length) (h3 ++ [.dK false [(k, w')]])
    | none => match keysOf u with
      | some k => .ok (.ref h3.length) (h3 ++ [.dT false [(k, w')]])
      | none => .bad
  | .idx a i, σ, h => (evE a σ h).bind fun u h1 => (evE i σ h1).bind fun v h2 => Res.of (ixO h2 u v) h2
  | .sl a lo hi, σ, h => (evE a σ h).bind fun u h1 => (evO lo σ h1).bind fun l h2 => (evO hi σ h2).bind fun r h3 => Res.of (slO h3 u l r) h3
  | .rev a, σ, h => (evE a σ h).bind fun u h1 => Res.of ((lstOf h1 u).map fun xs => .tl xs.reverse) h1
  | .fld a c f, σ, h => (evE a σ h).bind fun u h1 => Res.of (fldO c f h1 u) h1
  | .call f es, σ, h => (evEs es σ h).bind fun vs h1 => F f vs h1
  | .make c es, σ, h => (evEs es σ h).bind fun vs h1 => (F (c ++ ".__init__") (.ref h1.length :: vs) (h1 ++ [.ins c []])).bind fun v h2 => match v with
    | .non => .ok (.ref h1.length) h2
    | _ => .bad
  | .meth o c m es, σ, h => (evE o σ h).bind fun u h1 => match u with
    | .ref n => match h1[n]? with
      | some (.ins c' fs) => if c' = c ∧ fs.lookup m = none then (evEs es σ h1).bind fun vs h2 => F (c ++ "." ++ m) (.ref n :: vs) h2 else .bad
      | _ => .bad
    | _ => .bad
  | .blt b es, σ, h => (evEr es σ h).bind fun vs h1 => resO (bltF h1 b vs)
  | .bm m o es, σ, h => (evE o σ h).bind fun u h1 => if recv h1 m u = true then (if keeps m = true then evEs es σ h1 else evEr es σ h1).bind fun vs h2 => resO (mtF h2 m u vs) else .bad
  | .isi a t, σ, h => (evE a σ h).bind fun u h1 => (Res.of (isi h1 u t) h1).bind fun b h2 => .ok (.bl b) h2
  | .isc a _ sub non, σ, h => (evE a σ h).bind fun u h1 => (Res.of (iscO sub non h1 u) h1).bind fun b h2 => .ok (.bl b) h2
  | .rng es, σ, h => (evEs es σ h).bind fun vs h1 => Res.of (rngL vs) h1
  | .sitems a, σ, h => (evE a σ h).bind fun u h1 => match dictOf h1 u with
    | some n => match h1[n]? with
      | some (.dT _ kvs) => Res.of ((sortO h1 (kvs.map fun kv => .tup [.tup (kv.1.map kVal), kv.2])).map .tl) h1
      | _ => .bad
    | none => .bad
  | .lc own elt tg it c, σ, h => (evI it σ h).bind fun (w, d) h1 =>
      let r := lcGo w (fun x h => match asgT h tg x (wipeE σ own) with
        | some σ' => (evC c σ' h).bind fun k h' => if k = true then (evE elt σ' h').bind fun v h'' => let (v', h3) := mat v h''; .ok (some v') h3 else .ok none h'
        | none => .bad) (itLen h1 w + 1) 0 [] h1
      (match d with
        | some n => unlkE n r
        | none => r.nox).bind fun acc h2 => .ok (.tl acc) h2
  | .lay e, σ, h => (evE e σ h).bind fun v h1 => .ok (mat v h1).1 (mat v h1).2
def evT : E → Evn → Hep → Res Bool
  | .and a b, σ, h => (evT a σ h).bind fun k h1 => if k = true then evT b σ h1 else .ok false h1
  | .or a b, σ, h => (evT a σ h).bind fun k h1 => if k = true then .ok true h1 else evT b σ h1
  | .not a, σ, h => (evT a σ h).bind fun k h1 => .ok (!k) h1
  | e, σ, h => (evE e σ h).bind fun v h1 => Res.of (tru h1 v) h1
/-- arguments that are kept: lists of one's own are laid -/
def evEs : Es → Evn → Hep → Res (List Val)
  | .nil, _, h => .ok [] h
  | .cons e es, σ, h => (evE e σ h).bind fun v h1 => let (v', h2) := mat v h1; (evEs es σ h2).bind fun vs h3 => .ok (v' :: vs) h3
/-- arguments that are read at once -/
def evEr : Es → Evn → Hep → Res (List Val)
  | .nil, _, h => .ok [] h
  | .cons e es, σ, h => (evE e σ h).bind fun v h1 => (evEr es σ h1).bind fun vs h3 => .ok (v :: vs) h3
def evO : Oe → Evn → Hep → Res (Option Int)
  | .none, _, h => .ok none h
  | .some e, σ, h => (evE e σ h).bind fun u h1 => match u with
    | .int i => .ok (some i) h1
    | _ => .bad
def evC : Oe → Evn → Hep → Res Bool
  | .none, _, h => .ok true h
  | .some e, σ, h => evT e σ h
def evI : I → Evn → Hep → Res (Wk × Option Nat)
  | .of e, σ, h => match evE e σ h with
    | .ok u h1 => match dictOf h u with
      | some n => match lockD n h with
        | some hl => match evE e σ hl with
          | .ok (.ref m) h2 => if m = n then (Res.of (keysD h2 n) h2).bind fun xs h3 => .ok (.fix xs, some n) h3 else .bad
          | _ => .bad
        | none => .bad
      | none => match keysL h1 u with
        | some xs => .ok (.fix xs, none) h1
        | none => (Res.of (wkOf h1 u) h1).bind fun w h2 => .ok (w, none) h2
    | .ex x h1 => .ex x h1
    | .bad => .bad
  | .rng es, σ, h => (evEs es σ h).bind fun vs h1 => (Res.of (rngO vs) h1).bind fun xs h2 => .ok (.fix xs, none) h2
  | .enum e, σ, h => (evE e σ h).bind fun u h1 => (Res.of (srcOf h1 u) h1).bind fun s h2 => .ok (.enum s, none) h2
  | .zip a b, σ, h => (evE a σ h).bind fun u h1 => (evE b σ h1).bind fun v h2 => (Res.of (srcOf h2 u) h2).bind fun s h3 => (Res.of (srcOf h3 v) h3).bind fun t h4 => .ok (.zip s t, none) h4
  | .items e, σ, h => match evE e σ h with
    | .ok u h1 => match dictOf h u with
      | some n => match lockD n h with
        | some hl => match evE e σ hl with
          | .ok (.ref m) h2 => if m = n then (Res.of (itemsD h2 n) h2).bind fun xs h3 => .ok (.fix xs, some n) h3 else .bad
          | _ => .bad
        | none => .bad
      | none => (Res.of (itemsL h1 u) h1).bind fun xs h2 => .ok (.fix xs, none) h2
    | _ => .bad
  | .values e, σ, h => match evE e σ h with
    | .ok u h1 => match dictOf h u with
      | some n => match lockD n h with
        | some hl => match evE e σ hl with
          | .ok (.ref m) h2 => if m = n then (Res.of (valsD h2 n) h2).bind fun xs h3 => .ok (.fix xs, some n) h3 else .bad
          | _ => .bad
        | none => .bad
      | none => (Res.of (valsL h1 u) h1).bind fun xs h2 => .ok (.fix xs, none) h2
    | _ => .bad
end
def setI (h : Hep) (u v w : Val) : Option Hep := match u with
  | .ref n => match h[n]? with
    | some (.lst xs) => match v with
      | .int i => (ixN xs.length i).map fun k => h.set n (.lst (xs.set k w))
      | _ => none
    | some (.dK false kvs) => (keyOf v).bind fun k => if kvs.length < lim then some (h.set n (.dK false (put kvs k w))) else none
    | some (.dT false kvs) => (keysOf v).bind fun k => if kvs.length < lim then some (h.set n (.dT false (put kvs k w))) else none
    | _ => none
  | _ => none
def setFO (h : Hep) (u : Val) (c f : Str) (w : Val) : Option Hep := match u with
  | .ref n => match h[n]? with
    | some (.ins d fs) => if d = c ∧ fs.length < 1000 then some (h.set n (.ins c (setF f w fs))) else none
    | _ => none
  | _ => none
mutual
def exS : S → Evn → Hep → SRes
  | .expr e, σ, h => (evE F e σ h).sb σ fun _ h1 => .nx σ h1
  | .asg tg e, σ, h => (evE F e σ h).sb σ fun v h1 => let (v', h2) := mat v h1; match asgT h2 tg v' σ with
    | some σ' => .nx σ' h2
    | none => .bad
  | .aug i e, σ, h => match σ[i]? with
    | some (some u) => (evE F e σ h).sb σ fun v h1 => match u, v with
      | .int a, .int b => .nx (σ.set i (some (.int (a + b)))) h1
      | _, _ => .bad
    | _ => .bad
  | .seti o i e, σ, h => (evE F e σ h).sb σ fun w h1 => let (w', h2) := mat w h1; (evE F o σ h2).sb σ fun u h3 => (evE F i σ h3).sb σ fun v h4 => match setI h4 u v w' with
    | some h5 => .nx σ h5
    | none => .bad
  | .setf o c f e, σ, h => (evE F e σ h).sb σ fun w h1 => let (w', h2) := mat w h1; (evE F o σ h2).sb σ fun u h3 => match setFO h3 u c f w' with
    | some h4 => .nx σ h4
    | none => .bad
  | .ret e, σ, h => (evE F e σ h).sb σ fun v h1 => let (v', h2) := mat v h1; .rt v' h2
  | .retN, _, h => .rt .non h
  | .pass, σ, h => .nx σ h
  | .never, _, _ => .bad
  | .wipe _, σ, h => .nx σ h
  | .ifs t a b, σ, h => (evT F t σ h).sb σ fun k h1 => if k = true then exSs a σ h1 else exSs b σ h1
  | .whl t b, σ, h => whGo (evT F t) (exSs b) 100000 σ h
  | .for_ tg it b, σ, h => (evI F it σ h).sb σ fun (w, d) h1 =>
      let r := forGo w (fun x σ h => match asgT h tg x σ with
        | some σ' => exSs b σ' h
        | none => .bad) (itLen h1 w + 1) 0 σ h1
      match d with
        | some n => unlkS n r
        | none => r
  | .raise c, σ, h => .ex ⟨c, []⟩ σ h
  | .tryE b _ sub _ i j, σ, h => match exSs b σ h with
    | .ex x σ' h' => if x.cls ∈ sub ∧ x.fs = [] ∧ i ≠ j ∧ i < σ'.length ∧ j < σ'.length then .nx ((σ'.set j (some (.ref h'.length))).set i none) (h' ++ [.exc x.cls []]) else .bad
    | r => r
def exSs : Ss → Evn → Hep → SRes
  | .nil, σ, h => .nx σ h
  | .cons s ss, σ, h => (exS s σ h).sq fun σ' h' => exSs ss σ' h'
end
end
def callF (T : List (Str × Def)) : Nat → Orc
  | 0, _, _, _ => .bad
  | n + 1, f, vs, h => match T.lookup f with
    | some d => if vs.length = d.ps.length then match exSs (callF T n) d.body (vs.map some ++ List.replicate (d.ns.length - vs.length) none) h with
      | .nx _ h' => .ok .non h'
      | .rt v h' => .ok v h'
      | .ex x _ h' => .ex x h'
      | .bad => .bad
      else .bad
    | none => .bad
end Fs
set_option Elab.async false
set_option linter.all false
set_option maxRecDepth 100000
set_option maxHeartbeats 4000000
set_option autoImplicit false
set_option relaxedAutoImplicit false
namespace Fs
open PySem PySem.Spec PyProof.Rows L2
/-- an exception object that was caught, kept as a value -/
def EXC (cls : Value) (d : Option Addr) (a : Addr) : HO := .ext fun h => ∃ (oe : Obj) (vs : Array Value), h.get? a = some oe ∧ Zc cls d oe ∧ oe.data = .fields vs
/-! ### what a value of ours is in the model -/
mutual
def RV (ρ : List Addr) (H : Hp) : Val → V → Prop
  | .non, v => v = .non
  | .bl b, v => v = .bl b
  | .int i, v => v = .int i
  | .str s, v => v = .str s
  | .tup xs, v => ∃ a vs, v = .ref a ∧ H a = some (.tup vs) ∧ RVs ρ H xs vs
  | .ref n, v => ∃ a, v = .ref a ∧ ρ[n]? = some a
  | .tl _, _ => False
def RVs (ρ : List Addr) (H : Hp) : List Val → List V → Prop
  | [], vs => vs = []
  | x :: xs, vs => ∃ v r, vs = v :: r ∧ RV ρ H x v ∧ RVs ρ H xs r
end
/-- a result: a list of one's own is pinned -/
def RR (ρ : List Addr) (P P0 H : Hp) : Val → V → Prop
  | .tl xs, v => ∃ a vs, v = .ref a ∧ P a = some (.lst vs) ∧ P0 a = none ∧ RVs ρ H xs vs
  | u, v => RV ρ H u v
def RRs (ρ : List Addr) (P P0 H : Hp) : List Val → List V → Prop
  | [], vs => vs = []
  | x :: xs, vs => ∃ v r, vs = v :: r ∧ RR ρ P P0 H x v ∧ RRs ρ P P0 H xs r
def RO1 (ρ : List Addr) (H : Hp) : Option Val → Option V → Prop
  | some u, some v => RV ρ H u v
  | none, none => True
  | _, _ => False
abbrev RK {κ : Type} (ρ : List Addr) (H : Hp) : List (κ × Val) → List (κ × V) → Prop := Paired fun p q => p.1 = q.1 ∧ RV ρ H p.2 q.2
section
variable (K : PySem.W.Frag) (ca : Str → Addr)
def RO (ρ : List Addr) (H : Hp) : Ob → Addr → Prop
  | .lst xs, a => ∃ vs, H a = some (.lst vs) ∧ RVs ρ H xs vs
  | .ro xs, a => ∃ vs, ((∃ o, H a = some (.frz o (.lst vs))) ∨ (∀ H', SqL K H' a vs)) ∧ RVs ρ H xs vs
  | .dK false kvs, a => ∃ ks, H a = some (.dK ks) ∧ RK ρ H kvs ks
  | .dK true kvs, a => ∃ o ks, H a = some (.frz o (.dK ks)) ∧ RK ρ H kvs ks
  | .dT false kvs, a => ∃ ks, H a = some (.dT ks) ∧ RK ρ H kvs ks
  | .dT true kvs, a => ∃ o ks, H a = some (.frz o (.dT ks)) ∧ RK ρ H kvs ks
  | .ins c fs, a => ∃ dx ks, H a = some (.ins (ca c) dx ks) ∧ RK ρ H fs ks
  | .exc c fs, a => fs = [] ∧ H a = some (EXC (.ref (ca c)) none a)
def isRo : Ob → Prop
  | .ro _ => True
  | _ => False
/-- the heaps agree -/
structure Rl (ρ : List Addr) (P : Hp) (h : Hep) (H : Hp) : Prop where
  len : ρ.length = h.length
  nd : ∀ (i j : Nat) a o u, h[i]? = some o → h[j]? = some u → ρ[i]? = some a → ρ[j]? = some a → i = j ∨ isRo o ∨ isRo u
  ob : ∀ (i : Nat) o a, h[i]? = some o → ρ[i]? = some a → RO K ca ρ H o a
  pin : ∀ a o, P a = some o → H a = some o
  apart : ∀ (i : Nat) o a, h[i]? = some o → ρ[i]? = some a → isRo o ∨ P a = none
end
structure Ext (ρ : List Addr) (P H : Hp) (ρ' : List Addr) (P' H' : Hp) : Prop where
  pre : ∃ t, ρ' = ρ ++ t
  pin : ∀ a o, P a = some o → P' a = some o
  tup : ∀ a xs, H a = some (.tup xs) → H' a = some (.tup xs)
  frz : ∀ a o u, H a = some (.frz o u) → H' a = some (.frz o u)
theorem Ext.refl {ρ : List Addr} {P H : Hp} : Ext ρ P H ρ P H := ⟨⟨[], by simp⟩, fun _ _ h => h, fun _ _ h => h, fun _ _ _ h => h⟩
theorem Ext.trans {ρ ρ1 ρ2 : List Addr} {P H P1 H1 P2 H2 : Hp} (a : Ext ρ P H ρ1 P1 H1) (b : Ext ρ1 P1 H1 ρ2 P2 H2) : Ext ρ P H ρ2 P2 H2 := by
  obtain ⟨t, e⟩ := a.pre
  obtain ⟨u, e'⟩ := b.pre
  exact ⟨⟨t ++ u, by rw [e', e, List.append_assoc]⟩, fun _ _ h => b.pin _ _ (a.pin _ _ h), fun _ _ h => b.tup _ _ (a.tup _ _ h), fun _ _ _ h => b.frz _ _ _ (a.frz _ _ _ h)⟩
theorem Ext.at {ρ ρ' : List Addr} {P H P' H' : Hp} (e : Ext ρ P H ρ' P' H') {n : Nat} {a : Addr} (h : ρ[n]? = some a) : ρ'[n]? = some a := by
  obtain ⟨t, rfl⟩ := e.pre
  rw [List.getElem?_append_left (List.getElem?_eq_some_iff.mp h).1]
  exact h
/-- the part that values lean on -/
structure Low (ρ : List Addr) (H : Hp) (ρ' : List Addr) (H' : Hp) : Prop where
  at_ : ∀ (n : Nat) a, ρ[n]? = some a → ρ'[n]? = some a
  tup : ∀ a xs, H a = some (.tup xs) → H' a = some (.tup xs)
theorem Ext.low {ρ ρ' : List Addr} {P H P' H' : Hp} (e : Ext ρ P H ρ' P' H') : Low ρ H ρ' H' := ⟨fun _ _ h => e.at h, e.tup⟩
section
variable {ρ ρ' : List Addr} {P P' P0 H H' : Hp}
mutual
theorem RV.low (e : Low ρ H ρ' H') : ∀ (u : Val) (v : V), RV ρ H u v → RV ρ' H' u v
  | .non, _, h => by unfold RV at h ⊢; exact h
  | .bl _, _, h => by unfold RV at h ⊢; exact h
  | .int _, _, h => by unfold RV at h ⊢; exact h
  | .str _, _, h => by unfold RV at h ⊢; exact h
  | .tup xs, _, h => by
    unfold RV at h ⊢
    obtain ⟨a, vs, rfl, h1, h2⟩ := h
    exact ⟨a, vs, rfl, e.tup _ _ h1, RVs.low e xs vs h2⟩
  | .ref n, _, h => by
    unfold RV at h ⊢
    obtain ⟨a, rfl, h1⟩ := h
    exact ⟨a, rfl, e.at_ _ _ h1⟩
  | .tl _, _, h => by unfold RV at h; exact h.elim
theorem RVs.low (e : Low ρ H ρ' H') : ∀ (us : List Val) (vs : List V), RVs ρ H us vs → RVs ρ' H' us vs
  | [], _, h => by unfold RVs at h ⊢; exact h
  | x :: xs, _, h => by
    unfold RVs at h ⊢
    obtain ⟨v, r, rfl, h1, h2⟩ := h
    exact ⟨v, r, rfl, RV.low e x v h1, RVs.low e xs r h2⟩
end
theorem RR.of {u : Val} {v : V} (h : RV ρ H u v) : RR ρ P P0 H u v := by
  cases u with
  | tl _ => unfold RV at h; exact h.elim
  | _ => exact h
theorem RR.ext {P1 : Hp} {u : Val} {v : V} (e : Ext ρ P H ρ' P' H') (h : RR ρ P P0 H u v) : RR ρ' P' P0 H' u v := by
  cases u with
  | tl xs =>
    obtain ⟨a, vs, rfl, h1, h2, h3⟩ := h
    exact ⟨a, vs, rfl, e.pin _ _ h1, h2, h3.low e.low⟩
  | _ => exact RV.low e.low _ _ h
/-- fresh behind more is fresh behind less -/
theorem RR.less {P1 : Hp} {u : Val} {v : V} (k : ∀ a o, P1 a = some o → P0 a = some o) (h : RR ρ P P0 H u v) : RR ρ P P1 H u v := by
  cases u with
  | tl xs =>
    obtain ⟨a, vs, rfl, h1, h2, h3⟩ := h
    refine ⟨a, vs, rfl, h1, ?_, h3⟩
    cases q : P1 a with
    | none => rfl
    | some o => rw [k a o q] at h2; cases h2
  | _ => exact h
theorem RRs.ext : ∀ {us : List Val} {vs : List V}, Ext ρ P H ρ' P' H' → RRs ρ P P0 H us vs → RRs ρ' P' P0 H' us vs
  | [], _, _, h => h
  | x :: xs, _, e, h => by
    obtain ⟨v, r, rfl, h1, h2⟩ := h
    exact ⟨v, r, rfl, h1.ext (P1 := P) e, RRs.ext e h2⟩
theorem RRs.less {P1 : Hp} : ∀ {us : List Val} {vs : List V}, (∀ a o, P1 a = some o → P0 a = some o) → RRs ρ P P0 H us vs → RRs ρ P P1 H us vs
  | [], _, _, h => h
  | x :: xs, _, k, h => by
    obtain ⟨v, r, rfl, h1, h2⟩ := h
    exact ⟨v, r, rfl, h1.less k, RRs.less k h2⟩
theorem RVs.length : ∀ {us : List Val} {vs : List V}, RVs ρ H us vs → us.length = vs.length
  | [], _, h => by unfold RVs at h; subst h; rfl
  | x :: xs, _, h => by
    unfold RVs at h
    obtain ⟨v, r, rfl, _, h2⟩ := h
    simp [RVs.length h2]
theorem RVs.nil : RVs ρ H [] [] := by unfold RVs; rfl
theorem RVs.cons {x : Val} {v : V} {xs : List Val} {vs : List V} (h : RV ρ H x v) (hs : RVs ρ H xs vs) : RVs ρ H (x :: xs) (v :: vs) := by
  unfold RVs
  exact ⟨v, vs, rfl, h, hs⟩
theorem RVs.get : ∀ {us : List Val} {vs : List V}, RVs ρ H us vs → ∀ (i : Nat), (us[i]? = none ∧ vs[i]? = none) ∨ ∃ u v, us[i]? = some u ∧ vs[i]? = some v ∧ RV ρ H u v
  | [], _, h, i => by unfold RVs at h; subst h; exact .inl ⟨by simp, by simp⟩
  | x :: xs, _, h, i => by
    unfold RVs at h
    obtain ⟨v, r, rfl, h1, h2⟩ := h
    cases i with
    | zero => exact .inr ⟨x, v, rfl, rfl, h1⟩
    | succ i => simpa using RVs.get h2 i
theorem RVs.append : ∀ {us : List Val} {vs : List V} {us' : List Val} {vs' : List V}, RVs ρ H us vs → RVs ρ H us' vs' → RVs ρ H (us ++ us') (vs ++ vs')
  | [], _, _, _, h, h' => by unfold RVs at h; subst h; exact h'
  | x :: xs, _, _, _, h, h' => by
    unfold RVs at h
    obtain ⟨v, r, rfl, h1, h2⟩ := h
    exact RVs.cons h1 (RVs.append h2 h')
theorem RVs.take : ∀ {us : List Val} {vs : List V} (n : Nat), RVs ρ H us vs → RVs ρ H (us.take n) (vs.take n)
  | _, _, 0, _ => by simp [RVs.nil]
  | [], _, n + 1, h => by unfold RVs at h; subst h; exact RVs.nil
  | x :: xs, _, n + 1, h => by
    unfold RVs at h
    obtain ⟨v, r, rfl, h1, h2⟩ := h
    exact RVs.cons h1 (RVs.take n h2)
theorem RVs.drop : ∀ {us : List Val} {vs : List V} (n : Nat), RVs ρ H us vs → RVs ρ H (us.drop n) (vs.drop n)
  | _, _, 0, h => h
  | [], _, n + 1, h => by unfold RVs at h; subst h; exact RVs.nil
  | x :: xs, _, n + 1, h => by
    unfold RVs at h
    obtain ⟨v, r, rfl, h1, h2⟩ := h
    exact RVs.drop n h2
theorem RVs.reverse {us : List Val} {vs : List V} (h : RVs ρ H us vs) : RVs ρ H us.reverse vs.reverse := by
  induction us generalizing vs with
  | nil => unfold RVs at h; subst h; exact RVs.nil
  | cons x xs ih =>
    unfold RVs at h
    obtain ⟨v, r, rfl, h1, h2⟩ := h
    rw [List.reverse_cons, List.reverse_cons]
    exact (ih h2).append (RVs.cons h1 RVs.nil)
theorem RVs.set : ∀ {us : List Val} {vs : List V} (i : Nat) {u : Val} {v : V}, RVs ρ H us vs → RV ρ H u v → RVs ρ H (us.set i u) (vs.set i v)
  | [], _, _, _, _, h, _ => by unfold RVs at h; subst h; exact RVs.nil
  | x :: xs, _, i, _, _, h, hu => by
    unfold RVs at h
    obtain ⟨v, r, rfl, h1, h2⟩ := h
    cases i with
    | zero => exact RVs.cons hu h2
    | succ i => exact RVs.cons h1 (RVs.set i h2 hu)
theorem RVs.eraseIdx : ∀ {us : List Val} {vs : List V} (i : Nat), RVs ρ H us vs → RVs ρ H (us.eraseIdx i) (vs.eraseIdx i)
  | [], _, _, h => by unfold RVs at h; subst h; exact RVs.nil
  | x :: xs, _, i, h => by
    unfold RVs at h
    obtain ⟨v, r, rfl, h1, h2⟩ := h
    cases i with
    | zero => exact h2
    | succ i => exact RVs.cons h1 (RVs.eraseIdx i h2)
theorem RVs.dropLast {us : List Val} {vs : List V} (h : RVs ρ H us vs) : RVs ρ H us.dropLast vs.dropLast := by
  rw [List.dropLast_eq_take, List.dropLast_eq_take, h.length]
  exact h.take _
theorem RK.low {κ : Type} {l : List (κ × Val)} {m : List (κ × V)} (e : Low ρ H ρ' H') (h : RK ρ H l m) : RK ρ' H' l m := Paired.mapP h fun _ _ z => ⟨z.1, z.2.low e⟩
section
variable {K : PySem.W.Frag} {ca : Str → Addr}
theorem RO.low {o : Ob} {a : Addr} (e : Low ρ H ρ' H') (ha : H' a = H a) (h : RO K ca ρ H o a) : RO K ca ρ' H' o a := by
  cases o with
  | lst xs => obtain ⟨vs, h1, h2⟩ := h; exact ⟨vs, ha.trans h1, h2.low e⟩
  | ro xs =>
    obtain ⟨vs, h1, h2⟩ := h
    refine ⟨vs, ?_, h2.low e⟩
    rcases h1 with ⟨o, h1⟩ | h1
    · exact .inl ⟨o, ha.trans h1⟩
    · exact .inr h1
  | dK fz kvs =>
    cases fz with
    | false => obtain ⟨ks, h1, h2⟩ := h; exact ⟨ks, ha.trans h1, RK.low e h2⟩
    | true => obtain ⟨o, ks, h1, h2⟩ := h; exact ⟨o, ks, ha.trans h1, RK.low e h2⟩
  | dT fz kvs =>
    cases fz with
    | false => obtain ⟨ks, h1, h2⟩ := h; exact ⟨ks, ha.trans h1, RK.low e h2⟩
    | true => obtain ⟨o, ks, h1, h2⟩ := h; exact ⟨o, ks, ha.trans h1, RK.low e h2⟩
  | ins c fs => obtain ⟨dx, ks, h1, h2⟩ := h; exact ⟨dx, ks, ha.trans h1, RK.low e h2⟩
  | exc c fs => exact ⟨h.1, ha.trans h.2⟩
theorem RO.ro {xs : List Val} {a : Addr} (e : Low ρ H ρ' H') (fz : ∀ b o u, H b = some (.frz o u) → H' b = some (.frz o u)) (h : RO K ca ρ H (.ro xs) a) : RO K ca ρ' H' (.ro xs) a := by
  obtain ⟨vs, h1, h2⟩ := h
  refine ⟨vs, ?_, h2.low e⟩
  rcases h1 with ⟨o, h1⟩ | h1
  · exact .inl ⟨o, fz _ _ _ h1⟩
  · exact .inr h1
/-- what stands at an object of ours that is no ro -/
theorem RO.some {o : Ob} {a : Addr} (h : RO K ca ρ H o a) (n : ¬ isRo o) : ∃ u, H a = .some u ∧ ∀ xs, u ≠ .tup xs := by
  cases o with
  | lst xs => obtain ⟨vs, h1, h2⟩ := h; exact ⟨_, h1, fun _ z => nomatch z⟩
  | ro xs => exact (n trivial).elim
  | dK fz kvs =>
    cases fz with
    | false => obtain ⟨ks, h1, h2⟩ := h; exact ⟨_, h1, fun _ z => nomatch z⟩
    | true => obtain ⟨o, ks, h1, h2⟩ := h; exact ⟨_, h1, fun _ z => nomatch z⟩
  | dT fz kvs =>
    cases fz with
    | false => obtain ⟨ks, h1, h2⟩ := h; exact ⟨_, h1, fun _ z => nomatch z⟩
    | true => obtain ⟨o, ks, h1, h2⟩ := h; exact ⟨_, h1, fun _ z => nomatch z⟩
  | ins c fs => obtain ⟨dx, ks, h1, h2⟩ := h; exact ⟨_, h1, fun _ z => nomatch z⟩
  | exc c fs => exact ⟨_, h.2, fun _ z => nomatch z⟩
variable {h : Hep}
theorem ext_upd_new {p : Addr} {u : HO} (hp : H p = none) : Ext ρ P H ρ P (upd H p u) :=
  ⟨⟨[], by simp⟩, fun _ _ h => h, fun a xs e => by rw [upd_ne (ne_of_none e hp)]; exact e, fun a o w e => by rw [upd_ne (ne_of_none e hp)]; exact e⟩
/-- the abstract heap grows at a new place -/
theorem Rl.grow {p : Addr} {u : HO} (R : Rl K ca ρ P h H) (hp : H p = none) : Rl K ca ρ P h (upd H p u) := by
  have e : Ext ρ P H ρ P (upd H p u) := ext_upd_new hp
  refine ⟨R.len, R.nd, fun i o a h1 h2 => ?_, fun a o z => ?_, R.apart⟩
  · have r := R.ob i o a h1 h2
    by_cases hr : isRo o
    · cases o <;> first | exact hr.elim | skip
      exact RO.ro e.low e.frz r
    · obtain ⟨w, hw, _⟩ := RO.some r hr
      exact RO.low e.low (upd_ne (ne_of_none hw hp)) r
  · rw [upd_ne (ne_of_none (R.pin a o z) hp)]
    exact R.pin a o z
/-- a list of one's own -/
theorem Rl.tmp {p : Addr} {u : HO} (R : Rl K ca ρ P h H) (hp : H p = none) : Rl K ca ρ (upd P p u) h (upd H p u) := by
  have g := R.grow (u := u) hp
  have pn : P p = none := by
    cases q : P p with
    | none => rfl
    | some o => rw [R.pin p o q] at hp; cases hp
  refine ⟨g.len, g.nd, g.ob, fun a o z => ?_, fun i o a h1 h2 => ?_⟩
  · by_cases e : a = p
    · subst e; rw [upd_same] at z ⊢; exact z
    · rw [upd_ne e] at z; exact g.pin a o z
  · rcases R.apart i o a h1 h2 with z | z
    · exact .inl z
    · by_cases e : a = p
      · subst e
        by_cases hr : isRo o
        · exact .inl hr
        · obtain ⟨w, hw, _⟩ := RO.some (R.ob i o a h1 h2) hr
          rw [hw] at hp; cases hp
      · exact .inr (by rw [upd_ne e]; exact z)
theorem ext_tmp {p : Addr} {u : HO} (R : Rl K ca ρ P h H) (hp : H p = none) : Ext ρ P H ρ (upd P p u) (upd H p u) := by
  have e : Ext ρ P H ρ P (upd H p u) := ext_upd_new hp
  refine ⟨e.pre, fun a o z => ?_, e.tup, e.frz⟩
  rw [upd_ne (ne_of_none (R.pin a o z) hp)]
  exact z
/-- an object of ours is laid at a new place -/
theorem Rl.obj {p : Addr} {u : HO} {o : Ob} (R : Rl K ca ρ P h H) (hp : H p = none) (r : RO K ca (ρ ++ [p]) (upd H p u) o p) (n : ¬ isRo o) : Rl K ca (ρ ++ [p]) P (h ++ [o]) (upd H p u) := by
  have g := R.grow (u := u) hp
  have pn : P p = none := by
    cases q : P p with
    | none => rfl
    | some o => rw [R.pin p o q] at hp; cases hp
  have old : ∀ {i : Nat} {w : Ob}, h[i]? = some w → i < h.length := fun e => (List.getElem?_eq_some_iff.mp e).1
  have lenρ := R.len
  have cas : ∀ {i : Nat} {w : Ob} {a : Addr}, (h ++ [o])[i]? = some w → (ρ ++ [p])[i]? = some a → (h[i]? = some w ∧ ρ[i]? = some a) ∨ (i = h.length ∧ w = o ∧ a = p) := fun {i w a} e1 e2 => by
    by_cases hi : i < h.length
    · rw [List.getElem?_append_left hi] at e1
      rw [List.getElem?_append_left (by omega)] at e2
      exact .inl ⟨e1, e2⟩
    · have l1 : i < (h ++ [o]).length := (List.getElem?_eq_some_iff.mp e1).1
      rw [List.length_append, List.length_singleton] at l1
      have ei : i = h.length := by omega
      subst ei
      rw [List.getElem?_append_right (Nat.le_refl _)] at e1
      rw [List.getElem?_append_right (by omega)] at e2
      rw [lenρ] at e2
      simp at e1 e2
      exact .inr ⟨rfl, e1.symm, e2.symm⟩
  have sep : ∀ {i : Nat} {w : Ob} {a : Addr}, h[i]? = some w → ρ[i]? = some a → a = p → isRo w := fun {i w a} e1 e2 e3 => by
    by_cases hr : isRo w
    · exact hr
    · obtain ⟨z, hz, _⟩ := RO.some (R.ob i w a e1 e2) hr
      rw [e3, hp] at hz; cases hz
  have lw : Low ρ (upd H p u) (ρ ++ [p]) (upd H p u) := ⟨fun n a e => by rw [List.getElem?_append_left (List.getElem?_eq_some_iff.mp e).1]; exact e, fun _ _ z => z⟩
  refine ⟨by simp [R.len], fun i j a o1 o2 h1 h2 e1 e2 => ?_, fun i w a h1 e1 => ?_, g.pin, fun i w a h1 e1 => ?_⟩
  · rcases cas h1 e1 with ⟨h1', e1'⟩ | ⟨rfl, rfl, rfl⟩
    · rcases cas h2 e2 with ⟨h2', e2'⟩ | ⟨rfl, rfl, rfl⟩
      · exact R.nd i j a o1 o2 h1' h2' e1' e2'
      · exact .inr (.inl (sep h1' e1' rfl))
    · rcases cas h2 e2 with ⟨h2', e2'⟩ | ⟨rfl, rfl, _⟩
      · exact .inr (.inr (sep h2' e2' rfl))
      · exact .inl rfl
  · rcases cas h1 e1 with ⟨h1', e1'⟩ | ⟨rfl, rfl, rfl⟩
    · exact RO.low lw rfl (g.ob i w a h1' e1')
    · exact r
  · rcases cas h1 e1 with ⟨h1', e1'⟩ | ⟨rfl, rfl, rfl⟩
    · exact R.apart i w a h1' e1'
    · exact .inr pn
theorem ext_obj {p : Addr} {u : HO} (hp : H p = none) : Ext ρ P H (ρ ++ [p]) P (upd H p u) :=
  ⟨⟨[p], rfl⟩, fun _ _ h => h, fun a xs e => by rw [upd_ne (ne_of_none e hp)]; exact e, fun a o w e => by rw [upd_ne (ne_of_none e hp)]; exact e⟩
def delP (P : Hp) (a : Addr) : Hp := fun b => if b = a then none else P b
theorem delP_ne {a b : Addr} (e : b ≠ a) : delP P a b = P b := by unfold delP; rw [if_neg e]
theorem delP_same {a : Addr} : delP P a a = none := by unfold delP; rw [if_pos rfl]
/-- a list of one's own becomes an object -/
theorem Rl.mat {a : Addr} {vs : List V} {xs : List Val} (R : Rl K ca ρ P h H) (ha : P a = some (.lst vs)) (r : RVs ρ H xs vs) : Rl K ca (ρ ++ [a]) (delP P a) (h ++ [.lst xs]) H := by
  have lenρ := R.len
  have hH := R.pin a _ ha
  have cas : ∀ {i : Nat} {w : Ob} {b : Addr}, (h ++ [Ob.lst xs])[i]? = some w → (ρ ++ [a])[i]? = some b → (h[i]? = some w ∧ ρ[i]? = some b) ∨ (i = h.length ∧ w = .lst xs ∧ b = a) := fun {i w b} e1 e2 => by
    by_cases hi : i < h.length
    · rw [List.getElem?_append_left hi] at e1
      rw [List.getElem?_append_left (by omega)] at e2
      exact .inl ⟨e1, e2⟩
    · have l1 : i < (h ++ [Ob.lst xs]).length := (List.getElem?_eq_some_iff.mp e1).1
      rw [List.length_append, List.length_singleton] at l1
      have ei : i = h.length := by omega
      subst ei
      rw [List.getElem?_append_right (Nat.le_refl _)] at e1
      rw [List.getElem?_append_right (by omega)] at e2
      rw [lenρ] at e2
      simp at e1 e2
      exact .inr ⟨rfl, e1.symm, e2.symm⟩
  have sep : ∀ {i : Nat} {w : Ob} {b : Addr}, h[i]? = some w → ρ[i]? = some b → b = a → isRo w := fun {i w b} e1 e2 e3 => by
    rcases R.apart i w b e1 e2 with z | z
    · exact z
    · rw [e3, ha] at z; cases z
  have lw : Low ρ H (ρ ++ [a]) H := ⟨fun n b e => by rw [List.getElem?_append_left (List.getElem?_eq_some_iff.mp e).1]; exact e, fun _ _ z => z⟩
  refine ⟨by simp [R.len], fun i j b o1 o2 h1 h2 e1 e2 => ?_, fun i w b h1 e1 => ?_, fun b o z => ?_, fun i w b h1 e1 => ?_⟩
  · rcases cas h1 e1 with ⟨h1', e1'⟩ | ⟨rfl, rfl, rfl⟩
    · rcases cas h2 e2 with ⟨h2', e2'⟩ | ⟨rfl, rfl, rfl⟩
      · exact R.nd i j b o1 o2 h1' h2' e1' e2'
      · exact .inr (.inl (sep h1' e1' rfl))
    · rcases cas h2 e2 with ⟨h2', e2'⟩ | ⟨rfl, rfl, _⟩
      · exact .inr (.inr (sep h2' e2' rfl))
      · exact .inl rfl
  · rcases cas h1 e1 with ⟨h1', e1'⟩ | ⟨rfl, rfl, rfl⟩
    · exact RO.low lw rfl (R.ob i w b h1' e1')
    · exact ⟨vs, hH, r.low lw⟩
  · unfold delP at z
    split at z
    · cases z
    · exact R.pin b o z
  · rcases cas h1 e1 with ⟨h1', e1'⟩ | ⟨rfl, rfl, rfl⟩
    · rcases R.apart i w b h1' e1' with z | z
      · exact .inl z
      · refine .inr ?_
        unfold delP
        split
        · rfl
        · exact z
    · exact .inr delP_same
theorem ext_mat {a : Addr} (h0 : P0 a = none) (e : Ext ρ P0 H ρ' P' H') : Ext ρ P0 H (ρ' ++ [a]) (delP P' a) H' := by
  obtain ⟨t, et⟩ := e.pre
  refine ⟨⟨t ++ [a], by rw [et, List.append_assoc]⟩, fun b o z => ?_, e.tup, e.frz⟩
  have : b ≠ a := fun q => by rw [q, h0] at z; cases z
  rw [delP_ne this]
  exact e.pin b o z
/-- an object of ours is written -/
theorem Rl.write {n : Nat} {a : Addr} {o o' : Ob} {u u' : HO} (R : Rl K ca ρ P h H) (hn : h[n]? = some o) (ha : ρ[n]? = some a) (nr : ¬ isRo o) (hu : H a = some u) (ht : ∀ xs, u ≠ .tup xs) (hf : ∀ q w, u ≠ .frz q w)
    (r : RO K ca ρ (upd H a u') o' a) (nr' : ¬ isRo o') : Rl K ca ρ P (h.set n o') (upd H a u') ∧ Ext ρ P H ρ P (upd H a u') := by
  have ex : Ext ρ P H ρ P (upd H a u') := ⟨⟨[], by simp⟩, fun _ _ z => z, fun b xs e => by
      have : b ≠ a := fun q => by rw [q, hu] at e; exact ht xs (Option.some.inj e)
      rw [upd_ne this]; exact e, fun b q w e => by
      have : b ≠ a := fun z => by rw [z, hu] at e; exact hf q w (Option.some.inj e)
      rw [upd_ne this]; exact e⟩
  have nl : n < h.length := (List.getElem?_eq_some_iff.mp hn).1
  have cas : ∀ {i : Nat} {w : Ob}, (h.set n o')[i]? = some w → (i = n ∧ w = o') ∨ (i ≠ n ∧ h[i]? = some w) := fun {i w} e => by
    by_cases hi : i = n
    · subst hi; rw [List.getElem?_set_self nl] at e; exact .inl ⟨rfl, (Option.some.inj e).symm⟩
    · rw [List.getElem?_set_ne (Ne.symm hi)] at e; exact .inr ⟨hi, e⟩
  have pa : P a = none := (R.apart n o a hn ha).resolve_left nr
  refine ⟨⟨by simp [R.len], fun i j b o1 o2 h1 h2 e1 e2 => ?_, fun i w b h1 e1 => ?_, fun b q z => ?_, fun i w b h1 e1 => ?_⟩, ex⟩
  · rcases cas h1 with ⟨rfl, rfl⟩ | ⟨n1, h1'⟩
    · rcases cas h2 with ⟨rfl, rfl⟩ | ⟨n2, h2'⟩
      · exact .inl rfl
      · rcases R.nd i j b o o2 hn h2' e1 e2 with z | z | z
        · exact .inl z
        · exact (nr z).elim
        · exact .inr (.inr z)
    · rcases cas h2 with ⟨rfl, rfl⟩ | ⟨n2, h2'⟩
      · rcases R.nd i j b o1 o h1' hn e1 e2 with z | z | z
        · exact .inl z
        · exact .inr (.inl z)
        · exact (nr z).elim
      · exact R.nd i j b o1 o2 h1' h2' e1 e2
  · rcases cas h1 with ⟨rfl, rfl⟩ | ⟨n1, h1'⟩
    · rw [ha] at e1; cases e1; exact r
    · have r1 := R.ob i w b h1' e1
      by_cases hr : isRo w
      · cases w <;> first | exact hr.elim | skip
        exact RO.ro ex.low ex.frz r1
      · have nb : b ≠ a := fun q => by
          subst q
          rcases R.nd i n b w o h1' hn e1 ha with z | z | z
          · exact n1 z
          · exact hr z
          · exact nr z
        exact RO.low ex.low (upd_ne nb) r1
  · have nb : b ≠ a := fun e => by rw [e, pa] at z; cases z
    rw [upd_ne nb]
    exact R.pin b q z
  · rcases cas h1 with ⟨rfl, rfl⟩ | ⟨n1, h1'⟩
    · rw [ha] at e1; cases e1; exact .inr pa
    · exact R.apart i w b h1' e1
/-- a pinned list grows -/
theorem Rl.repin {a : Addr} {vs : List V} {u : HO} (R : Rl K ca ρ P h H) (ha : P a = some (.lst vs)) : Rl K ca ρ (upd P a u) h (upd H a u) := by
  have hH := R.pin a _ ha
  have lw : Low ρ H ρ (upd H a u) := ⟨fun _ _ e => e, fun b xs e => by
    have : b ≠ a := fun q => by rw [q, hH] at e; cases e
    rw [upd_ne this]; exact e⟩
  refine ⟨R.len, R.nd, fun i o b h1 e1 => ?_, fun b o z => ?_, fun i o b h1 e1 => ?_⟩
  · have r1 := R.ob i o b h1 e1
    by_cases hr : isRo o
    · cases o <;> first | exact hr.elim | skip
      exact RO.ro lw (fun b' q w e => by
        have : b' ≠ a := fun z => by rw [z, hH] at e; cases e
        rw [upd_ne this]; exact e) r1
    · have nb : b ≠ a := fun q => by
        rcases R.apart i o b h1 e1 with z | z
        · exact hr z
        · rw [q, ha] at z; cases z
      exact RO.low lw (upd_ne nb) r1
  · by_cases e : b = a
    · subst e; rw [upd_same] at z ⊢; exact z
    · rw [upd_ne e] at z ⊢; exact R.pin b o z
  · rcases R.apart i o b h1 e1 with z | z
    · exact .inl z
    · by_cases e : b = a
      · rw [e, ha] at z; cases z
      · exact .inr (by rw [upd_ne e]; exact z)
theorem Rl.unpin {a : Addr} (R : Rl K ca ρ P h H) : Rl K ca ρ (delP P a) h H := by
  refine ⟨R.len, R.nd, R.ob, fun b o z => ?_, fun i o b h1 e1 => ?_⟩
  · unfold delP at z
    split at z
    · cases z
    · exact R.pin b o z
  · rcases R.apart i o b h1 e1 with z | z
    · exact .inl z
    · refine .inr ?_
      unfold delP
      split
      · rfl
      · exact z
end
end
/-- the names' values -/
def RE (ρ : List Addr) (H : Hp) (env : Evn) (σ : L2.St) : Prop := env.length = σ.length ∧ ∀ (i : Nat) u, env[i]? = some (some u) → ∃ v, σ[i]? = some (some v) ∧ RV ρ H u v
theorem RE.low {ρ ρ' : List Addr} {H H' : Hp} {env : Evn} {σ : L2.St} (e : Low ρ H ρ' H') (h : RE ρ H env σ) : RE ρ' H' env σ := ⟨h.1, fun i u q => by
  obtain ⟨v, h1, h2⟩ := h.2 i u q
  exact ⟨v, h1, h2.low e⟩⟩
theorem RE.set {ρ : List Addr} {H : Hp} {env : Evn} {σ : L2.St} {i : Nat} {u : Val} {v : V} (h : RE ρ H env σ) (r : RV ρ H u v) : RE ρ H (env.set i (some u)) (σ.set i (some v)) := by
  refine ⟨by simp [h.1], fun j w q => ?_⟩
  by_cases hj : j = i
  · subst hj
    by_cases hl : j < env.length
    · rw [List.getElem?_set_self hl] at q
      have e : u = w := by simpa using q
      subst e
      exact ⟨v, by rw [List.getElem?_set_self (by rw [← h.1]; exact hl)], r⟩
    · rw [List.getElem?_eq_none (by simpa using hl)] at q; cases q
  · rw [List.getElem?_set_ne (Ne.symm hj)] at q ⊢
    exact h.2 j w q
theorem RE.setN {ρ : List Addr} {H : Hp} {env : Evn} {σ : L2.St} {i : Nat} (h : RE ρ H env σ) : RE ρ H (env.set i none) (σ.set i none) := by
  refine ⟨by simp [h.1], fun j w q => ?_⟩
  by_cases hj : j = i
  · subst hj
    by_cases hl : j < env.length
    · rw [List.getElem?_set_self hl] at q; cases q
    · rw [List.getElem?_eq_none (by simpa using hl)] at q; cases q
  · rw [List.getElem?_set_ne (Ne.symm hj)] at q ⊢
    exact h.2 j w q
theorem RE.wipe {ρ : List Addr} {H : Hp} {env : Evn} {σ : L2.St} (h : RE ρ H env σ) : ∀ own : List Nat, RE ρ H (wipeE env own) (wipe σ own)
  | [] => h
  | v :: vs => by
    unfold wipeE L2.wipe
    exact (RE.wipe h vs).setN
end Fs
set_option Elab.async false
set_option linter.all false
set_option maxRecDepth 100000
set_option maxHeartbeats 4000000
set_option autoImplicit false
set_option relaxedAutoImplicit false
namespace Fs
open PySem PySem.Spec PyProof.Rows L2
abbrev SL := L2.St
section
variable (K : PySem.W.Frag) (ca : Str → Addr)
/-- what is wanted behind an operation: its result w, the heap h -/
def Gd (ρ : List Addr) (P : Hp) (h' : Hep) (w : Val) (H : Hp) (Q : VK) : Prop := ∀ z ρ' P' H', Ext ρ P H ρ' P' H' → Rl K ca ρ' P' h' H' → RR ρ' P' P H' w z → Q z H'
def r2 (f : Hep → Val → Val → Option Val) : R2 := fun x y H Q => ∃ ρ P P0 h u v w, Rl K ca ρ P h H ∧ RR ρ P P0 H u x ∧ RR ρ P P0 H v y ∧ f h u v = some w ∧ Gd K ca ρ P h w H Q
def rn (f : Hep → List Val → Option (Val × Hep)) : List V → Hp → VK → Prop := fun xs H Q => ∃ ρ P P0 h us w h', Rl K ca ρ P h H ∧ RRs ρ P P0 H us xs ∧ f h us = some (w, h') ∧ Gd K ca ρ P h' w H Q
def rm (f : Hep → Val → List Val → Option (Val × Hep)) : V → List V → Hp → VK → Prop := fun x xs H Q => ∃ ρ P P0 h u us w h', Rl K ca ρ P h H ∧ RR ρ P P0 H u x ∧ RRs ρ P P0 H us xs ∧ f h u us = some (w, h') ∧ Gd K ca ρ P h' w H Q
end
section
variable {K : PySem.W.Frag} {ca : Str → Addr} {ρ : List Addr} {P P0 H : Hp} {h h' : Hep} {Q : VK}
theorem Gd.now {w : Val} {z : V} (g : Gd K ca ρ P h w H Q) (R : Rl K ca ρ P h H) (r : RV ρ H w z) : Q z H := g z ρ P H Ext.refl R (RR.of r)
theorem Gd.tup {p : Addr} {xs : List Val} {vs : List V} (g : Gd K ca ρ P h (.tup xs) H Q) (R : Rl K ca ρ P h H) (r : RVs ρ H xs vs) (hp : H p = none) : Q (.ref p) (upd H p (.tup vs)) := by
  have e : Ext ρ P H ρ P (upd H p (.tup vs)) := ext_upd_new hp
  refine g _ ρ P _ e (R.grow hp) ?_
  show RV _ _ _ _
  unfold RV
  exact ⟨p, vs, rfl, upd_same, r.low e.low⟩
theorem Gd.tmp {p : Addr} {xs : List Val} {vs : List V} (g : Gd K ca ρ P h (.tl xs) H Q) (R : Rl K ca ρ P h H) (r : RVs ρ H xs vs) (hp : H p = none) : Q (.ref p) (upd H p (.lst vs)) := by
  have e := ext_tmp (u := .lst vs) R hp
  refine g _ ρ _ _ e (R.tmp hp) ⟨p, vs, rfl, upd_same, ?_, r.low e.low⟩
  cases q : P p with
  | none => rfl
  | some o => rw [R.pin p o q] at hp; cases hp
theorem RR.int {i : Int} {x : V} (h : RR ρ P P0 H (.int i) x) : x = .int i := by
  have h1 : RV ρ H (.int i) x := h
  unfold RV at h1; exact h1
theorem RR.bl {i : Bool} {x : V} (h : RR ρ P P0 H (.bl i) x) : x = .bl i := by
  have h1 : RV ρ H (.bl i) x := h
  unfold RV at h1; exact h1
theorem RR.str {i : Str} {x : V} (h : RR ρ P P0 H (.str i) x) : x = .str i := by
  have h1 : RV ρ H (.str i) x := h
  unfold RV at h1; exact h1
theorem RR.non {x : V} (h : RR ρ P P0 H .non x) : x = .non := by
  have h1 : RV ρ H .non x := h
  unfold RV at h1; exact h1
theorem RR.tup {xs : List Val} {x : V} (h : RR ρ P P0 H (.tup xs) x) : ∃ a vs, x = .ref a ∧ H a = some (.tup vs) ∧ RVs ρ H xs vs := by
  have h1 : RV ρ H (.tup xs) x := h
  unfold RV at h1; exact h1
theorem RR.ref {n : Nat} {x : V} (h : RR ρ P P0 H (.ref n) x) : ∃ a, x = .ref a ∧ ρ[n]? = some a := by
  have h1 : RV ρ H (.ref n) x := h
  unfold RV at h1; exact h1
theorem RV.mk_int {i : Int} : RV ρ H (.int i) (.int i) := by unfold RV; rfl
theorem RV.mk_bl {i : Bool} : RV ρ H (.bl i) (.bl i) := by unfold RV; rfl
theorem RV.mk_str {i : Str} : RV ρ H (.str i) (.str i) := by unfold RV; rfl
theorem RV.mk_non : RV ρ H .non .non := by unfold RV; rfl
/-- a list's items -/
theorem lst_at {u : Val} {x : V} {xs : List Val} (R : Rl K ca ρ P h H) (r : RR ρ P P0 H u x) (e : lstOf h u = some xs) : ∃ a vs, x = .ref a ∧ H a = some (.lst vs) ∧ RVs ρ H xs vs := by
  cases u with
  | tl ys =>
    obtain ⟨a, vs, rfl, h1, h2, h3⟩ := r
    cases e
    exact ⟨a, vs, rfl, R.pin _ _ h1, h3⟩
  | ref n =>
    obtain ⟨a, rfl, h1⟩ := r.ref
    simp only [lstOf] at e
    split at e
    · rename_i ys hn
      cases e
      obtain ⟨vs, h2, h3⟩ := R.ob n _ a hn h1
      exact ⟨a, vs, rfl, h2, h3⟩
    · cases e
  | _ => cases e
theorem seq_at {u : Val} {x : V} {xs : List Val} (R : Rl K ca ρ P h H) (r : RR ρ P P0 H u x) (e : seqOf h u = some xs) : ∃ a vs, x = .ref a ∧ (H a = some (.lst vs) ∨ H a = some (.tup vs)) ∧ RVs ρ H xs vs := by
  cases u with
  | tup ys =>
    obtain ⟨a, vs, rfl, h1, h2⟩ := r.tup
    cases e
    exact ⟨a, vs, rfl, .inr h1, h2⟩
  | _ =>
    obtain ⟨a, vs, h1, h2, h3⟩ := lst_at R r e
    exact ⟨a, vs, h1, .inl h2, h3⟩
theorem sqT {a : Addr} {vs : List V} (e : H a = some (.tup vs)) : SqT K H a vs := .inl (.inl e)
theorem sqL {a : Addr} {vs : List V} (e : H a = some (.lst vs)) : SqL K H a vs := .inl (.inl e)
end
theorem lim_eq : lim = sizeLine := by rw [sizeLine_eq]; rfl
/-! ### operators -/
section
variable {X : Cx} {ca : Str → Addr}
theorem mono2 {f : Value → Value → Sem Value} {r r' : R2} (h : OpR X f r) (i : ∀ x y H Q, r' x y H Q → r x y H Q) : OpR X f r' := fun pins s σ H x y v u Q I rx ry q => h pins s σ H x y v u Q I rx ry (i _ _ _ _ q)
theorem nonempty_of {ρ : List Addr} {H : Hp} {xs : List Val} {vs : List V} (h : RVs ρ H xs vs) : xs = [] ↔ vs = [] := by
  cases xs with
  | nil => unfold RVs at h; exact Iff.intro (fun _ => h) (fun _ => rfl)
  | cons x xs =>
    unfold RVs at h
    obtain ⟨v, r, rfl, _⟩ := h
    exact Iff.intro (fun z => nomatch z) (fun z => nomatch z)
theorem o_add : OpR X (binaryOp .Add) (r2 X.K ca fun h u v => addO h u v) := by
  intro pins s σ H x y v u Q I rx ry ⟨ρ, P, P0, h, a, b, w, R, ra, rb, e, g⟩
  simp only [addO] at e
  split at e
  · cases e
    have e1 := ra.int; have e2 := rb.int; subst e1 e2
    exact op_add pins s σ H _ _ v u Q I rx ry ⟨_, _, rfl, rfl, g.now R RV.mk_int⟩
  · have e1 := ra.str; have e2 := rb.str; subst e1 e2
    split at e
    · rename_i hz
      cases e
      exact op_add_str pins s σ H _ _ v u Q I rx ry ⟨_, _, rfl, rfl, by rw [← lim_eq]; exact hz, g.now R RV.mk_str⟩
    · cases e
  · rename_i xs ys
    obtain ⟨p, vs, rfl, hp, hr⟩ := ra.tup
    obtain ⟨q, ws, rfl, hq, hs⟩ := rb.tup
    split at e
    · rename_i hz
      cases e
      refine op_catA pins s σ H _ _ v u Q I rx ry ⟨p, q, vs, ws, rfl, rfl, sqT hp, sqT hq, by rw [← lim_eq, ← hr.length, ← hs.length]; exact hz, fun z => ?_, fun z z' => ?_, fun _ _ t ht => ?_⟩
      · have zx := (nonempty_of hr).mpr z
        subst zx
        refine g.now R ?_
        unfold RV
        exact ⟨q, ws, rfl, hq, hs⟩
      · have zy := (nonempty_of hs).mpr z'
        subst zy
        refine g.now R ?_
        rw [List.append_nil]
        unfold RV
        exact ⟨p, vs, rfl, hp, hr⟩
      · exact g.tup R (hr.append hs) ht
    · cases e
  · split at e
    · rename_i xs ys ex ey
      split at e
      · rename_i hz
        cases e
        obtain ⟨p, vs, rfl, hp, hr⟩ := lst_at R ra ex
        obtain ⟨q, ws, rfl, hq, hs⟩ := lst_at R rb ey
        exact op_cat pins s σ H _ _ v u Q I rx ry ⟨p, q, vs, ws, rfl, rfl, hp, hq, by rw [← lim_eq, ← hr.length, ← hs.length]; exact hz, fun t ht => g.tmp R (hr.append hs) ht⟩
      · cases e
    · cases e
theorem o_sub : OpR X (binaryOp .Sub) (r2 X.K ca fun h u v => subO u v) := by
  intro pins s σ H x y v u Q I rx ry ⟨ρ, P, P0, h, a, b, w, R, ra, rb, e, g⟩
  simp only [subO] at e
  split at e
  · cases e
    have e1 := ra.int; have e2 := rb.int; subst e1 e2
    exact op_sub pins s σ H _ _ v u Q I rx ry ⟨_, _, rfl, rfl, g.now R RV.mk_int⟩
  · cases e
theorem o_fdiv : OpR X (binaryOp .FloorDiv) (r2 X.K ca fun h u v => fdivO u v) := by
  intro pins s σ H x y v u Q I rx ry ⟨ρ, P, P0, h, a, b, w, R, ra, rb, e, g⟩
  simp only [fdivO] at e
  split at e
  · split at e
    · rename_i hz
      cases e
      have e1 := ra.int; have e2 := rb.int; subst e1 e2
      exact op_fdivW pins s σ H _ _ v u Q I rx ry ⟨_, _, rfl, rfl, hz, g.now R RV.mk_int⟩
    · cases e
  · cases e
theorem o_mod : OpR X (binaryOp .Mod) (r2 X.K ca fun h u v => modO u v) := by
  intro pins s σ H x y v u Q I rx ry ⟨ρ, P, P0, h, a, b, w, R, ra, rb, e, g⟩
  simp only [modO] at e
  split at e
  · split at e
    · rename_i hz
      cases e
      have e1 := ra.int; have e2 := rb.int; subst e1 e2
      exact op_mod pins s σ H _ _ v u Q I rx ry ⟨_, _, rfl, rfl, hz, g.now R RV.mk_int⟩
    · cases e
  · cases e
theorem o_pow : OpR X (binaryOp .Pow) (r2 X.K ca fun h u v => powO u v) := by
  intro pins s σ H x y v u Q I rx ry ⟨ρ, P, P0, h, a, b, w, R, ra, rb, e, g⟩
  simp only [powO] at e
  split at e
  · split at e
    · rename_i hz
      cases e
      have e1 := ra.int; have e2 := rb.int; subst e1 e2
      exact op_pow pins s σ H _ _ v u Q I rx ry ⟨_, _, rfl, rfl, hz, g.now R RV.mk_int⟩
    · cases e
  · cases e
theorem RVs.rep {ρ : List Addr} {H : Hp} {xs : List Val} {vs : List V} (h : RVs ρ H xs vs) : ∀ k : Nat, RVs ρ H (List.replicate k xs).flatten (List.replicate k vs).flatten
  | 0 => by simp [RVs.nil]
  | k + 1 => by
    rw [List.replicate_succ, List.replicate_succ, List.flatten_cons, List.flatten_cons]
    exact h.append (RVs.rep h k)
theorem mulZ : OpR X (binaryOp .Mult) (rI (fun i j => i.natAbs.log2 + j.natAbs.log2 < 4000000) fun i j => .int (i * j)) := opI fun i j _ _ _ _ _ small q => mul_int q (by
  have bits : ∀ z : Int, Builtin.Int.intBits z ≤ z.natAbs.log2 + 1 := fun z => by
    unfold Builtin.Int.intBits
    split <;> omega
  have bi := bits i
  have bj := bits j
  have line : bitsLine = 134217728 := by decide
  unfold IntMulOk
  intro big
  rw [Bool.and_eq_true] at big
  have big2 := big.2
  unfold Builtin.Int.intTooBig at big2
  have big3 := of_decide_eq_true big2
  rw [line] at big3
  omega)
theorem o_mul : OpR X (binaryOp .Mult) (r2 X.K ca fun h u v => mulO h u v) := by
  intro pins s σ H x y v u Q I rx ry ⟨ρ, P, P0, h, a, b, w, R, ra, rb, e, g⟩
  simp only [mulO] at e
  split at e
  · split at e
    · rename_i hz
      cases e
      have e1 := ra.int; have e2 := rb.int; subst e1 e2
      exact mulZ pins s σ H _ _ v u Q I rx ry ⟨_, _, rfl, rfl, hz, g.now R RV.mk_int⟩
    · cases e
  · split at e
    · rename_i xs ex
      split at e
      · rename_i hz
        cases e
        obtain ⟨p, vs, rfl, hp, hr⟩ := lst_at R ra ex
        have e2 := rb.int; subst e2
        exact op_rep pins s σ H _ _ v u Q I rx ry ⟨p, _, vs, rfl, rfl, hp, by omega, by omega, by rw [← lim_eq, ← hr.length]; exact hz.2.2, fun t ht => g.tmp R (hr.rep _) ht⟩
      · cases e
    · cases e
  · cases e
end
end Fs
set_option Elab.async false
set_option linter.all false
set_option maxRecDepth 100000
set_option maxHeartbeats 4000000
set_option autoImplicit false
set_option relaxedAutoImplicit false
namespace Fs
open PySem PySem.Spec PyProof.Rows L2
theorem mapM_nil {α β : Type} {f : α → Option β} {l : List β} (e : ([] : List α).mapM f = some l) : l = [] := by
  simp at e
  exact e
theorem mapM_cons {α β : Type} {f : α → Option β} {x : α} {xs : List α} {l : List β} (e : (x :: xs).mapM f = some l) : ∃ y ys, f x = some y ∧ xs.mapM f = some ys ∧ l = y :: ys := by
  rw [List.mapM_cons] at e
  cases h1 : f x with
  | none => rw [h1] at e; simp at e
  | some y =>
    rw [h1] at e
    cases h2 : xs.mapM f with
    | none => rw [h2] at e; simp at e
    | some ys =>
      rw [h2] at e
      simp at e
      exact ⟨y, ys, rfl, rfl, e.symm⟩
theorem map_some {α β : Type} {f : α → β} {o : Option α} {b : β} (e : o.map f = some b) : ∃ a, o = some a ∧ b = f a := by
  cases o with
  | none => cases e
  | some a => cases e; exact ⟨a, rfl, rfl⟩
section
variable {X : Cx} {ca : Str → Addr} {pins : List (Addr × Obj)} {σ : SL} {H P P0 : Hp} {s : Shared} {ρ : List Addr} {h : Hep}
theorem readsAll_of (f : Val → Option PyData) (ih : ∀ (u : Val) (x : V) (v : Value) (d : PyData), RV ρ H u x → RelV x v → f u = some d → ∃ as, Reads s.heap v d as) :
    ∀ (us : List Val) (xs : List V) (vs : List Value) (ds : List PyData), RVs ρ H us xs → Vals xs vs → us.mapM f = some ds → ∃ as, ReadsAll s.heap vs ds as
  | [], xs, vs, ds, r, rv, e => by
    unfold RVs at r
    subst r
    cases rv
    have := mapM_nil e
    subst this
    exact ⟨_, .nil⟩
  | u :: us, xs, vs, ds, r, rv, e => by
    unfold RVs at r
    obtain ⟨x, xs', rfl, h1, h2⟩ := r
    cases rv with
    | cons q qs =>
      obtain ⟨d, ds', e1, e2, rfl⟩ := mapM_cons e
      obtain ⟨as, r1⟩ := ih u x _ d h1 q e1
      obtain ⟨bs, r2⟩ := readsAll_of f ih us xs' _ ds' h2 qs e2
      exact ⟨_, .cons r1 r2⟩
theorem Inv.tupO (I : L2.Inv X pins σ H s) {a : Addr} {vs : List V} (e : H a = some (.tup vs)) : ∃ its : List Value, Vals vs its ∧ IsTup s.heap a its.toArray ∧ vs.length ≤ sizeLine := by
  obtain ⟨z, its, r, ht⟩ := I.hok a _ e
  exact ⟨its, r, ht, z⟩
theorem reads_of (I : L2.Inv X pins σ H s) (R : Rl X.K ca ρ P h H) : ∀ (k : Nat) (u : Val) (x : V) (v : Value) (d : PyData), RR ρ P P0 H u x → RelV x v → rei h k u = some d → ∃ as, Reads s.heap v d as
  | 0, u, x, v, d, _, _, e => by cases u <;> cases e
  | k + 1, u, x, v, d, r, rv, e => by
    cases u with
    | non => cases e; have e1 := r.non; subst e1; cases rv; exact ⟨_, .none⟩
    | bl b => cases e; have e1 := r.bl; subst e1; cases rv; exact ⟨_, .bool b⟩
    | int i => cases e; have e1 := r.int; subst e1; obtain ⟨t, rfl⟩ := rv; exact ⟨_, .int i t⟩
    | str b => cases e; have e1 := r.str; subst e1; obtain ⟨t, rfl⟩ := rv; exact ⟨_, .str b t⟩
    | tup us =>
      obtain ⟨a, vs, rfl, h1, h2⟩ := r.tup
      cases rv
      obtain ⟨ds, e1, rfl⟩ := map_some (show (us.mapM (rei h k)).map PyData.tuple = some d from e)
      obtain ⟨its, r1, ⟨o, ho, hc, n, hd⟩, _⟩ := Inv.tupO I h1
      obtain ⟨as, ra⟩ := readsAll_of (rei h k) (fun u x v d r1 r2 r3 => reads_of I R k u x v d (RR.of r1) r2 r3) us vs its ds h2 r1 e1
      exact ⟨_, .tuple ho hc hd (by simpa using ra)⟩
    | ref n =>
      obtain ⟨a, rfl, h1⟩ := r.ref
      cases rv
      simp only [rei] at e
      split at e
      · rename_i us hn
        obtain ⟨vs, h2, h3⟩ := R.ob n _ a hn h1
        obtain ⟨ds, e1, rfl⟩ := map_some e
        obtain ⟨z, its, n', r1, ho⟩ := I.hok a _ h2
        obtain ⟨as, ra⟩ := readsAll_of (rei h k) (fun u x v d r1 r2 r3 => reads_of I R k u x v d (RR.of r1) r2 r3) us vs its ds h3 r1 e1
        exact ⟨_, .list ho rfl rfl (by simpa using ra)⟩
      · cases e
    | tl us =>
      obtain ⟨a, vs, rfl, h1, _, h3⟩ := r
      cases rv
      obtain ⟨ds, e1, rfl⟩ := map_some (show (us.mapM (rei h k)).map PyData.list = some d from e)
      obtain ⟨z, its, n', r1, ho⟩ := I.hok a _ (R.pin _ _ h1)
      obtain ⟨as, ra⟩ := readsAll_of (rei h k) (fun u x v d r1 r2 r3 => reads_of I R k u x v d (RR.of r1) r2 r3) us vs its ds h3 r1 e1
      exact ⟨_, .list ho rfl rfl (by simpa using ra)⟩
theorem plainAll_of {f : Val → Option PyData} (ih : ∀ u d, f u = some d → d.plain = true) : ∀ (us : List Val) (ds : List PyData), us.mapM f = some ds → PyData.plainAll ds = true
  | [], ds, e => by rw [mapM_nil e]; rfl
  | u :: us, ds, e => by
    obtain ⟨d, ds', e1, e2, rfl⟩ := mapM_cons e
    rw [PyData.plainAll, ih u d e1, plainAll_of ih us ds' e2]
    rfl
theorem rei_plain : ∀ (k : Nat) (u : Val) (d : PyData), rei h k u = some d → d.plain = true
  | 0, u, d, e => by cases u <;> cases e
  | k + 1, u, d, e => by
    cases u with
    | non => cases e; rfl
    | bl b => cases e; rfl
    | int i => cases e; rfl
    | str b => cases e; rfl
    | tup us =>
      obtain ⟨ds, e1, rfl⟩ := map_some (show (us.mapM (rei h k)).map PyData.tuple = some d from e)
      rw [PyData.plain]
      exact plainAll_of (rei_plain k) us ds e1
    | tl us =>
      obtain ⟨ds, e1, rfl⟩ := map_some (show (us.mapM (rei h k)).map PyData.list = some d from e)
      rw [PyData.plain]
      exact plainAll_of (rei_plain k) us ds e1
    | ref n =>
      simp only [rei] at e
      split at e
      · obtain ⟨ds, e1, rfl⟩ := map_some e
        rw [PyData.plain]
        exact plainAll_of (rei_plain k) _ ds e1
      · cases e
theorem depthAll_of {f : Val → Option PyData} {k : Nat} (ih : ∀ u d, f u = some d → d.depth ≤ k) : ∀ (us : List Val) (ds : List PyData), us.mapM f = some ds → PyData.depthAll ds ≤ k
  | [], ds, e => by rw [mapM_nil e]; exact Nat.zero_le _
  | u :: us, ds, e => by
    obtain ⟨d, ds', e1, e2, rfl⟩ := mapM_cons e
    rw [PyData.depthAll]
    exact Nat.max_le.mpr ⟨ih u d e1, depthAll_of ih us ds' e2⟩
theorem rei_depth : ∀ (k : Nat) (u : Val) (d : PyData), rei h k u = some d → d.depth ≤ k
  | 0, u, d, e => by cases u <;> cases e
  | k + 1, u, d, e => by
    cases u with
    | non => cases e; rw [PyData.depth] <;> first | omega | simp
    | bl b => cases e; rw [PyData.depth]; omega
    | int i => cases e; rw [PyData.depth]; omega
    | str b => cases e; rw [PyData.depth]; omega
    | tup us =>
      obtain ⟨ds, e1, rfl⟩ := map_some (show (us.mapM (rei h k)).map PyData.tuple = some d from e)
      rw [PyData.depth]
      have := depthAll_of (rei_depth k) us ds e1
      omega
    | tl us =>
      obtain ⟨ds, e1, rfl⟩ := map_some (show (us.mapM (rei h k)).map PyData.list = some d from e)
      rw [PyData.depth]
      have := depthAll_of (rei_depth k) us ds e1
      omega
    | ref n =>
      simp only [rei] at e
      split at e
      · obtain ⟨ds, e1, rfl⟩ := map_some e
        rw [PyData.depth]
        have := depthAll_of (rei_depth k) _ ds e1
        omega
      · cases e
end
section
variable {X : Cx} {ca : Str → Addr}
theorem dv_int {i j : Int} : decide (V.int i = V.int j) = decide (i = j) := by simp
theorem dv_str {i j : Str} : decide (V.str i = V.str j) = decide (i = j) := by simp
theorem dv_bl {i j : Bool} : decide (V.bl i = V.bl j) = decide (i = j) := by simp
def b2 (f : Hep → Val → Val → Option Bool) : Hep → Val → Val → Option Val := fun h u v => (f h u v).map .bl
theorem o_eq (hu : X.A.units + 64 < cLine) : OpR X (compareOp .Eq) (r2 X.K ca (b2 eqO)) := by
  intro pins s σ H x y v u Q I rx ry ⟨ρ, P, P0, h, a, b, w, R, ra, rb, e, g⟩
  replace e := map_some e
  obtain ⟨k, e, rfl⟩ := e
  simp only [eqO] at e
  have fin : Q (.bl k) H := g.now R RV.mk_bl
  have gen : ∀ (a' b' : Val) (d d' : PyData), RR ρ P P0 H a' x → RR ρ P P0 H b' y → rei h 12 a' = some d → rei h 12 b' = some d' → PyData.eqv d d' = k → wpAny (model X.prog X.w) X.A (compareOp .Eq v u) (EP X pins σ Q) X.xe s := fun a' b' d d' r1 r2 e1 e2 ek => by
    obtain ⟨as, q1⟩ := reads_of I R 12 a' x v d r1 rx e1
    obtain ⟨bs, q2⟩ := reads_of I R 12 b' y u d' r2 ry e2
    refine SeqAt.eq_plain q1 q2 (rei_plain _ _ _ e1) (rei_plain _ _ _ e2) ?_ ⟨.bl k, H, I, by rw [ek]; rfl, fin⟩
    have := rei_depth _ _ _ e1
    omega
  split at e
  · cases e
    have e1 := ra.int; have e2 := rb.int; subst e1 e2
    exact op_eq pins s σ H _ _ v u Q I rx ry ⟨rfl, by rw [dv_int]; exact fin⟩
  · cases e
    have e1 := ra.str; have e2 := rb.str; subst e1 e2
    exact op_eq pins s σ H _ _ v u Q I rx ry ⟨rfl, by rw [dv_str]; exact fin⟩
  · cases e
    have e1 := ra.bl; have e2 := rb.bl; subst e1 e2
    exact op_eq pins s σ H _ _ v u Q I rx ry ⟨rfl, by rw [dv_bl]; exact fin⟩
  · split at e
    · rename_i d d' e1 e2
      cases e
      exact gen _ _ d d' ra rb e1 e2 rfl
    · cases e
theorem o_ne (hu : X.A.units + 64 < cLine) : OpR X (compareOp .NotEq) (r2 X.K ca (b2 fun h u v => (eqO h u v).map (!·))) := by
  intro pins s σ H x y v u Q I rx ry ⟨ρ, P, P0, h, a, b, w, R, ra, rb, e, g⟩
  replace e := map_some e
  obtain ⟨k', e, rfl⟩ := e
  replace e := map_some e
  obtain ⟨k, e, rfl⟩ := e
  simp only [eqO] at e
  have fin : Q (.bl (!k)) H := g.now R RV.mk_bl
  have gen : ∀ (a' b' : Val) (d d' : PyData), RR ρ P P0 H a' x → RR ρ P P0 H b' y → rei h 12 a' = some d → rei h 12 b' = some d' → PyData.eqv d d' = k → wpAny (model X.prog X.w) X.A (compareOp .NotEq v u) (EP X pins σ Q) X.xe s := fun a' b' d d' r1 r2 e1 e2 ek => by
    obtain ⟨as, q1⟩ := reads_of I R 12 a' x v d r1 rx e1
    obtain ⟨bs, q2⟩ := reads_of I R 12 b' y u d' r2 ry e2
    refine SeqAt.ne_plain q1 q2 (rei_plain _ _ _ e1) (rei_plain _ _ _ e2) ?_ ⟨.bl (!k), H, I, by rw [ek]; rfl, fin⟩
    have := rei_depth _ _ _ e1
    omega
  split at e
  · cases e
    have e1 := ra.int; have e2 := rb.int; subst e1 e2
    exact op_ne pins s σ H _ _ v u Q I rx ry ⟨rfl, by rw [dv_int]; exact fin⟩
  · cases e
    have e1 := ra.str; have e2 := rb.str; subst e1 e2
    exact op_ne pins s σ H _ _ v u Q I rx ry ⟨rfl, by rw [dv_str]; exact fin⟩
  · cases e
    have e1 := ra.bl; have e2 := rb.bl; subst e1 e2
    exact op_ne pins s σ H _ _ v u Q I rx ry ⟨rfl, by rw [dv_bl]; exact fin⟩
  · split at e
    · rename_i d d' e1 e2
      cases e
      exact gen _ _ d d' ra rb e1 e2 rfl
    · cases e
theorem o_lt (hu : X.A.units + 64 < cLine) : OpR X (compareOp .Lt) (r2 X.K ca (b2 ltO)) := by
  intro pins s σ H x y v u Q I rx ry ⟨ρ, P, P0, h, a, b, w, R, ra, rb, e, g⟩
  replace e := map_some e
  obtain ⟨k, e, rfl⟩ := e
  have fin : Q (.bl k) H := g.now R RV.mk_bl
  simp only [ltO] at e
  split at e
  · cases e
    have e1 := ra.int; have e2 := rb.int; subst e1 e2
    exact op_lt pins s σ H _ _ v u Q I rx ry ⟨_, _, rfl, rfl, fin⟩
  · split at e
    · rename_i d d' e1 e2
      split at e
      · rename_i ha
        cases e
        obtain ⟨as, q1⟩ := reads_of I R 12 _ x v d ra rx e1
        obtain ⟨bs, q2⟩ := reads_of I R 12 _ y u d' rb ry e2
        refine W.lt_data q1 q2 ha ?_ ?_ ⟨.bl _, H, I, rfl, fin⟩
        · obtain ⟨ds, _, rfl⟩ := map_some (show Option.map PyData.tuple _ = some d from e1)
          exact fun z => nomatch z
        · have := rei_depth _ _ _ e1
          omega
      · cases e
    · cases e
  · cases e
theorem o_gt : OpR X (compareOp .Gt) (r2 X.K ca (b2 fun _ => gtO)) := by
  intro pins s σ H x y v u Q I rx ry ⟨ρ, P, P0, h, a, b, w, R, ra, rb, e, g⟩
  replace e := map_some e
  obtain ⟨k, e, rfl⟩ := e
  have fin : Q (.bl k) H := g.now R RV.mk_bl
  simp only [gtO] at e
  split at e
  · cases e
    have e1 := ra.int; have e2 := rb.int; subst e1 e2
    exact op_gt pins s σ H _ _ v u Q I rx ry ⟨_, _, rfl, rfl, fin⟩
  · cases e
theorem o_le : OpR X (compareOp .LtE) (r2 X.K ca (b2 fun _ => leO)) := by
  intro pins s σ H x y v u Q I rx ry ⟨ρ, P, P0, h, a, b, w, R, ra, rb, e, g⟩
  replace e := map_some e
  obtain ⟨k, e, rfl⟩ := e
  have fin : Q (.bl k) H := g.now R RV.mk_bl
  simp only [leO] at e
  split at e
  · cases e
    have e1 := ra.int; have e2 := rb.int; subst e1 e2
    exact op_le pins s σ H _ _ v u Q I rx ry ⟨_, _, rfl, rfl, fin⟩
  · cases e
theorem o_ge : OpR X (compareOp .GtE) (r2 X.K ca (b2 fun _ => geO)) := by
  intro pins s σ H x y v u Q I rx ry ⟨ρ, P, P0, h, a, b, w, R, ra, rb, e, g⟩
  replace e := map_some e
  obtain ⟨k, e, rfl⟩ := e
  have fin : Q (.bl k) H := g.now R RV.mk_bl
  simp only [geO] at e
  split at e
  · cases e
    have e1 := ra.int; have e2 := rb.int; subst e1 e2
    exact op_ge pins s σ H _ _ v u Q I rx ry ⟨_, _, rfl, rfl, fin⟩
  · cases e
theorem non_iff {ρ : List Addr} {P P0 H : Hp} {u : Val} {x : V} (r : RR ρ P P0 H u x) : decide (x = .non) = isNon u := by
  cases u with
  | non => rw [r.non]; rfl
  | bl b => rw [r.bl]; rfl
  | int b => rw [r.int]; rfl
  | str b => rw [r.str]; rfl
  | tup b => obtain ⟨a, vs, rfl, _⟩ := r.tup; rfl
  | ref b => obtain ⟨a, rfl, _⟩ := r.ref; rfl
  | tl b => obtain ⟨a, vs, rfl, _⟩ := r; rfl
theorem o_is : OpR X (compareOp .Is) (r2 X.K ca (b2 fun _ => isO)) := by
  intro pins s σ H x y v u Q I rx ry ⟨ρ, P, P0, h, a, b, w, R, ra, rb, e, g⟩
  replace e := map_some e
  obtain ⟨k, e, rfl⟩ := e
  have fin : Q (.bl k) H := g.now R RV.mk_bl
  simp only [isO] at e
  split at e
  · cases e
    have e1 := ra.bl; have e2 := rb.bl; subst e1 e2
    exact op_isBl pins s σ H _ _ v u Q I rx ry ⟨_, _, rfl, rfl, fin⟩
  · cases e
    have e2 := rb.non; subst e2
    exact op_isN pins s σ H _ _ v u Q I rx ry ⟨rfl, by rw [non_iff ra]; exact fin⟩
  · cases e
theorem o_isn : OpR X (compareOp .IsNot) (r2 X.K ca (b2 fun _ u v => (isO u v).map (!·))) := by
  intro pins s σ H x y v u Q I rx ry ⟨ρ, P, P0, h, a, b, w, R, ra, rb, e, g⟩
  replace e := map_some e
  obtain ⟨k', e, rfl⟩ := e
  replace e := map_some e
  obtain ⟨k, e, rfl⟩ := e
  have fin : Q (.bl (!k)) H := g.now R RV.mk_bl
  simp only [isO] at e
  split at e
  · cases e
    have e1 := ra.bl; have e2 := rb.bl; subst e1 e2
    exact op_notBl pins s σ H _ _ v u Q I rx ry ⟨_, _, rfl, rfl, fin⟩
  · cases e
    have e2 := rb.non; subst e2
    exact op_notN pins s σ H _ _ v u Q I rx ry ⟨rfl, by rw [non_iff ra]; exact fin⟩
  · cases e
end
end Fs
set_option Elab.async false
set_option linter.all false
set_option maxRecDepth 100000
set_option maxHeartbeats 4000000
set_option autoImplicit false
set_option relaxedAutoImplicit false
namespace Fs
open PySem PySem.Spec PyProof.Rows L2
/-! ### dicts -/
section
variable {ρ : List Addr} {P P0 H : Hp} {κ : Type} [DecidableEq κ]
theorem look_rel {kvs : List (κ × Val)} {ks : List (κ × V)} (r : RK ρ H kvs ks) (k : κ) : RO1 ρ H (look kvs k) (valV ks k) := by
  induction r with
  | nil => trivial
  | @cons p q l m hp hr ih =>
    unfold look valV at ih ⊢
    by_cases e : p.1 = k
    · rw [List.find?_cons_of_pos (by simp [e]), List.find?_cons_of_pos (by simp [← hp.1, e])]
      exact hp.2
    · rw [List.find?_cons_of_neg (by simp [e]), List.find?_cons_of_neg (by simp [← hp.1, e])]
      exact ih
theorem RO1.isSome {o : Option Val} {p : Option V} (r : RO1 ρ H o p) : o.isSome = p.isSome := by
  cases o <;> cases p <;> first | rfl | exact r.elim
theorem RO1.some {o : Option Val} {p : Option V} {u : Val} (r : RO1 ρ H o p) (e : o = .some u) : ∃ v, p = .some v ∧ RV ρ H u v := by
  subst e
  cases p with
  | none => exact r.elim
  | some v => exact ⟨v, rfl, r⟩
theorem RO1.none {o : Option Val} {p : Option V} (r : RO1 ρ H o p) (e : o = .none) : p = .none := by
  subst e
  cases p with
  | none => rfl
  | some v => exact r.elim
theorem any_rel {kvs : List (κ × Val)} {ks : List (κ × V)} (r : RK ρ H kvs ks) (k : κ) : (kvs.any fun kv => decide (kv.1 = k)) = (ks.any fun kv => decide (kv.1 = k)) := by
  induction r with
  | nil => rfl
  | @cons p q l m hp hr ih => rw [List.any_cons, List.any_cons, ih, hp.1]
theorem put_rel {kvs : List (κ × Val)} {ks : List (κ × V)} (r : RK ρ H kvs ks) (k : κ) {u : Val} {v : V} (ru : RV ρ H u v) : RK ρ H (put kvs k u) (putK ks k v) := by
  unfold put putK
  have m1 : RK ρ H (kvs.map fun kv => if kv.1 = k then (kv.1, u) else kv) (ks.map fun kv => if kv.1 = k then (kv.1, v) else kv) := by
    induction r with
    | nil => exact .nil
    | @cons p q l m hp hr ih =>
      rw [List.map_cons, List.map_cons]
      refine .cons ?_ ih
      by_cases e : p.1 = k
      · rw [if_pos e, if_pos (by rw [← hp.1]; exact e)]
        exact ⟨hp.1, ru⟩
      · rw [if_neg e, if_neg (by rw [← hp.1]; exact e)]
        exact hp
  have m2 : RK ρ H (kvs ++ [(k, u)]) (ks ++ [(k, v)]) := by
    clear m1
    induction r with
    | nil => exact .cons ⟨rfl, ru⟩ .nil
    | cons hp hr ih => exact .cons hp ih
  rw [any_rel r k]
  split
  · exact m1
  · exact m2
theorem drp_rel {kvs : List (κ × Val)} {ks : List (κ × V)} (r : RK ρ H kvs ks) (k : κ) : RK ρ H (drp kvs k) (dropK ks k) := by
  unfold drp dropK
  induction r with
  | nil => exact .nil
  | @cons p q l m hp hr ih =>
    by_cases e : p.1 = k
    · rw [List.filter_cons_of_neg (by simp [e]), List.filter_cons_of_neg (by simp [← hp.1, e])]
      exact ih
    · rw [List.filter_cons_of_pos (by simp [e]), List.filter_cons_of_pos (by simp [← hp.1, e])]
      exact .cons hp ih
end
section
variable {ρ : List Addr} {P P0 H : Hp}
theorem RK.len {κ : Type} {kvs : List (κ × Val)} {ks : List (κ × V)} (r : RK ρ H kvs ks) : kvs.length = ks.length := Paired.length r
theorem keyOf_rel {u : Val} {x : V} {k : Key} (r : RR ρ P P0 H u x) (e : keyOf u = some k) : x = kV k := by
  cases u <;> first | cases e | skip
  · exact r.int
  · exact r.str
theorem keyOf_rv {u : Val} {x : V} {k : Key} (r : RV ρ H u x) (e : keyOf u = some k) : x = kV k := keyOf_rel (P := H) (P0 := H) (RR.of r) e
theorem keys_rel : ∀ {us : List Val} {vs : List V} {ks : List Key}, RVs ρ H us vs → us.mapM keyOf = some ks → vs = ks.map kV
  | [], _, _, r, e => by
    unfold RVs at r
    rw [mapM_nil e, r]
    rfl
  | u :: us, _, _, r, e => by
    unfold RVs at r
    obtain ⟨v, vs, rfl, h1, h2⟩ := r
    obtain ⟨k, ks, e1, e2, rfl⟩ := mapM_cons e
    rw [keyOf_rv h1 e1, keys_rel h2 e2]
    rfl
theorem keysOf_rel {u : Val} {x : V} {ks : List Key} (r : RR ρ P P0 H u x) (e : keysOf u = some ks) : ∃ b, x = .ref b ∧ H b = some (.tup (ks.map kV)) := by
  cases u <;> first | cases e | skip
  obtain ⟨a, vs, rfl, h1, h2⟩ := r.tup
  exact ⟨a, rfl, by rw [h1, keys_rel h2 e]⟩
variable {K : PySem.W.Frag} {ca : Str → Addr} {h : Hep}
theorem dK_at {n : Nat} {a : Addr} {fz : Bool} {kvs : List (Key × Val)} (R : Rl K ca ρ P h H) (hn : h[n]? = some (.dK fz kvs)) (ha : ρ[n]? = some a) : ∃ ks, Rd H a (.dK ks) ∧ RK ρ H kvs ks ∧ (fz = false → H a = some (.dK ks)) := by
  have r := R.ob n _ a hn ha
  cases fz with
  | false => obtain ⟨ks, h1, h2⟩ := r; exact ⟨ks, .inl h1, h2, fun _ => h1⟩
  | true => obtain ⟨o, ks, h1, h2⟩ := r; exact ⟨ks, .inr ⟨o, h1⟩, h2, fun z => nomatch z⟩
theorem dT_at {n : Nat} {a : Addr} {fz : Bool} {kvs : List (List Key × Val)} (R : Rl K ca ρ P h H) (hn : h[n]? = some (.dT fz kvs)) (ha : ρ[n]? = some a) : ∃ ks, Rd H a (.dT ks) ∧ RK ρ H kvs ks ∧ (fz = false → H a = some (.dT ks)) := by
  have r := R.ob n _ a hn ha
  cases fz with
  | false => obtain ⟨ks, h1, h2⟩ := r; exact ⟨ks, .inl h1, h2, fun _ => h1⟩
  | true => obtain ⟨o, ks, h1, h2⟩ := r; exact ⟨ks, .inr ⟨o, h1⟩, h2, fun z => nomatch z⟩
theorem ro_at {n : Nat} {a : Addr} {xs : List Val} (R : Rl K ca ρ P h H) (hn : h[n]? = some (.ro xs)) (ha : ρ[n]? = some a) : ∃ vs, SqL K H a vs ∧ RVs ρ H xs vs := by
  obtain ⟨vs, h1, h2⟩ := R.ob n _ a hn ha
  rcases h1 with ⟨o, h1⟩ | h1
  · exact ⟨vs, .inl (.inr ⟨o, h1⟩), h2⟩
  · exact ⟨vs, h1 H, h2⟩
end
section
variable {X : Cx} {ca : Str → Addr}
theorem isSome_eq {κ : Type} [DecidableEq κ] {ρ : List Addr} {H : Hp} {kvs : List (κ × Val)} {ks : List (κ × V)} (r : RK ρ H kvs ks) (k : κ) : (look kvs k).isSome = (valV ks k).isSome := (look_rel r k).isSome
/-- membership, by what it is: neg: not in -/
def inQ (neg : Bool) (h : Hep) (u v : Val) : Option Bool := (inO h u v).map fun b => if neg = true then !b else b
theorem o_inG (neg : Bool) (hu : X.A.units + 64 < cLine) : OpR X (compareOp (if neg = true then .NotIn else .In)) (r2 X.K ca (b2 (inQ neg))) := by
  intro pins s σ H x y v u Q I rx ry ⟨ρ, P, P0, h, a, b, w, R, ra, rb, e, g⟩
  replace e := map_some e
  obtain ⟨k', e, rfl⟩ := e
  replace e := map_some e
  obtain ⟨k, e, rfl⟩ := e
  have fin : Q (.bl (if neg = true then !k else k)) H := g.now R RV.mk_bl
  have hu1 : X.A.units + 1 < cLine := by omega
  have dic : ∀ (d : Addr) (o : Option V), y = .ref d → DGet H d x o → o.isSome = k → wpAny (model X.prog X.w) X.A (compareOp (if neg = true then .NotIn else .In) v u) (EP X pins σ Q) X.xe s := fun d o ey dg ek => by
    subst ey
    cases ry
    cases neg with
    | false => exact d_in hu1 I dg rx fun s' I' => ⟨.bl k, H, I', by rw [ek]; rfl, fin⟩
    | true => exact d_notIn hu1 I dg rx fun s' I' => ⟨.bl (!k), H, I', by rw [ek]; rfl, fin⟩
  have sq : ∀ (d : PyData) (ds : List PyData) (as bs : List Addr) (f : List PyData → PyData), (f = .list ∨ f = .tuple) → Reads s.heap u (f ds) as → Reads s.heap v d bs → PyData.plainAll ds = true → d.plain = true → d.depth ≤ 12 →
      (ds.any fun e => PyData.eqv e d) = k → wpAny (model X.prog X.w) X.A (compareOp (if neg = true then .NotIn else .In) v u) (EP X pins σ Q) X.xe s := fun d ds as bs f hf r1 r2 p1 p2 dd ek => by
    have hz : X.A.units + 1 + min (PyData.depthAll ds) d.depth < cLine := by omega
    rcases hf with rfl | rfl
    · cases neg with
      | false => exact SeqAt.in_list_data r1 r2 p1 p2 hz ⟨.bl k, H, I, by rw [ek]; rfl, fin⟩
      | true => exact SeqAt.notIn_list_data r1 r2 p1 p2 hz ⟨.bl (!k), H, I, by rw [ek]; rfl, fin⟩
    · cases neg with
      | false => exact SeqAt.in_tuple_data r1 r2 p1 p2 hz ⟨.bl k, H, I, by rw [ek]; rfl, fin⟩
      | true => exact SeqAt.notIn_tuple_data r1 r2 p1 p2 hz ⟨.bl (!k), H, I, by rw [ek]; rfl, fin⟩
  simp only [inO] at e
  split at e
  · split at e
    · cases e
      have e1 := ra.str; have e2 := rb.str; subst e1 e2
      cases neg with
      | false => exact op_in_str pins s σ H _ _ v u Q I rx ry ⟨_, _, rfl, rfl, fin⟩
      | true => exact op_notin_str pins s σ H _ _ v u Q I rx ry ⟨_, _, rfl, rfl, fin⟩
    · cases e
  · rename_i n
    obtain ⟨t, rfl, ht⟩ := rb.ref
    split at e
    · rename_i fz kvs hn
      obtain ⟨kk, e1, rfl⟩ := map_some e
      obtain ⟨ks, h1, h2, _⟩ := dK_at R hn ht
      have ex := keyOf_rel ra e1
      exact dic t _ rfl (.inl ⟨ks, kk, h1, ex, rfl⟩) (isSome_eq h2 kk).symm
    · rename_i fz kvs hn
      obtain ⟨kk, e1, rfl⟩ := map_some e
      obtain ⟨ks, h1, h2, _⟩ := dT_at R hn ht
      obtain ⟨c, ex, hc⟩ := keysOf_rel ra e1
      exact dic t _ rfl (.inr ⟨ks, kk, c, h1, ex, hc, rfl⟩) (isSome_eq h2 kk).symm
    · rename_i xs hn
      split at e
      · rename_i d ds e1 e2
        cases e
        obtain ⟨bs, q1⟩ := reads_of I R 12 a x v d ra rx e1
        obtain ⟨as, q2⟩ := reads_of I R 12 (.ref n) _ u (.list ds) rb ry (by simp only [rei]; rw [hn]; simp only; rw [e2]; rfl)
        exact sq d ds as bs .list (.inl rfl) q2 q1 (plainAll_of (rei_plain 11) _ _ e2) (rei_plain _ _ _ e1) (rei_depth _ _ _ e1) rfl
      · cases e
    · cases e
  · split at e
    · rename_i xs d ds e1 e2
      cases e
      obtain ⟨bs, q1⟩ := reads_of I R 12 a x v d ra rx e1
      obtain ⟨as, q2⟩ := reads_of I R 12 (.tl _) _ u (.list ds) rb ry (by simp only [rei]; rw [e2]; rfl)
      exact sq d ds as bs .list (.inl rfl) q2 q1 (plainAll_of (rei_plain 11) _ _ e2) (rei_plain _ _ _ e1) (rei_depth _ _ _ e1) rfl
    · cases e
  · split at e
    · rename_i xs d ds e1 e2
      cases e
      obtain ⟨bs, q1⟩ := reads_of I R 12 a x v d ra rx e1
      obtain ⟨as, q2⟩ := reads_of I R 12 (.tup _) _ u (.tuple ds) rb ry (by simp only [rei]; rw [e2]; rfl)
      exact sq d ds as bs .tuple (.inr rfl) q2 q1 (plainAll_of (rei_plain 11) _ _ e2) (rei_plain _ _ _ e1) (rei_depth _ _ _ e1) rfl
    · cases e
  · cases e
theorem o_in (hu : X.A.units + 64 < cLine) : OpR X (compareOp .In) (r2 X.K ca (b2 inO)) := by
  have := o_inG (X := X) (ca := ca) false hu
  refine mono2 this fun x y H Q ⟨ρ, P, P0, h, a, b, w, R, ra, rb, e, g⟩ => ⟨ρ, P, P0, h, a, b, w, R, ra, rb, ?_, g⟩
  rw [← e]
  show Option.map Val.bl (inQ _ h a b) = Option.map Val.bl _
  unfold inQ
  cases inO h a b <;> rfl
theorem o_nin (hu : X.A.units + 64 < cLine) : OpR X (compareOp .NotIn) (r2 X.K ca (b2 fun h u v => (inO h u v).map (!·))) := by
  have := o_inG (X := X) (ca := ca) true hu
  refine mono2 this fun x y H Q ⟨ρ, P, P0, h, a, b, w, R, ra, rb, e, g⟩ => ⟨ρ, P, P0, h, a, b, w, R, ra, rb, ?_, g⟩
  rw [← e]
  show Option.map Val.bl (inQ true h a b) = Option.map Val.bl ((inO h a b).map (!·))
  unfold inQ
  cases inO h a b <;> rfl
/-! ### truth -/
def rT (K : PySem.W.Frag) (ca : Str → Addr) : V → Hp → (Bool → Hp → Prop) → Prop := fun x H Q => ∃ ρ P P0 h u k, Rl K ca ρ P h H ∧ RR ρ P P0 H u x ∧ tru h u = some k ∧ Q k H
theorem RVs.isEmpty {ρ : List Addr} {H : Hp} {xs : List Val} {vs : List V} (r : RVs ρ H xs vs) : xs.isEmpty = vs.isEmpty := by
  cases xs with
  | nil => unfold RVs at r; subst r; rfl
  | cons x xs =>
    unfold RVs at r
    obtain ⟨v, r', rfl, _⟩ := r
    rfl
theorem tru_imp {x : V} {H : Hp} {Q : Bool → Hp → Prop} (q : rT X.K ca x H Q) : ∃ k, TruV X.K x H k ∧ Q k H := by
  obtain ⟨ρ, P, P0, h, u, k, R, r, e, q⟩ := q
  refine ⟨k, ?_, q⟩
  cases u with
  | non => rw [r.non]; cases e; rfl
  | bl b => rw [r.bl]; cases e; rfl
  | int i => rw [r.int]; cases e; rfl
  | str z =>
    rw [r.str]
    simp only [tru] at e
    split at e
    · rename_i hz
      cases e
      refine ⟨by rw [← lim_eq]; exact hz, ?_⟩
      by_cases q : z.length = 0
      · simp [q]
      · have : ((z.length : Int) != 0) = true := by simpa using q
        simp [q, this]
    · cases e
  | tup xs =>
    obtain ⟨a, vs, rfl, h1, h2⟩ := r.tup
    cases e
    exact .inr (.inl ⟨vs, sqT h1, by rw [h2.isEmpty]⟩)
  | tl xs =>
    obtain ⟨a, vs, rfl, h1, _, h2⟩ := r
    cases e
    exact .inl ⟨vs, sqL (R.pin _ _ h1), by rw [h2.isEmpty]⟩
  | ref n =>
    obtain ⟨a, rfl, ha⟩ := r.ref
    simp only [tru] at e
    split at e
    · rename_i xs hn
      cases e
      obtain ⟨vs, h1, h2⟩ := R.ob n _ a hn ha
      exact .inl ⟨vs, sqL h1, by rw [h2.isEmpty]⟩
    · rename_i kvs hn
      cases e
      obtain ⟨ks, h1, h2, h3⟩ := dK_at R hn ha
      refine .inr (.inr ⟨ks, h3 rfl, ?_⟩)
      cases h2 <;> rfl
    · cases e
theorem tru_sound : TruR X (rT X.K ca) := fun pins s σ H x v Q I rx q => tru_ok pins s σ H x v Q I rx (tru_imp q)
/-! ### places -/
theorem atI_rel {ρ : List Addr} {H : Hp} {xs : List Val} {vs : List V} {i : Int} {u : Val} (r : RVs ρ H xs vs) (e : atI xs i = some u) : ∃ v, atI vs i = some v ∧ RV ρ H u v := by
  unfold atI at e ⊢
  rw [← r.length]
  cases q : ixN xs.length i with
  | none => rw [q] at e; cases e
  | some j =>
    rw [q] at e
    have e' : xs[j]? = some u := e
    rcases r.get j with ⟨h1, _⟩ | ⟨u', v, h1, h2, h3⟩
    · rw [h1] at e'; cases e'
    · rw [h1] at e'; cases e'; exact ⟨v, h2, h3⟩
def rIxD : R2 := fun x y H Q => ∃ a v, x = .ref a ∧ DGet H a y (some v) ∧ Q v H
theorem ix_dict (hu : X.A.units + 1 < cLine) : IxR X rIxD := by
  intro value slice pins s σ H x y v u Q I rx ry q hs
  obtain ⟨a, w, rfl, g, q⟩ := q
  cases rx
  have hT := dict_typeIs I g
  unfold subscriptTail
  refine wpAny_bind ?_
  rw [getitemInPython_of_ne hT.not_modules]
  refine wpAny_bind (wpAny_specialOf hT PySem.F.slot_dict_getitem.lookup ?_)
  have fin : wpAny (model X.prog X.w) X.A (subscripted slice false (.ref a) u) (fun r s₃ => wpAny (model X.prog X.w) X.A (letTemporaryGo value (.ref a) r >>= fun _ => pure r) (EP X pins σ Q) X.xe s₃) X.xe s := by
    rw [hs]
    exact wpAny_operating (wpAny_mono (d_getItem hu I g ry fun w' s3 I3 rw' => show EP X pins σ Q w' s3 from ⟨w, H, I3, rw', q⟩) (fun r s₃ h₃ => wpAny_bind (wpAny_letTemporaryGo (wpAny_pure h₃))) fun _ _ x => x)
  first
    | exact wpAny_pure (wpAny_bind fin)
    | exact wpAny_bind (wpAny_pure (wpAny_bind fin))
    | exact wpAny_bind fin
theorem RO1.getD {ρ : List Addr} {H : Hp} {o : Option Val} {p : Option V} {u : Val} {v : V} (r : RO1 ρ H o p) (r2 : RV ρ H u v) : RV ρ H (o.getD u) (p.getD v) := by
  cases o <;> cases p <;> first | exact r2 | exact r | exact r.elim
theorem o_ix (hu : X.A.units + 1 < cLine) : IxR X (r2 X.K ca ixO) := by
  intro value slice pins s σ H x y v u Q I rx ry ⟨ρ, P, P0, h, a, b, w, R, ra, rb, e, g⟩ hs
  simp only [ixO] at e
  split at e
  · split at e
    · split at e
      · rename_i hz
        obtain ⟨c, e1, rfl⟩ := map_some e
        have e2 := ra.str; have e3 := rb.int; subst e2 e3
        exact ix_str value slice pins s σ H _ _ v u Q I rx ry ⟨_, _, c, rfl, rfl, by rw [← lim_eq]; exact hz, e1, g.now R RV.mk_str⟩ hs
      · cases e
    · cases e
  · split at e
    · obtain ⟨p, vs, rfl, h1, h2⟩ := ra.tup
      have e3 := rb.int; subst e3
      obtain ⟨z, e4, r4⟩ := atI_rel h2 e
      exact ix_tup value slice pins s σ H _ _ v u Q I rx ry ⟨p, vs, _, z, rfl, rfl, sqT h1, e4, g.now R r4⟩ hs
    · cases e
  · split at e
    · obtain ⟨p, vs, rfl, h1, _, h2⟩ := ra
      have e3 := rb.int; subst e3
      obtain ⟨z, e4, r4⟩ := atI_rel h2 e
      exact ix_list value slice pins s σ H _ _ v u Q I rx ry ⟨p, vs, _, z, rfl, rfl, sqL (R.pin _ _ h1), e4, g.now R r4⟩ hs
    · cases e
  · obtain ⟨p, rfl, hp⟩ := ra.ref
    split at e
    · rename_i xs hn
      split at e
      · obtain ⟨vs, h1, h2⟩ := R.ob _ _ p hn hp
        have e3 := rb.int; subst e3
        obtain ⟨z, e4, r4⟩ := atI_rel h2 e
        exact ix_list value slice pins s σ H _ _ v u Q I rx ry ⟨p, vs, _, z, rfl, rfl, sqL h1, e4, g.now R r4⟩ hs
      · cases e
    · rename_i xs hn
      split at e
      · obtain ⟨vs, h1, h2⟩ := ro_at R hn hp
        have e3 := rb.int; subst e3
        obtain ⟨z, e4, r4⟩ := atI_rel h2 e
        exact ix_list value slice pins s σ H _ _ v u Q I rx ry ⟨p, vs, _, z, rfl, rfl, h1, e4, g.now R r4⟩ hs
      · cases e
    · rename_i fz kvs hn
      cases ek : keyOf b with
      | none => rw [ek] at e; cases e
      | some k =>
        rw [ek] at e
        obtain ⟨ks, h1, h2, _⟩ := dK_at R hn hp
        obtain ⟨z, e4, r4⟩ := (look_rel h2 k).some e
        exact ix_dict hu value slice pins s σ H _ _ v u Q I rx ry ⟨p, z, rfl, .inl ⟨ks, k, h1, keyOf_rel rb ek, e4.symm⟩, g.now R r4⟩ hs
    · rename_i fz kvs hn
      cases ek : keysOf b with
      | none => rw [ek] at e; cases e
      | some k =>
        rw [ek] at e
        obtain ⟨ks, h1, h2, _⟩ := dT_at R hn hp
        obtain ⟨z, e4, r4⟩ := (look_rel h2 k).some e
        obtain ⟨c, ec, hc⟩ := keysOf_rel rb ek
        exact ix_dict hu value slice pins s σ H _ _ v u Q I rx ry ⟨p, z, rfl, .inr ⟨ks, k, c, h1, ec, hc, e4.symm⟩, g.now R r4⟩ hs
    · cases e
  · cases e
/-! ### slices -/
theorem cut_rel {ρ : List Addr} {H : Hp} {xs : List Val} {vs : List V} (r : RVs ρ H xs vs) (lo hi : Option Int) : RVs ρ H (cut xs lo hi) (cutV vs lo hi) := by
  unfold cut cutV
  rw [r.length]
  exact (r.drop _).take _
theorem cut_whole {xs : List Val} {lo hi : Option Int} (a : HT.sIx xs.length 0 lo = 0) (b : HT.sIx xs.length xs.length hi = xs.length) : cut xs lo hi = xs := by
  unfold cut
  rw [a, b, List.drop_zero, Nat.sub_zero, List.take_length]
def rS (K : PySem.W.Frag) (ca : Str → Addr) : V → Option Int → Option Int → Hp → VK → Prop := fun x lo hi H Q => ∃ ρ P P0 h u w, Rl K ca ρ P h H ∧ RR ρ P P0 H u x ∧ slO h u lo hi = some w ∧ Gd K ca ρ P h w H Q
theorem o_sl : SlR X (rS X.K ca) := by
  intro pins s σ H x v vl vu lo hi sl Q I rx hs pl pu ⟨ρ, P, P0, h, a, w, R, ra, e, g⟩
  simp only [slO] at e
  split at e
  · split at e
    · rename_i hz
      cases e
      have e2 := ra.str; subst e2
      exact sl_str pins s σ H _ v vl vu lo hi sl Q I rx hs pl pu ⟨_, rfl, by rw [← lim_eq]; exact hz, g.now R RV.mk_str⟩
    · cases e
  · rename_i xs
    cases e
    obtain ⟨p, vs, rfl, h1, h2⟩ := ra.tup
    refine sl_tupA pins s σ H _ v vl vu lo hi sl Q I rx hs pl pu ⟨p, vs, rfl, sqT h1, fun z => ?_, fun z q hq => g.tup R (cut_rel h2 lo hi) hq⟩
    refine g.now R ?_
    rw [cut_whole (by rw [h2.length]; exact z.1) (by rw [h2.length]; exact z.2)]
    unfold RV
    exact ⟨p, vs, rfl, h1, h2⟩
  · split at e
    · rename_i xs ex
      cases e
      obtain ⟨p, vs, rfl, h1, h2⟩ := lst_at R ra ex
      exact sl_list pins s σ H _ v vl vu lo hi sl Q I rx hs pl pu ⟨p, vs, rfl, sqL h1, fun q hq => g.tmp R (cut_rel h2 lo hi) hq⟩
    · cases e
end
end Fs
set_option Elab.async false
set_option linter.all false
set_option maxRecDepth 100000
set_option maxHeartbeats 4000000
set_option autoImplicit false
set_option relaxedAutoImplicit false
namespace Fs
open PySem PySem.Spec PyProof.Rows L2
/-! ### isinstance of a built-in type -/
def tnS : Tn → String
  | .none => "NoneType" | .bool => "bool" | .int => "int" | .str => "str" | .tuple => "tuple" | .list => "list" | .dict => "dict"
def tyS : Ty → String
  | .int => "int" | .bool => "bool" | .str => "str" | .list => "list" | .tuple => "tuple" | .cls _ => ""
theorem kit_tab : ∀ (a : Tn) (t : Ty) (b : Bool), isTn a t = some b → kitB (tnS a) (tyS t) = some b := by
  intro a t b h
  cases t <;> cases a <;> cases h <;> decide +kernel
section
variable {X : Cx} {ca : Str → Addr}
theorem tyN_of {ρ : List Addr} {P P0 H : Hp} {h : Hep} {u : Val} {x : V} {a : Tn} (R : Rl X.K ca ρ P h H) (r : RR ρ P P0 H u x) (e : tyN h u = some a) : TyX X.K H x (.type (tnS a)) := by
  cases u with
  | non => cases e; rw [r.non]; exact .base .non
  | bl b => cases e; rw [r.bl]; exact .base (.bl _)
  | int b => cases e; rw [r.int]; exact .base (.int _)
  | str b => cases e; rw [r.str]; exact .base (.str _)
  | tup b => cases e; obtain ⟨p, vs, rfl, h1, _⟩ := r.tup; exact .base (.tup h1)
  | tl b => cases e; obtain ⟨p, vs, rfl, h1, _⟩ := r; exact .base (.lst (R.pin _ _ h1))
  | ref n =>
    obtain ⟨p, rfl, hp⟩ := r.ref
    simp only [tyN] at e
    split at e
    · rename_i xs hn
      cases e
      obtain ⟨vs, h1, _⟩ := R.ob _ _ p hn hp
      exact .base (.lst h1)
    · rename_i fz kvs hn
      cases e
      cases fz with
      | false => obtain ⟨ks, h1, _⟩ := R.ob _ _ p hn hp; exact .base (.dK h1)
      | true => obtain ⟨o, ks, h1, _⟩ := R.ob _ _ p hn hp; exact .fDict h1
    · rename_i kvs hn
      cases e
      obtain ⟨ks, h1, _⟩ := R.ob _ _ p hn hp
      exact .base (.dT h1)
    · cases e
def rIs (K : PySem.W.Frag) (ca : Str → Addr) (t : Ty) : List V → Hp → VK → Prop := fun xs H Q => ∃ x ρ P P0 h u b, xs = [x, .ty (tyS t)] ∧ Rl K ca ρ P h H ∧ RR ρ P P0 H u x ∧ isi h u t = some b ∧ Gd K ca ρ P h (.bl b) H Q
theorem o_isi (t : Ty) : CallR X (.builtin "isinstance") (rIs X.K ca t) := by
  intro pins s σ H xs us Q I r ⟨x, ρ, P, P0, h, u, b, e, R, ra, ei, g⟩
  subst e
  unfold isi at ei
  cases ea : tyN h u with
  | none => rw [ea] at ei; cases ei
  | some a =>
    rw [ea] at ei
    exact call_isi pins s σ H _ us Q I r ⟨x, _, _, _, b, rfl, .ty _, tyN_of R ra ea, kit_ty (kit_tab a t b ei), g.now R RV.mk_bl⟩
/-! ### built-ins -/
theorem un_some {f : Hep → Val → Option Val} {h h' : Hep} {us : List Val} {w : Val} (e : un f h us = some (w, h')) : ∃ u, us = [u] ∧ f h u = some w ∧ h' = h := by
  unfold un at e
  split at e
  · obtain ⟨a, e1, e2⟩ := map_some e
    cases e2
    exact ⟨_, rfl, e1, rfl⟩
  · cases e
theorem RRs.one {ρ : List Addr} {P P0 H : Hp} {u : Val} {xs : List V} (r : RRs ρ P P0 H [u] xs) : ∃ x, xs = [x] ∧ RR ρ P P0 H u x := by
  obtain ⟨v, r', rfl, h1, h2⟩ := r
  have h2 : r' = [] := h2
  subst h2
  exact ⟨v, rfl, h1⟩
theorem RRs.two {ρ : List Addr} {P P0 H : Hp} {u w : Val} {xs : List V} (r : RRs ρ P P0 H [u, w] xs) : ∃ x y, xs = [x, y] ∧ RR ρ P P0 H u x ∧ RR ρ P P0 H w y := by
  obtain ⟨v, r', rfl, h1, h2⟩ := r
  obtain ⟨y, rfl, h3⟩ := RRs.one h2
  exact ⟨v, y, rfl, h1, h3⟩
theorem RRs.zero {ρ : List Addr} {P P0 H : Hp} {xs : List V} (r : RRs ρ P P0 H [] xs) : xs = [] := r
theorem len_dT {pins : List (Addr × Obj)} {σ : SL} {H : Hp} {s : Shared} {A : Around} {E : Value → Shared → Prop} {a : Addr} {kvs : List (List Key × V)} {Q : Value → Shared → Prop} (I : L2.Inv X pins σ H s) (e : Rd H a (.dT kvs))
    (h : ∀ t s', L2.Inv X pins σ H s' → Q (.int kvs.length t) s') : wpAny (model X.prog X.w) A (call (.builtin "len") [.ref a]) Q E s := by
  obtain ⟨z, hd, ys, rel, dd⟩ := dt_rd I.hok e
  have hl : kvs.length = ys.length := Paired.length rel
  refine call_len_dictH hd dd (by rw [← hl]; rw [sizeLine_eq] at z; omega) ?_
  rw [← hl]
  exact h _ _ (I.tok _)
theorem c_len : CallR X (.builtin "len") (rn X.K ca (un lenV)) := by
  intro pins s σ H xs us Q I r ⟨ρ, P, P0, h, ws, w, h', R, ra, e, g⟩
  obtain ⟨u, rfl, e, rfl⟩ := un_some e
  replace ra := ra.one
  obtain ⟨x, rfl, ra⟩ := ra
  simp only [lenV] at e
  split at e
  · split at e
    · rename_i hz
      cases e
      have e2 := ra.str; subst e2
      exact call_len pins s σ H _ us Q I r ⟨_, _, rfl, ⟨by rw [← lim_eq]; exact hz, rfl⟩, g.now R RV.mk_int⟩
    · cases e
  · cases e
    obtain ⟨p, vs, rfl, h1, h2⟩ := ra.tup
    exact call_len pins s σ H _ us Q I r ⟨_, vs.length, rfl, .inr ⟨vs, sqT h1, rfl⟩, by rw [← h2.length]; exact g.now R RV.mk_int⟩
  · cases e
    obtain ⟨p, vs, rfl, h1, _, h2⟩ := ra
    exact call_len pins s σ H _ us Q I r ⟨_, vs.length, rfl, .inl ⟨vs, sqL (R.pin _ _ h1), rfl⟩, by rw [← h2.length]; exact g.now R RV.mk_int⟩
  · obtain ⟨p, rfl, hp⟩ := ra.ref
    split at e
    · rename_i fz kvs hn
      cases e
      obtain ⟨ks, h1, h2, _⟩ := dK_at R hn hp
      obtain ⟨v, rfl, rv⟩ := vals1 r
      cases rv
      exact d_len I h1 fun t s' I' => ⟨.int ks.length, H, I', ⟨_, rfl⟩, by rw [← h2.len]; exact g.now R RV.mk_int⟩
    · rename_i fz kvs hn
      cases e
      obtain ⟨ks, h1, h2, _⟩ := dT_at R hn hp
      obtain ⟨v, rfl, rv⟩ := vals1 r
      cases rv
      exact len_dT I h1 fun t s' I' => ⟨.int ks.length, H, I', ⟨_, rfl⟩, by rw [← h2.len]; exact g.now R RV.mk_int⟩
    · rename_i xs hn
      cases e
      obtain ⟨vs, h1, h2⟩ := ro_at R hn hp
      exact call_len pins s σ H _ us Q I r ⟨_, vs.length, rfl, .inl ⟨vs, h1, rfl⟩, by rw [← h2.length]; exact g.now R RV.mk_int⟩
    · rename_i xs hn
      cases e
      obtain ⟨vs, h1, h2⟩ := R.ob _ _ p hn hp
      exact call_len pins s σ H _ us Q I r ⟨_, vs.length, rfl, .inl ⟨vs, sqL h1, rfl⟩, by rw [← h2.length]; exact g.now R RV.mk_int⟩
    · cases e
  · cases e
theorem kVal_rv {ρ : List Addr} {H : Hp} (k : Key) : RV ρ H (kVal k) (kV k) := by
  cases k with
  | inl i => exact RV.mk_int
  | inr i => exact RV.mk_str
theorem kVals_rv {ρ : List Addr} {H : Hp} : ∀ ks : List Key, RVs ρ H (ks.map kVal) (ks.map kV)
  | [] => RVs.nil
  | k :: ks => RVs.cons (kVal_rv k) (kVals_rv ks)
theorem rk_keys {ρ : List Addr} {H : Hp} : ∀ {kvs : List (List Key × Val)} {ks : List (List Key × V)} {bs : List Addr}, RK ρ H kvs ks → IsKeys H ks bs → RVs ρ H (kvs.map fun kv => .tup (kv.1.map kVal)) (bs.map V.ref)
  | _, _, _, .nil, .nil => RVs.nil
  | _, _, _, .cons hp hr, .cons hb hs => by
    rw [List.map_cons, List.map_cons]
    refine RVs.cons ?_ (rk_keys hr hs)
    unfold RV
    refine ⟨_, _, rfl, hb, ?_⟩
    rw [← hp.1]
    exact kVals_rv _
theorem rk_keysK {ρ : List Addr} {H : Hp} : ∀ {kvs : List (Key × Val)} {ks : List (Key × V)}, RK ρ H kvs ks → RVs ρ H (kvs.map fun kv => kVal kv.1) (ks.map fun kv => kV kv.1)
  | _, _, .nil => RVs.nil
  | _, _, .cons hp hr => by
    rw [List.map_cons, List.map_cons, hp.1]
    exact RVs.cons (kVal_rv _) (rk_keysK hr)
theorem c_list (hc : X.calm = true) : CallR X (.type "list") (rn X.K ca (un listV)) := by
  intro pins s σ H xs us Q I r ⟨ρ, P, P0, h, ws, w, h', R, ra, e, g⟩
  obtain ⟨u, rfl, e, rfl⟩ := un_some e
  replace ra := ra.one
  obtain ⟨x, rfl, ra⟩ := ra
  simp only [listV] at e
  split at e
  · cases e
    obtain ⟨p, vs, rfl, h1, h2⟩ := ra.tup
    exact call_list_of pins s σ H _ us Q I r ⟨p, vs, rfl, .inr (sqT h1), fun l hl => g.tmp R h2 hl⟩
  · cases e
    obtain ⟨p, vs, rfl, h1, _, h2⟩ := ra
    exact call_list_of pins s σ H _ us Q I r ⟨p, vs, rfl, .inl (sqL (R.pin _ _ h1)), fun l hl => g.tmp R h2 hl⟩
  · obtain ⟨p, rfl, hp⟩ := ra.ref
    split at e
    · rename_i fz kvs hn
      cases e
      obtain ⟨ks, h1, h2, _⟩ := dT_at R hn hp
      exact call_list_dT hc pins s σ H _ us Q I r ⟨p, ks, rfl, h1, fun l bs hl hb => g.tmp R (rk_keys h2 hb) hl⟩
    · rename_i kvs hn
      cases e
      obtain ⟨ks, h1, h2, h3⟩ := dK_at R hn hp
      exact call_list_dK hc pins s σ H _ us Q I r ⟨p, ks, rfl, h3 rfl, fun l hl => g.tmp R (rk_keysK h2) hl⟩
    · rename_i ys hn
      cases e
      obtain ⟨vs, h1, h2⟩ := R.ob _ _ p hn hp
      exact call_list_of pins s σ H _ us Q I r ⟨p, vs, rfl, .inl (sqL h1), fun l hl => g.tmp R h2 hl⟩
    · cases e
  · cases e
theorem c_tuple : CallR X (.type "tuple") (rn X.K ca (un tupleV)) := by
  intro pins s σ H xs us Q I r ⟨ρ, P, P0, h, ws, w, h', R, ra, e, g⟩
  obtain ⟨u, rfl, e, rfl⟩ := un_some e
  replace ra := ra.one
  obtain ⟨x, rfl, ra⟩ := ra
  obtain ⟨ys, e1, rfl⟩ := map_some e
  obtain ⟨p, vs, rfl, h1, h2⟩ := seq_at R ra e1
  rcases h1 with h1 | h1
  · exact call_tuple_of pins s σ H _ us Q I r ⟨p, vs, rfl, .inl ⟨sqL h1, fun l hl => g.tup R h2 hl⟩⟩
  · refine call_tuple_of pins s σ H _ us Q I r ⟨p, vs, rfl, .inr ⟨sqT h1, g.now R ?_⟩⟩
    unfold RV
    exact ⟨p, vs, rfl, h1, h2⟩
theorem isBl_rel {ρ : List Addr} {H : Hp} : ∀ {us : List Val} {vs : List V} {bs : List Bool}, RVs ρ H us vs → isBl us = some bs → vs = bs.map V.bl
  | [], _, _, r, e => by
    unfold RVs at r
    rw [mapM_nil e, r]
    rfl
  | u :: us, _, _, r, e => by
    unfold RVs at r
    obtain ⟨v, vs, rfl, h1, h2⟩ := r
    obtain ⟨k, ks, e1, e2, rfl⟩ := mapM_cons e
    rw [isBl_rel h2 e2]
    split at e1
    · cases e1
      unfold RV at h1
      rw [h1]
      rfl
    · cases e1
theorem isIn_rel {ρ : List Addr} {H : Hp} : ∀ {us : List Val} {vs : List V} {bs : List Int}, RVs ρ H us vs → isIn us = some bs → vs = bs.map V.int
  | [], _, _, r, e => by
    unfold RVs at r
    rw [mapM_nil e, r]
    rfl
  | u :: us, _, _, r, e => by
    unfold RVs at r
    obtain ⟨v, vs, rfl, h1, h2⟩ := r
    obtain ⟨k, ks, e1, e2, rfl⟩ := mapM_cons e
    rw [isIn_rel h2 e2]
    split at e1
    · cases e1
      unfold RV at h1
      rw [h1]
      rfl
    · cases e1
theorem isSt_rel {ρ : List Addr} {H : Hp} : ∀ {us : List Val} {vs : List V} {bs : List Str}, RVs ρ H us vs → isSt us = some bs → vs = bs.map V.str
  | [], _, _, r, e => by
    unfold RVs at r
    rw [mapM_nil e, r]
    rfl
  | u :: us, _, _, r, e => by
    unfold RVs at r
    obtain ⟨v, vs, rfl, h1, h2⟩ := r
    obtain ⟨k, ks, e1, e2, rfl⟩ := mapM_cons e
    rw [isSt_rel h2 e2]
    split at e1
    · cases e1
      unfold RV at h1
      rw [h1]
      rfl
    · cases e1
theorem bind_some {α β : Type} {f : α → Option β} {o : Option α} {b : β} (e : o.bind f = some b) : ∃ a, o = some a ∧ f a = some b := by
  cases o with
  | none => cases e
  | some a => exact ⟨a, rfl, e⟩
theorem c_all (hc : X.calm = true) : CallR X (.builtin "all") (rn X.K ca (un allV)) := by
  intro pins s σ H xs us Q I r ⟨ρ, P, P0, h, ws, w, h', R, ra, e, g⟩
  obtain ⟨u, rfl, e, rfl⟩ := un_some e
  replace ra := ra.one
  obtain ⟨x, rfl, ra⟩ := ra
  obtain ⟨bs, e1, rfl⟩ := map_some e
  obtain ⟨ys, e2, e3⟩ := bind_some e1
  obtain ⟨p, vs, rfl, h1, h2⟩ := lst_at R ra e2
  have e4 := isBl_rel h2 e3; subst e4
  exact cr_all hc pins s σ H _ us Q I r ⟨p, bs, rfl, sqL h1, g.now R RV.mk_bl⟩
theorem c_any (hc : X.calm = true) : CallR X (.builtin "any") (rn X.K ca (un anyV)) := by
  intro pins s σ H xs us Q I r ⟨ρ, P, P0, h, ws, w, h', R, ra, e, g⟩
  obtain ⟨u, rfl, e, rfl⟩ := un_some e
  replace ra := ra.one
  obtain ⟨x, rfl, ra⟩ := ra
  obtain ⟨bs, e1, rfl⟩ := map_some e
  obtain ⟨ys, e2, e3⟩ := bind_some e1
  obtain ⟨p, vs, rfl, h1, h2⟩ := lst_at R ra e2
  have e4 := isBl_rel h2 e3; subst e4
  exact cr_any hc pins s σ H _ us Q I r ⟨p, bs, rfl, sqL h1, g.now R RV.mk_bl⟩
theorem c_sum (hc : X.calm = true) : CallR X (.builtin "sum") (rn X.K ca (un sumV)) := by
  intro pins s σ H xs us Q I r ⟨ρ, P, P0, h, ws, w, h', R, ra, e, g⟩
  obtain ⟨u, rfl, e, rfl⟩ := un_some e
  replace ra := ra.one
  obtain ⟨x, rfl, ra⟩ := ra
  obtain ⟨bs, e1, rfl⟩ := map_some e
  obtain ⟨ys, e2, e3⟩ := bind_some e1
  obtain ⟨p, vs, rfl, h1, h2⟩ := lst_at R ra e2
  have e4 := isIn_rel h2 e3; subst e4
  exact cr_sum hc pins s σ H _ us Q I r ⟨p, bs, rfl, sqL h1, g.now R RV.mk_int⟩
theorem c_int : CallR X (.type "int") (rn X.K ca (un intV)) := by
  intro pins s σ H xs us Q I r ⟨ρ, P, P0, h, ws, w, h', R, ra, e, g⟩
  obtain ⟨u, rfl, e, rfl⟩ := un_some e
  replace ra := ra.one
  obtain ⟨x, rfl, ra⟩ := ra
  simp only [intV] at e
  split at e
  · cases e
    have e2 := ra.int; subst e2
    exact call_int1 pins s σ H _ us Q I r (.inl ⟨_, rfl, g.now R RV.mk_int⟩)
  · cases e
    have e2 := ra.bl; subst e2
    exact call_int1 pins s σ H _ us Q I r (.inr ⟨_, rfl, g.now R RV.mk_int⟩)
  · split at e
    · rename_i hz
      obtain ⟨n, e1, rfl⟩ := map_some e
      have e2 := ra.str; subst e2
      exact call_int_str pins s σ H _ us Q I r ⟨_, n, rfl, e1, hz, g.now R RV.mk_int⟩
    · cases e
  · cases e
theorem c_str : CallR X (.type "str") (rn X.K ca (un strV)) := by
  intro pins s σ H xs us Q I r ⟨ρ, P, P0, h, ws, w, h', R, ra, e, g⟩
  obtain ⟨u, rfl, e, rfl⟩ := un_some e
  replace ra := ra.one
  obtain ⟨x, rfl, ra⟩ := ra
  simp only [strV] at e
  split at e
  · split at e
    · rename_i hz
      cases e
      have e2 := ra.int; subst e2
      exact call_str_int pins s σ H _ us Q I r ⟨_, rfl, hz, g.now R RV.mk_str⟩
    · cases e
  · cases e
theorem c_max (hc : X.calm = true) : CallR X (.builtin "max") (rn X.K ca maxB) := by
  intro pins s σ H xs us Q I r ⟨ρ, P, P0, h, ws, w, h', R, ra, e, g⟩
  unfold maxB at e
  split at e
  · cases e
    replace ra := ra.two
    obtain ⟨x, y, rfl, r1, r2⟩ := ra
    have e1 := r1.int; have e2 := r2.int; subst e1 e2
    exact call_max2 hc pins s σ H _ us Q I r ⟨_, _, rfl, g.now R RV.mk_int⟩
  · cases e
theorem c_min (hc : X.calm = true) : CallR X (.builtin "min") (rn X.K ca minB) := by
  intro pins s σ H xs us Q I r ⟨ρ, P, P0, h, ws, w, h', R, ra, e, g⟩
  unfold minB at e
  split at e
  · cases e
    replace ra := ra.two
    obtain ⟨x, y, rfl, r1, r2⟩ := ra
    have e1 := r1.int; have e2 := r2.int; subst e1 e2
    exact call_min2 hc pins s σ H _ us Q I r ⟨_, _, rfl, g.now R RV.mk_int⟩
  · cases e
/-! ### sorted -/
theorem plainD_ne {d : PyData} (h : isPlainD d = true) : d ≠ .none ∧ ∀ xs, d ≠ .tuple xs := by
  refine ⟨fun e => ?_, fun xs e => ?_⟩
  · rw [e] at h
    exact Bool.false_ne_true h
  · rw [e] at h
    exact Bool.false_ne_true h
theorem each_of {ρ : List Addr} {H : Hp} : ∀ {us : List Val} {xs : List V} {vs : List Value}, RVs ρ H us xs → Vals xs vs → W.EachIs (fun (v : Value) (u : Val) => ∃ x, RelV x v ∧ RV ρ H u x) vs us
  | [], _, _, r, rv => by
    unfold RVs at r
    subst r
    cases rv
    exact .nil
  | u :: us, _, _, r, rv => by
    unfold RVs at r
    obtain ⟨x, xs, rfl, h1, h2⟩ := r
    cases rv with
    | cons q qs => exact .cons ⟨x, q, h1⟩ (each_of h2 qs)
theorem of_each {ρ : List Addr} {H : Hp} : ∀ {us : List Val} {vs : List Value}, W.EachIs (fun (v : Value) (u : Val) => ∃ x, RelV x v ∧ RV ρ H u x) vs us → ∃ xs, RVs ρ H us xs ∧ Vals xs vs
  | _, _, .nil => ⟨[], RVs.nil, .nil⟩
  | _, _, .cons ⟨x, h1, h2⟩ r => by
    obtain ⟨xs, r1, r2⟩ := of_each r
    exact ⟨x :: xs, RVs.cons h2 r1, .cons h1 r2⟩
theorem each_all {α β : Type} {R S : α → β → Prop} {p : β → Prop} (f : ∀ a b, p b → R a b → S a b) : ∀ {as : List α} {bs : List β}, (∀ b ∈ bs, p b) → W.EachIs R as bs → W.EachIs S as bs
  | _, _, _, .nil => .nil
  | _, _, k, .cons h r => .cons (f _ _ (k _ (by simp)) h) (each_all f (fun b hb => k b (by simp [hb])) r)
theorem sort_call {pins : List (Addr × Obj)} {σ : SL} {H : Hp} {s : Shared} {Q : VK} {ρ : List Addr} {P : Hp} {h : Hep} {a : Addr} {ys zs : List Val} {vs : List V} (hu : X.A.units + 64 < cLine) (I : L2.Inv X pins σ H s) (R : Rl X.K ca ρ P h H)
    (ha : H a = some (.lst vs)) (h2 : RVs ρ H ys vs) (e : sortO h ys = some zs) (g : Gd X.K ca ρ P h (.tl zs) H Q) : wpAny (model X.prog X.w) X.A (call (.builtin "sorted") [.ref a]) (EP X pins σ Q) X.xe s := by
  unfold sortO at e
  split at e
  · rename_i hz
    cases e
    obtain ⟨hs, hl⟩ := hz
    unfold sortable at hs
    simp only [Bool.and_eq_true, Bool.or_eq_true, List.all_eq_true] at hs
    obtain ⟨⟨s1, s2⟩, s3⟩ := hs
    obtain ⟨its, rv, hl', hz'⟩ := I.list (sqL ha)
    have enc : ∀ u ∈ ys, rei h 12 u = some (encD h u) := fun u hm => by
      have := s1 u hm
      cases q : rei h 12 u with
      | none => rw [q] at this; cases this
      | some d => unfold encD; rw [q]; rfl
    have e0 := each_of h2 rv
    refine W.sorted_data (bs := ys) (enc := encD h) (R := fun (v : Value) (u : Val) => ∃ x, RelV x v ∧ RV ρ H u x) hl'.isList e0 (each_all (p := fun u => rei h 12 u = some (encD h u)) (fun v u hp ⟨x, q1, q2⟩ => reads_of (P0 := P) I R 12 u x v _ (RR.of q2) q1 hp) enc e0) (fun d hd d' hd' => ?_) ?_ (by rw [← lim_eq]; exact hl) (fun b hb => ?_) fun out ho ex => ?_
    · obtain ⟨b, hb, rfl⟩ := List.mem_map.mp hd
      obtain ⟨b', hb', rfl⟩ := List.mem_map.mp hd'
      exact s2 b hb b' hb'
    · rcases s3 with s3 | s3
      · refine .inl fun d hd => ?_
        obtain ⟨b, hb, rfl⟩ := List.mem_map.mp hd
        have := s3 b hb
        generalize encD h b = d at this
        cases d <;> first | cases this | skip
        rename_i l
        cases l with
        | nil => cases this
        | cons x r => exact ⟨x, r, rfl⟩
      · refine .inr fun d hd => ?_
        obtain ⟨b, hb, rfl⟩ := List.mem_map.mp hd
        exact plainD_ne (s3 b hb)
    · have := rei_depth _ _ _ (enc b hb)
      omega
    · obtain ⟨ep, he'⟩ := PyProof.Rows.sortedAll_at s.heap its out.toArray
      obtain ⟨xs, r1, r2⟩ := of_each ex
      have hlen : xs.length ≤ sizeLine := by rw [← r1.length, List.length_mergeSort, ← lim_eq]; exact hl
      exact ⟨.ref _, upd H (s.heap.objs.size + 1) (.lst xs), I.laid (t' := s.toks) (fun _ _ => PyProof.Rows.sortedAll_old) (Nat.le_succ _) ⟨hlen, out, ep, r2, he'⟩, rfl, g.tmp R r1 (I.hok.fresh (Nat.le_succ _))⟩
  · cases e
theorem c_sorted (hu : X.A.units + 64 < cLine) : CallR X (.builtin "sorted") (rn X.K ca (un sortedV)) := by
  intro pins s σ H xs us Q I r ⟨ρ, P, P0, h, ws, w, h', R, ra, e, g⟩
  obtain ⟨u, rfl, e, rfl⟩ := un_some e
  replace ra := ra.one
  obtain ⟨x, rfl, ra⟩ := ra
  obtain ⟨zs, e1, rfl⟩ := map_some e
  obtain ⟨ys, e2, e3⟩ := bind_some e1
  obtain ⟨p, vs, rfl, h1, h2⟩ := lst_at R ra e2
  obtain ⟨v, rfl, rv⟩ := vals1 r
  cases rv
  exact sort_call hu I R h1 h2 e3 g
end
end Fs
set_option Elab.async false
set_option linter.all false
set_option maxRecDepth 100000
set_option maxHeartbeats 4000000
set_option autoImplicit false
set_option relaxedAutoImplicit false
namespace Fs
open PySem PySem.Spec PyProof.Rows L2
section
variable {X : Cx} {ca : Str → Addr}
/-- every kept argument is a value that stays -/
theorem RRs.rvs {ρ : List Addr} {P P0 H : Hp} : ∀ {us : List Val} {xs : List V}, RRs ρ P P0 H us xs → (∀ u ∈ us, ∀ ys, u ≠ .tl ys) → RVs ρ H us xs
  | [], _, r, _ => by
    unfold RVs
    exact r
  | u :: us, _, r, k => by
    obtain ⟨v, r', rfl, h1, h2⟩ := r
    refine RVs.cons ?_ (RRs.rvs h2 fun w hw => k w (by simp [hw]))
    cases u with
    | tl ys => exact absurd rfl (k _ (by simp) ys)
    | _ => exact h1
theorem RR.rv {ρ : List Addr} {P P0 H : Hp} {u : Val} {x : V} (r : RR ρ P P0 H u x) (k : noTl u = true) : RV ρ H u x := by
  cases u with
  | tl ys => cases k
  | _ => exact r
/-- writing a list of ours -/
theorem Gd.wr {K : PySem.W.Frag} {ρ : List Addr} {P H : Hp} {h : Hep} {n : Nat} {a : Addr} {xs ys : List Val} {vs ws : List V} {w : Val} {z : V} {Q : VK} (R : Rl K ca ρ P h H) (hn : h[n]? = some (.lst xs)) (ha : ρ[n]? = some a) (hH : H a = some (.lst vs))
    (r : RVs ρ H ys ws) (rw_ : RV ρ H w z) (g : Gd K ca ρ P (h.set n (.lst ys)) w H Q) : Q z (upd H a (.lst ws)) := by
  have nt : ∀ b q, H b = some (.tup q) → b ≠ a := fun b q e z => by rw [z, hH] at e; cases e
  have lw : Low ρ H ρ (upd H a (.lst ws)) := ⟨fun _ _ e => e, fun b q e => by rw [upd_ne (nt b q e)]; exact e⟩
  obtain ⟨R', e⟩ := R.write (o' := .lst ys) (u' := .lst ws) hn ha (fun z => z) hH (fun _ z => nomatch z) (fun _ _ z => nomatch z) ⟨ws, upd_same, r.low lw⟩ (fun z => z)
  exact g z ρ P _ e R' (RR.of (rw_.low lw))
theorem m_append : MtR X "list.append" (rm X.K ca (kp appM)) := by
  intro pins s σ H x xs v us Q I rx r ⟨ρ, P, P0, h, u, ws, w, h', R, ra, rb, e, g⟩
  unfold kp at e
  split at e
  · rename_i hk
    unfold appM at e
    split at e
    · obtain ⟨p, rfl, hp⟩ := ra.ref
      replace rb := rb.one
      obtain ⟨y, rfl, rb⟩ := rb
      split at e
      · rename_i ys hn
        split at e
        · rename_i hz
          cases e
          obtain ⟨vs, h1, h2⟩ := R.ob _ _ p hn hp
          have ry : RV ρ H _ y := rb.rv (by simpa using hk)
          exact mt_append pins s σ H _ _ v us Q I rx r ⟨p, vs, y, rfl, rfl, h1, by rw [← lim_eq, ← h2.length]; exact hz, Gd.wr R hn hp h1 (h2.append (RVs.cons ry RVs.nil)) RV.mk_non g⟩
        · cases e
      · cases e
    · cases e
  · cases e
theorem m_extend : MtR X "list.extend" (rm X.K ca extM) := by
  intro pins s σ H x xs v us Q I rx r ⟨ρ, P, P0, h, u, ws, w, h', R, ra, rb, e, g⟩
  unfold extM at e
  split at e
  · obtain ⟨p, rfl, hp⟩ := ra.ref
    replace rb := rb.one
    obtain ⟨y, rfl, rb⟩ := rb
    split at e
    · rename_i ys zs hn ez
      split at e
      · rename_i hz
        cases e
        obtain ⟨vs, h1, h2⟩ := R.ob _ _ p hn hp
        obtain ⟨q, ws, rfl, h3, h4⟩ := lst_at R rb ez
        exact mt_extend pins s σ H _ _ v us Q I rx r ⟨p, q, vs, ws, rfl, rfl, h1, h3, by rw [← lim_eq, ← h2.length, ← h4.length]; exact hz, Gd.wr R hn hp h1 (h2.append h4) RV.mk_non g⟩
      · cases e
    · cases e
  · cases e
theorem m_pop : MtR X "list.pop" (rm X.K ca popM) := by
  intro pins s σ H x xs v us Q I rx r ⟨ρ, P, P0, h, u, ws, w, h', R, ra, rb, e, g⟩
  unfold popM at e
  split at e
  · obtain ⟨p, rfl, hp⟩ := ra.ref
    have e0 := rb.zero; subst e0
    split at e
    · rename_i ys hn
      obtain ⟨y, e1, e2⟩ := map_some e
      cases e2
      obtain ⟨vs, h1, h2⟩ := R.ob _ _ p hn hp
      rcases h2.get (ys.length - 1) with ⟨q, _⟩ | ⟨u', z, q1, q2, q3⟩
      · rw [q] at e1; cases e1
      · rw [q1] at e1; cases e1
        exact mt_pop pins s σ H _ _ v us Q I rx r ⟨p, vs, z, rfl, rfl, h1, by rw [← h2.length]; exact q2, Gd.wr R hn hp h1 h2.dropLast q3 g⟩
    · cases e
  · obtain ⟨p, rfl, hp⟩ := ra.ref
    replace rb := rb.one
    obtain ⟨y, rfl, rb⟩ := rb
    have e0 := rb.int; subst e0
    split at e
    · rename_i ys hn
      split at e
      · rename_i hz
        obtain ⟨k, e1, e2⟩ := bind_some e
        obtain ⟨y, e3, e4⟩ := map_some e2
        cases e4
        obtain ⟨vs, h1, h2⟩ := R.ob _ _ p hn hp
        rcases h2.get k with ⟨q, _⟩ | ⟨u', z, q1, q2, q3⟩
        · rw [q] at e3; cases e3
        · rw [q1] at e3; cases e3
          exact mt_popAt pins s σ H _ _ v us Q I rx r ⟨p, vs, _, k, z, rfl, rfl, h1, by omega, by omega, by rw [← h2.length]; exact (ixN_seq e1).1, q2, Gd.wr R hn hp h1 (h2.eraseIdx k) q3 g⟩
      · cases e
    · cases e
  · cases e
theorem m_reverse : MtR X "list.reverse" (rm X.K ca revM) := by
  intro pins s σ H x xs v us Q I rx r ⟨ρ, P, P0, h, u, ws, w, h', R, ra, rb, e, g⟩
  unfold revM at e
  split at e
  · obtain ⟨p, rfl, hp⟩ := ra.ref
    have e0 := rb.zero; subst e0
    split at e
    · rename_i ys hn
      cases e
      obtain ⟨vs, h1, h2⟩ := R.ob _ _ p hn hp
      exact mt_reverse pins s σ H _ _ v us Q I rx r ⟨p, vs, rfl, rfl, h1, Gd.wr R hn hp h1 h2.reverse RV.mk_non g⟩
    · cases e
  · cases e
theorem m_join : MtR X "str.join" (rm X.K ca joinM) := by
  intro pins s σ H x xs v us Q I rx r ⟨ρ, P, P0, h, u, ws, w, h', R, ra, rb, e, g⟩
  unfold joinM at e
  split at e
  · have e0 := ra.str; subst e0
    replace rb := rb.one
    obtain ⟨y, rfl, rb⟩ := rb
    obtain ⟨ys, e1, e2⟩ := bind_some e
    obtain ⟨zs, e3, e4⟩ := bind_some e1
    split at e2
    · rename_i hz
      cases e2
      obtain ⟨p, vs, rfl, h1, h2⟩ := lst_at R rb e3
      have e5 := isSt_rel h2 e4; subst e5
      exact mt_join pins s σ H _ _ v us Q I rx r ⟨_, p, ys, rfl, rfl, .inl (sqL h1), by first | exact hz | (unfold lim at hz; exact hz), g.now R RV.mk_str⟩
    · cases e2
  · cases e
theorem strs_rv {ρ : List Addr} {H : Hp} : ∀ ys : List Str, RVs ρ H (ys.map Val.str) (ys.map V.str)
  | [] => RVs.nil
  | y :: ys => RVs.cons RV.mk_str (strs_rv ys)
theorem m_split : MtR X "str.split" (rm X.K ca splitM) := by
  intro pins s σ H x xs v us Q I rx r ⟨ρ, P, P0, h, u, ws, w, h', R, ra, rb, e, g⟩
  unfold splitM at e
  split at e
  · have e0 := ra.str; subst e0
    replace rb := rb.one
    obtain ⟨y, rfl, rb⟩ := rb
    have e1 := rb.str; subst e1
    split at e
    · rename_i hz
      cases e
      exact mt_split pins s σ H _ _ v us Q I rx r ⟨_, _, rfl, rfl, hz.1, by rw [← lim_eq]; exact hz.2, fun p hp => g.tmp R (strs_rv _) hp⟩
    · cases e
  · cases e
theorem m_startswith : MtR X "str.startswith" (rm X.K ca startM) := by
  intro pins s σ H x xs v us Q I rx r ⟨ρ, P, P0, h, u, ws, w, h', R, ra, rb, e, g⟩
  unfold startM at e
  split at e
  · cases e
    have e0 := ra.str; subst e0
    replace rb := rb.one
    obtain ⟨y, rfl, rb⟩ := rb
    have e1 := rb.str; subst e1
    exact mt_startswith pins s σ H _ _ v us Q I rx r ⟨_, _, rfl, rfl, g.now R RV.mk_bl⟩
  · cases e
theorem m_lower : MtR X "str.lower" (rm X.K ca lowerM) := by
  intro pins s σ H x xs v us Q I rx r ⟨ρ, P, P0, h, u, ws, w, h', R, ra, rb, e, g⟩
  unfold lowerM at e
  split at e
  · split at e
    · rename_i hz
      cases e
      have e0 := ra.str; subst e0
      have e1 := rb.zero; subst e1
      exact mt_lower pins s σ H _ _ v us Q I rx r ⟨_, rfl, rfl, hz, g.now R RV.mk_str⟩
    · cases e
  · cases e
theorem m_get (hu : X.A.units + 1 < cLine) : MtR X "dict.get" (rm X.K ca (kp getM)) := by
  intro pins s σ H x xs v us Q I rx r ⟨ρ, P, P0, h, u, ws, w, h', R, ra, rb, e, g⟩
  unfold kp at e
  split at e
  · rename_i hk
    unfold getM at e
    split at e
    · obtain ⟨p, rfl, hp⟩ := ra.ref
      cases rx
      replace rb := rb.two
      obtain ⟨y, z, rfl, r1, r2⟩ := rb
      obtain ⟨u1, u2, rfl, q1, q2⟩ := vals2 r
      simp only [List.all_cons, List.all_nil, Bool.and_true, Bool.and_eq_true] at hk
      have r2 := r2.rv hk.2
      split at e
      · rename_i fz kvs hn
        obtain ⟨k, e1, e2⟩ := map_some e
        cases e2
        obtain ⟨ks, h1, h2, _⟩ := dK_at R hn hp
        exact d_get2 (o := valV ks k) hu I (.inl ⟨ks, k, h1, keyOf_rel r1 e1, rfl⟩) q1 q2 fun w' s' I' rw' => ⟨_, H, I', rw', g.now R ((look_rel h2 k).getD r2)⟩
      · rename_i fz kvs hn
        obtain ⟨k, e1, e2⟩ := map_some e
        cases e2
        obtain ⟨ks, h1, h2, _⟩ := dT_at R hn hp
        obtain ⟨b, eb, hb⟩ := keysOf_rel r1 e1
        exact d_get2 (o := valV ks k) hu I (.inr ⟨ks, k, b, h1, eb, hb, rfl⟩) q1 q2 fun w' s' I' rw' => ⟨_, H, I', rw', g.now R ((look_rel h2 k).getD r2)⟩
      · cases e
    · cases e
  · cases e
end
end Fs
set_option Elab.async false
set_option linter.all false
set_option maxRecDepth 100000
set_option maxHeartbeats 4000000
set_option autoImplicit false
set_option relaxedAutoImplicit false
namespace Fs
open PySem PySem.Spec PyProof.Rows L2
theorem PE.imp {X : Cx} {e : Expr} {t t' : TE} (h : PE X e t) (i : ∀ σ H Q, t' σ H Q → t σ H Q) : PE X e t' := ⟨fun pins s σ H Q I q => h.run pins s σ H Q I (i _ _ _ q)⟩
theorem PT.imp {X : Cx} {e : Expr} {t t' : TT} (h : PT X e t) (i : ∀ σ H Q, t' σ H Q → t σ H Q) : PT X e t' := ⟨fun pins s σ H Q I q => h.run pins s σ H Q I (i _ _ _ q)⟩
theorem PW.imp {X : Cx} {e : Expr} {t t' : TT} (h : PW X e t) (i : ∀ σ H Q, t' σ H Q → t σ H Q) : PW X e t' := ⟨fun whole pins s σ H Q I q => h.run whole pins s σ H Q I (i _ _ _ q)⟩
theorem PA.imp {X : Cx} {e : List Expr} {t t' : TA} (h : PA X e t) (i : ∀ σ H Q, t' σ H Q → t σ H Q) : PA X e t' := ⟨fun pos pins s σ H Q I q => h.run pos pins s σ H Q I (i _ _ _ q)⟩
theorem PS.imp {X : Cx} {e : Stmt} {t t' : TS} (h : PS X e t) (i : ∀ D σ H, t' D σ H → t D σ H) : PS X e t' := ⟨fun pins s σ H Q I q => h.run pins s σ H Q I (i _ _ _ q)⟩
theorem PSs.imp {X : Cx} {e : List Stmt} {t t' : TS} (h : PSs X e t) (i : ∀ D σ H, t' D σ H → t D σ H) : PSs X e t' := ⟨fun pins s σ H Q I q => h.run pins s σ H Q I (i _ _ _ q)⟩
/-- an exception of ours -/
def XR (ca : Str → Addr) (ρ : List Addr) (H : Hp) (x : Ex) (cls : Value) (d : Option Addr) : Prop :=
  cls = .ref (ca x.cls) ∧ ((x.fs = [] ∧ d = none) ∨ ∃ dd ks, x.fs ≠ [] ∧ d = some dd ∧ H dd = some (.xd ks) ∧ RK ρ H x.fs ks)
section
variable (K : PySem.W.Frag) (ca : Str → Addr) (F : Orc) (W : WX)
def PoR {α : Type} (ρ : List Addr) (P H : Hp) (σ : SL) (G : α → Hep → Prop) : Res α → Prop
  | .ok a h => G a h
  | .ex x h' => ∀ ρ' P' H' cls d, Ext ρ P H ρ' P' H' → Rl K ca ρ' P' h' H' → XR ca ρ' H' x cls d → W cls d σ H'
  | .bad => False
/-- what is wanted of a result -/
def GE (ρ : List Addr) (P H : Hp) (Q : VK) (u : Val) (h' : Hep) : Prop := ∀ z ρ' P' H', Ext ρ P H ρ' P' H' → Rl K ca ρ' P' h' H' → RR ρ' P' P H' u z → Q z H'
def GL (ρ : List Addr) (P H : Hp) (Q : List V → Hp → Prop) (us : List Val) (h' : Hep) : Prop := ∀ zs ρ' P' H', Ext ρ P H ρ' P' H' → Rl K ca ρ' P' h' H' → RRs ρ' P' P H' us zs → Q zs H'
def GV (ρ : List Addr) (P H : Hp) (Q : List V → Hp → Prop) (us : List Val) (h' : Hep) : Prop := ∀ zs ρ' P' H', Ext ρ P H ρ' P' H' → Rl K ca ρ' P' h' H' → RVs ρ' H' us zs → Q zs H'
def GB (ρ : List Addr) (P H : Hp) (Q : Bool → Hp → Prop) (b : Bool) (h' : Hep) : Prop := ∀ ρ' P' H', Ext ρ P H ρ' P' H' → Rl K ca ρ' P' h' H' → Q b H'
def tE (e : E) : TE := fun σ H Q => ∃ ρ P env h, Rl K ca ρ P h H ∧ RE ρ H env σ ∧ PoR K ca W ρ P H σ (GE K ca ρ P H Q) (evE F e env h)
def tT (e : E) : TT := fun σ H Q => ∃ ρ P env h, Rl K ca ρ P h H ∧ RE ρ H env σ ∧ PoR K ca W ρ P H σ (GB K ca ρ P H Q) (evT F e env h)
def tEs (es : Es) : TA := fun σ H Q => ∃ ρ P env h, Rl K ca ρ P h H ∧ RE ρ H env σ ∧ PoR K ca W ρ P H σ (GV K ca ρ P H Q) (evEs F es env h)
def tEr (es : Es) : TA := fun σ H Q => ∃ ρ P env h, Rl K ca ρ P h H ∧ RE ρ H env σ ∧ PoR K ca W ρ P H σ (GL K ca ρ P H Q) (evEr F es env h)
end
section
variable {K : PySem.W.Frag} {ca : Str → Addr} {F : Orc} {W : WX} {ρ ρ1 : List Addr} {P P0 P1 H H1 : Hp} {σ : SL} {h h1 : Hep} {env : Evn}
theorem PoR.bind {α β : Type} {G : β → Hep → Prop} {r : Res α} {k : α → Hep → Res β} (p : PoR K ca W ρ P H σ G (r.bind k)) : PoR K ca W ρ P H σ (fun a h => PoR K ca W ρ P H σ G (k a h)) r := by
  cases r with
  | ok a h => exact p
  | ex x h => exact p
  | bad => exact p
theorem PoR.ext {α : Type} {G G1 : α → Hep → Prop} {r : Res α} (e : Ext ρ P H ρ1 P1 H1) (k : ∀ a h, G a h → G1 a h) (p : PoR K ca W ρ P H σ G r) : PoR K ca W ρ1 P1 H1 σ G1 r := by
  cases r with
  | ok a h => exact k a h p
  | ex x h => exact fun ρ' P' H' cls d e' R' x' => p ρ' P' H' cls d (e.trans e') R' x'
  | bad => exact p
theorem PoR.imp {α : Type} {G G1 : α → Hep → Prop} {r : Res α} (p : PoR K ca W ρ P H σ G r) (k : ∀ a h, G a h → G1 a h) : PoR K ca W ρ P H σ G1 r := p.ext Ext.refl k
theorem PoR.of {α : Type} {G : α → Hep → Prop} {o : Option α} (p : PoR K ca W ρ P H σ G (Res.of o h)) : ∃ a, o = some a ∧ G a h := by
  cases o with
  | none => exact p.elim
  | some a => exact ⟨a, rfl, p⟩
theorem PoR.resO {α : Type} {G : α → Hep → Prop} {o : Option (α × Hep)} (p : PoR K ca W ρ P H σ G (resO o)) : ∃ a h', o = some (a, h') ∧ G a h' := by
  cases o with
  | none => exact p.elim
  | some a => exact ⟨a.1, a.2, rfl, p⟩
theorem GE.ext {Q : VK} {u : Val} {h' : Hep} (e : Ext ρ P H ρ1 P1 H1) (g : GE K ca ρ P H Q u h') : GE K ca ρ1 P1 H1 Q u h' := fun z ρ' P' H' e' R' r => g z ρ' P' H' (e.trans e') R' (r.less e.pin)
theorem GE.gd {Q : VK} {u : Val} {h' : Hep} (e : Ext ρ P H ρ1 P1 H1) (g : GE K ca ρ P H Q u h') : Gd K ca ρ1 P1 h' u H1 Q := g.ext e
theorem GL.ext {Q : List V → Hp → Prop} {u : List Val} {h' : Hep} (e : Ext ρ P H ρ1 P1 H1) (g : GL K ca ρ P H Q u h') : GL K ca ρ1 P1 H1 Q u h' := fun z ρ' P' H' e' R' r => g z ρ' P' H' (e.trans e') R' (r.less e.pin)
theorem GV.ext {Q : List V → Hp → Prop} {u : List Val} {h' : Hep} (e : Ext ρ P H ρ1 P1 H1) (g : GV K ca ρ P H Q u h') : GV K ca ρ1 P1 H1 Q u h' := fun z ρ' P' H' e' R' r => g z ρ' P' H' (e.trans e') R' r
theorem GB.ext {Q : Bool → Hp → Prop} {u : Bool} {h' : Hep} (e : Ext ρ P H ρ1 P1 H1) (g : GB K ca ρ P H Q u h') : GB K ca ρ1 P1 H1 Q u h' := fun ρ' P' H' e' R' => g ρ' P' H' (e.trans e') R'
theorem GE.now {Q : VK} {u : Val} {z : V} (g : GE K ca ρ P H Q u h) (R : Rl K ca ρ P h H) (r : RV ρ H u z) : Q z H := g z ρ P H Ext.refl R (RR.of r)
/-! ### readings from the evaluator's -/
theorem i_var {i : Nat} {Q : VK} (q : tE K ca F W (.var i) σ H Q) : tVar i σ H Q := by
  obtain ⟨ρ, P, env, h, R, re, p⟩ := q
  simp only [evE] at p
  split at p
  · rename_i v e
    obtain ⟨x, h1, h2⟩ := re.2 i v e
    exact ⟨x, h1, GE.now p R h2⟩
  · exact p.elim
theorem i_lit {e : E} {u : Val} {z : V} {Q : VK} (he : ∀ env h, evE F e env h = .ok u h) (hz : ∀ ρ H, RV ρ H u z) (q : tE K ca F W e σ H Q) : tC z σ H Q := by
  obtain ⟨ρ, P, env, h, R, re, p⟩ := q
  rw [he] at p
  exact GE.now p R (hz _ _)
/-- two parts and an operation -/
theorem i_two {a b : E} {f : Hep → Val → Val → Option Val} {Q : VK} {ρ : List Addr} {P : Hp} {env : Evn} {h : Hep} (R : Rl K ca ρ P h H) (re : RE ρ H env σ)
    (p : PoR K ca W ρ P H σ (GE K ca ρ P H Q) ((evE F a env h).bind fun u h1 => (evE F b env h1).bind fun v h2 => Res.of (f h2 u v) h2)) :
    tE K ca F W a σ H fun x H1 => tE K ca F W b σ H1 fun y H2 => r2 K ca f x y H2 Q := by
  refine ⟨ρ, P, env, h, R, re, p.bind.imp fun u h1 p1 => ?_⟩
  intro x ρ1 P1 H1 e1 R1 r1
  refine ⟨ρ1, P1, env, h1, R1, re.low e1.low, p1.bind.ext e1 fun v h2 p2 => ?_⟩
  intro y ρ2 P2 H2 e2 R2 r2
  obtain ⟨w, ew, g⟩ := p2.of
  exact ⟨ρ2, P2, P, h2, u, v, w, R2, r1.ext (P1 := P1) e2, r2.less e1.pin, ew, g.gd (e1.trans e2)⟩
/-- one part and an operation -/
theorem i_one {a : E} {f : Hep → Val → Option Val} {Q : VK} {ρ : List Addr} {P : Hp} {env : Evn} {h : Hep} (R : Rl K ca ρ P h H) (re : RE ρ H env σ)
    (p : PoR K ca W ρ P H σ (GE K ca ρ P H Q) ((evE F a env h).bind fun u h1 => Res.of (f h1 u) h1)) :
    tE K ca F W a σ H fun x H1 => ∃ ρ1 P1 h1 u w, Rl K ca ρ1 P1 h1 H1 ∧ RR ρ1 P1 P H1 u x ∧ f h1 u = some w ∧ Gd K ca ρ1 P1 h1 w H1 Q := by
  refine ⟨ρ, P, env, h, R, re, p.bind.imp fun u h1 p1 => ?_⟩
  intro x ρ1 P1 H1 e1 R1 r1
  obtain ⟨w, ew, g⟩ := p1.of
  exact ⟨ρ1, P1, h1, u, w, R1, r1, ew, g.gd e1⟩
theorem of_map {α β : Type} {o : Option α} {f : α → β} : (Res.of o h).bind (fun b h3 => Res.ok (f b) h3) = Res.of (o.map f) h := by
  cases o <;> rfl
end
/-! ### the world of a run -/
structure Tab where
  fns : List (Str × Def)
  gl : List Str
  cl : List (Str × List Str × List Str)
  ci : List (Str × Int)
  cs : List (Str × Str)
  ex : List (Str × List Str × List Str)
  rz : List Str
/-- a def's promise -/
def PoF (K : PySem.W.Frag) (ca : Str → Addr) (ρ : List Addr) (P H : Hp) (Q : VK) (E : XK) : Res Val → Prop
  | .ok u h' => ∀ z ρ' P' H', Ext ρ P H ρ' P' H' → Rl K ca ρ' P' h' H' → RV ρ' H' u z → Q z H'
  | .ex x h' => ∀ ρ' P' H' cls d, Ext ρ P H ρ' P' H' → Rl K ca ρ' P' h' H' → XR ca ρ' H' x cls d → E cls d H'
  | .bad => False
def spR (K : PySem.W.Frag) (ca : Str → Addr) (F : Orc) (f : Str) (ps : List Str) : Sp := fun vs H Q E => vs.length = ps.length ∧ ∃ ρ P h us, Rl K ca ρ P h H ∧ RVs ρ H us vs ∧ PoF K ca ρ P H Q E (F f us h)
structure FnS (X : Cx) (ca : Str → Addr) (F : Orc) (n : Nat) (f : Str) (ps : List Str) (a : Addr) (fd : FuncData) : Prop where
  ok : FnOk X.prog X.w X.K X.mg X.base (L2.CX X.prog X.w) n a fd ps (spR X.K ca F f ps)
  bd : Binds X.K fd ps []
  ar : ∀ us h, F f us h ≠ .bad → us.length = ps.length
/-- a class of exceptions -/
def ExOk (K : PySem.W.Frag) (mg : Str → Option Value) (ca : Str → Addr) (c : Str) (sub non : List Str) : Prop := ∃ (z : V) (cv : Value), (∀ u, RelV z u ↔ u = cv) ∧ (mg c = some cv ∨ (mg c = none ∧ bootBuiltins c = some cv)) ∧
  PySem.W.kitOne K (.type "NoneType") cv = some false ∧ (∀ k ∈ sub, ExcC K (ca k) ∧ PySem.W.kitOne K (.ref (ca k)) cv = some true ∧ PySem.W.exmOne K (.ref (ca k)) cv = some true) ∧
  (∀ k ∈ non, ExcC K (ca k) ∧ PySem.W.kitOne K (.ref (ca k)) cv = some false ∧ PySem.W.exmOne K (.ref (ca k)) cv = some false)
/-- a class of exceptions that is raised by its name and a text -/
def RzOk (K : PySem.W.Frag) (mg : Str → Option Value) (ca : Str → Addr) (c : Str) : Prop := mg c = some (.ref (ca c)) ∧ PySem.W.excIn K (ca c) He.veBase "ValueError.__new__" = true ∧ PySem.W.keepIn K (.ref (ca c)) = true ∧
  PySem.W.subIn K (.ref (ca c)) (.type "BaseException") = some true ∧ PySem.W.typeIn K (.ref (ca c)) = some (.type "type")
/-- a class called: the new instance behind __init__ -/
def mkRes (n : Nat) (r : Res Val) : Res Val := r.bind fun v h2 => match v with
  | .non => .ok (.ref n) h2
  | _ => .bad
structure Wo (T : Tab) (X : Cx) (ca : Str → Addr) (F : Orc) (n : Nat) : Prop where
  fn : ∀ f d, f ∈ T.gl → T.fns.lookup f = some d → ∃ a fd, FnS X ca F n f d.ps a fd ∧ X.mg f = some (.ref a) ∧ PySem.W.keepIn X.K (.ref a) = true
  cls : ∀ c ms fs, (c, ms, fs) ∈ T.cl → Cls X.K (ca c) ∧ X.mg c = some (.ref (ca c)) ∧ PySem.W.makesIn X.K (ca c) = true ∧ PySem.W.keepIn X.K (.ref (ca c)) = true ∧ (∀ f ∈ fs, NoAttr X.K (ca c) f) ∧
    (∀ m ∈ ms, ∀ d, T.fns.lookup (c ++ "." ++ m) = some d → ∃ a fd, FnS X ca F n (c ++ "." ++ m) d.ps a fd ∧ Meth X.K (ca c) m a)
  mkc : ∀ c ms fs, (c, ms, fs) ∈ T.cl → ∀ d, T.fns.lookup c = some d → ∃ k F1 a fd ps, k ≤ n ∧ FnOk X.prog X.w X.K X.mg X.base (L2.CX X.prog X.w) k a fd ps (spR X.K ca F1 (c ++ ".__init__") ps) ∧ Binds X.K fd ps [] ∧ Mk X.K (ca c) a ∧
    ∀ us h, (∀ u ∈ us, ∀ h, mat u h = (u, h)) → F c us h ≠ .bad → us.length + 1 = ps.length ∧ F c us h = mkRes h.length (F1 (c ++ ".__init__") (.ref h.length :: us) (h ++ [.ins c []]))
  ci : ∀ x i, (x, i) ∈ T.ci → ∃ t, X.mg x = some (.int i t)
  cs : ∀ x i, (x, i) ∈ T.cs → ∃ t, X.mg x = some (.str i t)
  ex : ∀ c sub non, (c, sub, non) ∈ T.ex → ExOk X.K X.mg ca c sub non
  rz : ∀ c ∈ T.rz, RzOk X.K X.mg ca c
  free : ∀ x : Str, x ∈ (["len", "list", "tuple", "sorted", "sum", "max", "min", "all", "any", "dict", "int", "str", "repr", "range", "enumerate", "zip", "isinstance", "bool", "set"] : List Str) → X.mg x = none
structure Ok (T : Tab) (X : Cx) (ca : Str → Addr) (F : Orc) (W : WX) (n : Nat) (N : List Str) (sc : Scope) : Prop where
  wo : Wo T X ca F n
  room : Room (n + 1) X.A
  calm : X.calm = true
  hN : X.N = N
  nd : N.Nodup
  hsc : X.env.scope = sc
  tk : Takes X W
end Fs
set_option Elab.async false
set_option linter.all false
set_option maxRecDepth 100000
set_option maxHeartbeats 4000000
set_option autoImplicit false
set_option relaxedAutoImplicit false
namespace Fs
open PySem PySem.Spec PyProof.Rows L2
/-! ### is a term of ours what the text has? -/
def dbg (x : Str) : Bool := !(x == ("__debug__" : Str)) && !(x == ("__classdict__" : Str))
def nmOk (N : List Str) (sc : Scope) (x : Str) (i : Nat) : Bool := decide (N[i]? = some x) && dbg x && (match sc.names.lookup x with
  | some .local => true
  | some .cell => true
  | some .free => true
  | _ => false)
def stOk (N : List Str) (sc : Scope) (x : Str) (i : Nat) : Bool := decide (N[i]? = some x) && (match sc.names.lookup x with
  | some .local => true
  | some .cell => true
  | _ => false)
def glOk (sc : Scope) (x : Str) : Bool := decide (sc.names.lookup x = some .globalImplicit) && dbg x && decide (x ≠ "__name__")
def opOk : Bop → Operator → Bool
  | .add, .Add => true
  | .sub, .Sub => true
  | .mul, .Mult => true
  | .fdiv, .FloorDiv => true
  | .mod, .Mod => true
  | .pow, .Pow => true
  | _, _ => false
def copOk : Cop → CmpOp → Bool
  | .eq, .Eq => true
  | .ne, .NotEq => true
  | .lt, .Lt => true
  | .le, .LtE => true
  | .gt, .Gt => true
  | .ge, .GtE => true
  | .is_, .Is => true
  | .isn, .IsNot => true
  | .in_, .In => true
  | .nin, .NotIn => true
  | _, _ => false
def bltN : Blt → String
  | .len => "len" | .list => "list" | .tuple => "tuple" | .sorted => "sorted" | .sum => "sum" | .max => "max" | .min => "min" | .all => "all" | .any => "any" | .dict => "dict" | .int => "int" | .str => "str"
  | .repr => "repr" | .maxN => "" | .lenset => "" | .sortedset => ""
def bltOk : Blt → Bool
  | .len | .list | .tuple | .sorted | .sum | .max | .min | .all | .any | .int | .str | .dict => true
  | _ => false
def mtN : Mt → Str
  | .append => "append" | .extend => "extend" | .pop => "pop" | .reverse => "reverse" | .get => "get" | .popD => "pop" | .join => "join" | .split => "split" | .startswith => "startswith" | .lower => "lower"
def notSuper : Expr → Bool
  | .Call (.Name _ _) [] [] _ => false
  | _ => true
def isSlice : Expr → Bool
  | .Slice .. => true
  | _ => false
def isTg (N : List Str) (sc : Scope) : Tg → Expr → Bool
  | .nm i, .Name x _ => stOk N sc x i
  | .tp ts, .Tuple xs _ _ => isTgs ts xs
  | _, _ => false
where isTgs : List Tg → List Expr → Bool
  | [], [] => true
  | t :: ts, x :: xs => isTg N sc t x && isTgs ts xs
  | _, _ => false
def tgIn (own : List Nat) : Tg → Bool
  | .nm i => own.contains i
  | .tp ts => tgsIn ts
where tgsIn : List Tg → Bool
  | [] => true
  | t :: ts => tgIn own t && tgsIn ts
def ownP (N : List Str) (own : List Nat) : List (Str × Nat) := own.map fun i => (N.getD i "", i)
/-- the iterator makes tuples of its own -/
def nt : I → Bool
  | .enum _ => true
  | .zip _ _ => true
  | .items _ => true
  | _ => false
def isTupE : Expr → Bool
  | .Tuple .. => true
  | _ => false
def noCls : Ty → Bool
  | .cls _ => false
  | _ => true
def few3 : List Expr → Bool
  | [_] => true
  | [_, _] => true
  | [_, _, _] => true
  | _ => false
def noSet : Expr → Bool
  | .Set .. => false
  | .SetComp .. => false
  | _ => true
def isCall : Expr → Bool
  | .Call .. => true
  | _ => false
def layOk : Expr → Bool
  | .ListComp .. | .List .. | .Call .. | .Subscript .. | .BinOp .. => true
  | _ => false
section
variable (T : Tab) (N : List Str)
mutual
def isE (sc : Scope) : E → Expr → Bool
  | .lay e, x => isE sc e x && layOk x
  | .var i, .Name x _ => nmOk N sc x i
  | .non, .Constant .none _ _ => true
  | .bl b, .Constant (.bool c) _ _ => b == c
  | .int i, .Constant (.int j) _ _ => decide (i = j)
  | .str s, .Constant (.str t) _ _ => decide (s = t)
  | .gint x i, .Name y _ => decide (x = y) && glOk sc x && decide ((x, i) ∈ T.ci)
  | .gstr x i, .Name y _ => decide (x = y) && glOk sc x && decide ((x, i) ∈ T.cs)
  | .bin o a b, .BinOp x op y _ => opOk o op && isE sc a x && isE sc b y
  | .neg a, .UnaryOp .USub x _ => isE sc a x
  | .not a, .UnaryOp .Not x _ => isE sc a x
  | .cmp o a b, .Compare x [op] [y] _ => copOk o op && isE sc a x && isE sc b y && !behindInMarks op y
  | .chain o p a b c, .Compare x [op, oq] [y, z] _ => copOk o op && copOk p oq && isE sc a x && isE sc b y && isE sc c z && !behindInMarks op y && !behindInMarks oq z
  | .and a b, .BoolOp .And (x :: y :: r) pos => isE sc a x && (match r with
    | [] => isE sc b y
    | _ => isE sc b (.BoolOp .And (y :: r) pos))
  | .or a b, .BoolOp .Or (x :: y :: r) pos => isE sc a x && (match r with
    | [] => isE sc b y
    | _ => isE sc b (.BoolOp .Or (y :: r) pos))
  | .tup es, .Tuple xs _ _ => isEs sc es xs
  | .lst es, .List xs _ => isEs sc es xs
  | .dnew _, .Dict [] [] _ => true
  | .idx a i, .Subscript x y _ => isE sc a x && isE sc i y && !isSlice y
  | .sl a lo hi, .Subscript x (.Slice l r none _) _ => isE sc a x && isOe sc lo l && isOe sc hi r
  | .rev a, .Subscript x (.Slice none none (some (.UnaryOp .USub (.Constant (.int i) _ _) _)) _) _ => isE sc a x && decide (i = 1)
  | .fld a c f, .Attribute x g _ => decide (f = g) && isE sc a x && notSuper x && (T.cl.any fun q => decide (q.1 = c) && decide (f ∈ q.2.2))
  | .call f es, .Call (.Name x _) xs [] _ => decide (f = x) && glOk sc x && (decide (x ∈ T.gl) || T.cl.any fun q => decide (q.1 = x)) && (T.fns.lookup x).isSome && isEs sc es xs
  | .meth o c m es, .Call (.Attribute x g apos) xs [] cpos => decide (m = g) && isE sc o x && isEs sc es xs && notSuper x && (apos.endLine == cpos.line) && decide (xs.length < 20) && (T.cl.any fun q => decide (q.1 = c) && decide (m ∈ q.2.1)) && (T.fns.lookup (c ++ "." ++ m)).isSome
  | .blt b es, .Call (.Name x _) xs [] _ => decide (x = (bltN b : Str)) && glOk sc x && isEs sc es xs && !xs.isEmpty && bltOk b
  | .bm m o es, .Call (.Attribute x g apos) xs [] cpos => decide (g = mtN m) && isE sc o x && isEs sc es xs && notSuper x && (apos.endLine == cpos.line) && decide (xs.length < 20)
  | .isi a t, .Call (.Name x _) [y, .Name z _] [] _ => decide (x = "isinstance") && decide (z = (tyS t : Str)) && glOk sc x && glOk sc z && noCls t && isE sc a y
  | .isc a c sub non, .Call (.Name x _) [y, .Name z _] [] _ => decide (x = "isinstance") && decide (z = c) && glOk sc x && glOk sc z && decide ((c, sub, non) ∈ T.ex) && isE sc a y
  | .rng es, .Call (.Name x _) [.Call (.Name y _) xs [] _] [] _ => decide (x = "list") && decide (y = "range") && glOk sc x && glOk sc y && isEs sc es xs && few3 xs && decide (xs.length < 3)
  | .lc own elt tg it c, .ListComp ex [⟨t, i, ifs, 0⟩] scope _ => isI sc it i && (!nt it || isTupE t) && isTg N scope tg t && tgIn own tg && isC (relS scope sc) c ifs && isE (relS scope sc) elt ex && blkC N sc scope (ownP N own)
  | _, _ => false
def isEs (sc : Scope) : Es → List Expr → Bool
  | .nil, [] => true
  | .cons e es, x :: xs => isE sc e x && isEs sc es xs
  | _, _ => false
def isOe (sc : Scope) : Oe → Option Expr → Bool
  | .none, none => true
  | .some e, some x => isE sc e x
  | _, _ => false
def isC (sc : Scope) : Oe → List Expr → Bool
  | .none, [] => true
  | .some e, [x] => isE sc e x
  | _, _ => false
def isI (sc : Scope) : I → Expr → Bool
  | .of e, x => isE sc e x
  | .rng es, .Call (.Name x _) xs [] _ => decide (x = "range") && glOk sc x && isEs sc es xs && few3 xs
  | .enum e, .Call (.Name x _) [y] [] _ => decide (x = "enumerate") && glOk sc x && isE sc e y
  | .zip a b, .Call (.Name x _) [y, z] [] _ => decide (x = "zip") && glOk sc x && isE sc a y && isE sc b z
  | .items e, .Call (.Attribute x g apos) [] [] cpos => decide (g = "items") && isE sc e x && notSuper x && (apos.endLine == cpos.line)
  | .values e, .Call (.Attribute x g apos) [] [] cpos => decide (g = "values") && isE sc e x && notSuper x && (apos.endLine == cpos.line)
  | _, _ => false
end
def locB (sc : Scope) (n : Str) : Bool := decide (sc.names.lookup n = some .local)
mutual
def isS (sc : Scope) : S → Stmt → Bool
  | .expr e, .Expr x _ => isE T N sc e x && isCall x
  | .asg tg e, .Assign [t] x _ => isTg N sc tg t && isE T N sc e x && !(isTupE t && isTupE x)
  | .aug i e, .AugAssign (.Name x _) .Add y _ => stOk N sc x i && isE T N sc e y
  | .seti o i e, .Assign [.Subscript x y _] z _ => isE T N sc o x && isE T N sc i y && isE T N sc e z && !isSlice y
  | .setf o c f e, .Assign [.Attribute x g _] z _ => decide (f = g) && isE T N sc o x && isE T N sc e z && (T.cl.any fun q => decide (q.1 = c) && decide (f ∈ q.2.2))
  | .ret e, .Return (some x) _ => isE T N sc e x
  | .retN, .Return none _ => true
  | .pass, .Pass _ => true
  | .raise c, .Raise (some (.Call (.Name x _) [.Constant (.str _) _ _] [] _)) none _ => decide (c = x) && glOk sc x && decide (c ∈ T.rz)
  | .tryE b c sub non i j, .Try body [.ExceptHandler (some (.Name x _)) (some n) [.Assign [.Name m _] (.Name n2 _) _] _] [] [] _ => decide (x = c) && decide (n2 = n) && glOk sc x && decide ((c, sub, non) ∈ T.ex) && nmOk N sc n i && stOk N sc m j && locB sc n && isSs sc b body
  | .never, _ => true
  | .ifs t a b, .If x y z _ => isE T N sc t x && isSs sc a y && isSs sc b z
  | .whl t b, .While x y [] _ => isE T N sc t x && isSs sc b y
  | .for_ tg it b, .For t i y [] _ => isTg N sc tg t && isI T N sc it i && (!nt it || isTupE t) && isSs sc b y
  | _, _ => false
def isSs (sc : Scope) : Ss → List Stmt → Bool
  | .cons (.wipe _) ss, xs => isSs sc ss xs
  | .nil, [] => true
  | .cons s ss, x :: xs => isS sc s x && isSs sc ss xs
  | _, _ => false
end
end
end Fs
set_option Elab.async false
set_option linter.all false
set_option maxRecDepth 100000
set_option maxHeartbeats 4000000
set_option autoImplicit false
set_option relaxedAutoImplicit false
namespace Fs
open PySem PySem.Spec PyProof.Rows L2
theorem and2 {a b : Bool} (h : (a && b) = true) : a = true ∧ b = true := Bool.and_eq_true_iff.mp h
section
variable {T : Tab} {X : Cx} {ca : Str → Addr} {F : Orc} {W : WX} {n : Nat} {N : List Str} {sc : Scope}
theorem dbg_of {x : Str} (h : dbg x = true) : (x == ("__debug__" : Str)) = false ∧ (x == ("__classdict__" : Str)) = false := by
  obtain ⟨h1, h2⟩ := and2 h
  exact ⟨by simpa using h1, by simpa using h2⟩
theorem gl_of (o : Ok T X ca F W n N sc) {x : Str} (h : glOk sc x = true) : Gl X x ∧ (x == ("__debug__" : Str)) = false ∧ x ≠ "__name__" := by
  obtain ⟨h1, h3⟩ := and2 h
  obtain ⟨h1, h2⟩ := and2 h1
  refine ⟨?_, (dbg_of h2).1, of_decide_eq_true h3⟩
  show X.env.scope.names.lookup x = _
  rw [o.hsc]
  exact of_decide_eq_true h1
theorem nm_of (o : Ok T X ca F W n N sc) {x : Str} {i : Nat} (h : nmOk N sc x i = true) : X.N[i]? = some x ∧ Vis X.env.scope x ∧ (x == ("__debug__" : Str)) = false ∧ (x == ("__classdict__" : Str)) = false := by
  obtain ⟨h1, h3⟩ := and2 h
  obtain ⟨h1, h2⟩ := and2 h1
  refine ⟨by rw [o.hN]; exact of_decide_eq_true h1, ?_, dbg_of h2⟩
  unfold Vis
  rw [o.hsc]
  split at h3 <;> first | exact .inl (by assumption) | exact .inr (.inl (by assumption)) | exact .inr (.inr (by assumption)) | cases h3
theorem st_of (o : Ok T X ca F W n N sc) {x : Str} {i : Nat} (h : stOk N sc x i = true) : X.N[i]? = some x ∧ L2.Loc X.env.scope x := by
  obtain ⟨h1, h3⟩ := and2 h
  refine ⟨by rw [o.hN]; exact of_decide_eq_true h1, ?_⟩
  unfold L2.Loc
  rw [o.hsc]
  split at h3 <;> first | exact .inl (by assumption) | exact .inr (by assumption) | cases h3
theorem op_of (o : Ok T X ca F W n N sc) {b : Bop} {op : Operator} (h : opOk b op = true) : OpR X (binaryOp op) (r2 X.K ca fun h u v => bop h b u v) := by
  cases b <;> cases op <;> first | cases h | skip
  · exact o_add
  · exact o_sub
  · exact o_mul
  · exact o_fdiv
  · exact o_mod
  · exact o_pow
theorem cop_of (o : Ok T X ca F W n N sc) {b : Cop} {op : CmpOp} (h : copOk b op = true) : OpR X (compareOp op) (r2 X.K ca (b2 fun h u v => cop h b u v)) := by
  have hu := o.room.units
  cases b <;> cases op <;> first | cases h | skip
  · exact o_eq hu
  · exact o_ne hu
  · exact o_lt hu
  · exact o_le
  · exact o_gt
  · exact o_ge
  · exact o_is
  · exact o_isn
  · exact o_in hu
  · exact o_nin hu
theorem plain_ix {y : Expr} (h : isSlice y = false) : PlainIx y := by
  intro o i
  cases y <;> first | rfl | cases h
/-- three parts and two comparisons -/
theorem i_chain {ρ : List Addr} {P H : Hp} {σ : SL} {h : Hep} {env : Evn} {a b c : E} {o p : Cop} {Q : VK} (R : Rl X.K ca ρ P h H) (re : RE ρ H env σ)
    (q : PoR X.K ca W ρ P H σ (GE X.K ca ρ P H Q) (evE F (.chain o p a b c) env h)) :
    tChain (r2 X.K ca (b2 fun h u v => cop h o u v)) (r2 X.K ca (b2 fun h u v => cop h p u v)) (tE X.K ca F W a) (tE X.K ca F W b) (tE X.K ca F W c) σ H Q := by
  simp only [evE] at q
  refine ⟨ρ, P, env, h, R, re, q.bind.imp fun u h1 p1 => ?_⟩
  intro x ρ1 P1 H1 e1 R1 r1
  refine ⟨ρ1, P1, env, h1, R1, re.low e1.low, p1.bind.ext e1 fun v h2 p2 => ?_⟩
  intro y ρ2 P2 H2 e2 R2 r2
  obtain ⟨k, ek, p3⟩ := p2.bind.of
  refine ⟨ρ2, P2, P, h2, u, v, .bl k, R2, r1.ext (P1 := P1) e2, r2.less e1.pin, by show Option.map Val.bl (cop h2 o u v) = _; rw [ek]; rfl, ?_⟩
  intro z ρ3 P3 H3 e3 R3 r3
  refine ⟨k, r3.bl, ?_⟩
  have e123 := e1.trans (e2.trans e3)
  cases k with
  | true =>
    rw [if_pos rfl] at p3
    refine iteT ⟨ρ3, P3, env, h2, R3, re.low e123.low, p3.bind.ext e123 fun w h4 p4 => ?_⟩
    intro w' ρ4 P4 H4 e4 R4 r4
    rw [of_map] at p4
    obtain ⟨k', ek', g⟩ := p4.of
    exact ⟨ρ4, P4, P, h4, v, w, k', R4, (r2.ext (P1 := P1) (e3.trans e4)).less e1.pin, r4.less e123.pin, ek', g.gd (e123.trans e4)⟩
  | false =>
    rw [if_neg Bool.false_ne_true] at p3
    refine iteF ?_
    exact GE.now (GE.ext e123 p3) R3 RV.mk_bl
theorem notStar_of {e : E} {x : Expr} (h : isE T N sc e x = true) : ∀ y p, x ≠ .Starred y p := by
  intro y p q
  subst q
  cases e <;> (unfold isE at h; first | exact absurd (Bool.and_eq_true_iff.mp h).2 Bool.false_ne_true | cases h)
theorem star_cons {x : Expr} {xs : List Expr} {env : Env} (h : ∀ y p, x ≠ .Starred y p) : starEach (x :: xs) env = (false, eval x env) :: starEach xs env := by
  cases x <;> first | rfl | exact absurd rfl (h _ _)
theorem star_any : ∀ {es : Es} {xs : List Expr} {env : Env} {pos : Pos}, isEs T N sc es xs = true → (backTo pos (starEach xs env)).any (·.1) = false
  | .nil, [], _, _, _ => rfl
  | .nil, _ :: _, _, _, h => by unfold isEs at h; cases h
  | .cons e es, [], _, _, h => by unfold isEs at h; cases h
  | .cons e es, x :: xs, env, pos, h => by
    unfold isEs at h
    obtain ⟨h1, h2⟩ := and2 h
    rw [star_cons (notStar_of h1)]
    show (_ || _) = false
    first
      | exact star_any (env := env) (pos := pos) h2
      | (simp only [backTo, List.map_cons, List.any_cons, Bool.false_or]; exact star_any (env := env) (pos := pos) h2)
/-! ### the nodes -/
theorem n_bin (o : Ok T X ca F W n N sc) {b : Bop} {op : Operator} {e f : E} {x y : Expr} {pos : Pos} (h : opOk b op = true) (h1 : PE X x (tE X.K ca F W e)) (h2 : PE X y (tE X.K ca F W f)) : PE X (.BinOp x op y pos) (tE X.K ca F W (.bin b e f)) :=
  PE.imp (pe_op (op_of o h) h1 h2) fun σ H Q ⟨ρ, P, env, hh, R, re, p⟩ => i_two (f := fun h u v => bop h b u v) R re (by simp only [evE] at p; exact p)
theorem n_cmp (o : Ok T X ca F W n N sc) {b : Cop} {op : CmpOp} {e f : E} {x y : Expr} {pos : Pos} (h : copOk b op = true) (hm : behindInMarks op y = false) (h1 : PE X x (tE X.K ca F W e)) (h2 : PE X y (tE X.K ca F W f)) :
    PE X (.Compare x [op] [y] pos) (tE X.K ca F W (.cmp b e f)) ∧ PT X (.Compare x [op] [y] pos) (tT X.K ca F W (.cmp b e f)) := by
  have key : ∀ σ H Q, tE X.K ca F W (.cmp b e f) σ H Q → tOp (r2 X.K ca (b2 fun h u v => cop h b u v)) (tE X.K ca F W e) (tE X.K ca F W f) σ H Q := fun σ H Q ⟨ρ, P, env, hh, R, re, p⟩ => by
    refine i_two (f := b2 fun h u v => cop h b u v) R re ?_
    simp only [evE, of_map] at p
    exact p
  refine ⟨PE.imp (pe_cmpR (cop_of o h) h1 h2 hm) key, PT.imp (pt_cmpR (cop_of o h) h1 h2 hm) fun σ H Q q => ?_⟩
  refine key σ H _ ?_
  obtain ⟨ρ, P, env, hh, R, re, p⟩ := q
  refine ⟨ρ, P, env, hh, R, re, ?_⟩
  simp only [evT, evE] at p ⊢
  generalize evE F e env hh = r1 at p ⊢
  cases r1 with
  | bad => exact p
  | ex x h => exact p
  | ok u h1 =>
    simp only [Res.bind] at p ⊢
    generalize evE F f env h1 = r2 at p ⊢
    cases r2 with
    | bad => exact p
    | ex x h => exact p
    | ok v h2 =>
      simp only [Res.bind] at p ⊢
      cases q : cop h2 b u v with
      | none => rw [q] at p; exact p
      | some k =>
        rw [q] at p
        exact fun z ρ' P' H' e' R' r' => ⟨k, r'.bl, p ρ' P' H' e' R'⟩
theorem tT_of_tE {e : E} (he : ∀ σ h, evT F e σ h = (evE F e σ h).bind fun v h1 => Res.of (tru h1 v) h1) {K : PySem.W.Frag} {σ : SL} {H : Hp} {Q : Bool → Hp → Prop} (q : tT K ca F W e σ H Q) :
    tE K ca F W e σ H fun x H' => rT K ca x H' Q := by
  obtain ⟨ρ, P, env, h, R, re, p⟩ := q
  rw [he] at p
  refine ⟨ρ, P, env, h, R, re, p.bind.imp fun u h1 p1 => ?_⟩
  intro z ρ' P' H' e' R' r'
  obtain ⟨k, ek, g⟩ := p1.of
  exact ⟨ρ', P', P, h1, u, k, R', r', ek, g ρ' P' H' e' R'⟩
/-- a test by its value's truth -/
theorem n_truth {e : E} {x : Expr} (he : ∀ σ h, evT F e σ h = (evE F e σ h).bind fun v h1 => Res.of (tru h1 v) h1) (hp : ∀ whole, isTrue x X.env whole = (do let v ← whole; standAt x.pos; holding [v] (truthy v)))
    (h1 : PE X x (tE X.K ca F W e)) : PT X x (tT X.K ca F W e) :=
  PT.imp (pt_truth h1 hp) fun σ H Q q => by
    obtain ⟨ρ, P, env, h, R, re, p⟩ := tT_of_tE he q
    refine ⟨ρ, P, env, h, R, re, p.imp fun u h1 g z ρ' P' H' e' R' r' => ?_⟩
    exact tru_imp (g z ρ' P' H' e' R' r')
theorem n_chain (o : Ok T X ca F W n N sc) {b c : Cop} {op oq : CmpOp} {e f g : E} {x y z : Expr} {pos : Pos} (h : copOk b op = true) (h' : copOk c oq = true) (hm : behindInMarks op y = false) (hm' : behindInMarks oq z = false)
    (h1 : PE X x (tE X.K ca F W e)) (h2 : PE X y (tE X.K ca F W f)) (h3 : PE X z (tE X.K ca F W g)) :
    PE X (.Compare x [op, oq] [y, z] pos) (tE X.K ca F W (.chain b c e f g)) ∧ PT X (.Compare x [op, oq] [y, z] pos) (tT X.K ca F W (.chain b c e f g)) := by
  have lm : lastMarks [op, oq] [y, z] = false := by
    show behindInMarks oq z = false
    exact hm'
  refine ⟨PE.imp (pe_chain (cop_of o h) (cop_of o h') h1 h2 h3 lm) fun σ H Q ⟨ρ, P, env, hh, R, re, p⟩ => i_chain R re p, PT.imp (pt_chain (cop_of o h) (cop_of o h') h1 h2 h3 lm) fun σ H Q q => ?_⟩
  have q' := tT_of_tE (e := .chain b c e f g) (fun _ _ => by simp only [evT]) q
  obtain ⟨ρ, P, env, hh, R, re, p⟩ := q'
  refine i_chain R re ?_
  cases hr : evE F (.chain b c e f g) env hh with
  | bad => rw [hr] at p; exact p
  | ex x h => rw [hr] at p; exact p
  | ok u h1 =>
    rw [hr] at p
    have isb : ∃ k, u = .bl k := by
      simp only [evE] at hr
      generalize evE F e env hh = r1 at hr
      cases r1 with
      | bad => cases hr
      | ex x h => cases hr
      | ok u1 h1' =>
        simp only [Res.bind] at hr
        generalize evE F f env h1' = r2 at hr
        cases r2 with
        | bad => cases hr
        | ex x h => cases hr
        | ok u2 h2' =>
          simp only [Res.bind] at hr
          cases q : cop h2' b u1 u2 with
          | none => rw [q] at hr; cases hr
          | some k =>
            rw [q] at hr
            simp only [Res.of] at hr
            cases k with
            | false => cases hr; exact ⟨_, rfl⟩
            | true =>
              rw [if_pos rfl] at hr
              generalize evE F g env h2' = r3 at hr
              cases r3 with
              | bad => cases hr
              | ex x h => cases hr
              | ok u3 h3' =>
                simp only [Res.bind] at hr
                cases q' : cop h3' c u2 u3 with
                | none => rw [q'] at hr; cases hr
                | some k' => rw [q'] at hr; cases hr; exact ⟨_, rfl⟩
    obtain ⟨k, rfl⟩ := isb
    intro z ρ' P' H' e' R' r'
    refine ⟨k, r'.bl, ?_⟩
    obtain ⟨ρ2, P2, P02, h2, u2, k2, R2, r2, et, q2⟩ := p z ρ' P' H' e' R' r'
    have ez := r'.bl
    subst ez
    cases u2 with
    | bl b2' =>
      have := r2.bl
      cases this
      cases et
      exact q2
    | non => have := r2.non; cases this
    | int _ => have := r2.int; cases this
    | str _ => have := r2.str; cases this
    | tup _ => obtain ⟨_, _, z, _⟩ := r2.tup; cases z
    | ref _ => obtain ⟨_, z, _⟩ := r2.ref; cases z
    | tl _ => obtain ⟨_, _, z, _⟩ := r2; cases z
theorem n_idx (o : Ok T X ca F W n N sc) {e f : E} {x y : Expr} {pos : Pos} (hs : isSlice y = false) (h1 : PE X x (tE X.K ca F W e)) (h2 : PE X y (tE X.K ca F W f)) : PE X (.Subscript x y pos) (tE X.K ca F W (.idx e f)) :=
  PE.imp (pe_ix (o_ix (by have := o.room.units; omega)) h1 h2 (plain_ix hs)) fun σ H Q ⟨ρ, P, env, hh, R, re, p⟩ => i_two (f := ixO) R re (by simp only [evE] at p; exact p)
theorem n_neg (o : Ok T X ca F W n N sc) {e : E} {x : Expr} {pos : Pos} (h1 : PE X x (tE X.K ca F W e)) : PE X (.UnaryOp .USub x pos) (tE X.K ca F W (.neg e)) :=
  PE.imp (pe_un un_neg h1) fun σ H Q ⟨ρ, P, env, hh, R, re, p⟩ => by
    simp only [evE] at p
    refine ⟨ρ, P, env, hh, R, re, p.bind.imp fun u h1 p1 => ?_⟩
    intro z ρ' P' H' e' R' r'
    cases u <;> first | exact p1.elim | skip
    exact ⟨_, r'.int, GE.now (GE.ext e' p1) R' RV.mk_int⟩
theorem n_not (o : Ok T X ca F W n N sc) {e : E} {x : Expr} {pos : Pos} (h1 : PE X x (tE X.K ca F W e)) (h2 : PT X x (tT X.K ca F W e)) :
    PE X (.UnaryOp .Not x pos) (tE X.K ca F W (.not e)) ∧ PT X (.UnaryOp .Not x pos) (tT X.K ca F W (.not e)) := by
  refine ⟨PE.imp (pe_notT h1) fun σ H Q ⟨ρ, P, env, hh, R, re, p⟩ => ?_, PT.imp (pt_not h2) fun σ H Q ⟨ρ, P, env, hh, R, re, p⟩ => ?_⟩
  · simp only [evE] at p
    refine ⟨ρ, P, env, hh, R, re, p.bind.imp fun u h1 p1 => ?_⟩
    intro z ρ' P' H' e' R' r'
    obtain ⟨k, ek, g⟩ := p1.bind.of
    obtain ⟨k', t, q⟩ := tru_imp (X := X) (ca := ca) (Q := fun b _ => b = k) ⟨ρ', P', P, h1, u, k, R', r', ek, rfl⟩
    subst q
    exact ⟨k', t, GE.now (GE.ext e' g) R' RV.mk_bl⟩
  · simp only [evT] at p
    refine ⟨ρ, P, env, hh, R, re, p.bind.imp fun k h1 p1 => ?_⟩
    exact p1
theorem n_and (o : Ok T X ca F W n N sc) {e f : E} {x y : Expr} {r : List Expr} {pos : Pos} (h1 : PE X x (tE X.K ca F W e)) (t1 : PT X x (tT X.K ca F W e)) (h2 : PE X (.BoolOp .And (y :: r) pos) (tE X.K ca F W f)) (t2 : PW X (.BoolOp .And (y :: r) pos) (tT X.K ca F W f)) :
    PE X (.BoolOp .And (x :: y :: r) pos) (tE X.K ca F W (.and e f)) ∧ PW X (.BoolOp .And (x :: y :: r) pos) (tT X.K ca F W (.and e f)) := by
  refine ⟨PE.imp (pe_andT h1 h2) fun σ H Q ⟨ρ, P, env, hh, R, re, p⟩ => ?_, PW.imp (pw_and t1 t2) fun σ H Q ⟨ρ, P, env, hh, R, re, p⟩ => ?_⟩
  · simp only [evE] at p
    refine ⟨ρ, P, env, hh, R, re, p.bind.imp fun u h1 p1 => ?_⟩
    intro z ρ' P' H' e' R' r'
    obtain ⟨k, ek, g⟩ := p1.bind.of
    obtain ⟨k', t, q⟩ := tru_imp (X := X) (ca := ca) (Q := fun b _ => b = k) ⟨ρ', P', P, h1, u, k, R', r', ek, rfl⟩
    subst q
    refine ⟨k', t, ?_⟩
    cases k' with
    | true =>
      rw [if_pos rfl] at g
      exact iteT ⟨ρ', P', env, h1, R', re.low e'.low, g.ext e' fun w h2 g2 => GE.ext e' g2⟩
    | false =>
      rw [if_neg Bool.false_ne_true] at g
      exact iteF (g z ρ' P' H' e' R' r')
  · simp only [evT] at p
    refine ⟨ρ, P, env, hh, R, re, p.bind.imp fun k h1 p1 => ?_⟩
    intro ρ' P' H' e' R'
    cases k with
    | true =>
      rw [if_pos rfl] at p1
      exact iteT ⟨ρ', P', env, h1, R', re.low e'.low, p1.ext e' fun w h2 g2 => GB.ext e' g2⟩
    | false =>
      rw [if_neg Bool.false_ne_true] at p1
      exact iteF (p1 ρ' P' H' e' R')
theorem n_or (o : Ok T X ca F W n N sc) {e f : E} {x y : Expr} {r : List Expr} {pos : Pos} (h1 : PE X x (tE X.K ca F W e)) (t1 : PT X x (tT X.K ca F W e)) (h2 : PE X (.BoolOp .Or (y :: r) pos) (tE X.K ca F W f)) (t2 : PW X (.BoolOp .Or (y :: r) pos) (tT X.K ca F W f)) :
    PE X (.BoolOp .Or (x :: y :: r) pos) (tE X.K ca F W (.or e f)) ∧ PW X (.BoolOp .Or (x :: y :: r) pos) (tT X.K ca F W (.or e f)) := by
  refine ⟨PE.imp (pe_orT h1 h2) fun σ H Q ⟨ρ, P, env, hh, R, re, p⟩ => ?_, PW.imp (pw_or t1 t2) fun σ H Q ⟨ρ, P, env, hh, R, re, p⟩ => ?_⟩
  · simp only [evE] at p
    refine ⟨ρ, P, env, hh, R, re, p.bind.imp fun u h1 p1 => ?_⟩
    intro z ρ' P' H' e' R' r'
    obtain ⟨k, ek, g⟩ := p1.bind.of
    obtain ⟨k', t, q⟩ := tru_imp (X := X) (ca := ca) (Q := fun b _ => b = k) ⟨ρ', P', P, h1, u, k, R', r', ek, rfl⟩
    subst q
    refine ⟨k', t, ?_⟩
    cases k' with
    | false =>
      rw [if_neg Bool.false_ne_true] at g
      exact iteF ⟨ρ', P', env, h1, R', re.low e'.low, g.ext e' fun w h2 g2 => GE.ext e' g2⟩
    | true =>
      rw [if_pos rfl] at g
      exact iteT (g z ρ' P' H' e' R' r')
  · simp only [evT] at p
    refine ⟨ρ, P, env, hh, R, re, p.bind.imp fun k h1 p1 => ?_⟩
    intro ρ' P' H' e' R'
    cases k with
    | false =>
      rw [if_neg Bool.false_ne_true] at p1
      exact iteF ⟨ρ', P', env, h1, R', re.low e'.low, p1.ext e' fun w h2 g2 => GB.ext e' g2⟩
    | true =>
      rw [if_pos rfl] at p1
      exact iteT (p1 ρ' P' H' e' R')
theorem pw_one (o : Ok T X ca F W n N sc) {f : E} {y : Expr} {op : BoolOp} {pos : Pos} (t2 : PT X y (tT X.K ca F W f)) : PW X (.BoolOp op [y] pos) (tT X.K ca F W f) := by
  cases op with
  | And => exact pw_and1 t2
  | Or => exact pw_or1 t2
end
end Fs
set_option Elab.async false
set_option linter.all false
set_option maxRecDepth 100000
set_option maxHeartbeats 4000000
set_option autoImplicit false
set_option relaxedAutoImplicit false
namespace Fs
open PySem PySem.Spec PyProof.Rows L2
section
variable {K : PySem.W.Frag} {ca : Str → Addr} {ρ : List Addr} {P P0 H : Hp} {h : Hep}
theorem mapM_cons_some {α β : Type} {f : α → Option β} {x : α} {xs : List α} {ys : List β} (e : (x :: xs).mapM f = some ys) : ∃ y r, f x = some y ∧ xs.mapM f = some r ∧ ys = y :: r := by
  rw [List.mapM_cons] at e
  obtain ⟨y, e1, e2⟩ := bind_some e
  obtain ⟨r, e3, e4⟩ := bind_some e2
  cases e4
  exact ⟨y, r, e1, e3, rfl⟩
theorem mapM_nil_some {α β : Type} {f : α → Option β} {ys : List β} (e : ([] : List α).mapM f = some ys) : ys = [] := by
  rw [List.mapM_nil] at e
  cases e
  rfl
theorem two_of {a b : Val} {vs : List V} (r : RVs ρ H [a, b] vs) : ∃ x y, vs = [x, y] ∧ RV ρ H a x ∧ RV ρ H b y := by
  unfold RVs at r
  obtain ⟨x, t, rfl, r1, r2⟩ := r
  unfold RVs at r2
  obtain ⟨y, t, rfl, r2, r3⟩ := r2
  unfold RVs at r3
  subst r3
  exact ⟨x, y, rfl, r1, r2⟩
theorem pr_of {x : Val} {p : Val × Val} (e : (match x with | .tup [a, b] => some (a, b) | _ => none : Option (Val × Val)) = some p) : x = .tup [p.1, p.2] := by
  split at e
  · cases e; rfl
  · cases e
theorem dk_pairs : ∀ {xs : List Val} {ps : List (Val × Val)} {kvs : List (Key × Val)} {vs : List V}, isPr xs = some ps → (ps.mapM fun p => (keyOf p.1).map (·, p.2)) = some kvs → RVs ρ H xs vs →
    ∃ (as : List Addr) (ks : List (Key × V)), vs = as.map V.ref ∧ Paired (fun p kv => SqT K H p [kV kv.1, kv.2]) as ks ∧ RK ρ H kvs ks
  | [], ps, kvs, vs, e, e2, r => by
    have := mapM_nil_some e; subst this
    have := mapM_nil_some e2; subst this
    unfold RVs at r
    exact ⟨[], [], r, .nil, .nil⟩
  | x :: xs, ps, kvs, vs, e, e2, r => by
    obtain ⟨p, pr, e3, e4, rfl⟩ := mapM_cons_some e
    obtain ⟨kv, kr, e5, e6, rfl⟩ := mapM_cons_some e2
    have ex := pr_of e3
    subst ex
    unfold RVs at r
    obtain ⟨v, vr, rfl, r1, r2⟩ := r
    obtain ⟨as, ks, rfl, pp, rk⟩ := dk_pairs e4 e6 r2
    unfold RV at r1
    obtain ⟨a, ws, rfl, ha, rw'⟩ := r1
    obtain ⟨y, z, rfl, ry, rz⟩ := two_of rw'
    obtain ⟨k, ek, rfl⟩ := map_some e5
    have hk := keyOf_rv ry ek
    exact ⟨a :: as, (k, z) :: ks, rfl, .cons (sqT (by rw [ha, hk])) pp, .cons ⟨rfl, rz⟩ rk⟩
theorem dt_pairs : ∀ {xs : List Val} {ps : List (Val × Val)} {kvs : List (List Key × Val)} {vs : List V}, isPr xs = some ps → (ps.mapM fun p => (keysOf p.1).map (·, p.2)) = some kvs → RVs ρ H xs vs →
    ∃ (as : List Addr) (ts : List (List Key × Addr × V)), vs = as.map V.ref ∧ Paired (fun p t => SqT K H p [.ref t.2.1, t.2.2] ∧ H t.2.1 = some (.tup (t.1.map kV))) as ts ∧ RK ρ H kvs (ts.map fun t => (t.1, t.2.2))
  | [], ps, kvs, vs, e, e2, r => by
    have := mapM_nil_some e; subst this
    have := mapM_nil_some e2; subst this
    unfold RVs at r
    exact ⟨[], [], r, .nil, .nil⟩
  | x :: xs, ps, kvs, vs, e, e2, r => by
    obtain ⟨p, pr, e3, e4, rfl⟩ := mapM_cons_some e
    obtain ⟨kv, kr, e5, e6, rfl⟩ := mapM_cons_some e2
    have ex := pr_of e3
    subst ex
    unfold RVs at r
    obtain ⟨v, vr, rfl, r1, r2⟩ := r
    obtain ⟨as, ts, rfl, pp, rk⟩ := dt_pairs e4 e6 r2
    unfold RV at r1
    obtain ⟨a, ws, rfl, ha, rw'⟩ := r1
    obtain ⟨y, z, rfl, ry, rz⟩ := two_of rw'
    obtain ⟨k, ek, rfl⟩ := map_some e5
    obtain ⟨b, rfl, hb⟩ := keysOf_rel (P := H) (P0 := H) (RR.of ry) ek
    exact ⟨a :: as, (k, b, z) :: ts, rfl, .cons ⟨sqT ha, hb⟩ pp, .cons ⟨rfl, rz⟩ rk⟩
theorem fold_put {κ : Type} [DecidableEq κ] {kvs : List (κ × Val)} {ks : List (κ × V)} (r : RK ρ H kvs ks) : ∀ {acc : List (κ × Val)} {ac : List (κ × V)}, RK ρ H acc ac → RK ρ H (kvs.foldl (fun acc kv => put acc kv.1 kv.2) acc) (ks.foldl (fun acc kv => putK acc kv.1 kv.2) ac) := by
  induction r with
  | nil => intro acc ac q; exact q
  | @cons p q l m hp hr ih =>
    intro acc ac q0
    have e := put_rel q0 p.1 hp.2
    rw [List.foldl_cons, List.foldl_cons]
    refine ih ?_
    rw [← hp.1]
    exact e
end
section
variable {X : Cx} {ca : Str → Addr}
theorem pairsT_of {pins : List (Addr × Obj)} {σ : SL} {H : Hp} {s : Shared} (I : L2.Inv X pins σ H s) : ∀ {as : List Addr} {ts : List (List Key × Addr × V)}, Paired (fun p t => SqT X.K H p [.ref t.2.1, t.2.2] ∧ H t.2.1 = some (.tup (t.1.map kV))) as ts →
    ∃ prs : List (List Key × Addr × Value), KT H (ts.map fun t => (t.1, t.2.2)) prs ∧ prs.length = as.length ∧ ∀ (j : Nat) (q : List Key × Addr × Value), prs[j]? = some q → ∃ (b : Addr), as[j]? = some b ∧ IsTup s.heap b #[.ref q.2.1, q.2.2] ∧ H q.2.1 = some (.tup (q.1.map kV))
  | _, _, .nil => ⟨[], .nil, rfl, fun j q e => by simp at e⟩
  | _, _, .cons (a := p) (b := t) hh tt => by
    obtain ⟨prs, r, hl, hp⟩ := pairsT_of I tt
    obtain ⟨its, rv, ht, _⟩ := I.tuple hh.1
    obtain ⟨u, y, ei, ru, ry⟩ := rv.two
    subst ei
    cases ru
    refine ⟨(t.1, t.2.1, y) :: prs, .cons ⟨rfl, hh.2, ry⟩ r, by simp [hl], fun j q e => ?_⟩
    cases j with
    | zero =>
      have e' : (t.1, t.2.1, y) = q := Option.some.inj e
      subst e'
      exact ⟨p, rfl, ht, hh.2⟩
    | succ j => exact hp j q (by simpa using e)
theorem KT_all {H : Hp} {kvs : List (List Key × V)} {prs : List (List Key × Addr × Value)} (r : KT H kvs prs) : ∀ {acc : List (List Key × V)} {xs : List (List Key × Addr × Value)}, KT H acc xs → KT H (kvs.foldl (fun acc kv => putK acc kv.1 kv.2) acc) (storedAllH xs prs) := by
  induction r with
  | nil => intro acc xs q; exact q
  | @cons p q l m hp hr ih =>
    intro acc xs q0
    have e := q0.put p.1 hp.2.1 hp.2.2
    show KT H (l.foldl (fun acc kv => putK acc kv.1 kv.2) (putK acc p.1 p.2)) (storedAllH (storedH xs q.1 q.2.1 q.2.2) m)
    refine ih ?_
    rw [← hp.1]
    exact e
theorem fold_len {κ : Type} [DecidableEq κ] : ∀ (more kvs : List (κ × V)), (more.foldl (fun acc kv => putK acc kv.1 kv.2) kvs).length ≤ kvs.length + more.length
  | [], kvs => by simp
  | p :: r, kvs => by
    have h1 := fold_len r (putK kvs p.1 p.2)
    have h2 := length_putK kvs p.1 p.2
    rw [List.foldl_cons, List.length_cons]
    omega
/-- dict(xs), the keys tuples -/
theorem call_dictT (hu : X.A.units + 64 < cLine) (hcalm : X.calm = true) {pins : List (Addr × Obj)} {σ : SL} {H : Hp} {s : Shared} {Q : VK} {a : Addr} {as : List Addr} {ts : List (List Key × Addr × V)} (I : L2.Inv X pins σ H s) (hq : H a = some (.lst (as.map V.ref)))
    (hp : Paired (fun p t => SqT X.K H p [.ref t.2.1, t.2.2] ∧ H t.2.1 = some (.tup (t.1.map kV))) as ts)
    (q : ∀ p, H p = none → Q (.ref p) (upd H p (.dT ((ts.map fun t => (t.1, t.2.2)).foldl (fun acc kv => putK acc kv.1 kv.2) [])))) : wpAny (model X.prog X.w) X.A (call (.type "dict") [.ref a]) (EP X pins σ Q) X.xe s := by
  obtain ⟨its, rv, pl, hz⟩ := I.list (sqL hq)
  have ei := refs_at rv
  subst ei
  rw [List.length_map] at hz
  obtain ⟨prs, rel, hl, hpr⟩ := pairsT_of I hp
  have nm : (s.heap.objs.size == sysModules) = false := beq_eq_false_iff_ne.mpr (Nat.ne_of_gt I.big)
  have items : PairItems s.heap (as.map Value.ref).toArray (fun j => as.getD j 0) (prs.map fun x => (Value.ref x.2.1, x.2.2)) := by
    refine ⟨by simp [hl], fun j k v e => ?_⟩
    rw [List.getElem?_map] at e
    cases e2 : prs[j]? with
    | none => rw [e2] at e; cases e
    | some x =>
      rw [e2] at e
      cases e
      obtain ⟨b, e3, e4, e5⟩ := hpr j x e2
      have e6 : as.getD j 0 = b := by rw [List.getD_eq_getElem?_getD, e3]; rfl
      refine ⟨?_, ?_⟩
      · simp [e3]
      · show PairAt s.heap (as.getD j 0) _ _
        rw [e6]
        exact .inl (show s.heap.IsTuple b _ from e4)
  refine call_dict_pairsH (knd := tupleKind (L2.mixKind X.prog X.w)) (PairArg.list a (as.map Value.ref).toArray (fun j => as.getD j 0) (prs.map fun x => (Value.ref x.2.1, x.2.2))) (I.ok.hd hcalm) ?_ ⟨pl, items⟩ (ps := prs) ⟨by simp, fun i key v e => ?_⟩ (fun h' hk x hx => ?_) (by simp [hl]; exact hz) fun h' tk hd' hk => ?_
  · exact tupleKind_room_in1 (A := X.A.in1) (show X.A.units + 1 + 1 < cLine by omega)
  · have e' : (prs.map fun x => (Value.ref x.2.1, x.2.2))[i]? = some (key, v) := e
    rw [List.getElem?_map] at e'
    cases e2 : prs[i]? with
    | none => rw [e2] at e'; cases e'
    | some x =>
      rw [e2] at e'
      cases e'
      exact ⟨x.1, x.2.1, rfl, rfl⟩
  · obtain ⟨j, e⟩ := List.getElem?_of_mem hx
    obtain ⟨b, _, _, e5⟩ := hpr j x e
    obtain ⟨o, its, n, h1, h2, h3, h4⟩ := key_of I.hok e5
    exact ⟨o, its, n, hk _ _ (Nat.ne_of_lt (Heap.lt_size h1)) (by simp) h1, h2, h3, h4⟩
  · have hf : H s.heap.objs.size = none := I.hok.fresh (Nat.le_refl _)
    have kt := KT_all rel (acc := []) (xs := []) .nil
    have hlen := fold_len (ts.map fun t => (t.1, t.2.2)) []
    rw [List.length_nil, Nat.zero_add, List.length_map] at hlen
    have hts : ts.length = as.length := (Paired.length hp).symm
    obtain ⟨o, es, ep, hq', h2, h3, h4, _, h5⟩ := hd'
    generalize hT : (ts.map fun t => (t.1, t.2.2)).foldl (fun acc kv => putK acc kv.1 kv.2) [] = T0 at kt hlen q
    refine ⟨.ref s.heap.objs.size, upd H s.heap.objs.size (.dT T0), I.laid (o := .dT T0) (t' := tk) (fun b o e => hk b o (by simp) e) (Nat.le_refl _) (show ObjOk X.prog X.w _ _ _ (.dT T0) from ⟨Nat.le_trans hlen (by omega), nm, storedAllH [] prs, kt.keeps fun c ys ec => ?_, o, es, ep, hq', h2, h3, h4, h5⟩), rfl, q _ hf⟩
    rw [upd_ne (ne_of_none ec hf)]
    exact ec
theorem c_dict' (hu : X.A.units + 64 < cLine) (hc : X.calm = true) : CallR X (.type "dict") (rn X.K ca dictB) := by
  intro pins s σ H xs us Q I r ⟨ρ, P, P0, h, ws, w, h', R, ra, e, g⟩
  unfold dictB at e
  split at e
  · rename_i v
    replace ra := ra.one
    obtain ⟨x, rfl, ra⟩ := ra
    obtain ⟨o, e1, e2⟩ := map_some e
    cases e2
    obtain ⟨ps, e3, e4⟩ := bind_some e1
    obtain ⟨ys, e5, e6⟩ := bind_some e3
    obtain ⟨a, vs, rfl, ha, rv⟩ := lst_at R ra e5
    have cas : (∃ kvs, ps.mapM (fun p => (keyOf p.1).map (·, p.2)) = some kvs ∧ o = .dK false (kvs.foldl (fun acc kv => put acc kv.1 kv.2) [])) ∨ ∃ kvs, ps.mapM (fun p => (keysOf p.1).map (·, p.2)) = some kvs ∧ o = .dT false (kvs.foldl (fun acc kv => put acc kv.1 kv.2) []) := by
      unfold newD at e4
      split at e4
      · rename_i hp
        cases e4
        rw [List.isEmpty_iff.mp hp]
        exact .inr ⟨[], rfl, rfl⟩
      · split at e4
        · rename_i kvs ek
          cases e4
          exact .inl ⟨kvs, ek, rfl⟩
        · split at e4
          · rename_i kvs ek
            cases e4
            exact .inr ⟨kvs, ek, rfl⟩
          · cases e4
    rcases cas with ⟨kvs, ek, rfl⟩ | ⟨kvs, ek, rfl⟩
    · obtain ⟨as, ks, rfl, pp, rk⟩ := dk_pairs e6 ek rv
      refine call_dictP hc pins s σ H [.ref a] us Q I r ⟨a, as, ks, rfl, sqL ha, pp, fun p hp => ?_⟩
      have rk' := fold_put rk (acc := []) (ac := []) .nil
      have ex : Ext ρ P H (ρ ++ [p]) P (upd H p (.dK (mergeK [] ks))) := ext_obj hp
      refine g (.ref p) (ρ ++ [p]) P _ ex (R.obj hp ⟨mergeK [] ks, upd_same, RK.low ex.low rk'⟩ fun z => z) (RR.of ?_)
      unfold RV
      exact ⟨p, rfl, by rw [← R.len]; simp⟩
    · obtain ⟨as, ts, rfl, pp, rk⟩ := dt_pairs (K := X.K) e6 ek rv
      obtain ⟨u, rfl, ru⟩ := r.one
      cases ru
      refine call_dictT hu hc I ha pp fun p hp => ?_
      have rk' := fold_put rk (acc := []) (ac := []) .nil
      generalize (ts.map fun t => (t.1, t.2.2)).foldl (fun acc kv => putK acc kv.1 kv.2) [] = ks at rk' ⊢
      have ex : Ext ρ P H (ρ ++ [p]) P (upd H p (.dT ks)) := ext_obj hp
      refine g (.ref p) (ρ ++ [p]) P _ ex (R.obj hp ⟨ks, upd_same, RK.low ex.low rk'⟩ fun z => z) (RR.of ?_)
      unfold RV
      exact ⟨p, rfl, by rw [← R.len]; simp⟩
  · cases e
end
end Fs
set_option Elab.async false
set_option linter.all false
set_option maxRecDepth 100000
set_option maxHeartbeats 4000000
set_option autoImplicit false
set_option relaxedAutoImplicit false
namespace Fs
open PySem PySem.Spec PyProof.Rows L2
/-- the value is of that builtin type (a dict may be frozen) -/
def tyV (K : PySem.W.Frag) (T : String) (x : V) (H : Hp) : Prop := L2.tyV K T x H ∨ (T = "dict" ∧ ∃ p o, x = .ref p ∧ ((∃ ks, H p = some (.frz o (.dK ks))) ∨ ∃ ks, H p = some (.frz o (.dT ks))))
theorem tyV_is {X : Cx} {pins : List (Addr × Obj)} {σ : SL} {H : Hp} {s : Shared} {T : String} {x : V} {v : Value} (I : Inv X pins σ H s) (r : RelV x v) (ty : tyV X.K T x H) :
    s.TypeIs v T ∧ ∀ a, v = .ref a → ∃ ob, s.heap.get? a = some ob ∧ ob.dict = none := by
  rcases ty with ty | ⟨rfl, p, o, rfl, hk⟩
  · exact L2.tyV_is I r ty
  · cases r
    have z : ∃ o, s.heap.get? p = some o ∧ o.ExactDict := by
      rcases hk with ⟨kvs, hk⟩ | ⟨kvs, hk⟩
      · obtain ⟨_, _, _, _, _, o, _, _, e, ex, _⟩ := I.hok p _ hk
        exact ⟨o, e, ex⟩
      · obtain ⟨_, _, _, _, _, o, _, _, e, ex, _⟩ := I.hok p _ hk
        exact ⟨o, e, ex⟩
    obtain ⟨o, e, ex⟩ := z
    refine ⟨⟨o, e, ex.1⟩, fun a e2 => ?_⟩
    cases e2
    exact ⟨o, e, ex.2.1⟩
def tBM0 (K : PySem.W.Frag) (T : String) (r : V → List V → Hp → VK → Prop) (to : TE) : TE := fun σ H Q => to σ H fun x H1 => tyV K T x H1 ∧ r x [] H1 Q
def tBM (K : PySem.W.Frag) (T : String) (r : V → List V → Hp → VK → Prop) (to : TE) (t : TA) : TE := fun σ H Q => to σ H fun x H1 => tyV K T x H1 ∧ t σ H1 fun xs H2 => r x xs H2 Q
section
variable {X : Cx} {o e : Expr} {es : List Expr} {to : TE} {t : TA} {name : Str} {apos cpos : Pos} {T id : String} {r : V → List V → Hp → VK → Prop}
theorem pe_bm0 (pa : PlainAttrs T) (slot : Slot T name id) (hty : typeOf (.builtin id) = pure (.type "method_descriptor")) (hm : MtR X id r) (ho : PE X o to)
    (hbase : attributeBase o name X.env (eval o X.env) = eval o X.env := by rfl) (hline : (apos.endLine == cpos.line) = true := by rfl) : PE X (.Call (.Attribute o name apos) [] [] cpos) (tBM0 X.K T r to) := by
  refine ⟨fun pins s σ H Q I h => ?_⟩
  refine wpAny_Call_method0_late hbase hline (thn (ho.run pins s σ H _ I h) fun v s1 ⟨x, H1, I1, r1, ty, q1⟩ => ?_)
  obtain ⟨h1, h2⟩ := tyV_is I1 r1 ty
  exact ⟨T, id, pa, slot, hty, h1, h2, Calls.callWith_builtin rfl (PySem.evalArgs_none (hm pins s1 σ H1 x [] v [] Q I1 r1 .nil q1))⟩
theorem pe_bm (pa : PlainAttrs T) (slot : Slot T name id) (hty : typeOf (.builtin id) = pure (.type "method_descriptor")) (hm : MtR X id r) (ho : PE X o to) (ha : PA X (e :: es) t)
    (hbase : attributeBase o name X.env (eval o X.env) = eval o X.env := by rfl)
    (hfew : ((backTo cpos (starEach (e :: es) X.env)).all (fun x => !x.1) && (backToKw cpos (keywordEach [] X.env)).all (fun x => x.1.isSome)
      && decide ((e :: es).length + ([] : List Keyword).length + (if ([] : List Keyword).isEmpty then 0 else 1) < 30)) = true := by rfl)
    (hline : (apos.endLine == cpos.line) = true := by rfl) (hs : starEach (e :: es) X.env = (false, eval e X.env) :: starEach es X.env := by rfl) (hplain : (backTo cpos (starEach es X.env)).any (·.1) = false := by rfl) :
    PE X (.Call (.Attribute o name apos) (e :: es) [] cpos) (tBM X.K T r to t) := by
  refine ⟨fun pins s σ H Q I h => ?_⟩
  refine wpAny_Call_method_late hbase hfew hline rfl (thn (ho.run pins s σ H _ I h) fun v s1 ⟨x, H1, I1, r1, ty, q1⟩ => ?_)
  obtain ⟨h1, h2⟩ := tyV_is I1 r1 ty
  refine ⟨T, id, pa, slot, hty, h1, h2, ?_⟩
  have hA := ha.run cpos pins s1 σ H1 _ I1 q1
  rw [hs] at hA ⊢
  refine Calls.callWith_builtin (by show (false || (backTo cpos (starEach es X.env)).any (·.1)) = false; rw [hplain] <;> rfl) (Calls.evalArgs_plain ?_)
  exact thn hA fun us s2 ⟨vs, H2, I2, r2, q2⟩ => hm pins s2 σ H2 x vs v us Q I2 r1 r2 q2
end
section
variable {K : PySem.W.Frag} {ca : Str → Addr} {F : Orc} {W : WX} {ρ ρ1 : List Addr} {P P0 P1 H H1 : Hp} {σ : SL} {h h1 : Hep} {env : Evn}
theorem mat_ok {u : Val} {z : V} (e : Ext ρ P H ρ1 P1 H1) (R : Rl K ca ρ1 P1 h1 H1) (r : RR ρ1 P1 P H1 u z) : ∃ ρ2 P2, Ext ρ P H ρ2 P2 H1 ∧ Rl K ca ρ2 P2 (mat u h1).2 H1 ∧ RV ρ2 H1 (mat u h1).1 z ∧ Low ρ1 H1 ρ2 H1 := by
  cases u with
  | tl xs =>
    obtain ⟨a, vs, rfl, ha, h0, r⟩ := r
    refine ⟨ρ1 ++ [a], delP P1 a, ext_mat h0 e, R.mat ha r, ?_, ?_⟩
    · show RV _ _ (.ref h1.length) _
      unfold RV
      exact ⟨a, rfl, by rw [← R.len]; simp⟩
    · exact ⟨fun n b e => by rw [List.getElem?_append_left (List.getElem?_eq_some_iff.mp e).1]; exact e, fun _ _ z => z⟩
  | _ => exact ⟨ρ1, P1, e, R, r, ⟨fun _ _ z => z, fun _ _ z => z⟩⟩
theorem GV.now {Q : List V → Hp → Prop} {u : List Val} {z : List V} (g : GV K ca ρ P H Q u h) (R : Rl K ca ρ P h H) (r : RVs ρ H u z) : Q z H := g z ρ P H Ext.refl R r
theorem GL.now {Q : List V → Hp → Prop} {u : List Val} {z : List V} (g : GL K ca ρ P H Q u h) (R : Rl K ca ρ P h H) (r : RRs ρ P P H u z) : Q z H := g z ρ P H Ext.refl R r
theorem RVs.rr : ∀ {us : List Val} {vs : List V}, RVs ρ H us vs → RRs ρ P P0 H us vs
  | [], _, r => by unfold RVs at r; exact r
  | x :: xs, _, r => by
    unfold RVs at r
    obtain ⟨v, t, rfl, h1, h2⟩ := r
    exact ⟨v, t, rfl, RR.of h1, RVs.rr h2⟩
theorem RVs.of1 {u : Val} {z : V} (r : RV ρ H u z) : RVs ρ H [u] [z] := RVs.cons r RVs.nil
theorem i_nil {Q : List V → Hp → Prop} (q : tEs K ca F W .nil σ H Q) : tNil σ H Q := by
  obtain ⟨ρ, P, env, h, R, re, p⟩ := q
  simp only [evEs] at p
  exact GV.now p R RVs.nil
theorem i_cons {e : E} {es : Es} {Q : List V → Hp → Prop} (q : tEs K ca F W (.cons e es) σ H Q) : tCons (tE K ca F W e) (tEs K ca F W es) σ H Q := by
  obtain ⟨ρ, P, env, h, R, re, p⟩ := q
  simp only [evEs] at p
  refine ⟨ρ, P, env, h, R, re, p.bind.imp fun u h1 p1 => ?_⟩
  intro x ρ1 P1 H1 e1 R1 r1
  obtain ⟨ρ2, P2, e2, R2, r2, _⟩ := mat_ok e1 R1 r1
  refine ⟨ρ2, P2, env, _, R2, re.low e2.low, p1.bind.ext e2 fun vs h3 g => ?_⟩
  intro zs ρ3 P3 H3 e3 R3 r3
  exact g (x :: zs) ρ3 P3 H3 (e2.trans e3) R3 (RVs.cons (r2.low e3.low) r3)
theorem i_rnil {Q : List V → Hp → Prop} (q : tEr K ca F W .nil σ H Q) : tNil σ H Q := by
  obtain ⟨ρ, P, env, h, R, re, p⟩ := q
  simp only [evEr] at p
  exact GL.now p R rfl
theorem i_rcons {e : E} {es : Es} {Q : List V → Hp → Prop} (q : tEr K ca F W (.cons e es) σ H Q) : tCons (tE K ca F W e) (tEr K ca F W es) σ H Q := by
  obtain ⟨ρ, P, env, h, R, re, p⟩ := q
  simp only [evEr] at p
  refine ⟨ρ, P, env, h, R, re, p.bind.imp fun u h1 p1 => ?_⟩
  intro x ρ1 P1 H1 e1 R1 r1
  refine ⟨ρ1, P1, env, _, R1, re.low e1.low, p1.bind.ext e1 fun vs h3 g => ?_⟩
  intro zs ρ3 P3 H3 e3 R3 r3
  exact g (x :: zs) ρ3 P3 H3 (e1.trans e3) R3 ⟨x, zs, rfl, r1.ext (P1 := P1) e3, r3.less e1.pin⟩
end
section
variable {T : Tab} {X : Cx} {ca : Str → Addr} {F : Orc} {W : WX} {n : Nat} {N : List Str} {sc : Scope}
theorem n_tup {es : Es} {xs : List Expr} {k : Nat} {pos : Pos} (h : PA X xs (tEs X.K ca F W es)) : PE X (.Tuple xs k pos) (tE X.K ca F W (.tup es)) :=
  PE.imp (pe_tup h) fun σ H Q ⟨ρ, P, env, hh, R, re, p⟩ => by
    simp only [evE] at p
    refine ⟨ρ, P, env, hh, R, re, p.bind.imp fun us h1 p1 => ?_⟩
    intro zs ρ1 P1 H1 e1 R1 r1
    split at p1
    · rename_i hl
      refine ⟨by rw [← r1.length, ← lim_eq]; exact hl, fun q hq => ?_⟩
      have ex : Ext ρ1 P1 H1 ρ1 P1 (upd H1 q (.tup zs)) := ext_upd_new hq
      refine p1 (.ref q) ρ1 P1 _ (e1.trans ex) (R1.grow hq) (RR.of ?_)
      unfold RV
      exact ⟨q, zs, rfl, upd_same, r1.low ex.low⟩
    · exact p1.elim
theorem n_lst {es : Es} {xs : List Expr} {pos : Pos} (h : PA X xs (tEs X.K ca F W es)) : PE X (.List xs pos) (tE X.K ca F W (.lst es)) :=
  PE.imp (pe_lst h) fun σ H Q ⟨ρ, P, env, hh, R, re, p⟩ => by
    simp only [evE] at p
    refine ⟨ρ, P, env, hh, R, re, p.bind.imp fun us h1 p1 => ?_⟩
    intro zs ρ1 P1 H1 e1 R1 r1
    split at p1
    · rename_i hl
      refine ⟨by rw [← r1.length, ← lim_eq]; exact hl, fun q hq => ?_⟩
      have ex := ext_tmp (u := .lst zs) R1 hq
      refine p1 (.ref q) ρ1 _ _ (e1.trans ex) (R1.tmp hq) ⟨q, zs, rfl, upd_same, ?_, r1.low ex.low⟩
      cases z : P q with
      | none => rfl
      | some o => rw [R1.pin _ _ (e1.pin _ _ z)] at hq; cases hq
    · exact p1.elim
theorem n_dnew {t : Bool} {pos : Pos} : PE X (.Dict [] [] pos) (tE X.K ca F W (.dnew t)) := by
  cases t with
  | true =>
    refine PE.imp pe_dnewT fun σ H Q ⟨ρ, P, env, hh, R, re, p⟩ q hq => ?_
    simp only [evE] at p
    refine p (.ref q) (ρ ++ [q]) P _ (ext_obj hq) (R.obj hq ?_ fun z => z) (RR.of ?_)
    · exact ⟨[], upd_same, .nil⟩
    · unfold RV
      exact ⟨q, rfl, by rw [← R.len]; simp⟩
  | false =>
    refine PE.imp pe_dnewK fun σ H Q ⟨ρ, P, env, hh, R, re, p⟩ q hq => ?_
    simp only [evE] at p
    refine p (.ref q) (ρ ++ [q]) P _ (ext_obj hq) (R.obj hq ?_ fun z => z) (RR.of ?_)
    · exact ⟨[], upd_same, .nil⟩
    · unfold RV
      exact ⟨q, rfl, by rw [← R.len]; simp⟩
/-- a slice's part -/
def tO (K : PySem.W.Frag) (ca : Str → Addr) (F : Orc) (W : WX) (e : Oe) : TO := fun σ H Q => ∃ ρ P env h, Rl K ca ρ P h H ∧ RE ρ H env σ ∧ PoR K ca W ρ P H σ (fun o h' => ∀ ρ' P' H', Ext ρ P H ρ' P' H' → Rl K ca ρ' P' h' H' → Q o H') (evO F e env h)
theorem n_none : PO X none (tO X.K ca F W .none) := ⟨fun pins s σ H Q I q => po_none.run pins s σ H Q I (by
  obtain ⟨ρ, P, env, hh, R, re, p⟩ := q
  simp only [evO] at p
  exact p ρ P H Ext.refl R)⟩
theorem n_some {e : E} {x : Expr} (h : PE X x (tE X.K ca F W e)) : PO X (some x) (tO X.K ca F W (.some e)) := ⟨fun pins s σ H Q I q => (po_some h).run pins s σ H Q I (by
  obtain ⟨ρ, P, env, hh, R, re, p⟩ := q
  simp only [evO] at p
  refine ⟨ρ, P, env, hh, R, re, p.bind.imp fun u h1 p1 => ?_⟩
  intro z ρ' P' H' e' R' r'
  cases u <;> first | exact p1.elim | skip
  exact ⟨_, r'.int, p1 ρ' P' H' e' R'⟩)⟩
theorem n_sl {e : E} {x : Expr} {lo hi : Oe} {l r : Option Expr} {p2 pos : Pos} (h : PE X x (tE X.K ca F W e)) (hl : PO X l (tO X.K ca F W lo)) (hr : PO X r (tO X.K ca F W hi)) : PE X (.Subscript x (.Slice l r none p2) pos) (tE X.K ca F W (.sl e lo hi)) :=
  PE.imp (pe_slice o_sl h hl hr) fun σ H Q ⟨ρ, P, env, hh, R, re, p⟩ => by
    simp only [evE] at p
    refine ⟨ρ, P, env, hh, R, re, p.bind.imp fun u h1 p1 => ?_⟩
    intro z ρ1 P1 H1 e1 R1 r1
    refine ⟨ρ1, P1, env, h1, R1, re.low e1.low, p1.bind.ext e1 fun ol h2 p2 => ?_⟩
    intro ρ2 P2 H2 e2 R2
    refine ⟨ρ2, P2, env, h2, R2, re.low (e1.trans e2).low, p2.bind.ext (e1.trans e2) fun or_ h3 p3 => ?_⟩
    intro ρ3 P3 H3 e3 R3
    obtain ⟨w, ew, g⟩ := p3.of
    exact ⟨ρ3, P3, P, h3, u, w, R3, r1.ext (P1 := P1) (e2.trans e3), ew, g.gd (e1.trans (e2.trans e3))⟩
theorem n_rev {e : E} {x : Expr} {k : Nat} {p1 p2 p3 pos : Pos} (h : PE X x (tE X.K ca F W e)) : PE X (.Subscript x (.Slice none none (some (.UnaryOp .USub (.Constant (.int 1) k p1) p2)) p3) pos) (tE X.K ca F W (.rev e)) :=
  PE.imp (pe_revL h) fun σ H Q ⟨ρ, P, env, hh, R, re, p⟩ => by
    simp only [evE] at p
    refine ⟨ρ, P, env, hh, R, re, p.bind.imp fun u h1 p1 => ?_⟩
    intro z ρ1 P1 H1 e1 R1 r1
    obtain ⟨w, ew, g⟩ := p1.of
    obtain ⟨xs, ex, rfl⟩ := map_some ew
    obtain ⟨a, vs, rfl, ha, rv⟩ := lst_at R1 r1 ex
    exact ⟨a, vs, rfl, sqL ha, fun q hq => Gd.tmp (g.gd e1) R1 rv.reverse hq⟩
theorem base_of {x : Expr} {f : Str} {env : Env} (h : notSuper x = true) : attributeBase x f env (eval x env) = eval x env := by
  cases x <;> first | rfl | skip
  rename_i fn args kw pos
  cases fn <;> first | rfl | skip
  cases args <;> first | rfl | skip
  cases kw <;> first | rfl | cases h
theorem tE.mono {K : PySem.W.Frag} {e : E} {σ : SL} {H : Hp} {Q Q' : VK} (k : ∀ z H, Q z H → Q' z H) (q : tE K ca F W e σ H Q) : tE K ca F W e σ H Q' := by
  obtain ⟨ρ, P, env, hh, R, re, p⟩ := q
  exact ⟨ρ, P, env, hh, R, re, p.imp fun u h1 g z ρ' P' H' e' R' r' => k _ _ (g z ρ' P' H' e' R' r')⟩
theorem star1_of {x : Expr} {env : Env} (h : ∀ y p, x ≠ .Starred y p) : starEach [x] env = [(false, eval x env)] := by
  rw [star_cons h]
  rfl
/-- a call of a def -/
theorem n_call (o : Ok T X ca F W n N sc) {f : Str} {d : Def} {es : Es} {x : Expr} {xs : List Expr} {p pos : Pos} (hf : f ∈ T.gl) (hl : T.fns.lookup f = some d) (hg : glOk sc f = true) (hst : isEs T N sc es (x :: xs) = true) (ha : PA X (x :: xs) (tEs X.K ca F W es)) :
    PE X (.Call (.Name f p) (x :: xs) [] pos) (tE X.K ca F W (.call f es)) := by
  obtain ⟨a, fd, fs, hm, hk⟩ := o.wo.fn f d hf hl
  obtain ⟨g1, g2, g3⟩ := gl_of o hg
  cases es with
  | nil => unfold isEs at hst; cases hst
  | cons e es =>
  have hst' := hst
  unfold isEs at hst'
  obtain ⟨s1, s2⟩ := and2 hst'
  refine PE.imp (pe_callS (E := WE W) fs.ok (o.room.mono (Nat.le_succ _)) g1 hm hk fs.bd (passAt o.tk) ha g2 (star_cons (notStar_of s1)) (star_any s2)) fun σ H Q ⟨ρ, P, env, hh, R, re, q⟩ => ?_
  simp only [evE] at q
  refine ⟨ρ, P, env, hh, R, re, q.bind.imp fun us h1 p1 => ?_⟩
  intro zs ρ1 P1 H1 e1 R1 r1
  have ne : F f us h1 ≠ .bad := fun e => by rw [e] at p1; exact p1
  refine ⟨by rw [← r1.length]; exact fs.ar us h1 ne, ρ1, P1, h1, us, R1, r1, ?_⟩
  cases hr : F f us h1 with
  | bad => exact ne hr
  | ok u h2 =>
    rw [hr] at p1
    exact fun z ρ2 P2 H2 e2 R2 r2 => p1 z ρ2 P2 H2 (e1.trans e2) R2 (RR.of r2)
  | ex y h2 =>
    rw [hr] at p1
    exact fun ρ2 P2 H2 cls dd e2 R2 x2 => p1 ρ2 P2 H2 cls dd (e1.trans e2) R2 x2
/-- a built-in by its promise -/
theorem i_blt {f : Hep → List Val → Option (Val × Hep)} {K : PySem.W.Frag} {es : Es} {σ : SL} {H : Hp} {Q : VK} {ρ : List Addr} {P : Hp} {env : Evn} {h : Hep} (R : Rl K ca ρ P h H) (re : RE ρ H env σ)
    (p : PoR K ca W ρ P H σ (GE K ca ρ P H Q) ((evEr F es env h).bind fun vs h1 => resO (f h1 vs))) : tCB (rn K ca f) (tEr K ca F W es) σ H Q := by
  refine ⟨ρ, P, env, h, R, re, p.bind.imp fun us h1 p1 => ?_⟩
  intro zs ρ1 P1 H1 e1 R1 r1
  obtain ⟨w, h', ew, g⟩ := p1.resO
  exact ⟨ρ1, P1, P, h1, us, w, h', R1, r1, ew, g.gd e1⟩
theorem free_of (o : Ok T X ca F W n N sc) {x : Str} (h : x ∈ (["len", "list", "tuple", "sorted", "sum", "max", "min", "all", "any", "dict", "int", "str", "repr", "range", "enumerate", "zip", "isinstance", "bool", "set"] : List Str)) : X.mg x = none := o.wo.free x h
theorem n_bltB (o : Ok T X ca F W n N sc) {id : String} {f : Hep → List Val → Option (Val × Hep)} {b : Blt} {es : Es} {x : Expr} {xs : List Expr} {p pos : Pos} {y : Str} (hb : ∀ h vs, bltF h b vs = f h vs) (hc : CallR X (.builtin id) (rn X.K ca f)) (hv : bootBuiltins y = some (.builtin id)) (hm : X.mg y = none)
    (hg : glOk sc y = true) (hst : isEs T N sc es (x :: xs) = true) (ha : PA X (x :: xs) (tEr X.K ca F W es)) : PE X (.Call (.Name y p) (x :: xs) [] pos) (tE X.K ca F W (.blt b es)) := by
  obtain ⟨g1, g2, g3⟩ := gl_of o hg
  cases es with
  | nil => unfold isEs at hst; cases hst
  | cons e es =>
  have hst' := hst
  unfold isEs at hst'
  obtain ⟨s1, s2⟩ := and2 hst'
  refine PE.imp (pe_callB hc g1 hm hv ha g3 g2 (star_cons (notStar_of s1)) (star_any s2)) fun σ H Q ⟨ρ, P, env, hh, R, re, q⟩ => ?_
  simp only [evE, hb] at q
  exact i_blt R re q
theorem n_bltT (o : Ok T X ca F W n N sc) {id : String} {f : Hep → List Val → Option (Val × Hep)} {b : Blt} {es : Es} {x : Expr} {xs : List Expr} {p pos : Pos} {y : Str} (hb : ∀ h vs, bltF h b vs = f h vs) (hc : CallR X (.type id) (rn X.K ca f)) (hv : bootBuiltins y = some (.type id)) (hm : X.mg y = none)
    (hg : glOk sc y = true) (hst : isEs T N sc es (x :: xs) = true) (ha : PA X (x :: xs) (tEr X.K ca F W es)) : PE X (.Call (.Name y p) (x :: xs) [] pos) (tE X.K ca F W (.blt b es)) := by
  obtain ⟨g1, g2, g3⟩ := gl_of o hg
  cases es with
  | nil => unfold isEs at hst; cases hst
  | cons e es =>
  have hst' := hst
  unfold isEs at hst'
  obtain ⟨s1, s2⟩ := and2 hst'
  refine PE.imp (pe_callTy hc g1 hm hv ha g3 g2 (star_cons (notStar_of s1)) (star_any s2)) fun σ H Q ⟨ρ, P, env, hh, R, re, q⟩ => ?_
  simp only [evE, hb] at q
  exact i_blt R re q
theorem n_blt (o : Ok T X ca F W n N sc) {b : Blt} {es : Es} {x : Expr} {xs : List Expr} {p pos : Pos} (ok : bltOk b = true) (hg : glOk sc (bltN b : Str) = true) (hst : isEs T N sc es (x :: xs) = true) (ha : PA X (x :: xs) (tEr X.K ca F W es)) :
    PE X (.Call (.Name (bltN b : Str) p) (x :: xs) [] pos) (tE X.K ca F W (.blt b es)) := by
  have hu := o.room.units
  cases b <;> first | cases ok | skip
  · exact n_bltB o (fun _ _ => rfl) c_len (by decide +kernel) (o.wo.free _ (by decide)) hg hst ha
  · exact n_bltT o (fun _ _ => rfl) (c_list o.calm) (by decide +kernel) (o.wo.free _ (by decide)) hg hst ha
  · exact n_bltT o (fun _ _ => rfl) c_tuple (by decide +kernel) (o.wo.free _ (by decide)) hg hst ha
  · exact n_bltB o (fun _ _ => rfl) (c_sorted hu) (by decide +kernel) (o.wo.free _ (by decide)) hg hst ha
  · exact n_bltB o (fun _ _ => rfl) (c_sum o.calm) (by decide +kernel) (o.wo.free _ (by decide)) hg hst ha
  · exact n_bltB o (fun _ _ => rfl) (c_max o.calm) (by decide +kernel) (o.wo.free _ (by decide)) hg hst ha
  · exact n_bltB o (fun _ _ => rfl) (c_min o.calm) (by decide +kernel) (o.wo.free _ (by decide)) hg hst ha
  · exact n_bltB o (fun _ _ => rfl) (c_all o.calm) (by decide +kernel) (o.wo.free _ (by decide)) hg hst ha
  · exact n_bltB o (fun _ _ => rfl) (c_any o.calm) (by decide +kernel) (o.wo.free _ (by decide)) hg hst ha
  · exact n_bltT o (fun _ _ => rfl) (c_dict' hu o.calm) (by decide +kernel) (o.wo.free _ (by decide)) hg hst ha
  · exact n_bltT o (fun _ _ => rfl) c_int (by decide +kernel) (o.wo.free _ (by decide)) hg hst ha
  · exact n_bltT o (fun _ _ => rfl) c_str (by decide +kernel) (o.wo.free _ (by decide)) hg hst ha
/-- a method by its promise -/
theorem i_bmE {f : Hep → Val → List Val → Option (Val × Hep)} {K : PySem.W.Frag} {ty : String} {m : Mt} {e : E} {es : Es} {t : TA} {σ : SL} {H : Hp} {Q : VK} (hm : ∀ h u vs, mtF h m u vs = f h u vs) (hty : ∀ {ρ P P0 H h u x}, Rl K ca ρ P h H → RR ρ P P0 H u x → recv h m u = true → tyV K ty x H)
    (ht : ∀ ρ P env h H Q, Rl K ca ρ P h H → RE ρ H env σ → PoR K ca W ρ P H σ (GL K ca ρ P H Q) (if keeps m = true then evEs F es env h else evEr F es env h) → t σ H Q)
    (q : tE K ca F W (.bm m e es) σ H Q) : tBM K ty (rm K ca f) (tE K ca F W e) t σ H Q := by
  obtain ⟨ρ, P, env, h, R, re, p⟩ := q
  simp only [evE] at p
  refine ⟨ρ, P, env, h, R, re, p.bind.imp fun u h1 p1 => ?_⟩
  intro x ρ1 P1 H1 e1 R1 r1
  split at p1
  · rename_i hr
    refine ⟨hty R1 r1 hr, ht ρ1 P1 env h1 H1 _ R1 (re.low e1.low) (p1.bind.ext e1 fun vs h2 p2 => ?_)⟩
    intro zs ρ2 P2 H2 e2 R2 r2
    obtain ⟨w, h', ew, g⟩ := p2.resO
    rw [hm] at ew
    exact ⟨ρ2, P2, P, h2, u, vs, w, h', R2, r1.ext (P1 := P1) e2, r2.less e1.pin, ew, g.gd (e1.trans e2)⟩
  · exact p1.elim
theorem i_bm0 {f : Hep → Val → List Val → Option (Val × Hep)} {K : PySem.W.Frag} {ty : String} {m : Mt} {e : E} {σ : SL} {H : Hp} {Q : VK} (hm : ∀ h u vs, mtF h m u vs = f h u vs) (hty : ∀ {ρ P P0 H h u x}, Rl K ca ρ P h H → RR ρ P P0 H u x → recv h m u = true → tyV K ty x H)
    (q : tE K ca F W (.bm m e .nil) σ H Q) : tBM0 K ty (rm K ca f) (tE K ca F W e) σ H Q := by
  obtain ⟨ρ, P, env, h, R, re, p⟩ := q
  simp only [evE, evEs, evEr] at p
  refine ⟨ρ, P, env, h, R, re, p.bind.imp fun u h1 p1 => ?_⟩
  intro x ρ1 P1 H1 e1 R1 r1
  split at p1
  · rename_i hr
    have p1' : PoR K ca W ρ P H σ (GE K ca ρ P H Q) (resO (mtF h1 m u [])) := by
      split at p1 <;> exact p1
    obtain ⟨w, h', ew, g⟩ := p1'.resO
    rw [hm] at ew
    exact ⟨hty R1 r1 hr, ρ1, P1, P, h1, u, [], w, h', R1, r1, rfl, ew, g.gd e1⟩
  · exact p1.elim
theorem ty_list {K : PySem.W.Frag} {ρ : List Addr} {P P0 H : Hp} {h : Hep} {u : Val} {x : V} (R : Rl K ca ρ P h H) (r : RR ρ P P0 H u x) (e : tyN h u = some .list) : tyV K "list" x H := by
  cases u <;> first | cases e | skip
  · rename_i n
    simp only [tyN] at e
    split at e <;> first | cases e | skip
    rename_i xs hn
    obtain ⟨a, rfl, ha⟩ := r.ref
    obtain ⟨vs, h1, h2⟩ := R.ob n _ a hn ha
    exact .inl (.inl ⟨rfl, vs, sqL h1⟩)
  · obtain ⟨a, vs, rfl, h1, _, _⟩ := r
    exact .inl (.inl ⟨rfl, vs, sqL (R.pin _ _ h1)⟩)
theorem ty_str {K : PySem.W.Frag} {ρ : List Addr} {P P0 H : Hp} {h : Hep} {u : Val} {x : V} (R : Rl K ca ρ P h H) (r : RR ρ P P0 H u x) (e : tyN h u = some .str) : tyV K "str" x H := by
  cases u <;> first | cases e | skip
  · have := r.str; subst this; exact .inl rfl
  · rename_i n
    simp only [tyN] at e
    split at e <;> cases e
theorem ty_dict {K : PySem.W.Frag} {ρ : List Addr} {P P0 H : Hp} {h : Hep} {u : Val} {x : V} (R : Rl K ca ρ P h H) (r : RR ρ P P0 H u x) (e : isDr h u = true) : tyV K "dict" x H := by
  unfold isDr at e
  split at e
  · rename_i n
    obtain ⟨a, rfl, ha⟩ := r.ref
    split at e
    · rename_i fz kvs hn
      cases fz with
      | false =>
        obtain ⟨ks, _, _, h3⟩ := dK_at R hn ha
        exact .inl (.inr (.inr (.inl ⟨rfl, .inl ⟨ks, h3 rfl⟩⟩)))
      | true =>
        obtain ⟨o, ks, h3, _⟩ := R.ob n _ a hn ha
        exact .inr ⟨rfl, a, o, rfl, .inl ⟨ks, h3⟩⟩
    · rename_i fz kvs hn
      cases fz with
      | false =>
        obtain ⟨ks, _, _, h3⟩ := dT_at R hn ha
        exact .inl (.inr (.inr (.inl ⟨rfl, .inr ⟨ks, h3 rfl⟩⟩)))
      | true =>
        obtain ⟨o, ks, h3, _⟩ := R.ob n _ a hn ha
        exact .inr ⟨rfl, a, o, rfl, .inr ⟨ks, h3⟩⟩
    · cases e
  · cases e
theorem isDr_of {h : Hep} {u : Val} (e : isD h u = true) : isDr h u = true := by
  unfold isD at e
  unfold isDr
  split at e
  · rename_i n
    show (match h[n]? with
      | some (.dK _ _) => true
      | some (.dT _ _) => true
      | _ => false) = true
    split at e
    · rename_i hn; rw [hn]
    · rename_i hn; rw [hn]
    · cases e
  · cases e
theorem few_of {es : Es} {x : Expr} {xs : List Expr} {cpos : Pos} {env : Env} (hst : isEs T N sc es (x :: xs) = true) (hl : (x :: xs).length < 20) :
    ((backTo cpos (starEach (x :: xs) env)).all (fun x => !x.1) && (backToKw cpos (keywordEach [] env)).all (fun x => x.1.isSome) && decide ((x :: xs).length + ([] : List Keyword).length + (if ([] : List Keyword).isEmpty then 0 else 1) < 30)) = true := by
  have h1 : (backTo cpos (starEach (x :: xs) env)).any (·.1) = false := star_any hst
  have h2 : (backTo cpos (starEach (x :: xs) env)).all (fun x => !x.1) = true := by
    rw [List.all_eq_true]
    intro y hy
    have := List.any_eq_false.mp h1 y hy
    simpa using this
  rw [h2]
  simp only [Bool.true_and, Bool.and_eq_true, decide_eq_true_eq]
  refine ⟨rfl, ?_⟩
  show (x :: xs).length + 0 + 0 < 30
  omega
theorem n_bmX (o : Ok T X ca F W n N sc) {ty id : String} {f : Hep → Val → List Val → Option (Val × Hep)} {m : Mt} {e : E} {es : Es} {ex : Expr} {xs : List Expr} {apos cpos : Pos} (hmt : ∀ h u vs, mtF h m u vs = f h u vs)
    (hty : ∀ {ρ P P0 H h u x}, Rl X.K ca ρ P h H → RR ρ P P0 H u x → recv h m u = true → tyV X.K ty x H) (pa : PlainAttrs ty) (slot : Slot ty (mtN m) id) (hdesc : typeOf (.builtin id) = pure (.type "method_descriptor")) (hm : MtR X id (rm X.K ca f))
    (hs : notSuper ex = true) (hline : (apos.endLine == cpos.line) = true) (hlen : xs.length < 20) (hst : isEs T N sc es xs = true) (ho : PE X ex (tE X.K ca F W e)) (ha : PA X xs (tEs X.K ca F W es)) (hr : PA X xs (tEr X.K ca F W es)) :
    PE X (.Call (.Attribute ex (mtN m) apos) xs [] cpos) (tE X.K ca F W (.bm m e es)) := by
  cases xs with
  | nil =>
    cases es with
    | cons _ _ => unfold isEs at hst; cases hst
    | nil => exact PE.imp (pe_bm0 pa slot hdesc hm ho (base_of hs) hline) fun σ H Q q => i_bm0 hmt hty q
  | cons x xs =>
    cases es with
    | nil => unfold isEs at hst; cases hst
    | cons e1 es =>
      have hst' := hst
      unfold isEs at hst'
      obtain ⟨s1, s2⟩ := and2 hst'
      cases hk : keeps m with
      | true => exact PE.imp (pe_bm pa slot hdesc hm ho ha (base_of hs) (few_of hst hlen) hline (star_cons (notStar_of s1)) (star_any s2)) fun σ H Q q => i_bmE hmt hty (fun ρ P env h H Q R re p => by
          rw [if_pos hk] at p
          exact ⟨ρ, P, env, h, R, re, p.imp fun vs h' g zs ρ' P' H' e' R' r' => g zs ρ' P' H' e' R' r'.rr⟩) q
      | false => exact PE.imp (pe_bm pa slot hdesc hm ho hr (base_of hs) (few_of hst hlen) hline (star_cons (notStar_of s1)) (star_any s2)) fun σ H Q q => i_bmE hmt hty (fun ρ P env h H Q R re p => by
          rw [if_neg (by rw [hk]; exact Bool.false_ne_true)] at p
          exact ⟨ρ, P, env, h, R, re, p⟩) q
theorem m_popD (hu : X.A.units + 1 < cLine) : MtR X "dict.pop" (rm X.K ca popD) := by
  intro pins s σ H x xs v us Q I rx r ⟨ρ, P, P0, h, u, ws, w, h', R, ra, rb, e, g⟩
  unfold popD at e
  split at e
  · rename_i n y
    obtain ⟨p, rfl, hp⟩ := ra.ref
    replace rb := rb.one
    obtain ⟨z, rfl, rb⟩ := rb
    split at e
    · rename_i kvs hn
      obtain ⟨k, e1, e2⟩ := bind_some e
      obtain ⟨y', e3, e4⟩ := map_some e2
      cases e4
      obtain ⟨ks, _, rk, h3⟩ := dK_at R hn hp
      replace h3 := h3 rfl
      have ez := keyOf_rel rb e1
      subst ez
      have rl := look_rel rk k
      rw [e3] at rl
      cases ev : valV ks k with
      | none => rw [ev] at rl; exact rl.elim
      | some v0 =>
        rw [ev] at rl
        cases rx
        obtain ⟨u1, rfl, r1⟩ := r.one
        refine d_pop I h3 r1 ev (.inl rfl) fun w' s' I' rw' => ⟨v0, _, I', rw', ?_⟩
        have rd := drp_rel rk k
        obtain ⟨R2, e2⟩ := R.write (o' := .dK false (drp kvs k)) (u' := .dK (dropK ks k)) hn hp (fun z => z) h3 (fun _ z => nomatch z) (fun _ _ z => nomatch z) (by
          refine ⟨_, upd_same, RK.low ?_ rd⟩
          exact ⟨fun _ _ z => z, fun b xs z => by rw [upd_ne (fun q => by rw [q, h3] at z; cases z)]; exact z⟩) (fun z => z)
        exact g _ _ _ _ e2 R2 (RR.of (RV.low e2.low _ _ rl))
    · cases e
  · cases e
theorem n_bm (o : Ok T X ca F W n N sc) {m : Mt} {e : E} {es : Es} {ex : Expr} {xs : List Expr} {apos cpos : Pos}
    (hs : notSuper ex = true) (hline : (apos.endLine == cpos.line) = true) (hlen : xs.length < 20) (hst : isEs T N sc es xs = true) (ho : PE X ex (tE X.K ca F W e)) (ha : PA X xs (tEs X.K ca F W es)) (hr : PA X xs (tEr X.K ca F W es)) :
    PE X (.Call (.Attribute ex (mtN m) apos) xs [] cpos) (tE X.K ca F W (.bm m e es)) := by
  have hu := o.room.units
  have hu1 : X.A.units + 1 < cLine := by omega
  cases m
  · exact n_bmX o (fun _ _ _ => rfl) (fun R r e => ty_list R r (of_decide_eq_true e)) PySem.F.plainAttrs_list PySem.F.slot_list_append PySem.F.type_list_append m_append hs hline hlen hst ho ha hr
  · exact n_bmX o (fun _ _ _ => rfl) (fun R r e => ty_list R r (of_decide_eq_true e)) PySem.F.plainAttrs_list PySem.F.slot_list_extend PySem.F.type_list_extend m_extend hs hline hlen hst ho ha hr
  · exact n_bmX o (fun _ _ _ => rfl) (fun R r e => ty_list R r (of_decide_eq_true e)) PySem.F.plainAttrs_list PySem.F.slot_list_pop PySem.F.type_list_pop m_pop hs hline hlen hst ho ha hr
  · exact n_bmX o (fun _ _ _ => rfl) (fun R r e => ty_list R r (of_decide_eq_true e)) PySem.F.plainAttrs_list PySem.F.slot_list_reverse PySem.F.type_list_reverse m_reverse hs hline hlen hst ho ha hr
  · exact n_bmX o (fun _ _ _ => rfl) (fun R r e => ty_dict R r e) PySem.F.plainAttrs_dict PySem.F.slot_dict_get PySem.F.type_dict_get (m_get hu1) hs hline hlen hst ho ha hr
  · exact n_bmX o (fun _ _ _ => rfl) (fun R r e => ty_dict R r (isDr_of e)) PySem.F.plainAttrs_dict PySem.F.slot_dict_pop PySem.F.type_dict_pop (m_popD hu1) hs hline hlen hst ho ha hr
  · exact n_bmX o (fun _ _ _ => rfl) (fun R r e => ty_str R r (of_decide_eq_true e)) PySem.F.plainAttrs_str PySem.F.slot_str_join PySem.F.type_str_join m_join hs hline hlen hst ho ha hr
  · exact n_bmX o (fun _ _ _ => rfl) (fun R r e => ty_str R r (of_decide_eq_true e)) PySem.F.plainAttrs_str PySem.F.slot_str_split PySem.F.type_str_split m_split hs hline hlen hst ho ha hr
  · exact n_bmX o (fun _ _ _ => rfl) (fun R r e => ty_str R r (of_decide_eq_true e)) PySem.F.plainAttrs_str PySem.F.slot_str_startswith PySem.F.type_str_startswith m_startswith hs hline hlen hst ho ha hr
  · exact n_bmX o (fun _ _ _ => rfl) (fun R r e => ty_str R r (of_decide_eq_true e)) PySem.F.plainAttrs_str PySem.F.slot_str_lower PySem.F.type_str_lower m_lower hs hline hlen hst ho ha hr
end
end Fs
set_option Elab.async false
set_option linter.all false
set_option maxRecDepth 100000
set_option maxHeartbeats 4000000
set_option autoImplicit false
set_option relaxedAutoImplicit false
namespace Fs
open PySem PySem.Spec PyProof.Rows L2
/-! ### calls without arguments, of methods, of classes, what is raised wished for at the caller's slots -/
section
variable {X : Cx} {CX : CXT} {k : Nat} {f C : Addr} {fd : FuncData} {ps : List Str} {sp : Sp} {E : SL → XK} {x m : Str} {p pos apos : Pos} {e o : Expr} {es : List Expr} {ta : TE} {t : TA}
theorem pe_callS0 (F : FnOk X.prog X.w X.K X.mg X.base CX k f fd ps sp) (hr : Room k X.A) (hg : Gl X x) (hm : X.mg x = some (.ref f)) (hk : PySem.W.keepIn X.K (.ref f) = true) (hb : Binds X.K fd ps []) (hx : ∀ σ, PassesAt CX X σ (E σ))
    (hdb : (x == ("__debug__" : Str)) = false) : PE X (.Call (.Name x p) [] [] pos) (tCallS sp E tNil) := by
  refine ⟨fun pins s σ H Q I h => ?_⟩
  refine wpAny_Call_Name_kw (ld_glob I hg hm ?_ hdb)
  exact PySem.W.callWith_K0 I.kIn hk (run_fnS (us := []) F hr hb (hx σ) I .nil h)
/-- o.m(..): read, called -/
theorem meth_eval {prog : Program} {w : World} {A : Around} {E : Value → Shared → Prop} {s : Shared} {env : Env} {args : List Expr} {Q : Value → Shared → Prop} (hbase : attributeBase o m env (eval o env) = eval o env)
    (hfew : methodCallForm (args.length + ([] : List Keyword).length) (backTo pos (starEach args env)) (backToKw pos (keywordEach [] env)) = true) (hline : (apos.endLine == pos.line) = true)
    (h : wpAny (model prog w) A (eval o env) (fun ov s₁ => ∀ pl : Sem Bool, wpAny (model prog w) A (getMethod ov m pl) (fun fx s₂ => wpAny (model prog w) A (callWith pos fx.1 fx.2 (backTo pos (starEach args env)) (backToKw pos (keywordEach [] env))) Q E s₂) E s₁) E s) :
    wpAny (model prog w) A (eval (.Call (.Attribute o m apos) args [] pos) env) Q E s := by
  rw [arm_eval_Call, hbase]
  refine wpAny_bind (wpAny_mono h (fun ov s₁ h₁ => ?_) fun _ _ e => e)
  refine wpAny_bind (wpAny_standAt ?_)
  have hpos : methodCallPos true o env apos pos = pure pos := by unfold methodCallPos; simp [hline]
  unfold methodCall
  rw [hfew]
  refine wpAny_bind (wpAny_holding (wpAny_mono (h₁ _) (fun fx s₂ h₂ => ?_) fun _ _ e => e))
  exact wpAny_bind (wpAny_of_eq hpos h₂)
def tMethZ (C : Addr) (m : Str) (sp : Sp) (E : SL → XK) (ta : TE) (t : TA) : TE := fun σ H Q => ta σ H fun x H1 => ∃ a dx fs, x = .ref a ∧ H1 a = some (.ins C dx fs) ∧ fs.lookup m = none ∧
  t σ H1 fun vs H2 => sp (x :: vs) H2 Q (E σ)
theorem pe_methZ (he : PE X o ta) (c : Cls X.K C) (hm : Meth X.K C m f) (F : FnOk X.prog X.w X.K X.mg X.base CX k f fd ps sp) (hr : Room k X.A) (hb : Binds X.K fd ps []) (hx : ∀ σ, PassesAt CX X σ (E σ)) (ha : PA X (e :: es) t)
    (hbase : attributeBase o m X.env (eval o X.env) = eval o X.env) (hfew : methodCallForm ((e :: es).length + ([] : List Keyword).length) (backTo pos (starEach (e :: es) X.env)) (backToKw pos (keywordEach [] X.env)) = true) (hline : (apos.endLine == pos.line) = true)
    (hst : starEach (e :: es) X.env = (false, eval e X.env) :: starEach es X.env) (hpl : (backTo pos (starEach es X.env)).any (·.1) = false) :
    PE X (.Call (.Attribute o m apos) (e :: es) [] pos) (tMethZ C m sp E ta t) := by
  refine ⟨fun pins s σ H Q I h => ?_⟩
  refine meth_eval hbase hfew hline (thn (he.run pins s σ H _ I h) fun u s1 ⟨x, H1, I1, rx, a, dx, fs, ex, ea, l, q⟩ pl => ?_)
  subst ex
  obtain rfl : u = Value.ref a := rx
  refine getmeth_ok I1 ea c hm l ?_
  refine PySem.W.callWith_K (first := [.ref a]) (h₀ := X.base) I.ok.mod.kin hm.kp (thn (ha.run pos pins s1 σ H1 _ I1 q) fun us s2 ⟨vs, H2, I2, r, q2⟩ => ⟨I2.kIn, ?_⟩) hst hpl
  exact run_fnS (us := .ref a :: us) (vs := .ref a :: vs) F hr hb (hx σ) I2 (.cons rfl r) q2
theorem pe_methZ0 (he : PE X o ta) (c : Cls X.K C) (hm : Meth X.K C m f) (F : FnOk X.prog X.w X.K X.mg X.base CX k f fd ps sp) (hr : Room k X.A) (hb : Binds X.K fd ps []) (hx : ∀ σ, PassesAt CX X σ (E σ))
    (hbase : attributeBase o m X.env (eval o X.env) = eval o X.env) (hline : (apos.endLine == pos.line) = true) :
    PE X (.Call (.Attribute o m apos) [] [] pos) (tMethZ C m sp E ta tNil) := by
  refine ⟨fun pins s σ H Q I h => ?_⟩
  refine meth_eval hbase rfl hline (thn (he.run pins s σ H _ I h) fun u s1 ⟨x, H1, I1, rx, a, dx, fs, ex, ea, l, q⟩ pl => ?_)
  subst ex
  obtain rfl : u = Value.ref a := rx
  refine getmeth_ok I1 ea c hm l ?_
  exact PySem.W.callWith_K0 (first := [.ref a]) I1.kIn hm.kp (run_fnS (us := [.ref a]) (vs := [.ref a]) F hr hb (hx σ) I1 (.cons rfl .nil) q)
theorem run_makeZ {pins : List (Addr × Obj)} {σ : SL} {H : Hp} {s : Shared} {Q : VK} {us : List Value} {vs : List V} (M : Mk X.K C f) (F : FnOk X.prog X.w X.K X.mg X.base CX k f fd ps sp) (hr : Room (k + 1) X.A) (hb : Binds X.K fd ps [])
    (hx : PassesAt CX X σ (E σ)) (I : Inv X pins σ H s) (r : Vals vs us)
    (h : ∀ x dx, H x = none → H dx = none → dx ≠ x → sp (.ref x :: vs) (upd (upd H dx (.own x)) x (.ins C dx [])) (fun v H2 => v = .non ∧ Q (.ref x) H2) (E σ)) :
    wpAny (model X.prog X.w) X.A (call (.ref C) us) (EP X pins σ Q) X.xe s := by
  have hq := h (s.heap.objs.size + 1) s.heap.objs.size (I.hok.fresh (Nat.le_succ _)) (I.hok.fresh (Nat.le_refl _)) (Nat.ne_of_lt (Nat.lt_succ_self _))
  have I2 := Inv.made (C := C) I
  have r2 : Vals (V.ref (s.heap.objs.size + 1) :: vs) (Value.ref (s.heap.objs.size + 1) :: us) := .cons rfl r
  have hl : ((Value.ref (s.heap.objs.size + 1) :: us) ++ ([] : List Value)).length = ps.length := by
    have e := r2.length
    rw [F.len _ _ _ _ hq] at e
    rw [List.append_nil]
    exact e.symm
  have hbb := hb _ (Value.ref (s.heap.objs.size + 1) :: us) I2.kIn hl
  rw [List.append_nil] at hbb
  refine wpAny_call (make_map (f := f) I.kIn M.makes M.init (beq_iff_eq.mp M.fn) (codeAny_mono (F.run _ X.stack _ _ ⟨Value.ref (s.heap.objs.size + 1) :: us, []⟩ (Value.ref (s.heap.objs.size + 1) :: us) _ _ (E σ) (hr.make C us [])
    (I2.env0.make C us []) hbb r2 hq) fun r s' hq' => ?_))
  cases r with
  | error e => exact hx pins _ _ e s' I2 hq'
  | ok fl =>
    cases fl with
    | ret u =>
      obtain ⟨v, H', I3, rv, ev, q3⟩ := I2.after hq'
      subst ev
      exact ⟨rv, ⟨V.ref (s.heap.objs.size + 1), H', I3, rfl, q3⟩⟩
    | next => exact False.elim hq'
    | brk => exact False.elim hq'
    | cont => exact False.elim hq'
def tMakeZ (C : Addr) (sp : Sp) (E : SL → XK) (t : TA) : TE := fun σ H Q => t σ H fun vs H1 => ∀ x dx, H1 x = none → H1 dx = none → dx ≠ x →
  sp (.ref x :: vs) (upd (upd H1 dx (.own x)) x (.ins C dx [])) (fun v H2 => v = .non ∧ Q (.ref x) H2) (E σ)
theorem pe_makeZ (M : Mk X.K C f) (F : FnOk X.prog X.w X.K X.mg X.base CX k f fd ps sp) (hr : Room (k + 1) X.A) (hg : Gl X x) (hm : X.mg x = some (.ref C)) (hb : Binds X.K fd ps []) (hx : ∀ σ, PassesAt CX X σ (E σ))
    (ha : PA X (e :: es) t) (hdb : (x == ("__debug__" : Str)) = false) (he : starEach (e :: es) X.env = (false, eval e X.env) :: starEach es X.env) (hpl : (backTo pos (starEach es X.env)).any (·.1) = false) :
    PE X (.Call (.Name x p) (e :: es) [] pos) (tMakeZ C sp E t) := by
  refine ⟨fun pins s σ H Q I h => ?_⟩
  refine wpAny_Call_Name_kw (ld_glob I hg hm ?_ hdb)
  refine PySem.W.callWith_K (h₀ := X.base) I.ok.mod.kin M.kp (thn (ha.run pos pins s σ H _ I h) fun us s1 ⟨vs, H1, I1, r, q⟩ => ⟨I1.kIn, ?_⟩) he hpl
  exact run_makeZ M F hr hb (hx σ) I1 r q
theorem pe_makeZ0 (M : Mk X.K C f) (F : FnOk X.prog X.w X.K X.mg X.base CX k f fd ps sp) (hr : Room (k + 1) X.A) (hg : Gl X x) (hm : X.mg x = some (.ref C)) (hb : Binds X.K fd ps []) (hx : ∀ σ, PassesAt CX X σ (E σ))
    (hdb : (x == ("__debug__" : Str)) = false) : PE X (.Call (.Name x p) [] [] pos) (tMakeZ C sp E tNil) := by
  refine ⟨fun pins s σ H Q I h => ?_⟩
  refine wpAny_Call_Name_kw (ld_glob I hg hm ?_ hdb)
  exact PySem.W.callWith_K0 I.kIn M.kp (run_makeZ (us := []) M F hr hb (hx σ) I .nil h)
end
section
variable {T : Tab} {X : Cx} {ca : Str → Addr} {F : Orc} {W : WX} {n : Nat} {N : List Str} {sc : Scope}
theorem lookup_none {ρ : List Addr} {H : Hp} {f : Str} : ∀ {fs : List (Str × Val)} {ks : List (Str × V)}, RK ρ H fs ks → fs.lookup f = none → ks.lookup f = none
  | [], _, .nil, _ => rfl
  | (g, u) :: fs, _, .cons (b := q) hp hr, e => by
    obtain ⟨g', v⟩ := q
    obtain ⟨rfl, rv⟩ := hp
    by_cases hg : (f == g) = true
    · rw [List.lookup_cons] at e
      simp only [hg] at e
      cases e
    · rw [List.lookup_cons] at e ⊢
      simp only [hg] at e ⊢
      exact lookup_none hr e
theorem RVs.plain {ρ : List Addr} {H : Hp} : ∀ {us : List Val} {vs : List V}, RVs ρ H us vs → ∀ u ∈ us, ∀ h, mat u h = (u, h)
  | [], _, _, u, hu, _ => by cases hu
  | x :: xs, _, r, u, hu, h => by
    unfold RVs at r
    obtain ⟨v, s, rfl, h1, h2⟩ := r
    rcases List.mem_cons.mp hu with rfl | hu
    · cases u <;> first | rfl | (unfold RV at h1; exact h1.elim)
    · exact RVs.plain h2 u hu h
theorem i_call {f : Str} {d : Def} {a : Addr} {fd : FuncData} {us : List Val} {zs : List V} {ρ1 : List Addr} {P P1 H H1 : Hp} {ρ : List Addr} {σ : SL} {h1 : Hep} {Q : VK} (fs : FnS X ca F n f d.ps a fd) (e1 : Ext ρ P H ρ1 P1 H1) (R1 : Rl X.K ca ρ1 P1 h1 H1) (r1 : RVs ρ1 H1 us zs)
    (p1 : PoR X.K ca W ρ P H σ (GE X.K ca ρ P H Q) (F f us h1)) : spR X.K ca F f d.ps zs H1 Q (WE W σ) := by
  have ne : F f us h1 ≠ .bad := fun e => by rw [e] at p1; exact p1
  refine ⟨by rw [← r1.length]; exact fs.ar us h1 ne, ρ1, P1, h1, us, R1, r1, ?_⟩
  cases hr : F f us h1 with
  | bad => exact ne hr
  | ok u h2 =>
    rw [hr] at p1
    exact fun z ρ2 P2 H2 e2 R2 r2 => p1 z ρ2 P2 H2 (e1.trans e2) R2 (RR.of r2)
  | ex y h2 =>
    rw [hr] at p1
    exact fun ρ2 P2 H2 cls dd e2 R2 x2 => p1 ρ2 P2 H2 cls dd (e1.trans e2) R2 x2
theorem n_call0 (o : Ok T X ca F W n N sc) {f : Str} {d : Def} {p pos : Pos} (hf : f ∈ T.gl) (hl : T.fns.lookup f = some d) (hg : glOk sc f = true) :
    PE X (.Call (.Name f p) [] [] pos) (tE X.K ca F W (.call f .nil)) := by
  obtain ⟨a, fd, fs, hm, hk⟩ := o.wo.fn f d hf hl
  obtain ⟨g1, g2, g3⟩ := gl_of o hg
  refine PE.imp (pe_callS0 (E := WE W) fs.ok (o.room.mono (Nat.le_succ _)) g1 hm hk fs.bd (passAt o.tk) g2) fun σ H Q ⟨ρ, P, env, hh, R, re, q⟩ => ?_
  simp only [evE, evEs] at q
  exact i_call (d := d) fs Ext.refl R RVs.nil q.bind
theorem meth_of (o : Ok T X ca F W n N sc) {c m : Str} {d : Def} (hc : (T.cl.any fun q => decide (q.1 = c) && decide (m ∈ q.2.1)) = true) (hl : T.fns.lookup (c ++ "." ++ m) = some d) :
    Cls X.K (ca c) ∧ ∃ a fd, FnS X ca F n (c ++ "." ++ m) d.ps a fd ∧ Meth X.K (ca c) m a := by
  obtain ⟨⟨c', ms, fs⟩, hm, hq⟩ := List.any_eq_true.mp hc
  obtain ⟨h1, h2⟩ := and2 hq
  have h1 := of_decide_eq_true h1
  have h2 := of_decide_eq_true h2
  simp only at h1 h2
  subst h1
  obtain ⟨k1, k2, k3, k4, k5, k6⟩ := o.wo.cls _ _ _ hm
  exact ⟨k1, k6 m h2 d hl⟩
theorem n_meth (o : Ok T X ca F W n N sc) {e : E} {c m : Str} {d : Def} {es : Es} {ex : Expr} {xs : List Expr} {apos cpos : Pos} (hs : notSuper ex = true) (hline : (apos.endLine == cpos.line) = true) (hlen : xs.length < 20) (hst : isEs T N sc es xs = true)
    (hc : (T.cl.any fun q => decide (q.1 = c) && decide (m ∈ q.2.1)) = true) (hl : T.fns.lookup (c ++ "." ++ m) = some d) (ho : PE X ex (tE X.K ca F W e)) (ha : PA X xs (tEs X.K ca F W es)) :
    PE X (.Call (.Attribute ex m apos) xs [] cpos) (tE X.K ca F W (.meth e c m es)) := by
  obtain ⟨k1, a, fd, fs, hm⟩ := meth_of o hc hl
  have key : ∀ {t : TA}, (∀ σ H Q, tEs X.K ca F W es σ H Q → t σ H Q) → ∀ σ H Q, tE X.K ca F W (.meth e c m es) σ H Q → tMethZ (ca c) m (spR X.K ca F (c ++ "." ++ m) d.ps) (WE W) (tE X.K ca F W e) t σ H Q := by
    intro t ht σ H Q ⟨ρ, P, env, hh, R, re, q⟩
    simp only [evE] at q
    refine ⟨ρ, P, env, hh, R, re, q.bind.imp fun u h1 p1 => ?_⟩
    intro z ρ1 P1 H1 e1 R1 r1
    split at p1
    · rename_i i
      obtain ⟨b, rfl, hb⟩ := r1.ref
      split at p1
      · rename_i c' fs' hn
        split at p1
        · rename_i hcc
          obtain ⟨rfl, hnone⟩ := hcc
          obtain ⟨dx, ks, h2, h3⟩ := R1.ob i _ b hn hb
          refine ⟨b, dx, ks, rfl, h2, lookup_none h3 hnone, ?_⟩
          refine ht σ H1 _ ⟨ρ1, P1, env, h1, R1, re.low e1.low, p1.bind.ext e1 fun us h4 p4 => ?_⟩
          intro zs ρ2 P2 H2 e2 R2 r2
          refine i_call (d := d) (ρ := ρ) (P := P) (H := H) fs (e1.trans e2) R2 (RVs.cons ?_ r2) p4
          unfold RV
          exact ⟨b, rfl, e2.at hb⟩
        · exact p1.elim
      · exact p1.elim
    · exact p1.elim
  cases xs with
  | nil =>
    cases es with
    | cons _ _ => unfold isEs at hst; cases hst
    | nil =>
      refine PE.imp (pe_methZ0 (E := WE W) ho k1 hm fs.ok (o.room.mono (Nat.le_succ _)) fs.bd (passAt o.tk) (base_of hs) hline) (key fun σ H Q ⟨ρ, P, env, hh, R, re, q⟩ => ?_)
      simp only [evEs] at q
      exact q [] ρ P H Ext.refl R RVs.nil
  | cons x xs =>
    cases es with
    | nil => unfold isEs at hst; cases hst
    | cons e' es =>
      have hst' := hst
      unfold isEs at hst'
      obtain ⟨s1, s2⟩ := and2 hst'
      exact PE.imp (pe_methZ (E := WE W) ho k1 hm fs.ok (o.room.mono (Nat.le_succ _)) fs.bd (passAt o.tk) ha (base_of hs) (few_of hst hlen) hline (star_cons (notStar_of s1)) (star_any s2)) (key fun σ H Q q => q)
theorem n_new (o : Ok T X ca F W n N sc) {c : Str} {d : Def} {es : Es} {xs : List Expr} {p pos : Pos} (hc : (T.cl.any fun q => decide (q.1 = c)) = true) (hl : T.fns.lookup c = some d) (hg : glOk sc c = true) (hst : isEs T N sc es xs = true) (ha : PA X xs (tEs X.K ca F W es)) :
    PE X (.Call (.Name c p) xs [] pos) (tE X.K ca F W (.call c es)) := by
  obtain ⟨⟨c', ms, ff⟩, hm, hq⟩ := List.any_eq_true.mp hc
  have hq := of_decide_eq_true hq
  simp only at hq
  subst hq
  obtain ⟨k, F1, a, fd, ps, hk, F1ok, hb, M, hF⟩ := o.wo.mkc _ _ _ hm d hl
  obtain ⟨k1, k2, _⟩ := o.wo.cls _ _ _ hm
  obtain ⟨g1, g2, g3⟩ := gl_of o hg
  have hr : Room (k + 1) X.A := o.room.mono (Nat.succ_le_succ hk)
  have key : ∀ {t : TA}, (∀ σ H Q, tEs X.K ca F W es σ H Q → t σ H Q) → ∀ σ H Q, tE X.K ca F W (.call c' es) σ H Q → tMakeZ (ca c') (spR X.K ca F1 (c' ++ ".__init__") ps) (WE W) t σ H Q := by
    intro t ht σ H Q ⟨ρ, P, env, hh, R, re, q⟩
    simp only [evE] at q
    refine ht σ H _ ⟨ρ, P, env, hh, R, re, q.bind.imp fun us h1 p1 => ?_⟩
    intro zs ρ1 P1 H1 e1 R1 r1 x dx nx ndx nex
    have ne : F c' us h1 ≠ .bad := fun e => by rw [e] at p1; exact p1
    obtain ⟨hlen, hE⟩ := hF us h1 (RVs.plain r1) ne
    rw [hE] at p1
    have R2 := R1.grow (p := dx) (u := .own x) ndx
    have nx2 : upd H1 dx (.own x) x = none := by rw [upd_ne nex.symm]; exact nx
    have R3 : Rl X.K ca (ρ1 ++ [x]) P1 (h1 ++ [.ins c' []]) (upd (upd H1 dx (.own x)) x (.ins (ca c') dx [])) := R2.obj nx2 ⟨dx, [], upd_same, .nil⟩ fun z => z
    have e3 : Ext ρ1 P1 H1 (ρ1 ++ [x]) P1 (upd (upd H1 dx (.own x)) x (.ins (ca c') dx [])) := (ext_upd_new ndx).trans (ext_obj nx2)
    have hx : (ρ1 ++ [x])[h1.length]? = some x := by rw [← R1.len]; simp
    refine ⟨by rw [List.length_cons, ← r1.length]; exact hlen, ρ1 ++ [x], P1, _, _, R3, RVs.cons (x := .ref h1.length) (by unfold RV; exact ⟨x, rfl, hx⟩) (RVs.low e3.low _ _ r1), ?_⟩
    unfold mkRes at p1
    cases hr' : F1 (c' ++ ".__init__") (.ref h1.length :: us) (h1 ++ [.ins c' []]) with
    | bad => rw [hr'] at p1; exact p1
    | ok u h2 =>
      rw [hr'] at p1
      intro z ρ2 P2 H2 e2 R4 r4
      cases u with
      | non =>
        unfold RV at r4
        refine ⟨r4, p1 (.ref x) ρ2 P2 H2 (e1.trans (e3.trans e2)) R4 (RR.of ?_)⟩
        unfold RV
        exact ⟨x, rfl, e2.at hx⟩
      | _ => exact p1.elim
    | ex y h2 =>
      rw [hr'] at p1
      exact fun ρ2 P2 H2 cls dd e2 R4 x2 => p1 ρ2 P2 H2 cls dd (e1.trans (e3.trans e2)) R4 x2
  cases xs with
  | nil =>
    cases es with
    | cons _ _ => unfold isEs at hst; cases hst
    | nil =>
      refine PE.imp (pe_makeZ0 (E := WE W) M F1ok hr g1 k2 hb (passAt o.tk) g2) (key fun σ H Q ⟨ρ, P, env, hh, R, re, q⟩ => ?_)
      simp only [evEs] at q
      exact q [] ρ P H Ext.refl R RVs.nil
  | cons x xs =>
    cases es with
    | nil => unfold isEs at hst; cases hst
    | cons e' es =>
      have hst' := hst
      unfold isEs at hst'
      obtain ⟨s1, s2⟩ := and2 hst'
      exact PE.imp (pe_makeZ (E := WE W) M F1ok hr g1 k2 hb (passAt o.tk) ha g2 (star_cons (notStar_of s1)) (star_any s2)) (key fun σ H Q q => q)
theorem n_callX (o : Ok T X ca F W n N sc) {f : Str} {d : Def} {es : Es} {xs : List Expr} {p pos : Pos} (h3 : (decide (f ∈ T.gl) || T.cl.any fun q => decide (q.1 = f)) = true) (hl : T.fns.lookup f = some d) (hg : glOk sc f = true) (hst : isEs T N sc es xs = true) (ha : PA X xs (tEs X.K ca F W es)) :
    PE X (.Call (.Name f p) xs [] pos) (tE X.K ca F W (.call f es)) := by
  rcases Bool.or_eq_true_iff.mp h3 with h3 | h3
  · cases xs with
    | nil =>
      cases es with
      | cons _ _ => unfold isEs at hst; cases hst
      | nil => exact n_call0 o (of_decide_eq_true h3) hl hg
    | cons y ys => exact n_call o (of_decide_eq_true h3) hl hg hst ha
  · exact n_new o h3 hl hg hst ha
end
end Fs
set_option Elab.async false
set_option linter.all false
set_option maxRecDepth 100000
set_option maxHeartbeats 4000000
set_option autoImplicit false
set_option relaxedAutoImplicit false
namespace Fs
open PySem PySem.Spec PyProof.Rows L2
section
variable {T : Tab} {X : Cx} {ca : Str → Addr} {F : Orc} {W : WX} {n : Nat} {N : List Str} {sc : Scope}
theorem PE.or {e : Expr} {t t' : TE} (h : PE X e t) (h' : PE X e t') : PE X e (fun σ H Q => t σ H Q ∨ t' σ H Q) := ⟨fun pins s σ H Q I q => q.elim (h.run pins s σ H Q I) (h'.run pins s σ H Q I)⟩
theorem PI.or {tg e : Expr} {t t' : TI} (h : PI X tg e t) (h' : PI X tg e t') : PI X tg e (fun σ H Q => t σ H Q ∨ t' σ H Q) := ⟨fun pins s σ H Q I q => q.elim (h.run pins s σ H Q I) (h'.run pins s σ H Q I)⟩
theorem PI.imp {tg e : Expr} {t t' : TI} (h : PI X tg e t) (i : ∀ σ H Q, t' σ H Q → t σ H Q) : PI X tg e t' := ⟨fun pins s σ H Q I q => h.run pins s σ H Q I (i _ _ _ q)⟩
theorem PG.imp {e : Expr} {t t' : TG} (h : PG X e t) (i : ∀ v σ H Q, t' v σ H Q → t v σ H Q) : PG X e t' := ⟨fun pins s σ H v u Q I r q => h.run pins s σ H v u Q I r (i _ _ _ _ q)⟩
theorem PG.or {e : Expr} {t t' : TG} (h : PG X e t) (h' : PG X e t') : PG X e (fun v σ H Q => t v σ H Q ∨ t' v σ H Q) := ⟨fun pins s σ H v u Q I r q => q.elim (h.run pins s σ H v u Q I r) (h'.run pins s σ H v u Q I r)⟩
theorem PGs.imp {e : List Expr} {t t' : TGs} (h : PGs X e t) (i : ∀ v σ H Q, t' v σ H Q → t v σ H Q) : PGs X e t' := ⟨fun pins s σ H v u Q I r q => h.run pins s σ H v u Q I r (i _ _ _ _ q)⟩
/-! ### isinstance -/
theorem n_isi (o : Ok T X ca F W n N sc) {e : E} {t : Ty} {x : Expr} {p p2 pos : Pos} (h1 : glOk sc "isinstance" = true) (h2 : glOk sc (tyS t : Str) = true) (hx : ∀ y q, x ≠ .Starred y q) (ht : noCls t = true) (he : PE X x (tE X.K ca F W e)) :
    PE X (.Call (.Name "isinstance" p) [x, .Name (tyS t : Str) p2] [] pos) (tE X.K ca F W (.isi e t)) := by
  obtain ⟨g1, g2, g3⟩ := gl_of o h1
  obtain ⟨k1, k2, k3⟩ := gl_of o h2
  have hb : bootBuiltins (tyS t : Str) = some (.type (tyS t)) ∧ X.mg (tyS t : Str) = none := by
    cases t <;> first | exact ⟨by decide +kernel, o.wo.free _ (by decide)⟩ | cases ht
  have pb : PE X (.Name (tyS t : Str) p2) (tC (.ty (tyS t))) := pe_bltn k1 hb.2 hb.1 rfl k3 k2
  have ha : PA X [x, .Name (tyS t : Str) p2] (tCons (tE X.K ca F W e) (tCons (tC (.ty (tyS t))) tNil)) := pa_cons he (pa_cons pb pa_nil) (star_cons hx)
  refine PE.imp (pe_callB (o_isi (ca := ca) t) g1 (o.wo.free _ (by decide)) (by decide +kernel) ha g3 g2 (star_cons hx)) fun σ H Q ⟨ρ, P, env, hh, R, re, q⟩ => ?_
  simp only [evE] at q
  refine ⟨ρ, P, env, hh, R, re, q.bind.imp fun u h1 p1 => ?_⟩
  intro z ρ1 P1 H1 e1 R1 r1
  rw [of_map] at p1
  obtain ⟨w, ew, g⟩ := p1.of
  obtain ⟨b, eb, rfl⟩ := map_some ew
  exact ⟨z, ρ1, P1, P, h1, u, b, rfl, R1, r1, eb, g.gd e1⟩
theorem cls_of (o : Ok T X ca F W n N sc) {c f : Str} (h : (T.cl.any fun q => decide (q.1 = c) && decide (f ∈ q.2.2)) = true) : Cls X.K (ca c) ∧ NoAttr X.K (ca c) f := by
  obtain ⟨⟨c', ms, fs⟩, hq, e⟩ := List.any_eq_true.mp h
  obtain ⟨e1, e2⟩ := and2 e
  have e1 : c' = c := of_decide_eq_true e1
  subst e1
  obtain ⟨h1, _, _, _, h5, _⟩ := o.wo.cls c' ms fs hq
  exact ⟨h1, h5 f (of_decide_eq_true e2)⟩
theorem lookup_rel {ρ : List Addr} {H : Hp} {f : Str} : ∀ {fs : List (Str × Val)} {ks : List (Str × V)} {w : Val}, RK ρ H fs ks → fs.lookup f = some w → ∃ v, ks.lookup f = some v ∧ RV ρ H w v
  | [], _, _, _, e => by cases e
  | (g, u) :: fs, _, w, .cons (b := q) hp hr, e => by
    obtain ⟨g', v⟩ := q
    obtain ⟨rfl, rv⟩ := hp
    by_cases hg : (f == g) = true
    · rw [List.lookup_cons] at e ⊢
      simp only [hg] at e ⊢
      cases e
      exact ⟨v, rfl, rv⟩
    · rw [List.lookup_cons] at e ⊢
      simp only [hg] at e ⊢
      exact lookup_rel hr e
theorem n_fld (o : Ok T X ca F W n N sc) {e : E} {c f : Str} {x : Expr} {pos : Pos} (hs : notSuper x = true) (hc : (T.cl.any fun q => decide (q.1 = c) && decide (f ∈ q.2.2)) = true) (he : PE X x (tE X.K ca F W e)) : PE X (.Attribute x f pos) (tE X.K ca F W (.fld e c f)) := by
  obtain ⟨c1, c2⟩ := cls_of o hc
  refine PE.imp (pe_fld he (base_of hs)) fun σ H Q ⟨ρ, P, env, hh, R, re, q⟩ => ?_
  simp only [evE] at q
  refine ⟨ρ, P, env, hh, R, re, q.bind.imp fun u h1 p1 => ?_⟩
  intro z ρ1 P1 H1 e1 R1 r1
  obtain ⟨w, ew, g⟩ := p1.of
  unfold fldO at ew
  split at ew
  · rename_i i
    obtain ⟨a, rfl, ha⟩ := r1.ref
    split at ew
    · rename_i d fs hn
      split at ew
      · rename_i hd
        subst hd
        obtain ⟨dx, ks, h1, h2⟩ := R1.ob i _ a hn ha
        obtain ⟨v, l, rv⟩ := lookup_rel h2 ew
        exact ⟨a, ca d, dx, ks, v, rfl, h1, c1, c2, l, GE.now (GE.ext e1 g) R1 rv⟩
      · cases ew
    · cases ew
  · cases ew
/-! ### targets -/
theorem set_set {α : Type} (l : List (Option α)) (i j : Nat) (x : Option α) : ((l.set i x).set j none) = if i = j then l.set j none else (l.set j none).set i x := by
  by_cases h : i = j
  · subst h; rw [if_pos rfl, List.set_set]
  · rw [if_neg h, List.set_comm _ _ h]
theorem wipe_get (σ : SL) : ∀ (own : List Nat) (j : Nat), (wipe σ own)[j]? = if j ∈ own then (σ[j]?).map fun _ => none else σ[j]?
  | [], j => by unfold wipe; simp
  | v :: vs, j => by
    unfold wipe
    by_cases h : j = v
    · subst h
      rw [if_pos (by simp)]
      by_cases hl : j < σ.length
      · rw [List.getElem?_set_self (by rw [wipe_length]; exact hl)]
        simp [hl]
      · rw [List.getElem?_eq_none (by rw [List.length_set, wipe_length]; omega), List.getElem?_eq_none (by omega)]
        rfl
    · rw [List.getElem?_set_ne (Ne.symm h), wipe_get σ vs j]
      simp [h]
theorem wipe_set {σ : SL} {own : List Nat} {i : Nat} {x : Option V} (h : own.contains i = true) : wipe (σ.set i x) own = wipe σ own := by
  have h' : i ∈ own := by simpa using h
  apply List.ext_getElem?
  intro j
  rw [wipe_get, wipe_get]
  by_cases hj : j ∈ own
  · rw [if_pos hj, if_pos hj]
    by_cases hij : i = j
    · subst hij
      by_cases hl : i < σ.length
      · rw [List.getElem?_set_self hl]; simp [hl]
      · rw [List.getElem?_eq_none (by rw [List.length_set]; omega), List.getElem?_eq_none (by omega)]
    · rw [List.getElem?_set_ne hij]
  · rw [if_neg hj, if_neg hj]
    have : i ≠ j := fun e => hj (e ▸ h')
    rw [List.getElem?_set_ne this]
section
variable (K : PySem.W.Frag) (ca : Str → Addr)
def tG (tg : Tg) : TG := fun v σ H Q => ∃ ρ P h env u env', Rl K ca ρ P h H ∧ RE ρ H env σ ∧ RV ρ H u v ∧ asgT h tg u env = some env' ∧ ∀ σ', RE ρ H env' σ' → (∀ own, tgIn own tg = true → wipe σ' own = wipe σ own) → Q σ' H
def tGs (ts : List Tg) : TGs := fun vs σ H Q => ∃ ρ P h env us env', Rl K ca ρ P h H ∧ RE ρ H env σ ∧ RVs ρ H us vs ∧ asgT.asgTs h ts us env = some env' ∧ ∀ σ', RE ρ H env' σ' → (∀ own, tgIn.tgsIn own ts = true → wipe σ' own = wipe σ own) → Q σ' H
end
theorem eachT_of {ts : List Tg} : ∀ {xs : List Expr} {env : Env}, isTg.isTgs N sc ts xs = true → assignEach xs env = xs.map fun x => (false, assign x env) := by
  intro xs
  induction xs generalizing ts with
  | nil => intro env h; rfl
  | cons x xs ih =>
    intro env h
    cases ts with
    | nil => unfold isTg.isTgs at h; cases h
    | cons t ts =>
      unfold isTg.isTgs at h
      obtain ⟨h1, h2⟩ := and2 h
      have : assignEach (x :: xs) env = (false, assign x env) :: assignEach xs env := by
        cases t <;> cases x <;> first | rfl | (unfold isTg at h1; cases h1)
      rw [this, ih h2]
      rfl
theorem find_none {α : Type} {l : List (Bool × α)} (h : ∀ x ∈ l, x.1 = false) : l.findIdx? (·.1) = none := by
  rw [List.findIdx?_eq_none_iff]
  intro x hx
  rw [h x hx]
mutual
theorem pg_ok (hc : X.calm = true) (nd : X.N.Nodup) (hf : ∀ x i, stOk N sc x i = true → X.N[i]? = some x ∧ L2.Loc X.env.scope x ∧ (X.fn x = true ∨ X.env.scope.names.lookup x = some .local)) : ∀ (t : Tg) (x : Expr), isTg N sc t x = true → PG X x (tG X.K ca t)
  | .nm i, x, h => by
    cases x <;> first | (unfold isTg at h; cases h) | skip
    rename_i y p
    unfold isTg at h
    obtain ⟨h1, h2, h3⟩ := hf _ _ h
    refine PG.imp (pg_name nd h1 h2 h3) fun v σ H Q ⟨ρ, P, hh, env, u, env', R, re, ru, e, q⟩ => ?_
    unfold asgT at e
    split at e
    · cases e
      refine q _ (re.set ru) fun own ho => ?_
      unfold tgIn at ho
      exact wipe_set ho
    · cases e
  | .tp ts, x, h => by
    cases x <;> first | (unfold isTg at h; cases h) | skip
    rename_i xs k p
    unfold isTg at h
    have hs := pgs_ok hc nd hf ts xs h
    have he : assignEach xs X.env = xs.map fun x => (false, assign x X.env) := eachT_of h
    have hn : (assignEach xs X.env).length = xs.length := by rw [he, List.length_map]
    have hst : (assignEach xs X.env).findIdx? (·.1) = none := find_none fun y hy => by
      rw [he] at hy
      obtain ⟨z, _, rfl⟩ := List.mem_map.mp hy
      rfl
    refine PG.imp (PG.or (pg_tup hc hs hn hst) (pg_lst hc hs hn hst)) fun v σ H Q ⟨ρ, P, hh, env, u, env', R, re, ru, e, q⟩ => ?_
    have len : ∀ (ts : List Tg) (us : List Val) (ev ev' : Evn) (xs : List Expr), isTg.isTgs N sc ts xs = true → asgT.asgTs hh ts us ev = some ev' → us.length = xs.length := by
      intro ts
      induction ts with
      | nil =>
        intro us ev ev' xs h e
        cases us with
        | cons _ _ => simp [asgT.asgTs] at e
        | nil =>
          cases xs with
          | nil => rfl
          | cons _ _ => unfold isTg.isTgs at h; cases h
      | cons t ts ih =>
        intro us ev ev' xs h e
        cases us with
        | nil => simp [asgT.asgTs] at e
        | cons u us =>
          cases xs with
          | nil => unfold isTg.isTgs at h; cases h
          | cons x xs =>
            unfold isTg.isTgs at h
            unfold asgT.asgTs at e
            obtain ⟨m, _, e2⟩ := bind_some e
            simp [ih us m ev' xs (and2 h).2 e2]
    have own_ok : ∀ {us : List Val} {vs : List V}, RVs ρ H us vs → asgT.asgTs hh ts us env = some env' → vs.length = xs.length ∧ tGs X.K ca ts vs σ H Q := fun {us vs} r e => by
      refine ⟨by rw [← r.length]; exact len ts us env env' xs h e, ρ, P, hh, env, us, env', R, re, r, e, fun σ' re' hw => q σ' re' fun own ho => hw own ?_⟩
      unfold tgIn at ho
      exact ho
    unfold asgT at e
    split at e
    · rename_i us
      unfold RV at ru
      obtain ⟨a, vs, rfl, ha, rv⟩ := ru
      obtain ⟨l, g⟩ := own_ok rv e
      exact .inl ⟨a, vs, rfl, sqT ha, l, g⟩
    · rename_i m
      split at e
      · rename_i us hn
        unfold RV at ru
        obtain ⟨a, rfl, ha⟩ := ru
        obtain ⟨vs, h1, rv⟩ := R.ob m _ a hn ha
        obtain ⟨l, g⟩ := own_ok rv e
        exact .inr ⟨a, vs, rfl, sqL h1, l, g⟩
      · cases e
    · cases e
theorem pgs_ok (hc : X.calm = true) (nd : X.N.Nodup) (hf : ∀ x i, stOk N sc x i = true → X.N[i]? = some x ∧ L2.Loc X.env.scope x ∧ (X.fn x = true ∨ X.env.scope.names.lookup x = some .local)) : ∀ (ts : List Tg) (xs : List Expr), isTg.isTgs N sc ts xs = true → PGs X xs (tGs X.K ca ts)
  | [], xs, h => by
    cases xs with
    | cons _ _ => unfold isTg.isTgs at h; cases h
    | nil =>
      refine PGs.imp pgs_nil fun vs σ H Q ⟨ρ, P, hh, env, us, env', R, re, ru, e, q⟩ => ?_
      cases us with
      | cons _ _ => simp [asgT.asgTs] at e
      | nil =>
        unfold RVs at ru
        unfold asgT.asgTs at e
        cases e
        exact ⟨ru, q σ re fun _ _ => rfl⟩
  | t :: ts, xs, h => by
    cases xs with
    | nil => unfold isTg.isTgs at h; cases h
    | cons x xs =>
      have he : assignEach (x :: xs) X.env = (x :: xs).map fun x => (false, assign x X.env) := eachT_of h
      unfold isTg.isTgs at h
      obtain ⟨h1, h2⟩ := and2 h
      have he2 : assignEach xs X.env = xs.map fun x => (false, assign x X.env) := eachT_of h2
      refine PGs.imp (pgs_cons (pg_ok hc nd hf t x h1) (pgs_ok hc nd hf ts xs h2) (by rw [he, he2]; rfl)) fun vs σ H Q ⟨ρ, P, hh, env, us, env', R, re, ru, e, q⟩ => ?_
      cases us with
      | nil => simp [asgT.asgTs] at e
      | cons u us =>
        unfold RVs at ru
        obtain ⟨v, r, rfl, rv, rr⟩ := ru
        unfold asgT.asgTs at e
        obtain ⟨m, e1, e2⟩ := bind_some e
        refine ⟨v, r, rfl, ρ, P, hh, env, u, m, R, re, rv, e1, fun σ1 re1 hw1 => ?_⟩
        refine ⟨ρ, P, hh, m, us, env', R, re1, rr, e2, fun σ2 re2 hw2 => q σ2 re2 fun own ho => ?_⟩
        unfold tgIn.tgsIn at ho
        obtain ⟨ho1, ho2⟩ := and2 ho
        rw [hw2 own ho2, hw1 own ho1]
end
end
end Fs
set_option Elab.async false
set_option linter.all false
set_option maxRecDepth 100000
set_option maxHeartbeats 4000000
set_option autoImplicit false
set_option relaxedAutoImplicit false
namespace Fs
open PySem PySem.Spec PyProof.Rows L2
/-! ### walks -/
section
variable (K : PySem.W.Frag) (ca : Str → Addr)
structure IW (ρ : List Addr) (P H : Hp) (w : Wk) (J : It) : Prop where
  stop : ∀ ρ' P' h' H' (i : Nat), Ext ρ P H ρ' P' H' → Rl K ca ρ' P' h' H' → itAt h' w i = some none → J.stop i H'
  go : ∀ ρ' P' h' H' (i : Nat) x, Ext ρ P H ρ' P' H' → Rl K ca ρ' P' h' H' → itAt h' w i = some (some x) → J.go i H'
  yld : ∀ ρ' P' h' H' (i : Nat) x v H'', Ext ρ P H ρ' P' H' → Rl K ca ρ' P' h' H' → itAt h' w i = some (some x) → J.yld i H' v H'' → Ext ρ' P' H' ρ' P' H'' ∧ Rl K ca ρ' P' h' H'' ∧ RV ρ' H'' x v
def SrcR (ρ : List Addr) (P H : Hp) : Src → Addr → Prop
  | .snap xs, a => ∃ vs, P a = some (.lst vs) ∧ RVs ρ H xs vs
  | .live n, a => ρ[n]? = some a
end
section
variable {K : PySem.W.Frag} {ca : Str → Addr} {ρ ρ' : List Addr} {P P0 P' H H' : Hp} {h h' : Hep}
theorem src_of {u : Val} {z : V} {s : Src} (R : Rl K ca ρ P h H) (r : RR ρ P P0 H u z) (e : srcOf h u = some s) : ∃ a, z = .ref a ∧ SrcR ρ P H s a ∧ ∃ vs, SqL K H a vs := by
  cases u <;> first | cases e | skip
  · rename_i n
    obtain ⟨a, rfl, ha⟩ := r.ref
    simp only [srcOf] at e
    split at e
    · rename_i xs hn
      cases e
      obtain ⟨vs, h1, h2⟩ := R.ob n _ a hn ha
      exact ⟨a, rfl, ha, vs, sqL h1⟩
    · rename_i xs hn
      cases e
      obtain ⟨vs, h1, h2⟩ := ro_at R hn ha
      exact ⟨a, rfl, ha, vs, h1⟩
    · cases e
  · obtain ⟨a, vs, rfl, h1, _, h3⟩ := r
    exact ⟨a, rfl, ⟨vs, h1, h3⟩, vs, sqL (R.pin _ _ h1)⟩
theorem src_at {s : Src} {a : Addr} {xs : List Val} (r : SrcR ρ P H s a) (e : Ext ρ P H ρ' P' H') (R : Rl K ca ρ' P' h' H') (es : srcAt h' s = some xs) : ∃ vs, SqL K H' a vs ∧ RVs ρ' H' xs vs := by
  cases s with
  | snap ys =>
    cases es
    obtain ⟨vs, h1, h2⟩ := r
    exact ⟨vs, sqL (R.pin _ _ (e.pin _ _ h1)), h2.low e.low⟩
  | live n =>
    have ha : ρ'[n]? = some a := e.at r
    simp only [srcAt] at es
    split at es
    · rename_i ys hn
      cases es
      obtain ⟨vs, h1, h2⟩ := R.ob n _ a hn ha
      exact ⟨vs, sqL h1, h2⟩
    · rename_i ys hn
      cases es
      exact ro_at R hn ha
    · cases es
theorem RVs.at {us : List Val} {vs : List V} (r : RVs ρ H us vs) {i : Nat} {u : Val} (e : us[i]? = some u) : ∃ v, vs[i]? = some v ∧ RV ρ H u v := by
  rcases r.get i with ⟨z, _⟩ | ⟨u', v, e1, e2, e3⟩
  · rw [z] at e; cases e
  · rw [e1] at e; cases e; exact ⟨v, e2, e3⟩
theorem RVs.out {us : List Val} {vs : List V} (r : RVs ρ H us vs) {i : Nat} (e : us[i]? = none) : vs.length ≤ i := by
  rw [← r.length]
  exact List.getElem?_eq_none_iff.mp e
theorem iw_lst {s : Src} {a : Addr} (r : SrcR ρ P H s a) : IW K ca ρ P H (.lst s) (Itl K a) := by
  refine ⟨fun ρ' P' h' H' i e R q => ?_, fun ρ' P' h' H' i x e R q => ?_, fun ρ' P' h' H' i x v H'' e R q y => ?_⟩
  · simp only [itAt] at q
    obtain ⟨xs, e1, e2⟩ := map_some q
    obtain ⟨vs, h1, h2⟩ := src_at r e R e1
    exact ⟨vs, h1, h2.out e2.symm⟩
  · simp only [itAt] at q
    obtain ⟨xs, e1, e2⟩ := map_some q
    obtain ⟨vs, h1, h2⟩ := src_at r e R e1
    obtain ⟨v, h3, _⟩ := h2.at e2.symm
    exact ⟨vs, v, h1, h3⟩
  · simp only [itAt] at q
    obtain ⟨xs, e1, e2⟩ := map_some q
    obtain ⟨vs, h1, h2⟩ := src_at r e R e1
    obtain ⟨v', h3, h4⟩ := h2.at e2.symm
    obtain ⟨rfl, y2⟩ := y
    have := y2 vs h1
    rw [h3] at this
    cases this
    exact ⟨Ext.refl, R, h4⟩
theorem pair_new {x y : Val} {v w : V} {t : Addr} (R : Rl K ca ρ P h H) (ht : H t = none) (rx : RV ρ H x v) (ry : RV ρ H y w) :
    Ext ρ P H ρ P (upd H t (.tup [v, w])) ∧ Rl K ca ρ P h (upd H t (.tup [v, w])) ∧ RV ρ (upd H t (.tup [v, w])) (.tup [x, y]) (.ref t) := by
  have ex : Ext ρ P H ρ P (upd H t (.tup [v, w])) := ext_upd_new ht
  refine ⟨ex, R.grow ht, ?_⟩
  unfold RV
  exact ⟨t, [v, w], rfl, upd_same, RVs.cons (rx.low ex.low) (RVs.of1 (ry.low ex.low))⟩
theorem iw_enum {s : Src} {a : Addr} (r : SrcR ρ P H s a) : IW K ca ρ P H (.enum s) (Ite K a) := by
  refine ⟨fun ρ' P' h' H' i e R q => ?_, fun ρ' P' h' H' i x e R q => ?_, fun ρ' P' h' H' i x v H'' e R q y => ?_⟩
  · simp only [itAt] at q
    obtain ⟨xs, e1, e2⟩ := map_some q
    obtain ⟨vs, h1, h2⟩ := src_at r e R e1
    exact ⟨vs, h1, h2.out (Option.map_eq_none_iff.mp e2.symm)⟩
  · simp only [itAt] at q
    obtain ⟨xs, e1, e2⟩ := map_some q
    obtain ⟨x', e3, e4⟩ := map_some e2.symm
    obtain ⟨vs, h1, h2⟩ := src_at r e R e1
    obtain ⟨v, h3, _⟩ := h2.at e3
    exact ⟨vs, v, h1, h3⟩
  · simp only [itAt] at q
    obtain ⟨xs, e1, e2⟩ := map_some q
    obtain ⟨x', e3, rfl⟩ := map_some e2.symm
    obtain ⟨vs, h1, h2⟩ := src_at r e R e1
    obtain ⟨v', h3, h4⟩ := h2.at e3
    obtain ⟨t, z, rfl, ht, rfl, y2⟩ := y
    have := y2 vs h1
    rw [h3] at this
    cases this
    exact pair_new R ht RV.mk_int h4
theorem iw_zip {s s2 : Src} {a b : Addr} (r : SrcR ρ P H s a) (r2 : SrcR ρ P H s2 b) : IW K ca ρ P H (.zip s s2) (Itz K a b) := by
  refine ⟨fun ρ' P' h' H' i e R q => ?_, fun ρ' P' h' H' i x e R q => ?_, fun ρ' P' h' H' i x v H'' e R q y => ?_⟩
  · simp only [itAt] at q
    split at q
    · rename_i xs ys e1 e2
      obtain ⟨vs, h1, h2⟩ := src_at r e R e1
      obtain ⟨ws, h3, h4⟩ := src_at r2 e R e2
      refine ⟨vs, ws, h1, h3, ?_⟩
      cases ex : xs[i]? with
      | none => exact .inl (h2.out ex)
      | some x =>
        cases ey : ys[i]? with
        | none => exact .inr (h4.out ey)
        | some y => rw [ex, ey] at q; cases q
    · cases q
  · simp only [itAt] at q
    split at q
    · rename_i xs ys e1 e2
      obtain ⟨vs, h1, h2⟩ := src_at r e R e1
      obtain ⟨ws, h3, h4⟩ := src_at r2 e R e2
      cases ex : xs[i]? with
      | none => rw [ex] at q; cases q
      | some x =>
        cases ey : ys[i]? with
        | none => rw [ex, ey] at q; cases q
        | some y =>
          obtain ⟨v, h5, _⟩ := h2.at ex
          obtain ⟨w, h6, _⟩ := h4.at ey
          exact ⟨vs, ws, v, w, h1, h3, h5, h6⟩
    · cases q
  · simp only [itAt] at q
    split at q
    · rename_i xs ys e1 e2
      obtain ⟨vs, h1, h2⟩ := src_at r e R e1
      obtain ⟨ws, h3, h4⟩ := src_at r2 e R e2
      cases ex : xs[i]? with
      | none => rw [ex] at q; cases q
      | some x =>
        cases ey : ys[i]? with
        | none => rw [ex, ey] at q; cases q
        | some y0 =>
          rw [ex, ey] at q
          cases q
          obtain ⟨v', h5, h5'⟩ := h2.at ex
          obtain ⟨w', h6, h6'⟩ := h4.at ey
          obtain ⟨t, z, z2, rfl, ht, rfl, y2, y3⟩ := y
          have := y2 vs h1
          rw [h5] at this
          cases this
          have := y3 ws h3
          rw [h6] at this
          cases this
          exact pair_new R ht h5' h6'
    · cases q
theorem iw_tup {xs : List Val} {vs : List V} {a : Addr} (ha : H a = some (.tup vs)) (r : RVs ρ H xs vs) : IW K ca ρ P H (.fix xs) (Itt K a) := by
  refine ⟨fun ρ' P' h' H' i e R q => ?_, fun ρ' P' h' H' i x e R q => ?_, fun ρ' P' h' H' i x v H'' e R q y => ?_⟩
  · simp only [itAt, Option.some.injEq] at q
    exact ⟨vs, sqT (e.tup _ _ ha), r.out q⟩
  · simp only [itAt, Option.some.injEq] at q
    obtain ⟨v, h3, _⟩ := r.at q
    exact ⟨vs, v, sqT (e.tup _ _ ha), h3⟩
  · simp only [itAt, Option.some.injEq] at q
    obtain ⟨v', h3, h4⟩ := r.at q
    obtain ⟨rfl, y2⟩ := y
    have := y2 vs (sqT (e.tup _ _ ha))
    rw [h3] at this
    cases this
    exact ⟨Ext.refl, R, h4.low e.low⟩
theorem iw_rng {lo : Int} {n : Nat} : IW K ca ρ P H (.fix ((List.range n).map fun (i : Nat) => .int (lo + (i : Int)))) (Itr lo n) := by
  refine ⟨fun ρ' P' h' H' i e R q => ?_, fun ρ' P' h' H' i x e R q => ?_, fun ρ' P' h' H' i x v H'' e R q y => ?_⟩
  · simp only [itAt, Option.some.injEq] at q
    have := List.getElem?_eq_none_iff.mp q
    have t : n ≤ i := by simpa using this
    exact t
  · simp only [itAt, Option.some.injEq] at q
    have := (List.getElem?_eq_some_iff.mp q).1
    have t : i < n := by simpa using this
    exact t
  · simp only [itAt, Option.some.injEq] at q
    obtain ⟨rfl, rfl⟩ := y
    have hi := (List.getElem?_eq_some_iff.mp q).1
    have hi' : i < n := by simpa using hi
    rw [List.getElem?_map, List.getElem?_range hi'] at q
    cases q
    exact ⟨Ext.refl, R, RV.mk_int⟩
theorem iw_rngC {lo c : Int} {n : Nat} : IW K ca ρ P H (.fix ((List.range n).map fun (i : Nat) => .int (lo + (i : Nat) * c))) (Itc lo c n) := by
  refine ⟨fun ρ' P' h' H' i e R q => ?_, fun ρ' P' h' H' i x e R q => ?_, fun ρ' P' h' H' i x v H'' e R q y => ?_⟩
  · simp only [itAt, Option.some.injEq] at q
    have := List.getElem?_eq_none_iff.mp q
    have t : n ≤ i := by simpa using this
    exact t
  · simp only [itAt, Option.some.injEq] at q
    have := (List.getElem?_eq_some_iff.mp q).1
    have t : i < n := by simpa using this
    exact t
  · simp only [itAt, Option.some.injEq] at q
    obtain ⟨rfl, rfl⟩ := y
    have hi := (List.getElem?_eq_some_iff.mp q).1
    have hi' : i < n := by simpa using hi
    rw [List.getElem?_map, List.getElem?_range hi'] at q
    cases q
    exact ⟨Ext.refl, R, RV.mk_int⟩
theorem iw_str {s : Str} : IW K ca ρ P H (.fix (signs s)) (Its s) := by
  refine ⟨fun ρ' P' h' H' i e R q => ?_, fun ρ' P' h' H' i x e R q => ?_, fun ρ' P' h' H' i x v H'' e R q y => ?_⟩
  · simp only [itAt, Option.some.injEq, signs] at q
    have := List.getElem?_eq_none_iff.mp q
    have t : s.cps.size ≤ i := by simpa using this
    exact t
  · simp only [itAt, Option.some.injEq, signs] at q
    have := (List.getElem?_eq_some_iff.mp q).1
    have t : i < s.cps.size := by simpa using this
    exact t
  · simp only [itAt, Option.some.injEq, signs] at q
    obtain ⟨rfl, c, hc, rfl⟩ := y
    rw [List.getElem?_map, Array.getElem?_toList, hc] at q
    cases q
    exact ⟨Ext.refl, R, RV.mk_str⟩
theorem RK.at {κ : Type} {l : List (κ × Val)} {m : List (κ × V)} (r : RK ρ H l m) {i : Nat} {k : κ} {v : V} (e : m[i]? = some (k, v)) : ∃ u, l[i]? = some (k, u) ∧ RV ρ H u v := by
  induction r generalizing i with
  | nil => simp at e
  | @cons p q l m hp hr ih =>
    cases i with
    | zero =>
      rw [List.getElem?_cons_zero] at e
      cases e
      obtain ⟨p1, p2⟩ := p
      obtain ⟨rfl, r2⟩ := hp
      exact ⟨p2, by simp, r2⟩
    | succ i =>
      rw [List.getElem?_cons_succ] at e ⊢
      exact ih e
theorem iw_keysK {d : Addr} {o : Obj} {kvs : List (Key × Val)} {ks : List (Key × V)} (hd : H d = some (.frz o (.dK ks))) (r : RK ρ H kvs ks) : IW K ca ρ P H (.fix (kvs.map fun kv => kVal kv.1)) (Itk d o ks) := by
  have hl := r.len
  refine ⟨fun ρ' P' h' H' i e R q => ?_, fun ρ' P' h' H' i x e R q => ?_, fun ρ' P' h' H' i x v H'' e R q y => ?_⟩
  · simp only [itAt, Option.some.injEq] at q
    have := List.getElem?_eq_none_iff.mp q
    exact ⟨e.frz _ _ _ hd, by simpa [hl] using this⟩
  · simp only [itAt, Option.some.injEq] at q
    have := (List.getElem?_eq_some_iff.mp q).1
    exact ⟨e.frz _ _ _ hd, by simpa [hl] using this⟩
  · simp only [itAt, Option.some.injEq] at q
    obtain ⟨rfl, k, w, e1, rfl⟩ := y
    obtain ⟨u, e2, _⟩ := r.at e1
    rw [List.getElem?_map, e2] at q
    cases q
    exact ⟨Ext.refl, R, kVal_rv k⟩
theorem iw_keysT {d : Addr} {o : Obj} {kvs : List (List Key × Val)} {ks : List (List Key × V)} (hd : H d = some (.frz o (.dT ks))) (r : RK ρ H kvs ks) : IW K ca ρ P H (.fix (kvs.map fun kv => .tup (kv.1.map kVal))) (Itkt d o ks) := by
  have hl := r.len
  refine ⟨fun ρ' P' h' H' i e R q => ?_, fun ρ' P' h' H' i x e R q => ?_, fun ρ' P' h' H' i x v H'' e R q y => ?_⟩
  · simp only [itAt, Option.some.injEq] at q
    have := List.getElem?_eq_none_iff.mp q
    exact ⟨e.frz _ _ _ hd, by simpa [hl] using this⟩
  · simp only [itAt, Option.some.injEq] at q
    have := (List.getElem?_eq_some_iff.mp q).1
    exact ⟨e.frz _ _ _ hd, by simpa [hl] using this⟩
  · simp only [itAt, Option.some.injEq] at q
    obtain ⟨rfl, k, w, t, e1, rfl, e3⟩ := y
    obtain ⟨u, e2, _⟩ := r.at e1
    rw [List.getElem?_map, e2] at q
    cases q
    refine ⟨Ext.refl, R, ?_⟩
    show RV ρ' H'' (.tup (k.map kVal)) (.ref t)
    unfold RV
    exact ⟨t, k.map kV, rfl, e3, kVals_rv k⟩
theorem iw_vals {d : Addr} {o : Obj} {kvs : List (Key × Val)} {ks : List (Key × V)} (hd : H d = some (.frz o (.dK ks))) (r : RK ρ H kvs ks) : IW K ca ρ P H (.fix (kvs.map fun kv => kv.2)) (Itd d o ks) := by
  have hl := r.len
  refine ⟨fun ρ' P' h' H' i e R q => ?_, fun ρ' P' h' H' i x e R q => ?_, fun ρ' P' h' H' i x v H'' e R q y => ?_⟩
  · simp only [itAt, Option.some.injEq] at q
    have := List.getElem?_eq_none_iff.mp q
    exact ⟨e.frz _ _ _ hd, by simpa [hl] using this⟩
  · simp only [itAt, Option.some.injEq] at q
    have := (List.getElem?_eq_some_iff.mp q).1
    exact ⟨e.frz _ _ _ hd, by simpa [hl] using this⟩
  · simp only [itAt, Option.some.injEq] at q
    obtain ⟨rfl, k, e1⟩ := y
    obtain ⟨u, e2, e3⟩ := r.at e1
    rw [List.getElem?_map, e2] at q
    cases q
    exact ⟨Ext.refl, R, e3.low e.low⟩
theorem iw_items {d : Addr} {o : Obj} {kvs : List (Key × Val)} {ks : List (Key × V)} (hd : H d = some (.frz o (.dK ks))) (r : RK ρ H kvs ks) : IW K ca ρ P H (.fix (kvs.map fun kv => .tup [kVal kv.1, kv.2])) (Iti d o ks) := by
  have hl := r.len
  refine ⟨fun ρ' P' h' H' i e R q => ?_, fun ρ' P' h' H' i x e R q => ?_, fun ρ' P' h' H' i x v H'' e R q y => ?_⟩
  · simp only [itAt, Option.some.injEq] at q
    have := List.getElem?_eq_none_iff.mp q
    exact ⟨e.frz _ _ _ hd, by simpa [hl] using this⟩
  · simp only [itAt, Option.some.injEq] at q
    have := (List.getElem?_eq_some_iff.mp q).1
    exact ⟨e.frz _ _ _ hd, by simpa [hl] using this⟩
  · simp only [itAt, Option.some.injEq] at q
    obtain ⟨t, k, w, e1, rfl, ht, rfl⟩ := y
    obtain ⟨u, e2, e3⟩ := r.at e1
    rw [List.getElem?_map, e2] at q
    cases q
    exact pair_new R ht (kVal_rv k) (e3.low e.low)
end
/-! ### iterators -/
section
variable (K : PySem.W.Frag) (ca : Str → Addr) (F : Orc) (W : WX)
def tI (it : I) : TI := fun σ H R => ∃ ρ P env h, Rl K ca ρ P h H ∧ RE ρ H env σ ∧ PoR K ca W ρ P H σ (fun wd h1 => wd.2 = none ∧ ∀ ρ' P' H' J, Ext ρ P H ρ' P' H' → Rl K ca ρ' P' h1 H' → IW K ca ρ' P' H' wd.1 J → R J H') (evI F it env h)
/-- the walk over a locked dict -/
def LkI (it : I) (n : Nat) (env : Evn) (hl : Hep) (xs : List Val) (h1 : Hep) : Prop := match it with
  | .of e => evE F e env hl = .ok (.ref n) h1 ∧ keysD h1 n = some xs
  | .items e => evE F e env hl = .ok (.ref n) h1 ∧ itemsD h1 n = some xs
  | .values e => evE F e env hl = .ok (.ref n) h1 ∧ valsD h1 n = some xs
  | _ => False
def tIL (it : I) : TI := fun σ H R => ∃ ρ P env h n xs h1, Rl K ca ρ P h H ∧ RE ρ H env σ ∧ LkI F it n env h xs h1 ∧ ∀ ρ' P' H' J, Ext ρ P H ρ' P' H' → Rl K ca ρ' P' h1 H' → IW K ca ρ' P' H' (.fix xs) J → R J H'
end
section
variable {T : Tab} {X : Cx} {ca : Str → Addr} {F : Orc} {W : WX} {n : Nat} {N : List Str} {sc : Scope}
theorem lockOf {h h1 : Hep} {n : Nat} {f : Hep → Nat → Option (List Val)} {w : Wk} {r : Res Val} {g : Hep → Res Val} {g0 : Hep → Val → Option (List Val)}
    (e : (match r with
      | .ok u h1 => match dictOf h u with
        | some n => match lockD n h with
          | some hl => match g hl with
            | .ok (.ref m) h2 => if m = n then (Res.of (f h2 n) h2).bind fun xs h3 => .ok (.fix xs, some n) h3 else .bad
            | _ => .bad
          | none => .bad
        | none => (Res.of (g0 h1 u) h1).bind fun xs h2 => .ok (.fix xs, none) h2
      | _ => .bad : Res (Wk × Option Nat)) = .ok (w, some n) h1) :
    ∃ u hl xs h', r = .ok u h' ∧ dictOf h u = some n ∧ lockD n h = some hl ∧ g hl = .ok (.ref n) h1 ∧ f h1 n = some xs ∧ w = .fix xs := by
  split at e
  · rename_i u h'
    split at e
    · rename_i m hd
      split at e
      · rename_i hl hlk
        split at e
        · rename_i m' h2 hg
          split at e
          · rename_i hm
            subst hm
            cases ef : f h2 m' with
            | none => rw [ef] at e; cases e
            | some xs =>
              rw [ef] at e
              simp only [Res.of, Res.bind] at e
              cases e
              exact ⟨u, hl, xs, h', rfl, hd, hlk, hg, ef, rfl⟩
          · cases e
        · cases e
      · cases e
    · cases eg : g0 h' u with
      | none => rw [eg] at e; cases e
      | some ys => rw [eg] at e; simp only [Res.of, Res.bind] at e; cases e
  · cases e
end
end Fs
set_option Elab.async false
set_option linter.all false
set_option maxRecDepth 100000
set_option maxHeartbeats 4000000
set_option autoImplicit false
set_option relaxedAutoImplicit false
namespace Fs
open PySem PySem.Spec PyProof.Rows L2
section
variable {K : PySem.W.Frag} {ca : Str → Addr} {F : Orc} {W : WX} {ρ ρ' : List Addr} {P P0 P' H H' : Hp} {h h' : Hep}
theorem evI_lock {it : I} {env : Evn} {h h1 : Hep} {w : Wk} {n : Nat} (e : evI F it env h = .ok (w, some n) h1) : ∃ u hl xs, dictOf h u = some n ∧ lockD n h = some hl ∧ LkI F it n env hl xs h1 ∧ w = .fix xs := by
  cases it with
  | of x =>
    simp only [evI] at e
    split at e
    · rename_i u h' hr
      split at e
      · rename_i m hd
        split at e
        · rename_i hl hlk
          split at e
          · rename_i m' h2 hg
            split at e
            · rename_i hm
              subst hm
              cases ef : keysD h2 m' with
              | none => rw [ef] at e; cases e
              | some xs =>
                rw [ef] at e
                simp only [Res.of, Res.bind] at e
                cases e
                exact ⟨u, hl, xs, hd, hlk, ⟨hg, ef⟩, rfl⟩
            · cases e
          · cases e
        · cases e
      · split at e
        · cases e
        · cases ew : wkOf h' u with
          | none => rw [ew] at e; cases e
          | some w' => rw [ew] at e; simp only [Res.of, Res.bind] at e; cases e
    · cases e
    · cases e
  | items x =>
    simp only [evI] at e
    obtain ⟨u, hl, xs, h', _, hd, hlk, hg, ef, hw⟩ := lockOf (f := itemsD) (g0 := itemsL) e
    exact ⟨u, hl, xs, hd, hlk, ⟨hg, ef⟩, hw⟩
  | values x =>
    simp only [evI] at e
    obtain ⟨u, hl, xs, h', _, hd, hlk, hg, ef, hw⟩ := lockOf (f := valsD) (g0 := valsL) e
    exact ⟨u, hl, xs, hd, hlk, ⟨hg, ef⟩, hw⟩
  | rng es =>
    simp only [evI] at e
    cases hr : evEs F es env h with
    | bad => rw [hr] at e; cases e
    | ex x h => rw [hr] at e; cases e
    | ok u h' =>
      rw [hr] at e
      simp only [Res.bind] at e
      cases ew : rngO u with
      | none => rw [ew] at e; cases e
      | some w' => rw [ew] at e; simp only [Res.of] at e; cases e
  | enum x =>
    simp only [evI] at e
    cases hr : evE F x env h with
    | bad => rw [hr] at e; cases e
    | ex x h => rw [hr] at e; cases e
    | ok u h' =>
      rw [hr] at e
      simp only [Res.bind] at e
      cases ew : srcOf h' u with
      | none => rw [ew] at e; cases e
      | some w' => rw [ew] at e; simp only [Res.of] at e; cases e
  | zip x y =>
    simp only [evI] at e
    cases hr : evE F x env h with
    | bad => rw [hr] at e; cases e
    | ex x h => rw [hr] at e; cases e
    | ok u h' =>
      rw [hr] at e
      simp only [Res.bind] at e
      cases hr2 : evE F y env h' with
      | bad => rw [hr2] at e; cases e
      | ex x h => rw [hr2] at e; cases e
      | ok u2 h2 =>
        rw [hr2] at e
        simp only [Res.bind] at e
        cases ew : srcOf h2 u with
        | none => rw [ew] at e; cases e
        | some w' =>
          rw [ew] at e; simp only [Res.of] at e
          cases ew2 : srcOf h2 u2 with
          | none => rw [ew2] at e; cases e
          | some w2 => rw [ew2] at e; simp only [Res.of] at e; cases e
end
section
variable {T : Tab} {X : Cx} {ca : Str → Addr} {F : Orc} {W : WX} {n : Nat} {N : List Str} {sc : Scope}
theorem n_of {tg x : Expr} {e : E} (he : PE X x (tE X.K ca F W e)) : PI X tg x (tI X.K ca F W (.of e)) :=
  PI.imp (PI.or (pi_keys he) (PI.or (pi_list he) (PI.or (pi_tup he) (pi_str he)))) fun σ H R ⟨ρ, P, env, h, Rr, re, p⟩ => by
    cases hr : evE F e env h with
    | bad => simp only [evI, hr] at p; exact p.elim
    | ex x h1 =>
      simp only [evI, hr] at p
      exact .inr (.inl ⟨ρ, P, env, h, Rr, re, by rw [hr]; exact p⟩)
    | ok u h1 =>
      simp only [evI, hr] at p
      cases hd : dictOf h u with
      | some m =>
        simp only [hd] at p
        exfalso
        split at p
        · split at p
          · split at p
            · rename_i h2 _ _
              cases ek : keysD h2 m with
              | none => rw [ek] at p; exact p
              | some ys =>
                rw [ek] at p
                exact nomatch p.1
            · exact p
          · exact p
        · exact p
      | none =>
        simp only [hd] at p
        cases hk : keysL h1 u with
        | some xs =>
          rw [hk] at p
          obtain ⟨_, g⟩ := p
          cases u with
          | ref m =>
            refine .inl ⟨ρ, P, env, h, Rr, re, ?_⟩
            rw [hr]
            intro z ρ1 P1 H1 e1 R1 r1
            obtain ⟨d, rfl, hd'⟩ := r1.ref
            have hk : keysD h1 m = some xs := hk
            unfold keysD at hk
            split at hk
            · rename_i kvs hn
              cases hk
              obtain ⟨o, ks, h2, h3⟩ := R1.ob m _ d hn hd'
              exact ⟨d, o, rfl, .inl ⟨ks, h2, g ρ1 P1 H1 _ e1 R1 (iw_keysK h2 h3)⟩⟩
            · rename_i kvs hn
              cases hk
              obtain ⟨o, ks, h2, h3⟩ := R1.ob m _ d hn hd'
              exact ⟨d, o, rfl, .inr ⟨ks, h2, g ρ1 P1 H1 _ e1 R1 (iw_keysT h2 h3)⟩⟩
            · cases hk
          | _ => cases hk
        | none =>
        rw [hk] at p
        obtain ⟨w, ew, _, g⟩ := p.bind.of
        cases u with
        | tup xs =>
          cases ew
          refine .inr (.inr (.inl ⟨ρ, P, env, h, Rr, re, ?_⟩))
          rw [hr]
          intro z ρ1 P1 H1 e1 R1 r1
          obtain ⟨a, vs, rfl, ha, rv⟩ := r1.tup
          exact ⟨a, rfl, ⟨vs, sqT ha⟩, g ρ1 P1 H1 _ e1 R1 (iw_tup ha rv)⟩
        | str s =>
          cases ew
          refine .inr (.inr (.inr ⟨ρ, P, env, h, Rr, re, ?_⟩))
          rw [hr]
          intro z ρ1 P1 H1 e1 R1 r1
          exact ⟨s, r1.str, g ρ1 P1 H1 _ e1 R1 iw_str⟩
        | ref i =>
          obtain ⟨s, es, rfl⟩ := map_some (show (srcOf h1 (.ref i)).map Wk.lst = some w from ew)
          refine .inr (.inl ⟨ρ, P, env, h, Rr, re, ?_⟩)
          rw [hr]
          intro z ρ1 P1 H1 e1 R1 r1
          obtain ⟨a, rfl, hs, hq⟩ := src_of R1 r1 es
          exact ⟨a, rfl, hq, g ρ1 P1 H1 _ e1 R1 (iw_lst hs)⟩
        | tl xs =>
          obtain ⟨s, es, rfl⟩ := map_some (show (srcOf h1 (.tl xs)).map Wk.lst = some w from ew)
          refine .inr (.inl ⟨ρ, P, env, h, Rr, re, ?_⟩)
          rw [hr]
          intro z ρ1 P1 H1 e1 R1 r1
          obtain ⟨a, rfl, hs, hq⟩ := src_of R1 r1 es
          exact ⟨a, rfl, hq, g ρ1 P1 H1 _ e1 R1 (iw_lst hs)⟩
        | non => exact nomatch (show (none : Option Wk) = some w from ew)
        | bl _ => exact nomatch (show (none : Option Wk) = some w from ew)
        | int _ => exact nomatch (show (none : Option Wk) = some w from ew)
theorem n_enum (o : Ok T X ca F W n N sc) {tg x : Expr} {e : E} {p pos : Pos} (ht : isTupE tg = true) (hg : glOk sc "enumerate" = true) (hx : ∀ y q, x ≠ .Starred y q) (he : PE X x (tE X.K ca F W e)) : PI X tg (.Call (.Name "enumerate" p) [x] [] pos) (tI X.K ca F W (.enum e)) := by
  obtain ⟨g1, _, _⟩ := gl_of o hg
  cases tg <;> first | cases ht | skip
  refine PI.imp (pi_enum g1 (o.wo.free _ (by decide)) (pa_cons he pa_nil (star_cons hx)) (star1_of hx)) fun σ H R ⟨ρ, P, env, h, Rr, re, p⟩ => ?_
  simp only [evI] at p
  refine ⟨ρ, P, env, h, Rr, re, p.bind.imp fun u h1 p1 => ?_⟩
  intro z ρ1 P1 H1 e1 R1 r1
  obtain ⟨s, es, _, g⟩ := p1.bind.of
  obtain ⟨a, rfl, hs, vs, hq⟩ := src_of R1 r1 es
  exact ⟨a, vs, rfl, hq, g ρ1 P1 H1 _ e1 R1 (iw_enum hs)⟩
theorem SrcR.ext {ρ ρ' : List Addr} {P H P' H' : Hp} {s : Src} {a : Addr} (e : Ext ρ P H ρ' P' H') (r : SrcR ρ P H s a) : SrcR ρ' P' H' s a := by
  cases s with
  | snap xs => obtain ⟨vs, h1, h2⟩ := r; exact ⟨vs, e.pin _ _ h1, h2.low e.low⟩
  | live n => exact e.at r
theorem n_zip (o : Ok T X ca F W n N sc) {tg x y : Expr} {e f : E} {p pos : Pos} (ht : isTupE tg = true) (hg : glOk sc "zip" = true) (hx : ∀ y q, x ≠ .Starred y q) (hy : ∀ z q, y ≠ .Starred z q) (he : PE X x (tE X.K ca F W e)) (hf : PE X y (tE X.K ca F W f)) :
    PI X tg (.Call (.Name "zip" p) [x, y] [] pos) (tI X.K ca F W (.zip e f)) := by
  obtain ⟨g1, _, _⟩ := gl_of o hg
  cases tg <;> first | cases ht | skip
  refine PI.imp (pi_zip g1 (o.wo.free _ (by decide)) (pa_cons he (pa_cons hf pa_nil (star_cons hy)) (star_cons hx)) (star_cons hx) (by rw [star1_of hy]; rfl)) fun σ H R ⟨ρ, P, env, h, Rr, re, p⟩ => ?_
  simp only [evI] at p
  refine ⟨ρ, P, env, h, Rr, re, p.bind.imp fun u h1 p1 => ?_⟩
  intro z ρ1 P1 H1 e1 R1 r1
  refine ⟨ρ1, P1, env, h1, R1, re.low e1.low, p1.bind.ext e1 fun u2 h2 p2 => ?_⟩
  intro z2 ρ2 P2 H2 e2 R2 r2
  obtain ⟨s, es, p3⟩ := p2.bind.of
  obtain ⟨t, et, _, g⟩ := p3.bind.of
  obtain ⟨a, rfl, hs, vs, hq⟩ := src_of R2 (r1.ext (P1 := P1) e2) es
  obtain ⟨b, rfl, ht, ws, hq2⟩ := src_of R2 r2 et
  exact ⟨a, b, vs, ws, rfl, hq, hq2, g ρ2 P2 H2 _ (e1.trans e2) R2 (iw_zip hs ht)⟩
theorem evEs_len {es : Es} : ∀ {xs : List Expr} {env : Evn} {h h1 : Hep} {vs : List Val}, isEs T N sc es xs = true → evEs F es env h = .ok vs h1 → vs.length = xs.length := by
  intro xs
  induction xs generalizing es with
  | nil =>
    intro env h h1 vs hi e
    cases es with
    | nil => simp only [evEs] at e; cases e; rfl
    | cons _ _ => unfold isEs at hi; cases hi
  | cons x xs ih =>
    intro env h h1 vs hi e
    cases es with
    | nil => unfold isEs at hi; cases hi
    | cons a es =>
      unfold isEs at hi
      simp only [evEs] at e
      cases hr : evE F a env h with
      | bad => rw [hr] at e; cases e
      | ex x h => rw [hr] at e; cases e
      | ok u h2 =>
        rw [hr] at e
        simp only [Res.bind] at e
        cases hr2 : evEs F es env (mat u h2).2 with
        | bad => rw [hr2] at e; cases e
        | ex x h => rw [hr2] at e; cases e
        | ok us h3 =>
          rw [hr2] at e
          simp only [Res.bind] at e
          cases e
          simp [ih (and2 hi).2 hr2]
theorem rvs1 {ρ : List Addr} {H : Hp} {i : Int} {zs : List V} (r : RVs ρ H [.int i] zs) : zs = [.int i] := by
  unfold RVs at r
  obtain ⟨v, t, rfl, h1, h2⟩ := r
  unfold RVs at h2
  unfold RV at h1
  rw [h1, h2]
theorem rvs2 {ρ : List Addr} {H : Hp} {i j : Int} {zs : List V} (r : RVs ρ H [.int i, .int j] zs) : zs = [.int i, .int j] := by
  unfold RVs at r
  obtain ⟨v, t, rfl, h1, h2⟩ := r
  unfold RV at h1
  rw [h1, rvs1 h2]
theorem rvs3 {ρ : List Addr} {H : Hp} {i j k : Int} {zs : List V} (r : RVs ρ H [.int i, .int j, .int k] zs) : zs = [.int i, .int j, .int k] := by
  unfold RVs at r
  obtain ⟨v, t, rfl, h1, h2⟩ := r
  unfold RV at h1
  rw [h1, rvs2 h2]
theorem n_rngI (o : Ok T X ca F W n N sc) {tg : Expr} {es : Es} {xs : List Expr} {p pos : Pos} (hg : glOk sc "range" = true) (hst : isEs T N sc es xs = true) (h3 : few3 xs = true) (ha : PA X xs (tEs X.K ca F W es)) : PI X tg (.Call (.Name "range" p) xs [] pos) (tI X.K ca F W (.rng es)) := by
  obtain ⟨g1, _, _⟩ := gl_of o hg
  have hm : X.mg "range" = none := o.wo.free _ (by decide)
  have star : ∀ y ∈ xs, ∀ z q, y ≠ .Starred z q := by
    clear ha h3
    induction xs generalizing es with
    | nil => intro y hy; cases hy
    | cons x xs ih =>
      cases es with
      | nil => unfold isEs at hst; cases hst
      | cons e es =>
        unfold isEs at hst
        obtain ⟨s1, s2⟩ := and2 hst
        intro y hy
        rcases List.mem_cons.mp hy with rfl | hy
        · exact notStar_of s1
        · exact ih s2 y hy
  unfold few3 at h3
  split at h3
  · rename_i a
    refine PI.imp (pi_range1 g1 hm ha (star1_of (star a (by simp)))) fun σ H R ⟨ρ, P, env, h, Rr, re, p⟩ => ?_
    simp only [evI] at p
    refine ⟨ρ, P, env, h, Rr, re, ?_⟩
    cases hr : evEs F es env h with
    | bad => rw [hr] at p; exact p
    | ex x h => rw [hr] at p; exact p
    | ok us h1 =>
      have hl := evEs_len hst hr
      rw [hr] at p
      simp only [Res.bind] at p
      intro zs ρ1 P1 H1 e1 R1 r1
      cases ey : rngO us with
      | none => rw [ey] at p; exact p.elim
      | some ys =>
      rw [ey] at p
      obtain ⟨_, g⟩ := p
      unfold rngO at ey
      split at ey
      · rename_i j
        split at ey
        · rename_i hb
          cases ey
          exact ⟨j, rvs1 r1, by omega, by omega, g ρ1 P1 H1 _ e1 R1 iw_rng⟩
        · cases ey
      · cases hl
      · cases hl
      · cases ey
  · rename_i a b
    refine PI.imp (pi_range2 g1 hm ha (by rw [star_cons (star a (by simp)), star1_of (star b (by simp))]) (star1_of (star b (by simp)))) fun σ H R ⟨ρ, P, env, h, Rr, re, p⟩ => ?_
    simp only [evI] at p
    refine ⟨ρ, P, env, h, Rr, re, ?_⟩
    cases hr : evEs F es env h with
    | bad => rw [hr] at p; exact p
    | ex x h => rw [hr] at p; exact p
    | ok us h1 =>
      have hl := evEs_len hst hr
      rw [hr] at p
      simp only [Res.bind] at p
      intro zs ρ1 P1 H1 e1 R1 r1
      cases ey : rngO us with
      | none => rw [ey] at p; exact p.elim
      | some ys =>
      rw [ey] at p
      obtain ⟨_, g⟩ := p
      unfold rngO at ey
      split at ey
      · cases hl
      · rename_i i j
        split at ey
        · rename_i hb
          cases ey
          exact ⟨i, j, rvs2 r1, ⟨by omega, by omega, by omega, by omega⟩, g ρ1 P1 H1 _ e1 R1 iw_rng⟩
        · cases ey
      · cases hl
      · cases ey
  · rename_i a b c
    refine PI.imp (pi_range3 g1 hm ha (star_cons (star a (by simp))) (by rw [star_cons (star b (by simp)), star1_of (star c (by simp))]; rfl)) fun σ H R ⟨ρ, P, env, h, Rr, re, p⟩ => ?_
    simp only [evI] at p
    refine ⟨ρ, P, env, h, Rr, re, ?_⟩
    cases hr : evEs F es env h with
    | bad => rw [hr] at p; exact p
    | ex x h => rw [hr] at p; exact p
    | ok us h1 =>
      have hl := evEs_len hst hr
      rw [hr] at p
      simp only [Res.bind] at p
      intro zs ρ1 P1 H1 e1 R1 r1
      cases ey : rngO us with
      | none => rw [ey] at p; exact p.elim
      | some ys =>
      rw [ey] at p
      obtain ⟨_, g⟩ := p
      unfold rngO at ey
      split at ey
      · cases hl
      · cases hl
      · rename_i i j
        split at ey
        · rename_i hb
          cases ey
          exact ⟨i, j, -1, _, rvs3 r1, RgC.neg (by omega) (by omega) (by omega) (by omega), g ρ1 P1 H1 _ e1 R1 iw_rngC⟩
        · cases ey
      · cases ey
  · cases h3
/-! ### the walks over a locked dict -/
theorem RR.ref' {ρ : List Addr} {P P0 H : Hp} {i : Nat} {x : V} (r : RR ρ P P0 H (.ref i) x) : ∃ a, x = .ref a ∧ ρ[i]? = some a := r.ref
theorem nL_of {tg x : Expr} {e : E} (he : PE X x (tE X.K ca F W e)) : PI X tg x (tIL X.K ca F (.of e)) :=
  PI.imp (pi_keys he) fun σ H R ⟨ρ, P, env, h, m, xs, h1, Rr, re, ⟨hr, hk⟩, g⟩ => by
    refine ⟨ρ, P, env, h, Rr, re, ?_⟩
    rw [hr]
    intro z ρ1 P1 H1 e1 R1 r1
    obtain ⟨d, rfl, hd⟩ := r1.ref
    unfold keysD at hk
    split at hk
    · rename_i kvs hn
      cases hk
      obtain ⟨o, ks, h2, h3⟩ := R1.ob m _ d hn hd
      exact ⟨d, o, rfl, .inl ⟨ks, h2, g ρ1 P1 H1 _ e1 R1 (iw_keysK h2 h3)⟩⟩
    · rename_i kvs hn
      cases hk
      obtain ⟨o, ks, h2, h3⟩ := R1.ob m _ d hn hd
      exact ⟨d, o, rfl, .inr ⟨ks, h2, g ρ1 P1 H1 _ e1 R1 (iw_keysT h2 h3)⟩⟩
    · cases hk
theorem nL_items {tg x : Expr} {e : E} {apos cpos : Pos} (ht : isTupE tg = true) (hs : notSuper x = true) (hline : (apos.endLine == cpos.line) = true) (he : PE X x (tE X.K ca F W e)) : PI X tg (.Call (.Attribute x "items" apos) [] [] cpos) (tIL X.K ca F (.items e)) := by
  cases tg <;> first | cases ht | skip
  refine PI.imp (pi_items he (base_of hs) hline) fun σ H R ⟨ρ, P, env, h, m, xs, h1, Rr, re, ⟨hr, hk⟩, g⟩ => ?_
  refine ⟨ρ, P, env, h, Rr, re, ?_⟩
  rw [hr]
  intro z ρ1 P1 H1 e1 R1 r1
  obtain ⟨d, rfl, hd⟩ := r1.ref
  unfold itemsD at hk
  split at hk
  · rename_i kvs hn
    cases hk
    obtain ⟨o, ks, h2, h3⟩ := R1.ob m _ d hn hd
    exact ⟨d, o, ks, rfl, h2, g ρ1 P1 H1 _ e1 R1 (iw_items h2 h3)⟩
  · cases hk
theorem nL_vals {tg x : Expr} {e : E} {apos cpos : Pos} (hs : notSuper x = true) (hline : (apos.endLine == cpos.line) = true) (he : PE X x (tE X.K ca F W e)) : PI X tg (.Call (.Attribute x "values" apos) [] [] cpos) (tIL X.K ca F (.values e)) := by
  refine PI.imp (pi_values he (base_of hs) hline) fun σ H R ⟨ρ, P, env, h, m, xs, h1, Rr, re, ⟨hr, hk⟩, g⟩ => ?_
  refine ⟨ρ, P, env, h, Rr, re, ?_⟩
  rw [hr]
  intro z ρ1 P1 H1 e1 R1 r1
  obtain ⟨d, rfl, hd⟩ := r1.ref
  unfold valsD at hk
  split at hk
  · rename_i kvs hn
    cases hk
    obtain ⟨o, ks, h2, h3⟩ := R1.ob m _ d hn hd
    exact ⟨d, o, ks, rfl, h2, g ρ1 P1 H1 _ e1 R1 (iw_vals h2 h3)⟩
  · cases hk
theorem n_items {tg x : Expr} {e : E} {apos cpos : Pos} (ht : isTupE tg = true) (hs : notSuper x = true) (hline : (apos.endLine == cpos.line) = true) (he : PE X x (tE X.K ca F W e)) : PI X tg (.Call (.Attribute x "items" apos) [] [] cpos) (tI X.K ca F W (.items e)) := by
  cases tg <;> first | cases ht | skip
  refine PI.imp (pi_items he (base_of hs) hline) fun σ H R ⟨ρ, P, env, h, Rr, re, p⟩ => ?_
  refine ⟨ρ, P, env, h, Rr, re, ?_⟩
  simp only [evI] at p
  cases hr : evE F e env h with
  | bad => rw [hr] at p; exact p.elim
  | ex x h1 => rw [hr] at p; exact p.elim
  | ok u h1 =>
    rw [hr] at p
    simp only at p
    cases hd : dictOf h u with
    | some m =>
      rw [hd] at p
      exfalso
      simp only at p
      split at p
      · split at p
        · split at p
          · obtain ⟨_, _, z, _⟩ := p.bind.of
            cases z
          · exact p
        · exact p
      · exact p
    | none =>
      rw [hd] at p
      obtain ⟨xs, hk, _, g⟩ := p.bind.of
      intro z ρ1 P1 H1 e1 R1 r1
      cases u with
      | ref m =>
        obtain ⟨d, rfl, hd'⟩ := r1.ref
        have hk : itemsD h1 m = some xs := hk
        unfold itemsD at hk
        split at hk
        · rename_i kvs hn
          cases hk
          obtain ⟨o, ks, h2, h3⟩ := R1.ob m _ d hn hd'
          exact ⟨d, o, ks, rfl, h2, g ρ1 P1 H1 _ e1 R1 (iw_items h2 h3)⟩
        · cases hk
      | _ => cases hk
theorem n_vals {tg x : Expr} {e : E} {apos cpos : Pos} (hs : notSuper x = true) (hline : (apos.endLine == cpos.line) = true) (he : PE X x (tE X.K ca F W e)) : PI X tg (.Call (.Attribute x "values" apos) [] [] cpos) (tI X.K ca F W (.values e)) := by
  refine PI.imp (pi_values he (base_of hs) hline) fun σ H R ⟨ρ, P, env, h, Rr, re, p⟩ => ?_
  refine ⟨ρ, P, env, h, Rr, re, ?_⟩
  simp only [evI] at p
  cases hr : evE F e env h with
  | bad => rw [hr] at p; exact p.elim
  | ex x h1 => rw [hr] at p; exact p.elim
  | ok u h1 =>
    rw [hr] at p
    simp only at p
    cases hd : dictOf h u with
    | some m =>
      rw [hd] at p
      exfalso
      simp only at p
      split at p
      · split at p
        · split at p
          · obtain ⟨_, _, z, _⟩ := p.bind.of
            cases z
          · exact p
        · exact p
      · exact p
    | none =>
      rw [hd] at p
      obtain ⟨xs, hk, _, g⟩ := p.bind.of
      intro z ρ1 P1 H1 e1 R1 r1
      cases u with
      | ref m =>
        obtain ⟨d, rfl, hd'⟩ := r1.ref
        have hk : valsD h1 m = some xs := hk
        unfold valsD at hk
        split at hk
        · rename_i kvs hn
          cases hk
          obtain ⟨o, ks, h2, h3⟩ := R1.ob m _ d hn hd'
          exact ⟨d, o, ks, rfl, h2, g ρ1 P1 H1 _ e1 R1 (iw_vals h2 h3)⟩
        · cases hk
      | _ => cases hk
end
end Fs
set_option Elab.async false
set_option linter.all false
set_option maxRecDepth 100000
set_option maxHeartbeats 4000000
set_option autoImplicit false
set_option relaxedAutoImplicit false
namespace Fs
open PySem PySem.Spec PyProof.Rows L2
section
variable {K : PySem.W.Frag} {ca : Str → Addr} {F : Orc} {W : WX} {ρ ρ' : List Addr} {P P0 P' H H' : Hp} {h h' : Hep}
theorem wipe_wipe {σ : SL} {own : List Nat} : wipe (wipe σ own) own = wipe σ own := by
  apply List.ext_getElem?
  intro j
  rw [wipe_get, wipe_get]
  by_cases hj : j ∈ own
  · rw [if_pos hj, if_pos hj]
    cases σ[j]? <;> rfl
  · rw [if_neg hj, if_neg hj]
theorem pin_none {D : Addr} (R : Rl K ca ρ P h H) (hD : H D = none) : P D = none := by
  cases q : P D with
  | none => rfl
  | some o => rw [R.pin _ _ q] at hD; cases hD
theorem ext_repin {D : Addr} {vs : List V} {u : HO} (e : Ext ρ P H ρ' P' H') (h0 : P D = none) (hD : P' D = some (.lst vs)) (R : Rl K ca ρ' P' h' H') : Ext ρ P H ρ' (upd P' D u) (upd H' D u) := by
  have hH := R.pin _ _ hD
  refine ⟨e.pre, fun a o z => ?_, fun a xs z => ?_, fun a o w z => ?_⟩
  · have : a ≠ D := fun q => by rw [q, h0] at z; cases z
    rw [upd_ne this]; exact e.pin _ _ z
  · have z' := e.tup _ _ z
    have : a ≠ D := fun q => by rw [q, hH] at z'; cases z'
    rw [upd_ne this]; exact z'
  · have z' := e.frz _ _ _ z
    have : a ≠ D := fun q => by rw [q, hH] at z'; cases z'
    rw [upd_ne this]; exact z'
def tC (K : PySem.W.Frag) (ca : Str → Addr) (F : Orc) (W : WX) (c : Oe) : TT := fun σ H Q => ∃ ρ P env h, Rl K ca ρ P h H ∧ RE ρ H env σ ∧ PoR K ca W ρ P H σ (GB K ca ρ P H Q) (evC F c env h)
/-- one turn of a comprehension -/
@[reducible] def lcStep (F : Orc) (tg : Tg) (c : Oe) (elt : E) (env : Evn) : Val → Hep → Res (Option Val) := fun x h => match asgT h tg x env with
  | some σ' => (evC F c σ' h).bind fun k h' => if k = true then (evE F elt σ' h').bind fun v h'' => let (v', h3) := mat v h''; .ok (some v') h3 else .ok none h'
  | none => .bad
abbrev W0 : WX := fun _ _ _ _ => False
theorem lc_run {J : It} {w : Wk} {own : List Nat} {tg : Tg} {c : Oe} {elt : E} {env : Evn} {σ : SL} {k : Nat} {accF : List Val} {h hF : Hep} {Q : VK} (hown : tgIn own tg = true) (iw : IW K ca ρ P H w J) (R : Rl K ca ρ P h H) (re : RE ρ H env σ)
    (hgo : lcGo w (lcStep F tg c elt (wipeE env own)) k 0 [] h = .ok accF hF) (D : Addr) (hD : H D = none)
    (fin : ∀ ρ2 P2 H2 vs, Ext ρ P H ρ2 P2 H2 → Rl K ca ρ2 P2 hF H2 → P2 D = some (.lst vs) → RVs ρ2 H2 accF vs → Q (.ref D) H2) :
    ∃ Wv : Nat → Nat → Hp → Prop, (∃ m, Wv 0 m (upd H D (.lst []))) ∧ ∀ i m H, Wv i m H →
      (J.stop i H ∧ Q (.ref D) H) ∨ (J.go i H ∧ ∃ Nx : Hp → Prop, (∀ H', Nx H' → ∃ m', m' < m ∧ Wv (i + 1) m' H') ∧ ∀ x H', J.yld i H x H' → tG K ca tg x (wipe σ own) H' fun σ2 H2 => wipe σ2 own = wipe σ own ∧ tC K ca F W0 c σ2 H2 fun b H3 =>
        if b = true then tE K ca F W0 elt σ2 H3 fun y H4 => ∃ acc, H4 D = some (.lst acc) ∧ acc.length < sizeLine ∧ Nx (upd H4 D (.lst (acc ++ [y]))) else Nx H3) := by
  have p0 := pin_none R hD
  refine ⟨fun i m H1 => ∃ ρ1 P1 h1 acc vs, Rl K ca ρ1 P1 h1 H1 ∧ Ext ρ P H ρ1 P1 H1 ∧ P1 D = some (.lst vs) ∧ RVs ρ1 H1 acc vs ∧ lcGo w (lcStep F tg c elt (wipeE env own)) m i acc h1 = .ok accF hF,
    ⟨k, ρ, upd P D (.lst []), h, [], [], R.tmp hD, ext_tmp R hD, upd_same, RVs.nil, hgo⟩, ?_⟩
  rintro i m H1 ⟨ρ1, P1, h1, acc, vs, R1, e1, hP, rv, hg⟩
  cases m with
  | zero => cases hg
  | succ m =>
    simp only [lcGo] at hg
    cases hi : itAt h1 w i with
    | none => rw [hi] at hg; cases hg
    | some ox =>
      cases ox with
      | none =>
        rw [hi] at hg
        cases hg
        exact .inl ⟨iw.stop ρ1 P1 _ H1 i e1 R1 hi, fin ρ1 P1 H1 vs e1 R1 hP rv⟩
      | some x =>
        rw [hi] at hg
        simp only at hg
        refine .inr ⟨iw.go ρ1 P1 h1 H1 i x e1 R1 hi, fun H2 => ∃ ρ1 P1 h1 acc vs, Rl K ca ρ1 P1 h1 H2 ∧ Ext ρ P H ρ1 P1 H2 ∧ P1 D = some (.lst vs) ∧ RVs ρ1 H2 acc vs ∧ lcGo w (lcStep F tg c elt (wipeE env own)) m (i + 1) acc h1 = .ok accF hF,
          fun H' q => ⟨m, Nat.lt_succ_self m, q⟩, fun v H2 y => ?_⟩
        obtain ⟨e2, R2, rx⟩ := iw.yld ρ1 P1 h1 H1 i x v H2 e1 R1 hi y
        have e12 := e1.trans e2
        cases ha : asgT h1 tg x (wipeE env own) with
        | none => simp only [lcStep, ha] at hg; cases hg
        | some env2 =>
          refine ⟨ρ1, P1, h1, wipeE env own, x, env2, R2, RE.wipe (re.low e12.low) own, rx, ha, fun σ2 re2 hw => ⟨by rw [hw own hown, wipe_wipe], ?_⟩⟩
          cases hs : lcStep F tg c elt (wipeE env own) x h1 with
          | bad => rw [hs] at hg; cases hg
          | ex _ _ => rw [hs] at hg; cases hg
          | ok ov h2 =>
            rw [hs] at hg
            have hs' := hs
            simp only [lcStep, ha] at hs'
            have p : PoR K ca W0 ρ1 P1 H2 σ2 (fun o h' => o = ov ∧ h' = h2) (lcStep F tg c elt (wipeE env own) x h1) := by rw [hs]; exact ⟨rfl, rfl⟩
            simp only [lcStep, ha] at p
            have hP2 : P1 D = some (.lst vs) := hP
            refine ⟨ρ1, P1, env2, h1, R2, re2, p.bind.imp fun b h3 p1 => ?_⟩
            intro ρ3 P3 H3 e3 R3
            cases b with
            | false =>
              rw [if_neg Bool.false_ne_true] at p1
              obtain ⟨rfl, rfl⟩ := p1
              rw [if_neg Bool.false_ne_true]
              exact ⟨ρ3, P3, _, acc, vs, R3, e12.trans e3, e3.pin _ _ hP, (rv.low e2.low).low e3.low, hg⟩
            | true =>
              rw [if_pos rfl] at p1
              rw [if_pos rfl]
              refine ⟨ρ3, P3, env2, h3, R3, re2.low e3.low, p1.bind.ext e3 fun u h4 p2 => ?_⟩
              intro z ρ4 P4 H4 e4 R4 r4
              obtain ⟨ρ5, P5, e5, R5, r5, _⟩ := mat_ok e4 R4 r4
              obtain ⟨q1, q2⟩ := p2
              have q2 : (mat u h4).2 = h2 := q2
              have hP5 : P5 D = some (.lst vs) := e5.pin _ _ (e3.pin _ _ hP)
              subst q1
              simp only at hg
              split at hg
              · rename_i hl
                have eT := (e12.trans e3).trans e5
                have rv5 := ((rv.low e2.low).low e3.low).low e5.low
                refine ⟨vs, R5.pin _ _ hP5, by rw [← rv.length, ← lim_eq]; exact hl, ρ5, upd P5 D (.lst (vs ++ [z])), h2, acc ++ [(mat u h4).1], vs ++ [z], ?_, ext_repin eT p0 hP5 R5, upd_same, ?_, hg⟩
                · rw [← q2]
                  exact R5.repin hP5
                · have hH := R5.pin _ _ hP5
                  have lw : Low ρ5 H4 ρ5 (upd H4 D (.lst (vs ++ [z]))) := ⟨fun _ _ z => z, fun b xs z => by rw [upd_ne (fun q => by rw [q, hH] at z; cases z)]; exact z⟩
                  exact (rv5.append (RVs.of1 r5)).low lw
              · cases hg
/-! ### a locked dict -/
theorem Rl.lock {n : Nat} {a : Addr} {o o' : Ob} {u u' : HO} (R : Rl K ca ρ P h H) (hn : h[n]? = some o) (ha : ρ[n]? = some a) (nr : ¬ isRo o) (hu : H a = some u) (ht : ∀ xs, u ≠ .tup xs) (hf : ∀ q w, u = .frz q w → ∀ vs, w ≠ .lst vs)
    (r : RO K ca ρ (upd H a u') o' a) (nr' : ¬ isRo o') : Rl K ca ρ P (h.set n o') (upd H a u') ∧ Low ρ H ρ (upd H a u') := by
  have lw : Low ρ H ρ (upd H a u') := ⟨fun _ _ z => z, fun b xs e => by
      have : b ≠ a := fun q => by rw [q, hu] at e; exact ht xs (Option.some.inj e)
      rw [upd_ne this]; exact e⟩
  have nl : n < h.length := (List.getElem?_eq_some_iff.mp hn).1
  have cas : ∀ {i : Nat} {w : Ob}, (h.set n o')[i]? = some w → (i = n ∧ w = o') ∨ (i ≠ n ∧ h[i]? = some w) := fun {i w} e => by
    by_cases hi : i = n
    · subst hi; rw [List.getElem?_set_self nl] at e; exact .inl ⟨rfl, (Option.some.inj e).symm⟩
    · rw [List.getElem?_set_ne (Ne.symm hi)] at e; exact .inr ⟨hi, e⟩
  have pa : P a = none := (R.apart n o a hn ha).resolve_left nr
  refine ⟨⟨by simp [R.len], fun i j b o1 o2 h1 h2 e1 e2 => ?_, fun i w b h1 e1 => ?_, fun b q z => ?_, fun i w b h1 e1 => ?_⟩, lw⟩
  · rcases cas h1 with ⟨rfl, rfl⟩ | ⟨n1, h1'⟩
    · rcases cas h2 with ⟨rfl, rfl⟩ | ⟨n2, h2'⟩
      · exact .inl rfl
      · rcases R.nd i j b o o2 hn h2' e1 e2 with z | z | z
        · exact .inl z
        · exact (nr z).elim
        · exact .inr (.inr z)
    · rcases cas h2 with ⟨rfl, rfl⟩ | ⟨n2, h2'⟩
      · rcases R.nd i j b o1 o h1' hn e1 e2 with z | z | z
        · exact .inl z
        · exact .inr (.inl z)
        · exact (nr z).elim
      · exact R.nd i j b o1 o2 h1' h2' e1 e2
  · rcases cas h1 with ⟨rfl, rfl⟩ | ⟨n1, h1'⟩
    · rw [ha] at e1; cases e1; exact r
    · have r1 := R.ob i w b h1' e1
      by_cases hr : isRo w
      · cases w <;> first | exact hr.elim | skip
        obtain ⟨vs, h1, h2⟩ := r1
        refine ⟨vs, ?_, h2.low lw⟩
        rcases h1 with ⟨oo, h1⟩ | h1
        · refine .inl ⟨oo, ?_⟩
          have nb : b ≠ a := fun q => by
            rw [q, hu] at h1
            exact hf _ _ (Option.some.inj h1) _ rfl
          rw [upd_ne nb]; exact h1
        · exact .inr h1
      · have nb : b ≠ a := fun q => by
          subst q
          rcases R.nd i n b w o h1' hn e1 ha with z | z | z
          · exact n1 z
          · exact hr z
          · exact nr z
        exact RO.low lw (upd_ne nb) r1
  · have nb : b ≠ a := fun e => by rw [e, pa] at z; cases z
    rw [upd_ne nb]
    exact R.pin b q z
  · rcases cas h1 with ⟨rfl, rfl⟩ | ⟨n1, h1'⟩
    · rw [ha] at e1; cases e1; exact .inr pa
    · exact R.apart i w b h1' e1
/-- from the heap ahead of the lock to the heap behind it -/
theorem ext_unlock {d : Addr} {u v : HO} (hd : H d = some u) (ht : ∀ xs, u ≠ .tup xs) (hf : ∀ q w, u ≠ .frz q w) (e : Ext ρ P (upd H d v) ρ' P' H') : Ext ρ P H ρ' P' (upd H' d u) := by
  refine ⟨e.pre, e.pin, fun a xs z => ?_, fun a o w z => ?_⟩
  · have : a ≠ d := fun q => by rw [q, hd] at z; exact ht _ (Option.some.inj z)
    rw [upd_ne this]
    exact e.tup _ _ (by rw [upd_ne this]; exact z)
  · have : a ≠ d := fun q => by rw [q, hd] at z; exact hf _ _ (Option.some.inj z)
    rw [upd_ne this]
    exact e.frz _ _ _ (by rw [upd_ne this]; exact z)
/-- a dict of ours is locked: what the run reads, and how it is left -/
theorem lock_dict {n : Nat} {u : Val} {hl : Hep} (R : Rl K ca ρ P h H) (hd : dictOf h u = some n) (hlk : lockD n h = some hl) :
    ∃ d o, ρ[n]? = some d ∧ H d = some o ∧ (∀ xs, o ≠ .tup xs) ∧ (∀ q w, o ≠ .frz q w) ∧ Mut (some o) ∧ ∀ od, Rl K ca ρ P hl (upd H d (.frz od o)) ∧ Low ρ H ρ (upd H d (.frz od o)) ∧
      ∀ ρ' P' h1 H1 h2, Ext ρ P (upd H d (.frz od o)) ρ' P' H1 → Rl K ca ρ' P' h1 H1 → unlockD n h1 = some h2 → H1 d = some (.frz od o) ∧ Ext ρ P H ρ' P' (upd H1 d o) ∧ Rl K ca ρ' P' h2 (upd H1 d o) ∧ Low ρ' H1 ρ' (upd H1 d o) := by
  have hn : ∃ ob, h[n]? = some ob := by
    unfold lockD at hlk
    split at hlk
    · rename_i kvs e; exact ⟨_, e⟩
    · rename_i kvs e; exact ⟨_, e⟩
    · cases hlk
  obtain ⟨ob, hob⟩ := hn
  have nl : n < ρ.length := by rw [R.len]; exact (List.getElem?_eq_some_iff.mp hob).1
  obtain ⟨d, hρ⟩ : ∃ d, ρ[n]? = some d := ⟨ρ[n], List.getElem?_eq_getElem nl⟩
  unfold lockD at hlk
  split at hlk
  · rename_i kvs hn
    cases hlk
    obtain ⟨ks, h1, h2⟩ := R.ob n _ d hn hρ
    refine ⟨d, .dK ks, hρ, h1, (fun _ z => nomatch z), (fun _ _ z => nomatch z), True.intro, fun od => ?_⟩
    have lw : Low ρ H ρ (upd H d (.frz od (.dK ks))) := ⟨fun _ _ z => z, fun b xs z => by rw [upd_ne (fun q => by rw [q, h1] at z; cases z)]; exact z⟩
    obtain ⟨R1, l1⟩ := R.lock (o' := .dK true kvs) (u' := .frz od (.dK ks)) hn hρ (fun z => z) h1 (fun _ z => nomatch z) (fun _ _ z => nomatch z) ⟨od, ks, upd_same, RK.low lw h2⟩ (fun z => z)
    refine ⟨R1, l1, fun ρ' P' h1' H1 h2' e1 R2 hu => ?_⟩
    have f1 : H1 d = some (.frz od (.dK ks)) := e1.frz _ _ _ upd_same
    have hρ' : ρ'[n]? = some d := e1.at hρ
    refine ⟨f1, ext_unlock h1 (fun _ z => nomatch z) (fun _ _ z => nomatch z) e1, ?_⟩
    unfold unlockD at hu
    split at hu
    · rename_i kvs' hn'
      cases hu
      obtain ⟨o2, ks2, h3, h4⟩ := R2.ob n _ d hn' hρ'
      rw [f1] at h3
      cases h3
      have lw' : Low ρ' H1 ρ' (upd H1 d (.dK ks)) := ⟨fun _ _ z => z, fun b xs z => by rw [upd_ne (fun q => by rw [q, f1] at z; cases z)]; exact z⟩
      exact R2.lock (o' := .dK false kvs') (u' := .dK ks) hn' hρ' (fun z => z) f1 (fun _ z => nomatch z) (fun _ _ z _ q => by cases z; cases q) ⟨ks, upd_same, RK.low lw' h4⟩ (fun z => z)
    · rename_i kvs' hn'
      obtain ⟨o2, ks2, h3, h4⟩ := R2.ob n _ d hn' hρ'
      rw [f1] at h3
      cases h3
    · cases hu
  · rename_i kvs hn
    cases hlk
    obtain ⟨ks, h1, h2⟩ := R.ob n _ d hn hρ
    refine ⟨d, .dT ks, hρ, h1, (fun _ z => nomatch z), (fun _ _ z => nomatch z), True.intro, fun od => ?_⟩
    have lw : Low ρ H ρ (upd H d (.frz od (.dT ks))) := ⟨fun _ _ z => z, fun b xs z => by rw [upd_ne (fun q => by rw [q, h1] at z; cases z)]; exact z⟩
    obtain ⟨R1, l1⟩ := R.lock (o' := .dT true kvs) (u' := .frz od (.dT ks)) hn hρ (fun z => z) h1 (fun _ z => nomatch z) (fun _ _ z => nomatch z) ⟨od, ks, upd_same, RK.low lw h2⟩ (fun z => z)
    refine ⟨R1, l1, fun ρ' P' h1' H1 h2' e1 R2 hu => ?_⟩
    have f1 : H1 d = some (.frz od (.dT ks)) := e1.frz _ _ _ upd_same
    have hρ' : ρ'[n]? = some d := e1.at hρ
    refine ⟨f1, ext_unlock h1 (fun _ z => nomatch z) (fun _ _ z => nomatch z) e1, ?_⟩
    unfold unlockD at hu
    split at hu
    · rename_i kvs' hn'
      obtain ⟨o2, ks2, h3, h4⟩ := R2.ob n _ d hn' hρ'
      rw [f1] at h3
      cases h3
    · rename_i kvs' hn'
      cases hu
      obtain ⟨o2, ks2, h3, h4⟩ := R2.ob n _ d hn' hρ'
      rw [f1] at h3
      cases h3
      have lw' : Low ρ' H1 ρ' (upd H1 d (.dT ks)) := ⟨fun _ _ z => z, fun b xs z => by rw [upd_ne (fun q => by rw [q, f1] at z; cases z)]; exact z⟩
      exact R2.lock (o' := .dT false kvs') (u' := .dT ks) hn' hρ' (fun z => z) f1 (fun _ z => nomatch z) (fun _ _ z _ q => by cases z; cases q) ⟨ks, upd_same, RK.low lw' h4⟩ (fun z => z)
    · cases hu
  · cases hlk
def lcRes (F : Orc) (own : List Nat) (tg : Tg) (c : Oe) (elt : E) (env : Evn) (wd : Wk × Option Nat) (h1 : Hep) : Res Val :=
  (match wd.2 with
    | some n => unlkE n (lcGo wd.1 (lcStep F tg c elt (wipeE env own)) (itLen h1 wd.1 + 1) 0 [] h1)
    | none => (lcGo wd.1 (lcStep F tg c elt (wipeE env own)) (itLen h1 wd.1 + 1) 0 [] h1).nox).bind fun acc h2 => .ok (.tl acc) h2
theorem evE_lc {own : List Nat} {elt : E} {tg : Tg} {it : I} {c : Oe} {env : Evn} {h : Hep} : evE F (.lc own elt tg it c) env h = (evI F it env h).bind fun wd h1 => lcRes F own tg c elt env wd h1 := by
  simp only [evE]
  rfl
theorem i_lc {own : List Nat} {elt : E} {tg : Tg} {it : I} {c : Oe} {σ : SL} {H : Hp} {Q : VK} (hown : tgIn own tg = true) (q : tE K ca F W (.lc own elt tg it c) σ H Q) :
    tLc (tI K ca F W it) (tG K ca tg) (tC K ca F W0 c) (tE K ca F W0 elt) own σ H Q ∨ tLockE (tLc (tIL K ca F it) (tG K ca tg) (tC K ca F W0 c) (tE K ca F W0 elt) own) σ H Q := by
  obtain ⟨ρ, P, env, h, R, re, p⟩ := q
  rw [evE_lc] at p
  cases hI : evI F it env h with
  | bad => rw [hI] at p; exact p.elim
  | ex x h1 => rw [hI] at p; exact .inl ⟨ρ, P, env, h, R, re, by rw [hI]; exact p⟩
  | ok wd h1 =>
    obtain ⟨w, d⟩ := wd
    rw [hI] at p
    replace p : PoR K ca W ρ P H σ (GE K ca ρ P H Q) (lcRes F own tg c elt env (w, d) h1) := p
    unfold lcRes at p
    cases d with
    | none =>
      simp only at p
      left
      refine ⟨ρ, P, env, h, R, re, ?_⟩
      rw [hI]
      refine ⟨rfl, fun ρ1 P1 H1 J e1 R1 iw D hD => ?_⟩
      cases hg : lcGo w (lcStep F tg c elt (wipeE env own)) (itLen h1 w + 1) 0 [] h1 with
      | bad => rw [hg] at p; exact p.elim
      | ex _ _ => rw [hg] at p; exact p.elim
      | ok acc h2 =>
        rw [hg] at p
        refine lc_run hown iw R1 (re.low e1.low) hg D hD fun ρ2 P2 H2 vs e2 R2 hP rv => ?_
        refine p (.ref D) ρ2 P2 H2 (e1.trans e2) R2 ⟨D, vs, rfl, hP, ?_, rv⟩
        cases z : P D with
        | none => rfl
        | some o => rw [R1.pin _ _ (e1.pin _ _ z)] at hD; cases hD
    | some n =>
      simp only at p
      right
      obtain ⟨u, hl, xs, hd, hlk, lk, rfl⟩ := evI_lock hI
      obtain ⟨d, o, hρ, hH, ht, hf, mu, un⟩ := lock_dict R hd hlk
      refine ⟨d, o, hH, mu, fun od => ?_⟩
      obtain ⟨R1, l1, un⟩ := un od
      refine ⟨ρ, P, env, hl, n, xs, h1, R1, re.low l1, lk, fun ρ1 P1 H1 J e1 R2 iw D hD => ?_⟩
      cases hg : lcGo (.fix xs) (lcStep F tg c elt (wipeE env own)) (itLen h1 (.fix xs) + 1) 0 [] h1 with
      | bad => rw [hg] at p; exact p.elim
      | ex _ _ => rw [hg] at p; exact p.elim
      | ok acc h2 =>
        rw [hg] at p
        simp only [unlkE] at p
        cases hu : unlockD n h2 with
        | none => rw [hu] at p; exact p.elim
        | some h3 =>
          rw [hu] at p
          refine lc_run (Q := fun v H' => H' d = some (.frz od o) ∧ Q v (upd H' d o)) hown iw R2 ((re.low l1).low e1.low) hg D hD fun ρ2 P2 H2 vs e2 R3 hP rv => ?_
          obtain ⟨f1, e3, R4, l4⟩ := un ρ2 P2 h2 H2 h3 (e1.trans e2) R3 hu
          refine ⟨f1, p (.ref D) ρ2 P2 _ e3 R4 ⟨D, vs, rfl, hP, ?_, rv.low l4⟩⟩
          cases z : P D with
          | none => rfl
          | some o => rw [R2.pin _ _ (e1.pin _ _ z)] at hD; cases hD
end
end Fs
set_option Elab.async false
set_option linter.all false
set_option maxRecDepth 100000
set_option maxHeartbeats 8000000
set_option autoImplicit false
set_option relaxedAutoImplicit false
namespace Fs
open PySem PySem.Spec PyProof.Rows L2
section
variable {T : Tab} {X : Cx} {ca : Str → Addr} {F : Orc} {W : WX} {n : Nat} {N : List Str} {sc : Scope}
theorem Wo.blk (w : Wo T X ca F n) {s : Shared} {H : Hp} {scope : Scope} {cenv : Env} {fp : List Addr} : Wo T (X.blk s H scope cenv fp) ca F n :=
  ⟨fun f d h1 h2 => let ⟨a, fd, fs, hm⟩ := w.fn f d h1 h2; ⟨a, fd, ⟨fs.ok, fs.bd, fs.ar⟩, hm⟩,
   fun c ms fs h => let ⟨h1, h2, h3, h4, h5, h6⟩ := w.cls c ms fs h; ⟨h1, h2, h3, h4, h5, fun m hm d hd => let ⟨a, fd, fs, r⟩ := h6 m hm d hd; ⟨a, fd, ⟨fs.ok, fs.bd, fs.ar⟩, r⟩⟩,
   w.mkc, w.ci, w.cs, w.ex, w.rz, w.free⟩
theorem Ok.blk (o : Ok T X ca F W n N sc) {s : Shared} {H : Hp} {scope : Scope} {C : Addr} {cl : List (Str × Addr)} {fp : List Addr} : Ok T (X.blk s H scope (compEnvC scope cl C X.env) fp) ca F W0 n N (relS scope sc) where
  wo := o.wo.blk
  room := o.room
  calm := o.calm
  hN := o.hN
  nd := o.nd
  hsc := by
    have : (compEnvC scope cl C X.env).scope = relS scope X.env.scope := rfl
    show (compEnvC scope cl C X.env).scope = _
    rw [this, o.hsc]
  tk := fun u s' ⟨_, _, _, _, _, _, _, _, _, _, _, _, _, _, _, _, w⟩ => w.elim
theorem map_lookup {β : Type} (f : Str × β → Str × β) (hf : ∀ p, (f p).1 = p.1) (x : Str) (k : β) (hk : ∀ p, p.2 = k → (f p).2 = k) : ∀ l : List (Str × β), l.lookup x = some k → (l.map f).lookup x = some k
  | [], h => by cases h
  | (y, v) :: r, h => by
    have e : f (y, v) = (y, (f (y, v)).2) := Prod.ext (hf (y, v)) rfl
    rw [List.map_cons, e]
    rw [List.lookup_cons] at h ⊢
    cases hx : (x == y) with
    | true =>
      rw [hx] at h
      have hv : v = k := Option.some.inj h
      exact congrArg some (hk (y, v) hv)
    | false =>
      rw [hx] at h
      exact map_lookup f hf x k hk r h
theorem rel_lookup {scope sc : Scope} {x : Str} {k : NameKind} (h : scope.names.lookup x = some k) (hk : k ≠ .free) : (relS scope sc).names.lookup x = some k := by
  unfold relS
  refine map_lookup _ ?_ x k ?_ _ h
  · rintro ⟨n, k⟩
    show (if _ then (n, _) else (n, k)).1 = n
    split <;> rfl
  · rintro ⟨n, k'⟩ e
    have e : k' = k := e
    subst e
    show (if _ then (n, _) else (n, k')).2 = k'
    split
    · rename_i h'
      obtain ⟨h1, _⟩ := and2 (and2 h').1
      exact absurd (by simpa using h1) hk
    · rfl
theorem blk_st (o : Ok T X ca F W n N sc) {s : Shared} {H : Hp} {scope : Scope} {C : Addr} {cl : List (Str × Addr)} {fp : List Addr} : ∀ x i, stOk N scope x i = true →
    (X.blk s H scope (compEnvC scope cl C X.env) fp).N[i]? = some x ∧ L2.Loc (X.blk s H scope (compEnvC scope cl C X.env) fp).env.scope x ∧ ((X.blk s H scope (compEnvC scope cl C X.env) fp).fn x = true ∨ (X.blk s H scope (compEnvC scope cl C X.env) fp).env.scope.names.lookup x = some .local) := by
  intro x i h
  obtain ⟨h1, h3⟩ := and2 h
  have e : (X.blk s H scope (compEnvC scope cl C X.env) fp).env.scope = relS scope X.env.scope := rfl
  refine ⟨by show X.N[i]? = _; rw [o.hN]; exact of_decide_eq_true h1, ?_⟩
  rw [e]
  unfold L2.Loc
  split at h3
  · rename_i e1
    rw [rel_lookup e1 (by decide)]
    exact ⟨.inl rfl, .inr rfl⟩
  · rename_i e1
    rw [rel_lookup e1 (by decide)]
    refine ⟨.inr rfl, .inl ?_⟩
    show (scope.names.lookup x == some .cell) = true
    rw [e1]
    rfl
  · cases h3
theorem own_snd {own : List Nat} : (ownP N own).map (·.2) = own := by
  unfold ownP
  rw [List.map_map]
  induction own with
  | nil => rfl
  | cons a r ih => rw [List.map_cons, ih]; rfl
theorem n_lc (o : Ok T X ca F W n N sc) {own : List Nat} {elt : E} {tg : Tg} {it : I} {c : Oe} {ex t i : Expr} {ifs : List Expr} {scope : Scope} {pos : Pos} (hi1 : PI X t i (tI X.K ca F W it)) (hi2 : PI X t i (tIL X.K ca F it)) (ht : isTg N scope tg t = true) (hown : tgIn own tg = true)
    (hb : blkC N sc scope (ownP N own) = true) (hset : ∀ x, foldedSetIterable i X.env x = pure x)
    (hc : ∀ (s : Shared) (H : Hp) (C : Addr) (cl : List (Str × Addr)) (fp : List Addr), PTs (X.blk s H scope (compEnvC scope cl C X.env) fp) ifs (tC X.K ca F W0 c))
    (he : ∀ (s : Shared) (H : Hp) (C : Addr) (cl : List (Str × Addr)) (fp : List Addr), PE (X.blk s H scope (compEnvC scope cl C X.env) fp) ex (tE X.K ca F W0 elt)) :
    PE X (.ListComp ex [⟨t, i, ifs, 0⟩] scope pos) (tE X.K ca F W (.lc own elt tg it c)) := by
  have hN : X.N.Nodup := by rw [o.hN]; exact o.nd
  have ok : BlkOk X.N X.env.scope scope (ownP N own) := by rw [o.hN, o.hsc]; exact blkOk_by hb
  have hg : ∀ (s : Shared) (H : Hp) (C : Addr) (cl : List (Str × Addr)) (fp : List Addr), PG (X.blk s H scope (compEnvC scope cl C X.env) fp) t (tG X.K ca tg) := fun s H C cl fp =>
    pg_ok (X := X.blk s H scope (compEnvC scope cl C X.env) fp) (N := N) (sc := scope) o.calm hN (blk_st o) tg t ht
  refine PE.imp (PE.or (pe_lc (pos := pos) o.calm hN hi1 ok hg hc he hset) (pe_lock (pe_lc (pos := pos) o.calm hN hi2 ok hg hc he hset))) fun σ H Q q => ?_
  rw [own_snd]
  exact i_lc hown q
def isB : Expr → Bool
  | .BoolOp .. => true
  | _ => false
theorem n_lit {e : E} {u : Val} {z : V} {x : Expr} (h : PE X x (L2.tC z)) (he : ∀ env h, evE F e env h = .ok u h) (hz : ∀ ρ H, RV ρ H u z) : PE X x (tE X.K ca F W e) := PE.imp h fun σ H Q q => i_lit he hz q
def Es.get : Es → Nat → Option E
  | .nil, _ => none
  | .cons e _, 0 => some e
  | .cons _ es, i + 1 => es.get i
/-- list(range(..)) -/
theorem prg_imp {e : Expr} {t t' : SL → Hp → (Int → Int → Hp → Prop) → Prop} (h : PRg X e t) (i : ∀ σ H Q, t' σ H Q → t σ H Q) : PRg X e t' := fun pins s σ H Q I q => h pins s σ H Q I (i _ _ _ q)
def tRg (K : PySem.W.Frag) (ca : Str → Addr) (F : Orc) (W : WX) (es : Es) : SL → Hp → (Int → Int → Hp → Prop) → Prop := fun σ H Q => ∃ ρ P env h, Rl K ca ρ P h H ∧ RE ρ H env σ ∧ PoR K ca W ρ P H σ (fun vs h' => ∃ a b : Int, (vs = [.int b] ∧ a = 0 ∨ vs = [.int a, .int b]) ∧ ∀ ρ' P' H', Ext ρ P H ρ' P' H' → Rl K ca ρ' P' h' H' → Q a b H') (evEs F es env h)
theorem n_prg (o : Ok T X ca F W n N sc) {es : Es} {xs : List Expr} {p pos : Pos} (hg : glOk sc "range" = true) (hst : isEs T N sc es xs = true) (h2 : few3 xs = true)
    (hx : ∀ (i : Nat) (e : E) (x : Expr), Es.get es i = some e → xs[i]? = some x → PE X x (tE X.K ca F W e)) : PRg X (.Call (.Name "range" p) xs [] pos) (fun σ H Q => xs.length < 3 ∧ tRg X.K ca F W es σ H Q) := by
  obtain ⟨g1, _, _⟩ := gl_of o hg
  have hm : X.mg "range" = none := o.wo.free _ (by decide)
  unfold few3 at h2
  split at h2
  · rename_i a
    cases es with
    | nil => unfold isEs at hst; cases hst
    | cons e es =>
    have hst' := hst
    unfold isEs at hst'
    obtain ⟨s1, s2⟩ := and2 hst'
    cases es with
    | cons _ _ => unfold isEs at s2; cases s2
    | nil =>
    refine prg_imp (prg_1 g1 hm (hx 0 e a rfl rfl) (star_cons (notStar_of s1))) fun σ H Q ⟨_, ρ, P, env, h, R, re, p⟩ => ?_
    simp only [evEs] at p
    refine ⟨ρ, P, env, h, R, re, p.bind.imp fun u h1 p1 => ?_⟩
    intro z ρ1 P1 H1 e1 R1 r1
    obtain ⟨a', b', hv, g⟩ := p1
    rcases hv with ⟨hv, rfl⟩ | hv
    · cases u <;> first | (simp [mat] at hv; done) | skip
      simp only [mat] at hv
      cases hv
      exact ⟨_, r1.int, g ρ1 P1 H1 e1 R1⟩
    · exact absurd (congrArg List.length hv) (by simp)
  · rename_i a b
    cases es with
    | nil => unfold isEs at hst; cases hst
    | cons e es =>
    have hst' := hst
    unfold isEs at hst'
    obtain ⟨s1, s2⟩ := and2 hst'
    cases es with
    | nil => unfold isEs at s2; cases s2
    | cons f es =>
    have s2' := s2
    unfold isEs at s2'
    obtain ⟨s3, s4⟩ := and2 s2'
    cases es with
    | cons _ _ => unfold isEs at s4; cases s4
    | nil =>
    refine prg_imp (prg_2 g1 hm (hx 0 e a rfl rfl) (hx 1 f b rfl rfl) (star_cons (notStar_of s1)) (star_cons (notStar_of s3)) (star_any s2)) fun σ H Q ⟨_, ρ, P, env, h, R, re, p⟩ => ?_
    simp only [evEs] at p
    refine ⟨ρ, P, env, h, R, re, p.bind.imp fun u h1 p1 => ?_⟩
    intro z ρ1 P1 H1 e1 R1 r1
    obtain ⟨ρ2, P2, e2, R2, r2, _⟩ := mat_ok e1 R1 r1
    refine ⟨ρ2, P2, env, _, R2, re.low e2.low, p1.bind.bind.ext e2 fun u2 h3 p2 => ?_⟩
    intro z2 ρ3 P3 H3 e3 R3 r3
    obtain ⟨a', b', hv, g⟩ := p2
    rcases hv with ⟨hv, rfl⟩ | hv
    · exact absurd (congrArg List.length hv) (by simp)
    · have h1' : (mat u h1).1 = .int a' ∧ (mat u2 h3).1 = .int b' := by simpa using hv
      obtain ⟨q1, q2⟩ := h1'
      rw [q1] at r2
      cases u2 <;> first | (simp [mat] at q2; done) | skip
      simp only [mat] at q2
      cases q2
      unfold RV at r2
      exact ⟨a', _, r2, r3.int, g ρ3 P3 H3 (e2.trans e3) R3⟩
  · exact fun pins s σ H Q I q => absurd q.1 (by simp)
  · cases h2
theorem n_rng (o : Ok T X ca F W n N sc) {es : Es} {xs : List Expr} {p p2 pos pos2 : Pos} (hg : glOk sc "range" = true) (hg2 : glOk sc "list" = true) (hst : isEs T N sc es xs = true) (h2 : few3 xs = true) (h3 : decide (xs.length < 3) = true)
    (hx : ∀ (i : Nat) (e : E) (x : Expr), Es.get es i = some e → xs[i]? = some x → PE X x (tE X.K ca F W e)) : PE X (.Call (.Name "list" p2) [.Call (.Name "range" p) xs [] pos] [] pos2) (tE X.K ca F W (.rng es)) := by
  obtain ⟨g1, _, _⟩ := gl_of o hg2
  refine PE.imp (pe_listRg o.calm g1 (o.wo.free _ (by decide)) (n_prg o hg hst h2 hx)) fun σ H Q ⟨ρ, P, env, h, R, re, q⟩ => ?_
  simp only [evE] at q
  refine ⟨of_decide_eq_true h3, ρ, P, env, h, R, re, q.bind.imp fun vs h1 p1 => ?_⟩
  obtain ⟨w, ew, g⟩ := p1.of
  unfold rngL at ew
  have key : ∀ a b : Int, (-(2 ^ 62) ≤ a ∧ a < 2 ^ 62 ∧ -(2 ^ 62) ≤ b ∧ b < 2 ^ 62 ∧ (b - a).toNat ≤ lim) → w = .tl ((List.range (b - a).toNat).map fun (k : Nat) => .int (a + (k : Int))) → ∀ ρ' P' H', Ext ρ P H ρ' P' H' → Rl X.K ca ρ' P' h1 H' → RgOk a b ∧ ∀ q, H' q = none → Q (.ref q) (upd H' q (.lst (rgV a b))) := by
    intro a b hb hw ρ' P' H' e' R'
    subst hw
    refine ⟨⟨hb.1, hb.2.1, hb.2.2.1, hb.2.2.2.1, hb.2.2.2.2⟩, fun q hq => ?_⟩
    refine Gd.tmp (g.gd e') R' ?_ hq
    unfold rgV
    generalize (b - a).toNat = m
    induction (List.range m) with
    | nil => exact RVs.nil
    | cons x r ih => exact RVs.cons RV.mk_int ih
  split at ew
  · rename_i j
    split at ew
    · rename_i hb
      cases ew
      refine ⟨0, j, .inl ⟨rfl, rfl⟩, key 0 j ⟨by omega, by omega, by omega, by omega, by rw [Int.sub_zero]; exact hb.2⟩ (by rw [Int.sub_zero])⟩
    · cases ew
  · rename_i i j
    split at ew
    · rename_i hb
      cases ew
      exact ⟨i, j, .inr rfl, key i j ⟨by omega, by omega, by omega, by omega, hb.2.2⟩ rfl⟩
    · cases ew
  · cases ew
end
end Fs
set_option Elab.async false
set_option linter.all false
set_option maxRecDepth 100000
set_option maxHeartbeats 4000000
set_option autoImplicit false
set_option relaxedAutoImplicit false
namespace Fs
open PySem PySem.Spec PyProof.Rows L2
section
variable {X : Cx} {pins : List (Addr × Obj)} {σ : SL} {H : Hp} {s : Shared}
theorem Inv.track {a : Addr} {oe : Obj} {cls : Value} {d : Option Addr} (I : Inv X ((a, oe) :: pins) σ H s) (z : Zc cls d oe) (hd : ∃ vs, oe.data = .fields vs) (n0 : X.s_0.heap.get? a = none) (np : ∀ p ∈ X.pn ++ pins, p.1 ≠ a) : Inv X pins σ (upd H a (EXC cls d a)) s := by
  obtain ⟨ga, na, nL, nF, nc⟩ := I.pin (a, oe) (List.mem_append_right _ (List.mem_cons_self ..))
  dsimp only at ga na nL nF nc
  have neN : ∀ b o, H b = some o → b ≠ a := fun b o e q => by rw [q, na] at e; cases e
  obtain ⟨vs, hv⟩ := hd
  refine ⟨I.ok, I.os, I.bare, ⟨I.base.keep, I.base.slot, fun b u q n x => ?_, I.base.there, fun b xs q => ?_, fun b o u q => ?_, fun b ps q => ?_⟩, I.loc, I.cell, ?_, fun x c e => ?_, fun p hp => ?_, fun b u e => ?_, I.len⟩
  · rw [upd_ne (fun z => by rw [z, n0] at q; cases q)]
    exact I.base.free b u q n x
  · have e := I.base.tups b xs q
    rw [upd_ne (neN b _ e)]
    exact e
  · have e := I.base.frzs b o u q
    rw [upd_ne (neN b _ e)]
    exact e
  · obtain ⟨m, e⟩ := I.base.tbls b ps q
    exact ⟨m, by rw [upd_ne (neN b _ e)]; exact e⟩
  · rw [upd_ne (fun z => nL z.symm)]
    exact I.free
  · have hne : c ≠ a := fun z => by
      obtain ⟨v, o, ho, hc⟩ := I.cell x c e
      rw [z, ga] at ho
      cases ho
      exact nc v hc
    rw [upd_ne hne]
    exact I.freeC x c e
  · obtain ⟨e, n, r⟩ := I.pin p (by
      rcases List.mem_append.mp hp with h | h
      · exact List.mem_append_left _ h
      · exact List.mem_append_right _ (List.mem_cons_of_mem _ h))
    exact ⟨e, by rw [upd_ne (np p hp)]; exact n, r⟩
  · by_cases hb : b = a
    · subst hb
      rw [upd_same] at e
      cases e
      exact ⟨⟨oe, vs, ga, z, hv⟩, ⟨oe, ga⟩, fun _ _ ⟨o, v, q, r⟩ k => ⟨o, v, k o q, r⟩⟩
    · rw [upd_ne hb] at e
      exact (I.hok b u e).stay (fun c v _ q => q) (fun c q => by rw [upd_ne (neN c _ q)]; exact q) fun c xs q => by rw [upd_ne (neN c _ q)]; exact q
theorem Inv.unsuite2 {a : Addr} {q : Addr × Obj} (I : Inv (X.suite a (q :: (X.pn ++ pins))) [] σ H s) (ok : X.Ok) : Inv X (q :: pins) σ H s :=
  ⟨ok, I.os, I.bare, I.base, I.loc, I.cell, I.free, I.freeC, fun p hp => I.pin p (by
    rcases List.mem_append.mp hp with h | h
    · exact List.mem_append_left _ (List.mem_cons_of_mem _ (List.mem_append_left _ h))
    · rcases List.mem_cons.mp h with rfl | h
      · exact List.mem_append_left _ (List.mem_cons_self ..)
      · exact List.mem_append_left _ (List.mem_cons_of_mem _ (List.mem_append_right _ h))), I.hok, I.len⟩
end
/-- what the clause 'except x as n: m = n' wishes of an exception of the body -/
def wKeep (K : PySem.W.Frag) (c : Value) (i j : Nat) (Wout : WX) (D : Ends) : WX := fun cls d σ H =>
  ∃ b, PySem.W.exmOne K cls c = some b ∧ (b = true → ∀ a, H a = none → i < σ.length ∧ i ≠ j ∧ D.nx (((σ.set i (some (.ref a))).set j (some (.ref a))).set i none) (upd H a (EXC cls d a))) ∧ (b = false → Wout cls d σ H)
section
variable {X : Cx} {i j : Nat} {x n m : Str} {c : Value} {body : List Stmt} {np np2 mp apos pos pos' : Pos} {tb : WX → TS} {Wout : WX}
theorem ps_tryE (hs : X.stack = X.env :: X.outer) (hf : X.env.frame = some X.env.locals) (hex : X.ex = []) (hN : X.N.Nodup) (hi : X.N[i]? = some n) (hj : X.N[j]? = some m) (hln : X.env.kindOf n = some .local) (hlm : Loc X.env.scope m) (hlm2 : X.fn m = true ∨ X.env.scope.names.lookup m = some .local)
    (hd1 : (n == ("__debug__" : Str)) = false) (hd2 : (n == ("__classdict__" : Str)) = false) (hc : Names X x c) (tk : Takes X Wout)
    (hb : ∀ (W : WX) (pn : List (Addr × Obj)) (xe : Value → Shared → Prop), Takes (X.tr pn xe) W → PassesOwn (model X.prog X.w) X.A X.env xe → PSs (X.tr pn xe) body (tb W)) :
    PS X (.Try body [.ExceptHandler (some (.Name x np)) (some n) [.Assign [.Name m mp] (.Name n np2) apos] pos'] [] [] pos) (fun D σ H => tb (wKeep X.K c i j Wout D) D σ H) := by
  refine ⟨fun pins s σ H D I h => ?_⟩
  have ok := I.ok
  have hfr : X.A.frames = some (X.env :: X.outer) := by rw [ok.frames, hs]
  have hloc : Loc X.env.scope n := .inl hln
  refine wpAny_Try_except ?_
  refine wpAny_mono ((hb (wKeep X.K c i j Wout D) (X.pn ++ pins) (fun e s₁ => wpAny (model X.prog X.w) X.A (noteFrame e X.env) (fun _ s₂ => wpAny (model X.prog X.w) X.A (setFlight e none) (fun _ s₃ =>
    wpAny (model X.prog X.w) X.A (handleBy e X.env [.ExceptHandler (some (.Name x np)) (some n) [.Assign [.Name m mp] (.Name n np2) apos] pos']) (SP X pins D) X.xe s₃) X.xe s₂) X.xe s₁) (fun u s' xx => ?_) PassesOwn.looking).run [] s σ H D (I.toTry _) h) (fun f s1 hsp => ?_) (fun e s1 he => he)
  · -- the catch
    obtain ⟨a, B, sI, pins', σ', H', cls, d, rfl, J', nb, up, sky, na, os, ag, b, hb1, hyes, hno⟩ := xx
    have J : Inv X pins σ' H' sI := J'.ofTry ok
    have sky' : Sky B (X.env :: X.outer) a (Zc cls d) X.env.locals s'.heap := by rw [← hs]; exact sky
    show wpAny (model X.prog X.w) X.A (noteFrame (.ref a) X.env) _ _ _
    refine Sky.land Zc.steady hfr hf sky' fun h3 fl3 up3 => ?_
    have J3 : Inv X pins σ' H' { s' with heap := h3 } := J.landed nb fl3.1 (up.trans up3) os ag
    obtain ⟨oe3, vs3, he3, hz3, hd3⟩ := fl3.there
    have notFr : ∀ {h : Heap} {o : Obj} {vs : Array Value}, h.FunFrames B (X.env :: X.outer) → h.get? a = some o → o.data = .fields vs → a ∉ frs (X.env :: X.outer) := fun {h o vs} ff e dd hm => by
      obtain ⟨_, o', e', hnf⟩ := ff.mem hm
      rw [e] at e'; cases e'
      exact hnf _ dd
    have nfr := notFr fl3.2.2.1 he3 hd3
    have nL : a ≠ X.env.locals := fun z => nfr (List.mem_filterMap.mpr ⟨X.env, List.mem_cons_self, by rw [hf, z]⟩)
    have nF : a ∉ X.fs := fun hm => by
      obtain ⟨e, he, q⟩ := List.mem_filterMap.mp hm
      exact nfr (List.mem_filterMap.mpr ⟨e, List.mem_cons_of_mem _ he, q⟩)
    have nI : sI.heap.get? a = none := by
      cases q : sI.heap.get? a with
      | none => rfl
      | some o =>
        have z := nb a o q (by rw [hs]; exact nfr)
        rw [fl3.2.1] at z
        cases z
    have n0 : X.s_0.heap.get? a = none := by
      cases q : X.s_0.heap.get? a with
      | none => rfl
      | some o =>
        obtain ⟨o', z⟩ := J.base.there a o q (by rw [hex]; exact fun z => nomatch z)
        rw [nI] at z
        cases z
    have npp : ∀ p ∈ X.pn ++ pins, p.1 ≠ a := fun p hp z => by
      have e := (J.pin p hp).1
      rw [z, nI] at e
      cases e
    have S3 := J3.suite he3 hd3 na nL nF
    refine wpAny_handleBy_cons (codeAny_handlers_test ?_) (by intro q; cases q)
    have LT : PySem.W.Looks (model X.prog X.w) h3 (typeOf (.ref a)) cls := fun A Q E s k q => wpAny_typeOf_ref (k _ _ he3) (by rw [hz3.1]; exact q)
    have LM := PySem.W.exm_one (M := model X.prog X.w) (J3.kIn) LT hb1
    have test : ∀ {Q : Value → Shared → Prop} {E : Value → Shared → Prop}, Q c { s' with heap := h3 } → wpAny (model X.prog X.w) (X.A.mark (some (.ref a))) (eval (.Name x np) X.env) Q E { s' with heap := h3 } := fun {Q E} q => by
      obtain ⟨hg, hdbg, hm | ⟨hm, hv, hnn⟩⟩ := hc
      · exact ld_glob (X := X.suite a ((a, oe3) :: (X.pn ++ pins))) S3 hg hm q hdbg
      · exact ld_blt (X := X.suite a ((a, oe3) :: (X.pn ++ pins))) S3 hg hm hv q hnn hdbg
    refine test (LM.here ?_)
    cases b with
    | true =>
      obtain ⟨hlt, hij, hnx⟩ := hyes rfl a na
      refine codeAny_handlers_suite_as ?_
      refine HandSPX.lands_againZ fl3 fun h4 fl4 up4 => ?_
      have J4 : Inv X pins σ' H' { s' with heap := h4 } := J.landed nb fl4.1 ((up.trans up3).trans up4) os ag
      obtain ⟨oe4, vs4, he4, hz4, hd4⟩ := fl4.there
      have S4 := J4.suite he4 hd4 na nL nF
      refine store_ok (X := X.suite a ((a, oe4) :: (X.pn ++ pins))) (v := .ref a) S4 hN hi hloc rfl (fun s5 S5 => ?_) (.inr hln)
      have hsu : PSs (X.suite a ((a, oe4) :: (X.pn ++ pins))) [.Assign [.Name m mp] (.Name n np2) apos] (tAsg (tVar i) (gName j)) :=
        pss_one (ps_asg (pe_var (X := X.suite a ((a, oe4) :: (X.pn ++ pins))) hi (.inl hln) hd1 hd2) (pg_name (X := X.suite a ((a, oe4) :: (X.pn ++ pins))) hN hj hlm hlm2))
      refine wpAny_mono (hsu.run [] s5 _ H' { nx := fun σ6 H6 => σ6 = (σ'.set i (some (.ref a))).set j (some (.ref a)) ∧ H6 = H', rt := fun _ _ => False } S5 ⟨.ref a, by rw [List.getElem?_set_self hlt], rfl, rfl⟩) (fun f s6 hsp => ?_) (fun _ _ z => False.elim z)
      cases f with
      | next =>
        obtain ⟨σ6, H6, S6, rfl, rfl⟩ := hsp
        exact gone_ok (Inv.unsuite2 S6 ok) hN hi hln fun s7 J7 => ⟨_, _, Inv.track J7 hz4 ⟨_, hd4⟩ n0 npp, hnx⟩
      | brk =>
        obtain ⟨σ6, H6, S6, q6⟩ := hsp
        exact q6.elim
      | cont =>
        obtain ⟨σ6, H6, S6, q6⟩ := hsp
        exact q6.elim
      | ret u =>
        obtain ⟨v6, σ6, H6, S6, r6, q6⟩ := hsp
        exact q6.elim
    | false =>
      show wpAny _ X.A (handleBy (.ref a) X.env []) _ _ _
      refine wpAny_handleBy_nil ?_
      obtain ⟨k1, k2, k3, oe, vs, T, oT, ts', he, hz, hd, h1, hr⟩ := id fl3
      unfold PySem.passOn
      refine wpAny_bind (wpAny_field he hd h1 ?_)
      rw [if_neg (show ¬ ((Value.ref T == Value.none) = true) from by simp)]
      have fin : wpAny (model X.prog X.w) X.A (setFlight (.ref a) X.env.frame) (fun _ s4 => wpAny (model X.prog X.w) X.A (throw (.ref a) : Sem Flow) (SP X pins D) X.xe s4) X.xe { s' with heap := h3 } := by
        rw [hf]
        refine HandSPX.setFlight_upZ fl3 fun h4 hh4 up4 => wpAny_throw (tk _ _ ?_)
        exact ⟨a, B, sI, pins, σ', H', cls, d, rfl, J, nb, (up.trans up3).trans up4, .inr (.inr (by rw [hs]; exact hh4)), na, os, ag, hno rfl⟩
      first
        | exact wpAny_bind (wpAny_pure (wpAny_bind fin))
        | exact wpAny_bind fin
  · cases f with
    | next =>
      obtain ⟨σ', H', J', q⟩ := hsp
      exact wpAny_execs_nil ⟨σ', H', J'.ofTry ok, q⟩
    | brk =>
      obtain ⟨σ', H', J', q⟩ := hsp
      exact ⟨σ', H', J'.ofTry ok, q⟩
    | cont =>
      obtain ⟨σ', H', J', q⟩ := hsp
      exact ⟨σ', H', J'.ofTry ok, q⟩
    | ret u =>
      obtain ⟨v, σ', H', J', r, q⟩ := hsp
      exact ⟨v, σ', H', J'.ofTry ok, r, q⟩
end
/-- isinstance of None, of a kept exception -/
def rIsc (K : PySem.W.Frag) (cv : Value) : List V → Hp → VK → Prop := fun xs H Q => ∃ (u z : V) (b : Bool), xs = [u, z] ∧ (∀ w, RelV z w → w = cv) ∧ Q (.bl b) H ∧
  ((u = .non ∧ PySem.W.kitOne K (.type "NoneType") cv = some b) ∨ ∃ a D, u = .ref a ∧ H a = some (EXC (.ref D) none a) ∧ ExcC K D ∧ PySem.W.kitOne K (.ref D) cv = some b)
theorem call_isc {X : Cx} {cv : Value} : CallR X (.builtin "isinstance") (rIsc X.K cv) := by
  intro pins s σ H xs us Q I r h
  obtain ⟨c, z, b, rfl, hcv, q, h⟩ := h
  cases r with
  | cons rx rr =>
    cases rr with
    | cons rt rr =>
      cases rr
      have ec := hcv _ rt
      subst ec
      rcases h with ⟨rfl, e⟩ | ⟨a, D, rfl, ha, C, e⟩
      · cases rx
        exact PySem.W.kia_one (PySem.W.kitx_none) I.kIn trivial e (fun z => nomatch z) fun tk => ⟨.bl b, H, I.kept (t' := tk) fun _ _ z => z, rfl, q⟩
      · cases rx
        obtain ⟨oe, vs, hget, hz, hv⟩ := (I.hok a _ ha).1
        have J : PySem.W.InstAt s.heap a oe D none := by
          obtain ⟨oc, od, oda, osl⟩ := oe
          obtain ⟨h1, h2⟩ := hz
          dsimp only at h1 h2 hv
          subst h1 h2 hv
          exact ⟨hget, rfl, rfl, trivial⟩
        exact PySem.W.kia_one (PySem.W.handS_kitx_exc C.hg C.hk C.hs C.hd C.ha C.hn C.ht C.hm) I.kIn J e (fun z => nomatch z) fun tk => ⟨.bl b, H, I.kept (t' := tk) fun _ _ z => z, rfl, q⟩
section
variable {T : Tab} {X : Cx} {ca : Str → Addr} {F : Orc} {W : WX} {n : Nat} {N : List Str} {sc : Scope}
theorem n_isc (o : Ok T X ca F W n N sc) {e : E} {c : Str} {sub non : List Str} {x : Expr} {p p2 pos : Pos} (h1 : glOk sc "isinstance" = true) (h2 : glOk sc c = true) (hx : ∀ y q, x ≠ .Starred y q) (ht : (c, sub, non) ∈ T.ex) (he : PE X x (tE X.K ca F W e)) :
    PE X (.Call (.Name "isinstance" p) [x, .Name c p2] [] pos) (tE X.K ca F W (.isc e c sub non)) := by
  obtain ⟨g1, g2, g3⟩ := gl_of o h1
  obtain ⟨k1, k2, k3⟩ := gl_of o h2
  obtain ⟨z, cv, hz, hn, k0, ky, kn⟩ := o.wo.ex c sub non ht
  have pb : PE X (.Name c p2) (L2.tC z) := by
    rcases hn with hm | ⟨hm, hv⟩
    · exact pe_glob k1 hm ((hz _).mpr rfl) k2
    · exact pe_bltn k1 hm hv ((hz _).mpr rfl) k3 k2
  have ha : PA X [x, .Name c p2] (tCons (tE X.K ca F W e) (tCons (L2.tC z) tNil)) := pa_cons he (pa_cons pb pa_nil) (star_cons hx)
  refine PE.imp (pe_callB (call_isc (cv := cv)) g1 (o.wo.free _ (by decide)) (by decide +kernel) ha g3 g2 (star_cons hx)) fun σ H Q ⟨ρ, P, env, hh, R, re, q⟩ => ?_
  simp only [evE] at q
  refine ⟨ρ, P, env, hh, R, re, q.bind.imp fun u h1 p1 => ?_⟩
  intro z0 ρ1 P1 H1 e1 R1 r1
  rw [of_map] at p1
  obtain ⟨w, ew, g⟩ := p1.of
  obtain ⟨b, eb, rfl⟩ := map_some ew
  refine ⟨z0, z, b, rfl, fun w hw => (hz w).mp hw, GE.now (GE.ext e1 g) R1 (by unfold RV; rfl), ?_⟩
  unfold iscO at eb
  split at eb
  · cases eb
    exact .inl ⟨r1, k0⟩
  · rename_i i
    obtain ⟨a, rfl, ha⟩ := r1.ref
    split at eb
    · rename_i k fs hnn
      obtain ⟨_, hH⟩ := R1.ob i _ a hnn ha
      split at eb
      · rename_i hk
        cases eb
        obtain ⟨c1, c2, c3⟩ := ky k hk
        exact .inr ⟨a, ca k, rfl, hH, c1, c2⟩
      · split at eb
        · rename_i hk
          cases eb
          obtain ⟨c1, c2, c3⟩ := kn k hk
          exact .inr ⟨a, ca k, rfl, hH, c1, c2⟩
        · cases eb
    · cases eb
  · cases eb
end
end Fs
set_option Elab.async false
set_option linter.all false
set_option maxRecDepth 100000
set_option maxHeartbeats 8000000
set_option autoImplicit false
set_option relaxedAutoImplicit false
namespace Fs
open PySem PySem.Spec PyProof.Rows L2
theorem and3 {a b c : Bool} (h : (a && b && c) = true) : a = true ∧ b = true ∧ c = true := ⟨(and2 (and2 h).1).1, (and2 (and2 h).1).2, (and2 h).2⟩
theorem and4 {a b c d : Bool} (h : (a && b && c && d) = true) : a = true ∧ b = true ∧ c = true ∧ d = true := ⟨(and3 (and2 h).1).1, (and3 (and2 h).1).2.1, (and3 (and2 h).1).2.2, (and2 h).2⟩
theorem and5 {a b c d e : Bool} (h : (a && b && c && d && e) = true) : a = true ∧ b = true ∧ c = true ∧ d = true ∧ e = true := ⟨(and4 (and2 h).1).1, (and4 (and2 h).1).2.1, (and4 (and2 h).1).2.2.1, (and4 (and2 h).1).2.2.2, (and2 h).2⟩
theorem and6 {a b c d e f : Bool} (h : (a && b && c && d && e && f) = true) : a = true ∧ b = true ∧ c = true ∧ d = true ∧ e = true ∧ f = true := ⟨(and5 (and2 h).1).1, (and5 (and2 h).1).2.1, (and5 (and2 h).1).2.2.1, (and5 (and2 h).1).2.2.2.1, (and5 (and2 h).1).2.2.2.2, (and2 h).2⟩
theorem ne_cons {α : Type} {xs : List α} (h : (!xs.isEmpty) = true) : ∃ y ys, xs = y :: ys := by
  cases xs with
  | nil => cases h
  | cons y ys => exact ⟨y, ys, rfl⟩
theorem not_t {a : Bool} (h : (!a) = true) : a = false := by simpa using h
abbrev Res3 (X : Cx) (ca : Str → Addr) (F : Orc) (W : WX) (e : E) (x : Expr) : Prop := PE X x (tE X.K ca F W e) ∧ PT X x (tT X.K ca F W e) ∧ (isB x = true → PW X x (tT X.K ca F W e))
section
variable {T : Tab} {X : Cx} {ca : Str → Addr} {F : Orc} {W : WX} {n : Nat} {N : List Str} {sc : Scope}
theorem res3_of {e : E} {x : Expr} (h1 : PE X x (tE X.K ca F W e)) (he : ∀ σ h, evT F e σ h = (evE F e σ h).bind fun v h1 => Res.of (tru h1 v) h1) (hp : ∀ whole, isTrue x X.env whole = (do let v ← whole; standAt x.pos; holding [v] (truthy v))) (hb : isB x = false) : Res3 X ca F W e x :=
  ⟨h1, n_truth he hp h1, fun h => by rw [hb] at h; cases h⟩
theorem set_of {x : Expr} (h : noSet x = true) {env : Env} : ∀ v, foldedSetIterable x env v = pure v := by
  intro v
  cases x <;> first | rfl | cases h
end
section
variable {T : Tab} {ca : Str → Addr} {F : Orc} {n : Nat} {N : List Str}
theorem n_lay {X : Cx} {W : WX} {e : E} {x : Expr} (he : PE X x (tE X.K ca F W e)) : PE X x (tE X.K ca F W (.lay e)) := PE.imp he fun σ H Q ⟨ρ, P, env, h, R, re, p⟩ => by
  simp only [evE] at p
  refine ⟨ρ, P, env, h, R, re, p.bind.imp fun u h1 g => ?_⟩
  intro z ρ1 P1 H1 e1 R1 r1
  obtain ⟨ρ2, P2, e2, R2, r2, _⟩ := mat_ok e1 R1 r1
  exact g z ρ2 P2 H1 e2 R2 (RR.of r2)
theorem isE_set : ∀ {e : E} {sc : Scope} {x : Expr}, isE T N sc e x = true → noSet x = true := by
  intro e sc x h
  cases x <;> first | rfl | (cases e <;> (unfold isE at h; first | exact absurd (and2 h).2 Bool.false_ne_true | cases h))
theorem isI_set {it : I} {sc : Scope} {x : Expr} (h : isI T N sc it x = true) : noSet x = true := by
  cases it with
  | of e => unfold isI at h; exact isE_set h
  | _ => cases x <;> first | rfl | (unfold isI at h; cases h)
mutual
theorem sE : ∀ (e : E) {X : Cx} {W : WX} {sc : Scope}, Ok T X ca F W n N sc → ∀ (x : Expr), isE T N sc e x = true → Res3 X ca F W e x
  | .var i, X, W, sc, o, x, h => by
    unfold isE at h
    split at h <;> first | (exact absurd h Bool.false_ne_true) | (rename_i he; cases he)
    obtain ⟨h1, h2, h3, h4⟩ := nm_of o h
    exact res3_of (PE.imp (pe_var h1 h2 h3 h4) fun σ H Q q => i_var q) (fun _ _ => by simp only [evT]) (fun _ => rfl) rfl
  | .non, X, W, sc, o, x, h => by
    unfold isE at h
    split at h <;> first | (exact absurd h Bool.false_ne_true) | (rename_i he; cases he)
    exact res3_of (n_lit pe_non (fun _ _ => by simp only [evE]) fun _ _ => RV.mk_non) (fun _ _ => by simp only [evT]) (fun _ => rfl) rfl
  | .bl b, X, W, sc, o, x, h => by
    unfold isE at h
    split at h <;> first | (exact absurd h Bool.false_ne_true) | (rename_i he; cases he)
    have e := eq_of_beq h
    subst e
    exact res3_of (n_lit pe_bl (fun _ _ => by simp only [evE]) fun _ _ => RV.mk_bl) (fun _ _ => by simp only [evT]) (fun _ => rfl) rfl
  | .int i, X, W, sc, o, x, h => by
    unfold isE at h
    split at h <;> first | (exact absurd h Bool.false_ne_true) | (rename_i he; cases he)
    have e := of_decide_eq_true h
    subst e
    exact res3_of (n_lit pe_int (fun _ _ => by simp only [evE]) fun _ _ => RV.mk_int) (fun _ _ => by simp only [evT]) (fun _ => rfl) rfl
  | .str i, X, W, sc, o, x, h => by
    unfold isE at h
    split at h <;> first | (exact absurd h Bool.false_ne_true) | (rename_i he; cases he)
    have e := of_decide_eq_true h
    subst e
    exact res3_of (n_lit pe_str (fun _ _ => by simp only [evE]) fun _ _ => RV.mk_str) (fun _ _ => by simp only [evT]) (fun _ => rfl) rfl
  | .gint y i, X, W, sc, o, x, h => by
    unfold isE at h
    split at h <;> first | (exact absurd h Bool.false_ne_true) | (rename_i he; cases he)
    obtain ⟨h1, h2, h3⟩ := and3 h
    have e := of_decide_eq_true h1
    subst e
    obtain ⟨g1, g2, _⟩ := gl_of o h2
    obtain ⟨t, ht⟩ := o.wo.ci _ _ (of_decide_eq_true h3)
    exact res3_of (n_lit (pe_glob (v := V.int i) g1 ht ⟨t, rfl⟩ g2) (fun _ _ => by simp only [evE]) fun _ _ => RV.mk_int) (fun _ _ => by simp only [evT]) (fun _ => rfl) rfl
  | .gstr y i, X, W, sc, o, x, h => by
    unfold isE at h
    split at h <;> first | (exact absurd h Bool.false_ne_true) | (rename_i he; cases he)
    obtain ⟨h1, h2, h3⟩ := and3 h
    have e := of_decide_eq_true h1
    subst e
    obtain ⟨g1, g2, _⟩ := gl_of o h2
    obtain ⟨t, ht⟩ := o.wo.cs _ _ (of_decide_eq_true h3)
    exact res3_of (n_lit (pe_glob (v := V.str i) g1 ht ⟨t, rfl⟩ g2) (fun _ _ => by simp only [evE]) fun _ _ => RV.mk_str) (fun _ _ => by simp only [evT]) (fun _ => rfl) rfl
  | .bin b e f, X, W, sc, o, x, h => by
    unfold isE at h
    split at h <;> first | (exact absurd h Bool.false_ne_true) | (rename_i he; cases he)
    obtain ⟨h1, h2, h3⟩ := and3 h
    exact res3_of (n_bin o h1 (sE e o _ h2).1 (sE f o _ h3).1) (fun _ _ => by simp only [evT]) (fun _ => rfl) rfl
  | .neg e, X, W, sc, o, x, h => by
    unfold isE at h
    split at h <;> first | (exact absurd h Bool.false_ne_true) | (rename_i he; cases he)
    exact res3_of (n_neg o (sE e o _ h).1) (fun _ _ => by simp only [evT]) (fun _ => rfl) rfl
  | .not e, X, W, sc, o, x, h => by
    unfold isE at h
    split at h <;> first | (exact absurd h Bool.false_ne_true) | (rename_i he; cases he)
    have r := sE e o _ h
    have r2 := n_not (F := F) (W := W) o (pos := by assumption) r.1 r.2.1
    exact ⟨r2.1, r2.2, fun h => nomatch h⟩
  | .cmp b e f, X, W, sc, o, x, h => by
    unfold isE at h
    split at h <;> first | (exact absurd h Bool.false_ne_true) | (rename_i he; cases he)
    obtain ⟨h1, h2, h3, h4⟩ := and4 h
    have r2 := n_cmp (pos := by assumption) o h1 (not_t h4) (sE e o _ h2).1 (sE f o _ h3).1
    exact ⟨r2.1, r2.2, fun h => nomatch h⟩
  | .chain b c e f g, X, W, sc, o, x, h => by
    unfold isE at h
    split at h <;> first | (exact absurd h Bool.false_ne_true) | (rename_i he; cases he)
    obtain ⟨h0, h7⟩ := and2 h
    obtain ⟨h1, h2, h3, h4, h5, h6⟩ := and6 h0
    have r2 := n_chain (pos := by assumption) o h1 h2 (not_t h6) (not_t h7) (sE e o _ h3).1 (sE f o _ h4).1 (sE g o _ h5).1
    exact ⟨r2.1, r2.2, fun h => nomatch h⟩
  | .and e f, X, W, sc, o, x, h => by
    unfold isE at h
    split at h <;> first | (exact absurd h Bool.false_ne_true) | (rename_i he; cases he)
    obtain ⟨h1, h2⟩ := and2 h
    have r1 := sE e o _ h1
    split at h2
    · have r2 := sE f o _ h2
      have z := n_and (pos := by assumption) o r1.1 r1.2.1 (pe_one r2.1) (pw_one o r2.2.1)
      exact ⟨z.1, z.2.pt, fun _ => z.2⟩
    · have r2 := sE f o _ h2
      have z := n_and (pos := by assumption) o r1.1 r1.2.1 r2.1 (r2.2.2 rfl)
      exact ⟨z.1, z.2.pt, fun _ => z.2⟩
  | .or e f, X, W, sc, o, x, h => by
    unfold isE at h
    split at h <;> first | (exact absurd h Bool.false_ne_true) | (rename_i he; cases he)
    obtain ⟨h1, h2⟩ := and2 h
    have r1 := sE e o _ h1
    split at h2
    · have r2 := sE f o _ h2
      have z := n_or (pos := by assumption) o r1.1 r1.2.1 (pe_one r2.1) (pw_one o r2.2.1)
      exact ⟨z.1, z.2.pt, fun _ => z.2⟩
    · have r2 := sE f o _ h2
      have z := n_or (pos := by assumption) o r1.1 r1.2.1 r2.1 (r2.2.2 rfl)
      exact ⟨z.1, z.2.pt, fun _ => z.2⟩
  | .tup es, X, W, sc, o, x, h => by
    unfold isE at h
    split at h <;> first | (exact absurd h Bool.false_ne_true) | (rename_i he; cases he)
    exact res3_of (n_tup (sEs es o _ h).1) (fun _ _ => by simp only [evT]) (fun _ => rfl) rfl
  | .lst es, X, W, sc, o, x, h => by
    unfold isE at h
    split at h <;> first | (exact absurd h Bool.false_ne_true) | (rename_i he; cases he)
    exact res3_of (n_lst (sEs es o _ h).1) (fun _ _ => by simp only [evT]) (fun _ => rfl) rfl
  | .dnew t, X, W, sc, o, x, h => by
    unfold isE at h
    split at h <;> first | (exact absurd h Bool.false_ne_true) | (rename_i he; cases he)
    exact res3_of n_dnew (fun _ _ => by simp only [evT]) (fun _ => rfl) rfl
  | .disp k v, X, W, sc, o, x, h => by
    unfold isE at h
    cases h
  | .idx e f, X, W, sc, o, x, h => by
    unfold isE at h
    split at h <;> first | (exact absurd h Bool.false_ne_true) | (rename_i he; cases he)
    obtain ⟨h1, h2, h3⟩ := and3 h
    exact res3_of (n_idx o (not_t h3) (sE e o _ h1).1 (sE f o _ h2).1) (fun _ _ => by simp only [evT]) (fun _ => rfl) rfl
  | .sl e lo hi, X, W, sc, o, x, h => by
    unfold isE at h
    split at h <;> first | (exact absurd h Bool.false_ne_true) | (rename_i he; cases he)
    obtain ⟨h1, h2, h3⟩ := and3 h
    exact res3_of (n_sl (sE e o _ h1).1 (sO lo o _ h2) (sO hi o _ h3)) (fun _ _ => by simp only [evT]) (fun _ => rfl) rfl
  | .rev e, X, W, sc, o, x, h => by
    unfold isE at h
    split at h <;> first | (exact absurd h Bool.false_ne_true) | (rename_i he; cases he)
    obtain ⟨h1, h2⟩ := and2 h
    have e := of_decide_eq_true h2
    subst e
    exact res3_of (n_rev (sE _ o _ h1).1) (fun _ _ => by simp only [evT]) (fun _ => rfl) rfl
  | .fld e c f, X, W, sc, o, x, h => by
    unfold isE at h
    split at h <;> first | (exact absurd h Bool.false_ne_true) | (rename_i he; cases he)
    obtain ⟨h1, h2, h3, h4⟩ := and4 h
    have e := of_decide_eq_true h1
    subst e
    exact res3_of (n_fld o h3 h4 (sE _ o _ h2).1) (fun _ _ => by simp only [evT]) (fun _ => rfl) rfl
  | .call f es, X, W, sc, o, x, h => by
    unfold isE at h
    split at h <;> first | (exact absurd h Bool.false_ne_true) | (rename_i he; cases he)
    obtain ⟨h1, h2, h3, h4, h5⟩ := and5 h
    have e := of_decide_eq_true h1
    subst e
    obtain ⟨d, hd⟩ := Option.isSome_iff_exists.mp h4
    exact res3_of (n_callX o h3 hd h2 h5 (sEs es o _ h5).1) (fun _ _ => by simp only [evT]) (fun _ => rfl) rfl
  | .make c es, X, W, sc, o, x, h => by
    unfold isE at h
    cases h
  | .meth e c m es, X, W, sc, o, x, h => by
    unfold isE at h
    split at h <;> first | (exact absurd h Bool.false_ne_true) | (rename_i he; cases he)
    obtain ⟨h0, h8⟩ := and2 h
    obtain ⟨h0, h7⟩ := and2 h0
    obtain ⟨h1, h2, h3, h4, h5, h6⟩ := and6 h0
    have e := of_decide_eq_true h1
    subst e
    obtain ⟨d, hd⟩ := Option.isSome_iff_exists.mp h8
    exact res3_of (n_meth o h4 h5 (of_decide_eq_true h6) h3 h7 hd (sE _ o _ h2).1 (sEs es o _ h3).1) (fun _ _ => by simp only [evT]) (fun _ => rfl) rfl
  | .blt b es, X, W, sc, o, x, h => by
    unfold isE at h
    split at h <;> first | (exact absurd h Bool.false_ne_true) | (rename_i he; cases he)
    obtain ⟨h1, h2, h3, h4, h5⟩ := and5 h
    have e := of_decide_eq_true h1
    subst e
    obtain ⟨y, ys, rfl⟩ := ne_cons h4
    exact res3_of (n_blt o h5 h2 h3 (sEs es o _ h3).2) (fun _ _ => by simp only [evT]) (fun _ => rfl) rfl
  | .bm m e es, X, W, sc, o, x, h => by
    unfold isE at h
    split at h <;> first | (exact absurd h Bool.false_ne_true) | (rename_i he; cases he)
    obtain ⟨h1, h2, h3, h4, h5, h6⟩ := and6 h
    have e := of_decide_eq_true h1
    subst e
    have r := sEs es o _ h3
    exact res3_of (n_bm o h4 h5 (of_decide_eq_true h6) h3 (sE _ o _ h2).1 r.1 r.2) (fun _ _ => by simp only [evT]) (fun _ => rfl) rfl
  | .isi e t, X, W, sc, o, x, h => by
    unfold isE at h
    split at h <;> first | (exact absurd h Bool.false_ne_true) | (rename_i he; cases he)
    obtain ⟨h1, h2, h3, h4, h5, h6⟩ := and6 h
    have e := of_decide_eq_true h1
    subst e
    have e := of_decide_eq_true h2
    subst e
    exact res3_of (n_isi o h3 h4 (notStar_of h6) h5 (sE _ o _ h6).1) (fun _ _ => by simp only [evT]) (fun _ => rfl) rfl
  | .isc e c sub non, X, W, sc, o, x, h => by
    unfold isE at h
    split at h <;> first | (exact absurd h Bool.false_ne_true) | (rename_i he; cases he)
    obtain ⟨h1, h2, h3, h4, h5, h6⟩ := and6 h
    have e := of_decide_eq_true h1
    subst e
    have e := of_decide_eq_true h2
    subst e
    exact res3_of (n_isc o h3 h4 (notStar_of h6) (of_decide_eq_true h5) (sE _ o _ h6).1) (fun _ _ => by simp only [evT]) (fun _ => rfl) rfl
  | .rng es, X, W, sc, o, x, h => by
    unfold isE at h
    split at h <;> first | (exact absurd h Bool.false_ne_true) | (rename_i he; cases he)
    obtain ⟨h0, h7⟩ := and2 h
    obtain ⟨h1, h2, h3, h4, h5, h6⟩ := and6 h0
    have e := of_decide_eq_true h1
    subst e
    have e := of_decide_eq_true h2
    subst e
    exact res3_of (n_rng o h4 h3 h5 h6 h7 (sEl es o _ h5)) (fun _ _ => by simp only [evT]) (fun _ => rfl) rfl
  | .sitems e, X, W, sc, o, x, h => by
    unfold isE at h
    cases h
  | .lay e, X, W, sc, o, x, h => by
    unfold isE at h
    obtain ⟨h1, h2⟩ := and2 h
    have ih := (sE e o x h1).1
    cases x <;> first | exact absurd h2 Bool.false_ne_true | exact res3_of (n_lay ih) (fun _ _ => by simp only [evT]) (fun _ => rfl) rfl
  | .lc own elt tg it c, X, W, sc, o, x, h => by
    unfold isE at h
    split at h <;> first | (exact absurd h Bool.false_ne_true) | (rename_i he; cases he)
    obtain ⟨h0, h7⟩ := and2 h
    obtain ⟨h1, h2, h3, h4, h5, h6⟩ := and6 h0
    exact res3_of (n_lc o (sI it o _ h1 (fun hn => by rw [hn] at h2; simpa using h2)).1 (sI it o _ h1 (fun hn => by rw [hn] at h2; simpa using h2)).2 h3 h4 h7 (set_of (isI_set h1)) (fun s H C cl fp => sC c o.blk _ h5) fun s H C cl fp => (sE elt o.blk _ h6).1) (fun _ _ => by simp only [evT]) (fun _ => rfl) rfl
theorem sEs : ∀ (es : Es) {X : Cx} {W : WX} {sc : Scope}, Ok T X ca F W n N sc → ∀ (xs : List Expr), isEs T N sc es xs = true → PA X xs (tEs X.K ca F W es) ∧ PA X xs (tEr X.K ca F W es)
  | .nil, X, W, sc, o, xs, h => by
    cases xs with
    | cons _ _ => unfold isEs at h; cases h
    | nil => exact ⟨PA.imp pa_nil fun σ H Q q => i_nil q, PA.imp pa_nil fun σ H Q q => i_rnil q⟩
  | .cons e es, X, W, sc, o, xs, h => by
    cases xs with
    | nil => unfold isEs at h; cases h
    | cons x xs =>
      unfold isEs at h
      obtain ⟨h1, h2⟩ := and2 h
      have r := sE e o _ h1
      have rs := sEs es o _ h2
      exact ⟨PA.imp (pa_cons r.1 rs.1 (star_cons (notStar_of h1))) fun σ H Q q => i_cons q, PA.imp (pa_cons r.1 rs.2 (star_cons (notStar_of h1))) fun σ H Q q => i_rcons q⟩
theorem sEl : ∀ (es : Es) {X : Cx} {W : WX} {sc : Scope}, Ok T X ca F W n N sc → ∀ (xs : List Expr), isEs T N sc es xs = true → ∀ (i : Nat) (e : E) (x : Expr), Es.get es i = some e → xs[i]? = some x → PE X x (tE X.K ca F W e)
  | .nil, X, W, sc, o, xs, h => fun i e x h1 h2 => by
    cases h1
  | .cons e es, X, W, sc, o, xs, h => fun i e' x h1 h2 => by
    cases xs with
    | nil => cases h2
    | cons y ys =>
      unfold isEs at h
      obtain ⟨s1, s2⟩ := and2 h
      cases i with
      | zero =>
        cases h1
        cases h2
        exact (sE e o _ s1).1
      | succ i => exact sEl es o _ s2 i e' x h1 h2
theorem sO : ∀ (c : Oe) {X : Cx} {W : WX} {sc : Scope}, Ok T X ca F W n N sc → ∀ (x : Option Expr), isOe T N sc c x = true → PO X x (tO X.K ca F W c)
  | .none, X, W, sc, o, x, h => by
    cases x with
    | some _ => unfold isOe at h; cases h
    | none => exact n_none
  | .some e, X, W, sc, o, x, h => by
    cases x with
    | none => unfold isOe at h; cases h
    | some x =>
      unfold isOe at h
      exact n_some (sE e o _ h).1
theorem sC : ∀ (c : Oe) {X : Cx} {W : WX} {sc : Scope}, Ok T X ca F W n N sc → ∀ (ifs : List Expr), isC T N sc c ifs = true → PTs X ifs (tC X.K ca F W c)
  | .none, X, W, sc, o, x, h => by
    cases x with
    | cons _ _ => unfold isC at h; cases h
    | nil => exact ⟨fun pins s σ H Q I q => pts_nil.run pins s σ H Q I (by
        obtain ⟨ρ, P, env, hh, R, re, p⟩ := q
        simp only [evC] at p
        exact p ρ P H Ext.refl R)⟩
  | .some e, X, W, sc, o, x, h => by
    unfold isC at h
    split at h <;> first | (exact absurd h Bool.false_ne_true) | (rename_i he; cases he)
    exact ⟨fun pins s σ H Q I q => (pts_one (sE e o _ h).2.1).run pins s σ H Q I (by
        obtain ⟨ρ, P, env, hh, R, re, p⟩ := q
        simp only [evC] at p
        exact ⟨ρ, P, env, hh, R, re, p⟩)⟩
theorem sI : ∀ (it : I) {X : Cx} {W : WX} {sc : Scope}, Ok T X ca F W n N sc → ∀ {tg : Expr} (x : Expr), isI T N sc it x = true → (nt it = true → isTupE tg = true) → PI X tg x (tI X.K ca F W it) ∧ PI X tg x (tIL X.K ca F it)
  | .of e, X, W, sc, o, tg, x, h, ht => by
    unfold isI at h
    have r := sE e o _ h
    exact ⟨n_of r.1, nL_of r.1⟩
  | .rng es, X, W, sc, o, tg, x, h, ht => by
    unfold isI at h
    split at h <;> first | (exact absurd h Bool.false_ne_true) | (rename_i he; cases he)
    obtain ⟨h1, h2, h3, h4⟩ := and4 h
    have e := of_decide_eq_true h1
    subst e
    exact ⟨n_rngI o h2 h3 h4 (sEs es o _ h3).1, ⟨fun pins s σ H R I q => by obtain ⟨_, _, _, _, _, _, _, _, _, q, _⟩ := q; exact q.elim⟩⟩
  | .enum e, X, W, sc, o, tg, x, h, ht => by
    unfold isI at h
    split at h <;> first | (exact absurd h Bool.false_ne_true) | (rename_i he; cases he)
    obtain ⟨h1, h2, h3⟩ := and3 h
    have e := of_decide_eq_true h1
    subst e
    exact ⟨n_enum o (ht rfl) h2 (notStar_of h3) (sE _ o _ h3).1, ⟨fun pins s σ H R I q => by obtain ⟨_, _, _, _, _, _, _, _, _, q, _⟩ := q; exact q.elim⟩⟩
  | .zip e f, X, W, sc, o, tg, x, h, ht => by
    unfold isI at h
    split at h <;> first | (exact absurd h Bool.false_ne_true) | (rename_i he; cases he)
    obtain ⟨h1, h2, h3, h4⟩ := and4 h
    have e := of_decide_eq_true h1
    subst e
    exact ⟨n_zip o (ht rfl) h2 (notStar_of h3) (notStar_of h4) (sE _ o _ h3).1 (sE _ o _ h4).1, ⟨fun pins s σ H R I q => by obtain ⟨_, _, _, _, _, _, _, _, _, q, _⟩ := q; exact q.elim⟩⟩
  | .items e, X, W, sc, o, tg, x, h, ht => by
    unfold isI at h
    split at h <;> first | (exact absurd h Bool.false_ne_true) | (rename_i he; cases he)
    obtain ⟨h1, h2, h3, h4⟩ := and4 h
    have e := of_decide_eq_true h1
    subst e
    exact ⟨n_items (ht rfl) h3 h4 (sE _ o _ h2).1, nL_items (ht rfl) h3 h4 (sE _ o _ h2).1⟩
  | .values e, X, W, sc, o, tg, x, h, ht => by
    unfold isI at h
    split at h <;> first | (exact absurd h Bool.false_ne_true) | (rename_i he; cases he)
    obtain ⟨h1, h2, h3, h4⟩ := and4 h
    have e := of_decide_eq_true h1
    subst e
    exact ⟨n_vals h3 h4 (sE _ o _ h2).1, nL_vals h3 h4 (sE _ o _ h2).1⟩
end
end
end Fs
set_option Elab.async false
set_option linter.all false
set_option maxRecDepth 100000
set_option maxHeartbeats 8000000
set_option autoImplicit false
set_option relaxedAutoImplicit false
namespace Fs
open PySem PySem.Spec PyProof.Rows L2
section
variable (K : PySem.W.Frag) (ca : Str → Addr) (F : Orc) (W : WX)
def PoS (ρ : List Addr) (P H : Hp) (Rt : V → Hp → Prop) (Gn : Evn → Hep → Prop) : SRes → Prop
  | .nx env h => Gn env h
  | .rt u h => ∀ z ρ' P' H', Ext ρ P H ρ' P' H' → Rl K ca ρ' P' h H' → RV ρ' H' u z → Rt z H'
  | .ex x env' h' => ∀ ρ' P' H' cls d σ', Ext ρ P H ρ' P' H' → Rl K ca ρ' P' h' H' → RE ρ' H' env' σ' → XR ca ρ' H' x cls d → W cls d σ' H'
  | .bad => False
def GN (ρ : List Addr) (P H : Hp) (Nx : SL → Hp → Prop) (env : Evn) (h : Hep) : Prop := ∀ σ' ρ' P' H', Ext ρ P H ρ' P' H' → Rl K ca ρ' P' h H' → RE ρ' H' env σ' → Nx σ' H'
def tS (s : S) : TS := fun D σ H => ∃ ρ P env h, Rl K ca ρ P h H ∧ RE ρ H env σ ∧ PoS K ca W ρ P H D.rt (GN K ca ρ P H D.nx) (exS F s env h)
def tSs (s : Ss) : TS := fun D σ H => ∃ ρ P env h, Rl K ca ρ P h H ∧ RE ρ H env σ ∧ PoS K ca W ρ P H D.rt (GN K ca ρ P H D.nx) (exSs F s env h)
end
section
variable {K : PySem.W.Frag} {ca : Str → Addr} {F : Orc} {W : WX} {ρ ρ1 : List Addr} {P P0 P1 H H1 : Hp} {σ : SL} {h h1 : Hep} {env : Evn} {Rt : V → Hp → Prop} {Gn : Evn → Hep → Prop}
theorem PoS.ext {Gn' : Evn → Hep → Prop} {r : SRes} (e : Ext ρ P H ρ1 P1 H1) (k : ∀ a h, Gn a h → Gn' a h) (p : PoS K ca W ρ P H Rt Gn r) : PoS K ca W ρ1 P1 H1 Rt Gn' r := by
  cases r with
  | nx a h => exact k a h p
  | rt u h => exact fun z ρ' P' H' e' R' r' => p z ρ' P' H' (e.trans e') R' r'
  | ex x s h => exact fun ρ' P' H' cls d σ' e' R' re x' => p ρ' P' H' cls d σ' (e.trans e') R' re x'
  | bad => exact p
theorem PoS.imp {Gn' : Evn → Hep → Prop} {r : SRes} (p : PoS K ca W ρ P H Rt Gn r) (k : ∀ a h, Gn a h → Gn' a h) : PoS K ca W ρ P H Rt Gn' r := p.ext Ext.refl k
theorem GN.ext {Nx : SL → Hp → Prop} (e : Ext ρ P H ρ1 P1 H1) (g : GN K ca ρ P H Nx env h) : GN K ca ρ1 P1 H1 Nx env h := fun σ' ρ' P' H' e' R' re => g σ' ρ' P' H' (e.trans e') R' re
theorem PoS.sb {α : Type} {r : Res α} {f : α → Hep → SRes} (re : RE ρ H env σ) (p : PoS K ca W ρ P H Rt Gn (r.sb env f)) : PoR K ca W ρ P H σ (fun a h => PoS K ca W ρ P H Rt Gn (f a h)) r := by
  cases r with
  | ok a h => exact p
  | ex x h => exact fun ρ' P' H' cls d e' R' x' => p ρ' P' H' cls d σ e' R' (re.low e'.low) x'
  | bad => exact p
theorem PoS.sq {r : SRes} {f : Evn → Hep → SRes} (p : PoS K ca W ρ P H Rt Gn (r.sq f)) : PoS K ca W ρ P H Rt (fun a h => PoS K ca W ρ P H Rt Gn (f a h)) r := by
  cases r <;> exact p
/-- a loop's step -/
@[reducible] def forStep (F : Orc) (tg : Tg) (b : Ss) : Val → Evn → Hep → SRes := fun x σ h => match asgT h tg x σ with
  | some σ' => exSs F b σ' h
  | none => .bad
theorem for_run {J : It} {w : Wk} {tg : Tg} {b : Ss} {D : Ends} {k : Nat} (iw : IW K ca ρ P H w J) (R : Rl K ca ρ P h H) (re : RE ρ H env σ) (p : PoS K ca W ρ P H D.rt (GN K ca ρ P H D.nx) (forGo w (forStep F tg b) k 0 env h)) :
    ∃ Wv : Nat → Nat → SL → Hp → Prop, (∃ m, Wv 0 m σ H) ∧ ∀ i m σ H, Wv i m σ H →
      (J.stop i H ∧ D.nx σ H) ∨ (J.go i H ∧ ∃ Nx : SL → Hp → Prop, (∀ σ' H', Nx σ' H' → ∃ m', m' < m ∧ Wv (i + 1) m' σ' H') ∧ ∀ x H', J.yld i H x H' → tG K ca tg x σ H' fun σ2 H2 => tSs K ca F W b { D with nx := Nx, ct := Nx, bk := D.nx } σ2 H2) := by
  refine ⟨fun i m σ1 H1 => ∃ ρ1 P1 env1 h1, Rl K ca ρ1 P1 h1 H1 ∧ RE ρ1 H1 env1 σ1 ∧ Ext ρ P H ρ1 P1 H1 ∧ PoS K ca W ρ1 P1 H1 D.rt (GN K ca ρ1 P1 H1 D.nx) (forGo w (forStep F tg b) m i env1 h1),
    ⟨k, ρ, P, env, h, R, re, Ext.refl, p⟩, ?_⟩
  rintro i m σ1 H1 ⟨ρ1, P1, env1, h1, R1, re1, e1, p1⟩
  cases m with
  | zero => exact p1.elim
  | succ m =>
    simp only [forGo] at p1
    cases hi : itAt h1 w i with
    | none => rw [hi] at p1; exact p1.elim
    | some ox =>
      cases ox with
      | none =>
        rw [hi] at p1
        exact .inl ⟨iw.stop ρ1 P1 _ H1 i e1 R1 hi, p1 σ1 ρ1 P1 H1 Ext.refl R1 re1⟩
      | some x =>
        rw [hi] at p1
        simp only at p1
        refine .inr ⟨iw.go ρ1 P1 h1 H1 i x e1 R1 hi, fun σ2 H2 => ∃ ρ1 P1 env1 h1, Rl K ca ρ1 P1 h1 H2 ∧ RE ρ1 H2 env1 σ2 ∧ Ext ρ P H ρ1 P1 H2 ∧ PoS K ca W ρ1 P1 H2 D.rt (GN K ca ρ1 P1 H2 D.nx) (forGo w (forStep F tg b) m (i + 1) env1 h1),
          fun σ' H' q => ⟨m, Nat.lt_succ_self m, q⟩, fun v H2 y => ?_⟩
        obtain ⟨e2, R2, rx⟩ := iw.yld ρ1 P1 h1 H1 i x v H2 e1 R1 hi y
        cases ha : asgT h1 tg x env1 with
        | none => simp only [forStep, ha] at p1; exact p1.elim
        | some env2 =>
          refine ⟨ρ1, P1, h1, env1, x, env2, R2, re1.low e2.low, rx, ha, fun σ2 re2 _ => ?_⟩
          simp only [forStep, ha] at p1
          refine ⟨ρ1, P1, env2, h1, R2, re2, p1.sq.ext e2 fun env3 h3 p3 => ?_⟩
          intro σ3 ρ3 P3 H3 e3 R3 re3
          exact ⟨ρ3, P3, env3, h3, R3, re3, (e1.trans e2).trans e3, p3.ext (e2.trans e3) fun _ _ g => GN.ext (e2.trans e3) g⟩
def forRes (F : Orc) (tg : Tg) (b : Ss) (env : Evn) (wd : Wk × Option Nat) (h1 : Hep) : SRes := match wd.2 with
  | some n => unlkS n (forGo wd.1 (forStep F tg b) (itLen h1 wd.1 + 1) 0 env h1)
  | none => forGo wd.1 (forStep F tg b) (itLen h1 wd.1 + 1) 0 env h1
theorem exS_for {tg : Tg} {it : I} {b : Ss} : exS F (.for_ tg it b) env h = (evI F it env h).sb env fun wd h1 => forRes F tg b env wd h1 := by
  simp only [exS]
  rfl
theorem i_for {tg : Tg} {it : I} {b : Ss} {D : Ends} (q : tS K ca F W (.for_ tg it b) D σ H) :
    tFor (tI K ca F W it) (tG K ca tg) (tSs K ca F W b) D σ H ∨ tLock (tFor (tIL K ca F it) (tG K ca tg) (tSs K ca F W b)) D σ H := by
  obtain ⟨ρ, P, env, h, R, re, p⟩ := q
  rw [exS_for] at p
  cases hI : evI F it env h with
  | bad => rw [hI] at p; exact p.elim
  | ex x h1 =>
    rw [hI] at p
    exact .inl ⟨ρ, P, env, h, R, re, by rw [hI]; exact fun ρ' P' H' cls d e' R' x' => p ρ' P' H' cls d σ e' R' (re.low e'.low) x'⟩
  | ok wd h1 =>
    obtain ⟨w, d⟩ := wd
    rw [hI] at p
    replace p : PoS K ca W ρ P H D.rt (GN K ca ρ P H D.nx) (forRes F tg b env (w, d) h1) := p
    unfold forRes at p
    cases d with
    | none =>
      simp only at p
      left
      refine ⟨ρ, P, env, h, R, re, ?_⟩
      rw [hI]
      refine ⟨rfl, fun ρ1 P1 H1 J e1 R1 iw => ?_⟩
      exact for_run iw R1 (re.low e1.low) (p.ext e1 fun _ _ g => GN.ext e1 g)
    | some n =>
      simp only at p
      right
      obtain ⟨u, hl, xs, hd, hlk, lk, rfl⟩ := evI_lock hI
      obtain ⟨d, o, hρ, hH, ht, hf, mu, un⟩ := lock_dict R hd hlk
      refine ⟨d, o, hH, mu, fun od => ?_⟩
      obtain ⟨R1, l1, un⟩ := un od
      refine ⟨ρ, P, env, hl, n, xs, h1, R1, re.low l1, lk, fun ρ1 P1 H1 J e1 R2 iw => ?_⟩
      refine for_run (k := itLen h1 (.fix xs) + 1) iw R2 ((re.low l1).low e1.low) ?_
      cases hr : forGo (.fix xs) (forStep F tg b) (itLen h1 (.fix xs) + 1) 0 env h1 with
      | bad => rw [hr] at p; exact p.elim
      | ex x s h2 => rw [hr] at p; exact p.elim
      | nx env2 h2 =>
        rw [hr] at p
        simp only [unlkS] at p
        cases hu : unlockD n h2 with
        | none => rw [hu] at p; exact p.elim
        | some h3 =>
          rw [hu] at p
          intro σ2 ρ2 P2 H2 e2 R3 re2
          obtain ⟨f1, e3, R4, l4⟩ := un ρ2 P2 h2 H2 h3 (e1.trans e2) R3 hu
          exact ⟨f1, p σ2 ρ2 P2 _ e3 R4 (re2.low l4)⟩
      | rt v h2 =>
        rw [hr] at p
        simp only [unlkS] at p
        cases hu : unlockD n h2 with
        | none => rw [hu] at p; exact p.elim
        | some h3 =>
          rw [hu] at p
          intro z ρ2 P2 H2 e2 R3 rz
          obtain ⟨f1, e3, R4, l4⟩ := un ρ2 P2 h2 H2 h3 (e1.trans e2) R3 hu
          exact ⟨f1, p z ρ2 P2 _ e3 R4 (rz.low l4)⟩
theorem i_while {t : E} {b : Ss} {D : Ends} (q : tS K ca F W (.whl t b) D σ H) : tWhile (tT K ca F W t) (tSs K ca F W b) D σ H := by
  obtain ⟨ρ, P, env, h, R, re, p⟩ := q
  simp only [exS] at p
  refine ⟨fun m σ1 H1 => ∃ ρ1 P1 env1 h1, Rl K ca ρ1 P1 h1 H1 ∧ RE ρ1 H1 env1 σ1 ∧ PoS K ca W ρ1 P1 H1 D.rt (GN K ca ρ1 P1 H1 D.nx) (whGo (evT F t) (exSs F b) m env1 h1), ⟨100000, ρ, P, env, h, R, re, p⟩, ?_⟩
  rintro m σ1 H1 ⟨ρ1, P1, env1, h1, R1, re1, p1⟩
  cases m with
  | zero => exact p1.elim
  | succ m =>
    simp only [whGo] at p1
    refine ⟨ρ1, P1, env1, h1, R1, re1, (PoS.sb re1 p1).imp fun k h2 p2 => ?_⟩
    intro ρ2 P2 H2 e2 R2
    cases k with
    | false =>
      rw [if_neg Bool.false_ne_true] at p2
      rw [if_neg Bool.false_ne_true]
      exact p2 σ1 ρ2 P2 H2 e2 R2 (re1.low e2.low)
    | true =>
      rw [if_pos rfl] at p2
      rw [if_pos rfl]
      refine ⟨fun σ3 H3 => ∃ ρ1 P1 env1 h1, Rl K ca ρ1 P1 h1 H3 ∧ RE ρ1 H3 env1 σ3 ∧ PoS K ca W ρ1 P1 H3 D.rt (GN K ca ρ1 P1 H3 D.nx) (whGo (evT F t) (exSs F b) m env1 h1), fun σ' H' q => ⟨m, Nat.lt_succ_self m, q⟩, ?_⟩
      refine ⟨ρ2, P2, env1, h2, R2, re1.low e2.low, p2.sq.ext e2 fun env3 h3 p3 => ?_⟩
      intro σ3 ρ3 P3 H3 e3 R3 re3
      exact ⟨ρ3, P3, env3, h3, R3, re3, p3.ext (e2.trans e3) fun _ _ g => GN.ext (e2.trans e3) g⟩
/-- a value that is stored -/
theorem i_asg {tg : Tg} {e : E} {D : Ends} (q : tS K ca F W (.asg tg e) D σ H) : tAsg (tE K ca F W e) (tG K ca tg) D σ H := by
  obtain ⟨ρ, P, env, h, R, re, p⟩ := q
  simp only [exS] at p
  refine ⟨ρ, P, env, h, R, re, (PoS.sb re p).imp fun u h1 p1 => ?_⟩
  intro z ρ1 P1 H1 e1 R1 r1
  obtain ⟨ρ2, P2, e2, R2, r2, _⟩ := mat_ok e1 R1 r1
  cases ha : asgT (mat u h1).2 tg (mat u h1).1 env with
  | none => rw [ha] at p1; exact p1.elim
  | some env2 =>
    rw [ha] at p1
    exact ⟨ρ2, P2, (mat u h1).2, env, (mat u h1).1, env2, R2, re.low e2.low, r2, ha, fun σ2 re2 _ => p1 σ2 ρ2 P2 H1 e2 R2 re2⟩
theorem i_ret {e : E} {D : Ends} (q : tS K ca F W (.ret e) D σ H) : tRet (tE K ca F W e) D σ H := by
  obtain ⟨ρ, P, env, h, R, re, p⟩ := q
  simp only [exS] at p
  refine ⟨ρ, P, env, h, R, re, (PoS.sb re p).imp fun u h1 p1 => ?_⟩
  intro z ρ1 P1 H1 e1 R1 r1
  obtain ⟨ρ2, P2, e2, R2, r2, _⟩ := mat_ok e1 R1 r1
  exact p1 z ρ2 P2 H1 e2 R2 r2
theorem i_expr {e : E} {D : Ends} (q : tS K ca F W (.expr e) D σ H) : tDrop (tE K ca F W e) D σ H := by
  obtain ⟨ρ, P, env, h, R, re, p⟩ := q
  simp only [exS] at p
  refine ⟨ρ, P, env, h, R, re, (PoS.sb re p).imp fun u h1 p1 => ?_⟩
  intro z ρ1 P1 H1 e1 R1 r1
  exact p1 σ ρ1 P1 H1 e1 R1 (re.low e1.low)
theorem i_ifs {t : E} {a b : Ss} {D : Ends} (q : tS K ca F W (.ifs t a b) D σ H) : tIfS (tT K ca F W t) (tSs K ca F W a) (tSs K ca F W b) D σ H := by
  obtain ⟨ρ, P, env, h, R, re, p⟩ := q
  simp only [exS] at p
  refine ⟨ρ, P, env, h, R, re, (PoS.sb re p).imp fun k h1 p1 => ?_⟩
  intro ρ1 P1 H1 e1 R1
  cases k with
  | true =>
    rw [if_pos rfl] at p1
    rw [if_pos rfl]
    exact ⟨ρ1, P1, env, h1, R1, re.low e1.low, p1.ext e1 fun _ _ g => GN.ext e1 g⟩
  | false =>
    rw [if_neg Bool.false_ne_true] at p1
    rw [if_neg Bool.false_ne_true]
    exact ⟨ρ1, P1, env, h1, R1, re.low e1.low, p1.ext e1 fun _ _ g => GN.ext e1 g⟩
theorem i_aug {i : Nat} {e : E} {D : Ends} (q : tS K ca F W (.aug i e) D σ H) : tAug i (tE K ca F W e) (ipI fun i j => i + j) D σ H := by
  obtain ⟨ρ, P, env, h, R, re, p⟩ := q
  simp only [exS] at p
  split at p
  · rename_i u hu
    obtain ⟨x, hx, rx⟩ := re.2 i u hu
    refine ⟨x, hx, ρ, P, env, h, R, re, (PoS.sb re p).imp fun v h1 p1 => ?_⟩
    intro z ρ1 P1 H1 e1 R1 r1
    split at p1
    · rename_i a b
      unfold RV at rx
      refine ⟨a, b, rx, r1.int, ?_⟩
      exact p1 _ ρ1 P1 H1 e1 R1 ((re.low e1.low).set RV.mk_int)
    · exact p1.elim
  · exact p.elim
theorem i_seti {o i e : E} {D : Ends} (q : tS K ca F W (.seti o i e) D σ H) : tAsg (tE K ca F W e) (gSub (tE K ca F W o) (tE K ca F W i) (fun o i v H Q => rSetL o i v H Q ∨ rSetD o i v H Q)) D σ H := by
  obtain ⟨ρ, P, env, h, R, re, p⟩ := q
  simp only [exS] at p
  refine ⟨ρ, P, env, h, R, re, (PoS.sb re p).imp fun u h1 p1 => ?_⟩
  intro z ρ1 P1 H1 e1 R1 r1
  obtain ⟨ρ2, P2, e2, R2, r2, _⟩ := mat_ok e1 R1 r1
  have re2 := re.low e2.low
  refine ⟨ρ2, P2, env, (mat u h1).2, R2, re2, (PoS.sb re p1).ext e2 fun uo h3 p3 => ?_⟩
  intro zo ρ3 P3 H3 e3 R3 r3
  refine ⟨ρ3, P3, env, h3, R3, re2.low e3.low, (PoS.sb re p3).ext (e2.trans e3) fun ui h4 p4 => ?_⟩
  intro zi ρ4 P4 H4 e4 R4 r4
  have eT := (e2.trans e3).trans e4
  have r2' := (r2.low e3.low).low e4.low
  cases hs : setI h4 uo ui (mat u h1).1 with
  | none => rw [hs] at p4; exact p4.elim
  | some h5 =>
    rw [hs] at p4
    unfold setI at hs
    split at hs
    · rename_i n
      obtain ⟨a, rfl, ha⟩ := (r3.ext (P1 := P3) e4).ref
      split at hs
      · rename_i xs hn
        left
        obtain ⟨vs, hH, rv⟩ := R4.ob n _ a hn ha
        split at hs
        · rename_i k
          obtain ⟨j, hj, rfl⟩ := map_some hs
          have hz := r4.int
          subst hz
          refine ⟨a, vs, k, j, rfl, rfl, hH, by rw [← rv.length]; exact hj, ?_⟩
          have lw : Low ρ4 H4 ρ4 (upd H4 a (.lst (vs.set j z))) := ⟨fun _ _ e => e, fun b q e => by rw [upd_ne (fun z => by rw [z, hH] at e; cases e)]; exact e⟩
          obtain ⟨R5, e5⟩ := R4.write (o' := .lst (xs.set j (mat u h1).1)) (u' := .lst (vs.set j z)) hn ha (fun z => z) hH (fun _ z => nomatch z) (fun _ _ z => nomatch z) ⟨_, upd_same, (rv.set j r2').low lw⟩ (fun z => z)
          exact p4 σ ρ4 P4 _ (eT.trans e5) R5 (re.low (eT.trans e5).low)
        · cases hs
      · rename_i kvs hn
        right
        obtain ⟨ks, hH, rk⟩ := R4.ob n _ a hn ha
        obtain ⟨k, ek, hs2⟩ := bind_some hs
        split at hs2
        · rename_i hl
          cases hs2
          have hz := keyOf_rel r4 ek
          subst hz
          refine ⟨a, _, rfl, DPut.k hH (by rw [← rk.len, ← lim_eq]; exact hl), ?_⟩
          have lw : Low ρ4 H4 ρ4 (upd H4 a (.dK (putK ks k z))) := ⟨fun _ _ e => e, fun b q e => by rw [upd_ne (fun z => by rw [z, hH] at e; cases e)]; exact e⟩
          obtain ⟨R5, e5⟩ := R4.write (o' := .dK false (put kvs k (mat u h1).1)) (u' := .dK (putK ks k z)) hn ha (fun z => z) hH (fun _ z => nomatch z) (fun _ _ z => nomatch z) ⟨_, upd_same, RK.low lw (put_rel rk k r2')⟩ (fun z => z)
          exact p4 σ ρ4 P4 _ (eT.trans e5) R5 (re.low (eT.trans e5).low)
        · cases hs2
      · rename_i kvs hn
        right
        obtain ⟨ks, hH, rk⟩ := R4.ob n _ a hn ha
        obtain ⟨k, ek, hs2⟩ := bind_some hs
        split at hs2
        · rename_i hl
          cases hs2
          obtain ⟨b, rfl, hb⟩ := keysOf_rel r4 ek
          refine ⟨a, _, rfl, DPut.t hH hb (by rw [← rk.len, ← lim_eq]; exact hl), ?_⟩
          have lw : Low ρ4 H4 ρ4 (upd H4 a (.dT (putK ks k z))) := ⟨fun _ _ e => e, fun b q e => by rw [upd_ne (fun z => by rw [z, hH] at e; cases e)]; exact e⟩
          obtain ⟨R5, e5⟩ := R4.write (o' := .dT false (put kvs k (mat u h1).1)) (u' := .dT (putK ks k z)) hn ha (fun z => z) hH (fun _ z => nomatch z) (fun _ _ z => nomatch z) ⟨_, upd_same, RK.low lw (put_rel rk k r2')⟩ (fun z => z)
          exact p4 σ ρ4 P4 _ (eT.trans e5) R5 (re.low (eT.trans e5).low)
        · cases hs2
      · cases hs
    · cases hs
end
end Fs
set_option Elab.async false
set_option linter.all false
set_option maxRecDepth 100000
set_option maxHeartbeats 8000000
set_option autoImplicit false
set_option relaxedAutoImplicit false
namespace Fs
open PySem PySem.Spec PyProof.Rows L2
structure OkS (T : Tab) (X : Cx) (ca : Str → Addr) (F : Orc) (W : WX) (n : Nat) (N : List Str) (sc : Scope) : Prop where
  ok : Ok T X ca F W n N sc
  po : PassesOwn (model X.prog X.w) X.A X.env X.xe
  fn : ∀ x, X.fn x = true
  kd : sc.kind = .function
  stk : X.stack = X.env :: X.outer
  frm : X.env.frame = some X.env.locals
  exn : X.ex = []
theorem Wo.tr {T : Tab} {X : Cx} {ca : Str → Addr} {F : Orc} {n : Nat} (w : Wo T X ca F n) {pn : List (Addr × Obj)} {xe : Value → Shared → Prop} : Wo T (X.tr pn xe) ca F n :=
  ⟨fun f d h1 h2 => let ⟨a, fd, fs, hm⟩ := w.fn f d h1 h2; ⟨a, fd, ⟨fs.ok, fs.bd, fs.ar⟩, hm⟩,
   fun c ms fs h => let ⟨h1, h2, h3, h4, h5, h6⟩ := w.cls c ms fs h; ⟨h1, h2, h3, h4, h5, fun m hm d hd => let ⟨a, fd, fs, r⟩ := h6 m hm d hd; ⟨a, fd, ⟨fs.ok, fs.bd, fs.ar⟩, r⟩⟩,
   w.mkc, w.ci, w.cs, w.ex, w.rz, w.free⟩
theorem OkS.tr {T : Tab} {X : Cx} {ca : Str → Addr} {F : Orc} {W W' : WX} {n : Nat} {N : List Str} {sc : Scope} (o : OkS T X ca F W n N sc) {pn : List (Addr × Obj)} {xe : Value → Shared → Prop} (tk : Takes (X.tr pn xe) W') (po : PassesOwn (model X.prog X.w) X.A X.env xe) : OkS T (X.tr pn xe) ca F W' n N sc :=
  ⟨⟨o.ok.wo.tr, o.ok.room, o.ok.calm, o.ok.hN, o.ok.nd, o.ok.hsc, tk⟩, po, o.fn, o.kd, o.stk, o.frm, o.exn⟩
/-- name = [..] on one line, the name a local -/
def swapsB (sc : Scope) (t x : Expr) : Bool := match t, x with
  | .Name y p, .ListComp _ _ s q => (ScopeKind.function == .function) && (sc.names.lookup y == some .local) && (p.line == q.line) && !(s.names.any fun (n, k) => n == y && (k == .local || k == .cell))
  | _, _ => false
section
variable {T : Tab} {X : Cx} {ca : Str → Addr} {F : Orc} {W : WX} {n : Nat} {N : List Str} {sc : Scope}
theorem okS_st (o : OkS T X ca F W n N sc) : ∀ x i, stOk N sc x i = true → X.N[i]? = some x ∧ L2.Loc X.env.scope x ∧ (X.fn x = true ∨ X.env.scope.names.lookup x = some .local) := fun x i h =>
  let ⟨h1, h2⟩ := st_of o.ok h
  ⟨h1, h2, .inl (o.fn x)⟩
theorem comp_of {e : E} {x : Expr} (h : isE T N sc e x = true) : (∀ a b s p, x ≠ .SetComp a b s p) ∧ ∀ a b c s p, x ≠ .DictComp a b c s p := by
  refine ⟨fun a b s p q => ?_, fun a b c s p q => ?_⟩
  · subst q; cases e <;> (unfold isE at h; first | exact absurd (Bool.and_eq_true_iff.mp h).2 Bool.false_ne_true | cases h)
  · subst q; cases e <;> (unfold isE at h; first | exact absurd (Bool.and_eq_true_iff.mp h).2 Bool.false_ne_true | cases h)
theorem swaps_eq (o : OkS T X ca F W n N sc) {e : E} {t x : Expr} {tg : Tg} {l : Nat} (h : isE T N sc e x = true) (ht : isTg N sc tg t = true) : swapsWithSole [t] x l X.env = pure (swapsB sc t x) := by
  have hb : X.env.blockKind = .function := by unfold Env.blockKind; rw [o.ok.hsc, o.kd]; rfl
  obtain ⟨h1, h2⟩ := comp_of h
  show swapsWith x (some t) l X.env = _
  cases t <;> first | (cases tg <;> (unfold isTg at ht; cases ht; done)) | skip
  · rename_i y p
    cases x <;> first | rfl | exact absurd rfl (h1 _ _ _ _) | exact absurd rfl (h2 _ _ _ _ _) | skip
    rename_i elt gs s q
    show (pure (X.env.blockKind == .function && X.env.kindOf y == some .local && p.line == q.line && !(s.names.any fun (n, k) => n == y && (k == .local || k == .cell))) : Sem Bool) = _
    have hk : X.env.kindOf y = sc.names.lookup y := by show X.env.scope.names.lookup y = _; rw [o.ok.hsc]
    rw [hb, hk]
    rfl
  · cases x <;> first | rfl | exact absurd rfl (h1 _ _ _ _) | exact absurd rfl (h2 _ _ _ _ _)
theorem sole_false {e : E} {t x : Expr} {l : Nat} {env : Env} (h : isE T N sc e x = true) (ht : ∀ y p, t ≠ .Name y p) : swapsWithSole [t] x l env = pure false := by
  obtain ⟨h1, h2⟩ := comp_of h
  show swapsWith x (some t) l env = _
  cases x <;> first | rfl | exact absurd rfl (h1 _ _ _ _) | exact absurd rfl (h2 _ _ _ _ _) | skip
  cases t <;> first | rfl | exact absurd rfl (ht _ _)
theorem stores_none {t x : Expr} {env : Env} (h : (isTupE t && isTupE x) = false) (ht : ∀ xs p, t ≠ .List xs p) : swappedStores [t] x env = pure none := by
  cases t <;> first | rfl | exact absurd rfl (ht _ _) | skip
  cases x <;> first | rfl | cases h
theorem PS.or {st : Stmt} {t t' : TS} (h : PS X st t) (h' : PS X st t') : PS X st (fun D σ H => t D σ H ∨ t' D σ H) := ⟨fun pins s σ H Q I q => q.elim (h.run pins s σ H Q I) (h'.run pins s σ H Q I)⟩
theorem PSet.or {t t' : TSet} (h : PSet X t) (h' : PSet X t') : PSet X (fun o i v H Q => t o i v H Q ∨ t' o i v H Q) := fun pins s σ H o i v ov iv u Q I ro ri rv q => q.elim (h pins s σ H o i v ov iv u Q I ro ri rv) (h' pins s σ H o i v ov iv u Q I ro ri rv)
theorem s_asg0 (o : OkS T X ca F W n N sc) {tg : Tg} {e : E} {t x : Expr} {pos : Pos} (nl : ∀ e', e ≠ .lay e') (ht : isTg N sc tg t = true) (hx : isE T N sc e x = true) (hn : (!(isTupE t && isTupE x)) = true) : PS X (.Assign [t] x pos) (tS X.K ca F W (.asg tg e)) := by
  have hN : X.N.Nodup := by rw [o.ok.hN]; exact o.ok.nd
  have pg := pg_ok (ca := ca) o.ok.calm hN (okS_st o) tg t ht
  have hl : ∀ xs p, t ≠ .List xs p := fun xs p q => by subst q; cases tg <;> (unfold isTg at ht; cases ht)
  have hasg : (assignEach [t] X.env).map (·.2) = [assign t X.env] := by
    cases t <;> first | rfl | (cases tg <;> (unfold isTg at ht; cases ht))
  cases hs : swapsB sc t x with
  | false => exact PS.imp (ps_asg (sE e o.ok x hx).1 pg (by rw [swaps_eq o hx ht, hs]) (stores_none (not_t hn) hl) hasg) fun D σ H q => i_asg q
  | true =>
    unfold swapsB at hs
    split at hs
    · rename_i y p elt gs s q
      have hs' := hs
      obtain ⟨_, hloc, hline, hown⟩ := and4 hs
      have hy : sc.names.lookup y = some .local := by simpa using hloc
      cases e <;> first | exact absurd rfl (nl _) | (unfold isE at hx; cases hx; done) | skip
      rename_i own et tg2 it c
      have hx' := hx
      unfold isE at hx
      split at hx <;> first | (exact absurd hx Bool.false_ne_true) | (rename_i he1 he2; cases he1 <;> cases he2)
      rename_i t1 it1 ifs1
      obtain ⟨h0, h7⟩ := and2 hx
      obtain ⟨h1, h2, h3, h4, h5, h6⟩ := and6 h0
      cases tg <;> first | (unfold isTg at ht; cases ht; done) | skip
      rename_i i
      obtain ⟨k1, k2⟩ := st_of o.ok (show stOk N sc y i = true by unfold isTg at ht; exact ht)
      have hcond : ∀ {t' : Expr}, (!nt it || isTupE t') = true → nt it = true → isTupE t' = true := fun hq hn => by rw [hn] at hq; simpa using hq
      have i1 := (sI it o.ok _ h1 (hcond h2)).1
      have i2 := (sI it o.ok _ h1 (hcond h2)).2
      have okb : BlkOk X.N X.env.scope s (ownP N own) := by rw [o.ok.hN, o.ok.hsc]; exact blkOk_by h7
      have hsw := swaps_eq (l := pos.line) o hx' ht
      have hsw : swapsWith (.ListComp elt [⟨t1, it1, ifs1, 0⟩] s q) (some (.Name y p)) pos.line X.env = pure true := by
        have : swapsB sc (.Name y p) (.ListComp elt [⟨t1, it1, ifs1, 0⟩] s q) = true := hs'
        rw [this] at hsw
        exact hsw
      have hyl : X.env.scope.names.lookup y = some .local := by rw [o.ok.hsc]; exact hy
      have ps1 := ps_setLc (te := tE X.K ca F W0 et) (tt := tC X.K ca F W0 c) (g := tG X.K ca tg2) (py := p) (pos := q) (spos := pos) (own := ownP N own) o.ok.calm hN k1 hyl hsw i1 okb (fun s' H C cl fp => pg_ok (X := X.blk s' H s (compEnvC s cl C X.env) fp) (N := N) (sc := s) o.ok.calm hN (blk_st o.ok) tg2 _ h3) (fun s' H C cl fp => sC c o.ok.blk _ h5) (fun s' H C cl fp => (sE et o.ok.blk _ h6).1) (set_of (isI_set h1))
      have ps2 := ps_setLc (te := tE X.K ca F W0 et) (tt := tC X.K ca F W0 c) (g := tG X.K ca tg2) (py := p) (pos := q) (spos := pos) (own := ownP N own) o.ok.calm hN k1 hyl hsw i2 okb (fun s' H C cl fp => pg_ok (X := X.blk s' H s (compEnvC s cl C X.env) fp) (N := N) (sc := s) o.ok.calm hN (blk_st o.ok) tg2 _ h3) (fun s' H C cl fp => sC c o.ok.blk _ h5) (fun s' H C cl fp => (sE et o.ok.blk _ h6).1) (set_of (isI_set h1))
      refine PS.imp (PS.or ps1 (ps_lock ps2)) fun D σ H r => ?_
      have r1 := i_asg r
      have r2 : tE X.K ca F W (.lc own et tg2 it c) σ H (fun x H1 => D.nx (σ.set i (some x)) H1) := by
        obtain ⟨ρ, P, env, h, R, re, p⟩ := r
        simp only [exS] at p
        refine ⟨ρ, P, env, h, R, re, (PoS.sb re p).imp fun u h1 p1 => ?_⟩
        intro z ρ1 P1 H1 e1 R1 r1
        obtain ⟨ρ2, P2, e2, R2, r2, _⟩ := mat_ok e1 R1 r1
        unfold asgT at p1
        split at p1
        · rename_i env2 ha
          split at ha
          · cases ha
            exact p1 _ ρ2 P2 H1 e2 R2 ((re.low e2.low).set r2)
          · cases ha
        · exact p1.elim
      rw [own_snd]
      rcases i_lc h4 r2 with r3 | r3
      · exact .inl r3
      · exact .inr r3
    · cases hs
theorem mat_mat {v : Val} {h : Hep} : mat (mat v h).1 (mat v h).2 = mat v h := by
  cases v <;> rfl
theorem exS_lay {F : Orc} {tg : Tg} {e : E} {env : Evn} {h : Hep} : exS F (.asg tg (.lay e)) env h = exS F (.asg tg e) env h := by
  simp only [exS, evE]
  cases evE F e env h with
  | bad => rfl
  | ex x h' => rfl
  | ok v h' =>
    simp only [Res.bind, Res.sb, mat_mat]
theorem s_asg (o : OkS T X ca F W n N sc) {tg : Tg} {t x : Expr} {pos : Pos} (ht : isTg N sc tg t = true) (hn : (!(isTupE t && isTupE x)) = true) : ∀ (e : E), isE T N sc e x = true → PS X (.Assign [t] x pos) (tS X.K ca F W (.asg tg e))
  | .lay e, hx => by
    unfold isE at hx
    refine PS.imp (s_asg o ht hn e (and2 hx).1) fun D σ H ⟨ρ, P, env, h, R, re, p⟩ => ?_
    rw [exS_lay] at p
    exact ⟨ρ, P, env, h, R, re, p⟩
  | .var i, hx => s_asg0 o (fun _ z => nomatch z) ht hx hn
  | .non, hx => s_asg0 o (fun _ z => nomatch z) ht hx hn
  | .bl _, hx => s_asg0 o (fun _ z => nomatch z) ht hx hn
  | .int _, hx => s_asg0 o (fun _ z => nomatch z) ht hx hn
  | .str _, hx => s_asg0 o (fun _ z => nomatch z) ht hx hn
  | .gint _ _, hx => s_asg0 o (fun _ z => nomatch z) ht hx hn
  | .gstr _ _, hx => s_asg0 o (fun _ z => nomatch z) ht hx hn
  | .bin _ _ _, hx => s_asg0 o (fun _ z => nomatch z) ht hx hn
  | .neg _, hx => s_asg0 o (fun _ z => nomatch z) ht hx hn
  | .cmp _ _ _, hx => s_asg0 o (fun _ z => nomatch z) ht hx hn
  | .chain _ _ _ _ _, hx => s_asg0 o (fun _ z => nomatch z) ht hx hn
  | .and _ _, hx => s_asg0 o (fun _ z => nomatch z) ht hx hn
  | .or _ _, hx => s_asg0 o (fun _ z => nomatch z) ht hx hn
  | .not _, hx => s_asg0 o (fun _ z => nomatch z) ht hx hn
  | .tup _, hx => s_asg0 o (fun _ z => nomatch z) ht hx hn
  | .lst _, hx => s_asg0 o (fun _ z => nomatch z) ht hx hn
  | .dnew _, hx => s_asg0 o (fun _ z => nomatch z) ht hx hn
  | .disp _ _, hx => s_asg0 o (fun _ z => nomatch z) ht hx hn
  | .idx _ _, hx => s_asg0 o (fun _ z => nomatch z) ht hx hn
  | .sl _ _ _, hx => s_asg0 o (fun _ z => nomatch z) ht hx hn
  | .rev _, hx => s_asg0 o (fun _ z => nomatch z) ht hx hn
  | .fld _ _ _, hx => s_asg0 o (fun _ z => nomatch z) ht hx hn
  | .call _ _, hx => s_asg0 o (fun _ z => nomatch z) ht hx hn
  | .make _ _, hx => s_asg0 o (fun _ z => nomatch z) ht hx hn
  | .meth _ _ _ _, hx => s_asg0 o (fun _ z => nomatch z) ht hx hn
  | .blt _ _, hx => s_asg0 o (fun _ z => nomatch z) ht hx hn
  | .bm _ _ _, hx => s_asg0 o (fun _ z => nomatch z) ht hx hn
  | .isi _ _, hx => s_asg0 o (fun _ z => nomatch z) ht hx hn
  | .isc _ _ _ _, hx => s_asg0 o (fun _ z => nomatch z) ht hx hn
  | .rng _, hx => s_asg0 o (fun _ z => nomatch z) ht hx hn
  | .sitems _, hx => s_asg0 o (fun _ z => nomatch z) ht hx hn
  | .lc _ _ _ _ _, hx => s_asg0 o (fun _ z => nomatch z) ht hx hn
theorem setF_rel {ρ : List Addr} {H : Hp} {f : Str} {u : Val} {v : V} (ru : RV ρ H u v) : ∀ {fs : List (Str × Val)} {ks : List (Str × V)}, RK ρ H fs ks → RK ρ H (setF f u fs) (putF f v ks)
  | _, _, .nil => .cons ⟨rfl, ru⟩ .nil
  | _, _, .cons (a := p) (b := q) hp hr => by
    obtain ⟨g, x⟩ := p
    obtain ⟨g', y⟩ := q
    obtain ⟨h1, h2⟩ := hp
    have h1 : g = g' := h1
    subst h1
    unfold setF putF
    by_cases hg : g = f
    · subst hg
      rw [if_pos rfl, if_pos rfl]
      exact .cons ⟨rfl, ru⟩ hr
    · rw [if_neg hg, if_neg hg]
      exact .cons ⟨rfl, h2⟩ (setF_rel ru hr)
theorem s_setf (o : OkS T X ca F W n N sc) {e f : E} {c g : Str} {x z : Expr} {pos pos' : Pos} (hc : (T.cl.any fun q => decide (q.1 = c) && decide (g ∈ q.2.2)) = true) (hz : isE T N sc f z = true) (hx : isE T N sc e x = true) : PS X (.Assign [.Attribute x g pos'] z pos) (tS X.K ca F W (.setf e c g f)) := by
  obtain ⟨c1, c2⟩ := cls_of o.ok hc
  refine PS.imp (ps_fld (sE e o.ok x hx).1 (sE f o.ok z hz).1 (show swapsWithSole [.Attribute x g pos'] z pos.line X.env = pure false from sole_false hz (fun y p q => by cases q))) fun D σ H ⟨ρ, P, env, h, R, re, p⟩ => ?_
  simp only [exS] at p
  refine ⟨ρ, P, env, h, R, re, (PoS.sb re p).imp fun u h1 p1 => ?_⟩
  intro z ρ1 P1 H1 e1 R1 r1
  obtain ⟨ρ2, P2, e2, R2, r2, _⟩ := mat_ok e1 R1 r1
  have re2 := re.low e2.low
  refine ⟨ρ2, P2, env, (mat u h1).2, R2, re2, (PoS.sb re p1).ext e2 fun uo h3 p3 => ?_⟩
  intro zo ρ3 P3 H3 e3 R3 r3
  cases hs : setFO h3 uo c g (mat u h1).1 with
  | none => rw [hs] at p3; exact p3.elim
  | some h4 =>
    rw [hs] at p3
    unfold setFO at hs
    split at hs
    · rename_i m
      obtain ⟨a, rfl, ha⟩ := r3.ref
      split at hs
      · rename_i d fs hn
        split at hs
        · rename_i hd
          cases hs
          obtain ⟨hd, hl⟩ := hd
          subst hd
          obtain ⟨dx, ks, hH, rk⟩ := R3.ob m _ a hn ha
          refine ⟨a, ca d, dx, ks, rfl, hH, c1, c2, by rw [← rk.len]; exact hl, ?_⟩
          have lw : Low ρ3 H3 ρ3 (upd H3 a (.ins (ca d) dx (putF g z ks))) := ⟨fun _ _ e => e, fun b q e => by rw [upd_ne (fun z => by rw [z, hH] at e; cases e)]; exact e⟩
          obtain ⟨R5, e5⟩ := R3.write (o' := .ins d (setF g (mat u h1).1 fs)) (u' := .ins (ca d) dx (putF g z ks)) hn ha (fun z => z) hH (fun _ z => nomatch z) (fun _ _ z => nomatch z) ⟨dx, _, upd_same, RK.low lw (setF_rel (r2.low e3.low) rk)⟩ (fun z => z)
          exact p3 σ ρ3 P3 _ ((e2.trans e3).trans e5) R5 (re.low ((e2.trans e3).trans e5).low)
        · cases hs
      · cases hs
    · cases hs
theorem call_swap {y : Expr} {l : Nat} {env : Env} (h : isCall y = true) : swapsWith y none l env = pure false := by
  cases y <;> first | rfl | cases h
theorem sub_assign {o i : Expr} {pos : Pos} (h : (!isSlice i) = true) : ∀ v, assign (.Subscript o i pos) X.env v = (do
      let ov ← holding [v] (eval o X.env)
      let iv ← holding [v, ov] (eval i X.env)
      standAt pos
      holding [v, ov, iv] (setItem ov iv v)
      release [v, ov, iv] []) := by
  intro v
  cases i <;> first | rfl | cases h
theorem s_raise (o : OkS T X ca F W n N sc) {c m : Str} {k : Nat} {p p2 pos pos' : Pos} (hg : glOk sc c = true) (hc : c ∈ T.rz) : PS X (.Raise (some (.Call (.Name c p) [.Constant (.str m) k p2] [] pos)) none pos') (tS X.K ca F W (.raise c)) := by
  obtain ⟨r1, r2, r3, r4, r5⟩ := o.ok.wo.rz c hc
  obtain ⟨g1, g2, _⟩ := gl_of o.ok hg
  refine PS.imp (ps_raise o.ok.calm o.ok.tk (pmk_own PySem.F.excBase_ValueError r2 r1 r3 (raises_own r4 r5) g1 g2)) fun D σ H ⟨ρ, P, env, h, R, re, p⟩ => ?_
  simp only [exS] at p
  exact p ρ P H _ none σ Ext.refl R re ⟨rfl, .inl ⟨rfl, rfl⟩⟩
theorem loc_of (o : OkS T X ca F W n N sc) {x : Str} (h : locB sc x = true) : X.env.scope.names.lookup x = some .local := by
  rw [o.ok.hsc]
  exact of_decide_eq_true h
theorem s_tryE (o : OkS T X ca F W n N sc) {b : Ss} {c n1 m : Str} {sub non : List Str} {i j : Nat} {body : List Stmt} {np np2 mp apos pos pos' : Pos} (hg : glOk sc c = true) (ht : (c, sub, non) ∈ T.ex) (hn : nmOk N sc n1 i = true) (hm : stOk N sc m j = true) (hl : locB sc n1 = true)
    (hb : ∀ (W' : WX) (pn : List (Addr × Obj)) (xe : Value → Shared → Prop), Takes (X.tr pn xe) W' → PassesOwn (model X.prog X.w) X.A X.env xe → PSs (X.tr pn xe) body (tSs X.K ca F W' b)) :
    PS X (.Try body [.ExceptHandler (some (.Name c np)) (some n1) [.Assign [.Name m mp] (.Name n1 np2) apos] pos'] [] [] pos) (tS X.K ca F W (.tryE b c sub non i j)) := by
  have hN : X.N.Nodup := by rw [o.ok.hN]; exact o.ok.nd
  obtain ⟨g1, g2, g3⟩ := gl_of o.ok hg
  obtain ⟨i1, i2, i3, i4⟩ := nm_of o.ok hn
  obtain ⟨j1, j2, j3⟩ := okS_st o m j hm
  obtain ⟨z, cv, hz, hv, k0, ky, kn⟩ := o.ok.wo.ex c sub non ht
  have hc : Names X c cv := ⟨g1, g2, hv.imp id fun q => ⟨q.1, q.2, g3⟩⟩
  refine PS.imp (ps_tryE (i := i) (j := j) (c := cv) (Wout := W) (tb := fun W' => tSs X.K ca F W' b) o.stk o.frm o.exn hN i1 j1 (loc_of o hl) j2 j3 i3 i4 hc o.ok.tk hb) fun D σ H ⟨ρ, P, env, h, R, re, p⟩ => ?_
  refine ⟨ρ, P, env, h, R, re, ?_⟩
  simp only [exS] at p
  cases hr : exSs F b env h with
  | nx env' h' => rw [hr] at p; exact p
  | rt v h' => rw [hr] at p; exact p
  | bad => rw [hr] at p; exact p
  | ex x env' h' =>
    rw [hr] at p
    simp only at p
    split at p
    · rename_i hcond
      obtain ⟨hx, hfs, hij, hil, hjl⟩ := hcond
      intro ρ' P' H' cls d σ' e' R' re' xr
      obtain ⟨rfl, hd⟩ := xr
      obtain ⟨c1, c2, c3⟩ := ky _ hx
      refine ⟨true, c3, fun _ a na => ⟨by rw [← re'.1]; exact hil, hij, ?_⟩, fun q => nomatch q⟩
      rcases hd with ⟨_, rfl⟩ | ⟨dd, ks, hne, _⟩
      · have R2 : Rl X.K ca (ρ' ++ [a]) P' (h' ++ [.exc x.cls []]) (upd H' a (EXC (.ref (ca x.cls)) none a)) := R'.obj na ⟨rfl, upd_same⟩ fun z => z
        have e2 : Ext ρ' P' H' (ρ' ++ [a]) P' (upd H' a (EXC (.ref (ca x.cls)) none a)) := ext_obj na
        refine p _ (ρ' ++ [a]) P' _ (e'.trans e2) R2 ?_
        have hs : ((σ'.set i (some (V.ref a))).set j (some (V.ref a))).set i none = (σ'.set j (some (V.ref a))).set i none := by
          rw [List.set_comm _ _ hij, List.set_set]
        rw [hs]
        refine ((re'.low e2.low).set ?_).setN
        unfold RV
        exact ⟨a, rfl, by rw [← R'.len]; simp⟩
      · exact absurd hfs hne
    · exact p.elim
theorem s_never {st : Stmt} : PS X st (tS X.K ca F W .never) := PS.imp ps_never fun D σ H ⟨ρ, P, env, h, R, re, p⟩ => by
  simp only [exS] at p
  exact p
end
section
variable {T : Tab} {X : Cx} {ca : Str → Addr} {F : Orc} {W : WX} {n : Nat} {N : List Str} {sc : Scope}
mutual
theorem sS : ∀ (s : S) {X : Cx} {W : WX}, OkS T X ca F W n N sc → ∀ (x : Stmt), isS T N sc s x = true → PS X x (tS X.K ca F W s)
  | .expr e, X, W, o, x, h => by
    unfold isS at h
    split at h <;> first | (exact absurd h Bool.false_ne_true) | (rename_i he; cases he)
    obtain ⟨h1, h2⟩ := and2 h
    exact PS.imp (ps_expr (sE e o.ok _ h1).1 (call_swap h2)) fun D σ H q => i_expr q
  | .asg tg e, X, W, o, x, h => by
    unfold isS at h
    split at h <;> first | (exact absurd h Bool.false_ne_true) | (rename_i he; cases he)
    obtain ⟨h1, h2, h3⟩ := and3 h
    exact s_asg o h1 h3 e h2
  | .aug i e, X, W, o, x, h => by
    unfold isS at h
    split at h <;> first | (exact absurd h Bool.false_ne_true) | (rename_i he; cases he)
    obtain ⟨h1, h2⟩ := and2 h
    obtain ⟨k1, k2, k3⟩ := okS_st o _ _ h1
    exact PS.imp (ps_aug (by rw [o.ok.hN]; exact o.ok.nd) k1 k2 (sE e o.ok _ h2).1 ip_add k3) fun D σ H q => i_aug q
  | .seti a i e, X, W, o, x, h => by
    unfold isS at h
    split at h <;> first | (exact absurd h Bool.false_ne_true) | (rename_i he; cases he)
    obtain ⟨h1, h2, h3, h4⟩ := and4 h
    have hu := o.ok.room.units
    refine PS.imp (ps_asg (sE e o.ok _ h3).1 (pg_sub (sE a o.ok _ h1).1 (sE i o.ok _ h2).1 (PSet.or set_list (set_dict (by omega))) (sub_assign h4)) (sole_false h3 (fun _ _ q => by cases q)) (stores_none rfl (fun _ _ q => by cases q)) rfl) fun D σ H q => i_seti q
  | .setf a c f e, X, W, o, x, h => by
    unfold isS at h
    split at h <;> first | (exact absurd h Bool.false_ne_true) | (rename_i he; cases he)
    obtain ⟨h1, h2, h3, h4⟩ := and4 h
    have e := of_decide_eq_true h1
    subst e
    exact s_setf o h4 h3 h2
  | .ret e, X, W, o, x, h => by
    unfold isS at h
    split at h <;> first | (exact absurd h Bool.false_ne_true) | (rename_i he; cases he)
    exact PS.imp (ps_ret (sE e o.ok _ h).1) fun D σ H q => i_ret q
  | .retN, X, W, o, x, h => by
    unfold isS at h
    split at h <;> first | (exact absurd h Bool.false_ne_true) | (rename_i he; cases he)
    exact PS.imp ps_retN fun D σ H ⟨ρ, P, env, hh, R, re, p⟩ => by
      simp only [exS] at p
      exact p .non ρ P H Ext.refl R RV.mk_non
  | .pass, X, W, o, x, h => by
    unfold isS at h
    split at h <;> first | (exact absurd h Bool.false_ne_true) | (rename_i he; cases he)
    exact PS.imp ps_pass fun D σ H ⟨ρ, P, env, hh, R, re, p⟩ => by
      simp only [exS] at p
      exact p σ ρ P H Ext.refl R re
  | .never, X, W, o, x, h => s_never
  | .ifs t a b, X, W, o, x, h => by
    unfold isS at h
    split at h <;> first | (exact absurd h Bool.false_ne_true) | (rename_i he; cases he)
    obtain ⟨h1, h2, h3⟩ := and3 h
    exact PS.imp (ps_if (sE t o.ok _ h1).2.1 (sSs a o _ h2) (sSs b o _ h3)) fun D σ H q => i_ifs q
  | .whl t b, X, W, o, x, h => by
    unfold isS at h
    split at h <;> first | (exact absurd h Bool.false_ne_true) | (rename_i he; cases he)
    obtain ⟨h1, h2⟩ := and2 h
    exact PS.imp (ps_while o.po (sE t o.ok _ h1).2.1 (sSs b o _ h2)) fun D σ H q => i_while q
  | .for_ tg it b, X, W, o, x, h => by
    unfold isS at h
    split at h <;> first | (exact absurd h Bool.false_ne_true) | (rename_i he; cases he)
    obtain ⟨h1, h2, h3, h4⟩ := and4 h
    have hN : X.N.Nodup := by rw [o.ok.hN]; exact o.ok.nd
    have pg := pg_ok (ca := ca) o.ok.calm hN (okS_st o) tg _ h1
    have hcond : ∀ {t' : Expr}, (!nt it || isTupE t') = true → nt it = true → isTupE t' = true := fun hq hn => by rw [hn] at hq; simpa using hq
    have i1 := (sI it o.ok _ h2 (hcond h3)).1
    have i2 := (sI it o.ok _ h2 (hcond h3)).2
    have hb := sSs b o _ h4
    exact PS.imp (PS.or (ps_for o.po o.ok.calm i1 pg hb (set_of (isI_set h2))) (ps_lock (ps_for o.po o.ok.calm i2 pg hb (set_of (isI_set h2))))) fun D σ H q => i_for q
  | .wipe l, X, W, o, x, h => by
    unfold isS at h
    cases h
  | .raise c, X, W, o, x, h => by
    unfold isS at h
    split at h <;> first | (exact absurd h Bool.false_ne_true) | (rename_i he; cases he)
    obtain ⟨h1, h2, h3⟩ := and3 h
    have e := of_decide_eq_true h1
    subst e
    exact s_raise o h2 (of_decide_eq_true h3)
  | .tryE b c sub non i j, X, W, o, x, h => by
    unfold isS at h
    split at h <;> first | (exact absurd h Bool.false_ne_true) | (rename_i he; cases he)
    obtain ⟨h0, h8⟩ := and2 h
    obtain ⟨h0, h7⟩ := and2 h0
    obtain ⟨h1, h2, h3, h4, h5, h6⟩ := and6 h0
    have e := of_decide_eq_true h1
    subst e
    have e := of_decide_eq_true h2
    subst e
    exact s_tryE o h3 (of_decide_eq_true h4) h5 h6 h7 fun W' pn xe tk po => sSs b (o.tr tk po) _ h8
theorem sSs : ∀ (ss : Ss) {X : Cx} {W : WX}, OkS T X ca F W n N sc → ∀ (xs : List Stmt), isSs T N sc ss xs = true → PSs X xs (tSs X.K ca F W ss)
  | .nil, X, W, o, xs, h => by
    cases xs with
    | cons _ _ => unfold isSs at h; cases h
    | nil =>
      refine PSs.imp pss_nil fun D σ H q => ?_
      obtain ⟨ρ, P, env, hh, R, re, p⟩ := q
      simp only [exSs] at p
      exact p σ ρ P H Ext.refl R re
  | .cons s ss, X, W, o, xs, h => by
    by_cases hw : ∃ l, s = .wipe l
    · obtain ⟨l, rfl⟩ := hw
      unfold isSs at h
      refine PSs.imp (sSs ss o xs h) fun D σ H ⟨ρ, P, env, hh, R, re, p⟩ => ?_
      simp only [exSs, exS] at p
      exact ⟨ρ, P, env, hh, R, re, p⟩
    cases xs with
    | nil => exact absurd h (by cases s <;> first | (unfold isSs; exact Bool.false_ne_true) | exact absurd ⟨_, rfl⟩ hw)
    | cons x xs =>
      replace h : (isS T N sc s x && isSs T N sc ss xs) = true := by
        cases s <;> first | exact absurd ⟨_, rfl⟩ hw | (unfold isSs at h; exact h)
      obtain ⟨h1, h2⟩ := and2 h
      refine PSs.imp (pss_cons (sS s o x h1) (sSs ss o xs h2)) fun D σ H ⟨ρ, P, env, hh, R, re, p⟩ => ?_
      simp only [exSs] at p
      refine ⟨ρ, P, env, hh, R, re, p.sq.imp fun env2 h2 p2 => ?_⟩
      intro σ2 ρ2 P2 H2 e2 R2 re2
      exact ⟨ρ2, P2, env2, h2, R2, re2, p2.ext e2 fun _ _ g => GN.ext e2 g⟩
end
end
end Fs
set_option Elab.async false
set_option linter.all false
set_option maxRecDepth 100000
set_option maxHeartbeats 8000000
set_option autoImplicit false
set_option relaxedAutoImplicit false
namespace Fs
open PySem PySem.Spec PyProof.Rows L2
/-- a class called, as a def -/
def vars : Nat → Nat → Es
  | _, 0 => .nil
  | i, k + 1 => .cons (.var i) (vars (i + 1) k)
def mkDef (c : Str) (k : Nat) : Def := ⟨List.replicate k "a", List.replicate k "a", .cons (.ret (.make c (vars 0 k))) .nil⟩
/-- what stands behind the top -/
structure Top (T : Tab) (ca : Str → Addr) (K : PySem.W.Frag) (mg : Str → Option Value) : Prop where
  fn : ∀ f d, f ∈ T.gl → T.fns.lookup f = some d → ∃ a fd pa bo sc, FunD K f f pa bo sc [] [] a fd ∧ mg f = some (.ref a) ∧ Binds K fd d.ps [] ∧ C8.scC d.ns d.ps sc = true ∧ isSs T d.ns sc d.body bo = true
  cl : ∀ c ms fs, (c, ms, fs) ∈ T.cl → Cls K (ca c) ∧ mg c = some (.ref (ca c)) ∧ PySem.W.makesIn K (ca c) = true ∧ PySem.W.keepIn K (.ref (ca c)) = true ∧ (∀ f ∈ fs, NoAttr K (ca c) f) ∧
    (∀ m ∈ ms, ∀ d, T.fns.lookup (c ++ "." ++ m) = some d → ∃ a fd nm q pa bo sc, FunD K nm q pa bo sc [] [] a fd ∧ Meth K (ca c) m a ∧ Binds K fd d.ps [] ∧ C8.scC d.ns d.ps sc = true ∧ isSs T d.ns sc d.body bo = true) ∧
    (∀ d, T.fns.lookup c = some d → ∃ k, d = mkDef c k ∧ ∃ di a fd nm q pa bo sc, T.fns.lookup (c ++ ".__init__") = some di ∧ di.ps.length = k + 1 ∧ FunD K nm q pa bo sc [] [] a fd ∧ Mk K (ca c) a ∧ Binds K fd di.ps [] ∧ C8.scC di.ns di.ps sc = true ∧ isSs T di.ns sc di.body bo = true)
  ci : ∀ x i, (x, i) ∈ T.ci → ∃ t, mg x = some (.int i t)
  cs : ∀ x i, (x, i) ∈ T.cs → ∃ t, mg x = some (.str i t)
  ex : ∀ c sub non, (c, sub, non) ∈ T.ex → ExOk K mg ca c sub non
  rz : ∀ c ∈ T.rz, RzOk K mg ca c
  free : ∀ x : Str, x ∈ (["len", "list", "tuple", "sorted", "sum", "max", "min", "all", "any", "dict", "int", "str", "repr", "range", "enumerate", "zip", "isinstance", "bool", "set"] : List Str) → mg x = none
theorem evEs_vars {F : Orc} {h : Hep} : ∀ (k i : Nat) (us : List Val), (∀ u ∈ us, ∀ h, mat u h = (u, h)) → us.length = i + k → evEs F (vars i k) (us.map some) h = .ok (us.drop i) h
  | 0, i, us, _, e => by
    unfold vars evEs
    rw [List.drop_eq_nil_of_le (by omega)]
  | k + 1, i, us, hp, e => by
    have hi : i < us.length := by omega
    unfold vars
    rw [evEs, evE, List.getElem?_map, List.getElem?_eq_getElem hi]
    have ih := evEs_vars (F := F) (h := h) k (i + 1) us hp (by omega)
    have hm := hp us[i] (List.getElem_mem hi) h
    simp only [Option.map_some, Res.bind, hm, ih]
    rw [List.drop_eq_getElem_cons hi]
theorem call_mk {T : List (Str × Def)} {n : Nat} {c : Str} {k : Nat} (hl : T.lookup c = some (mkDef c k)) {us : List Val} {h : Hep} (hp : ∀ u ∈ us, ∀ h, mat u h = (u, h)) (ne : callF T (n + 1) c us h ≠ .bad) : us.length = k ∧ callF T (n + 1) c us h = mkRes h.length (callF T n (c ++ ".__init__") (.ref h.length :: us) (h ++ [.ins c []])) := by
  have hlen : us.length = k := by
    unfold callF at ne
    rw [hl] at ne
    simp only at ne
    split at ne
    · rename_i e
      rw [e]
      exact List.length_replicate
    · exact absurd rfl ne
  refine ⟨hlen, ?_⟩
  have e1 : evE (callF T n) (.make c (vars 0 k)) (us.map some) h = mkRes h.length (callF T n (c ++ ".__init__") (.ref h.length :: us) (h ++ [.ins c []])) := by
    rw [evE, evEs_vars k 0 us hp (by omega)]
    rfl
  rw [callF, hl]
  simp only
  rw [if_pos (show us.length = (mkDef c k).ps.length by rw [hlen]; exact List.length_replicate.symm)]
  have e2 : us.map some ++ List.replicate ((mkDef c k).ns.length - us.length) none = us.map some := by
    have : (mkDef c k).ns.length = k := List.length_replicate
    rw [this, hlen, Nat.sub_self]
    simp
  rw [e2]
  show (match exSs (callF T n) (.cons (.ret (.make c (vars 0 k))) .nil) (us.map some) h with
    | .nx _ h' => (Res.ok .non h' : Res Val)
    | .rt v h' => Res.ok v h'
    | .ex x _ h' => Res.ex x h'
    | .bad => Res.bad) = _
  rw [exSs, exS, e1]
  unfold mkRes
  cases callF T n (c ++ ".__init__") (.ref h.length :: us) (h ++ [.ins c []]) with
  | bad => rfl
  | ex x h' => rfl
  | ok v h' => cases v <;> rfl
section
variable {T : Tab} {P : Program} {w : World} {K : PySem.W.Frag} {mg : Str → Option Value} {base : Heap} {ca : Str → Addr}
theorem callF_ar {n : Nat} {f : Str} {d : Def} (hl : T.fns.lookup f = some d) (us : List Val) (h : Hep) (e : callF T.fns n f us h ≠ .bad) : us.length = d.ps.length := by
  cases n with
  | zero => exact absurd rfl e
  | succ n =>
    unfold callF at e
    rw [hl] at e
    simp only at e
    split at e
    · assumption
    · exact absurd rfl e
theorem re_start {ρ : List Addr} {H : Hp} {us : List Val} {vs : List V} {N : List Str} (r : RVs ρ H us vs) : RE ρ H (us.map some ++ List.replicate (N.length - us.length) none) (L2.start N vs) := by
  have hl := r.length
  unfold L2.start
  refine ⟨by simp [hl], fun i u e => ?_⟩
  by_cases hi : i < us.length
  · rw [List.getElem?_append_left (by simpa using hi), List.getElem?_map] at e
    cases eu : us[i]? with
    | none => rw [eu] at e; cases e
    | some x =>
      rw [eu] at e
      cases e
      obtain ⟨v, h1, h2⟩ := r.at eu
      exact ⟨v, by rw [List.getElem?_append_left (by rw [List.length_map, ← hl]; exact hi), List.getElem?_map, h1]; rfl, h2⟩
  · rw [List.getElem?_append_right (by simpa using hi), List.getElem?_replicate] at e
    split at e <;> cases e
theorem fn_all (t : Top T ca K mg) : ∀ (n : Nat) (f nm q : Str) (d : Def), T.fns.lookup f = some d → ∀ a fd pa bo sc, FunD K nm q pa bo sc [] [] a fd → C8.scC d.ns d.ps sc = true → isSs T d.ns sc d.body bo = true →
    FnOk P w K mg base (L2.CX P w) (2 * n) a fd d.ps (spR K ca (callF T.fns n) f d.ps)
  | 0, f, nm, q, d, hl, a, fd, pa, bo, sc, F, hs, hb => ⟨fun _ _ _ _ h => h.1, fun A outer s H args us vs Q E hr e0 hb' r hsp => by
      obtain ⟨_, ρ, P', h, us, R, rv, p⟩ := hsp
      exact p.elim⟩
  | n + 1, f, nm, q, d, hl, a, fd, pa, bo, sc, F, hs, hb => by
    have S := C8.fnScope_by hs
    refine F.ok (k := 2 * n + 1) S (fun _ _ _ _ h => h.1) fun cdv A outer s H vs Q E hr hsp => ?_
    obtain ⟨hlen, ρ, P', h, us, R, rv, p⟩ := hsp
    have wo : Wo T (cxOf (L2.CX P w) P w K mg base d.ns q sc a cdv A outer s H E) ca (callF T.fns n) (2 * n) := by
      refine ⟨fun f' d' hf' hl' => ?_, fun c ms fs hc => ?_, fun c ms fs hc d' hl' => ?_, t.ci, t.cs, t.ex, t.rz, t.free⟩
      · obtain ⟨a', fd', pa', bo', sc', F', hm', hb', hs', hi'⟩ := t.fn f' d' hf' hl'
        exact ⟨a', fd', ⟨fn_all t n f' f' f' d' hl' a' fd' pa' bo' sc' F' hs' hi', hb', fun us h e => callF_ar hl' us h e⟩, hm', F'.kp⟩
      · obtain ⟨k1, k2, k3, k4, k5, k6, k7⟩ := t.cl c ms fs hc
        refine ⟨k1, k2, k3, k4, k5, fun m hm d' hl' => ?_⟩
        obtain ⟨a', fd', nm', q', pa', bo', sc', F', M', hb', hs', hi'⟩ := k6 m hm d' hl'
        exact ⟨a', fd', ⟨fn_all t n _ nm' q' d' hl' a' fd' pa' bo' sc' F' hs' hi', hb', fun us h e => callF_ar hl' us h e⟩, M'⟩
      · obtain ⟨k1, k2, k3, k4, k5, k6, k7⟩ := t.cl c ms fs hc
        obtain ⟨k, rfl, di, a', fd', nm', q', pa', bo', sc', hli, hk, F', M', hb', hs', hi'⟩ := k7 d' hl'
        cases n with
        | zero => exact ⟨0, fun _ _ _ => .bad, a', fd', di.ps, Nat.zero_le _, ⟨fun _ _ _ _ h => h.1, fun A outer s H args us vs Q E hr e0 hb' r hsp => (by
            obtain ⟨_, ρ, P', h, us, R, rv, p⟩ := hsp
            exact p.elim)⟩, hb', M', fun us h _ e => absurd rfl e⟩
        | succ n =>
          refine ⟨2 * n, callF T.fns n, a', fd', di.ps, by omega, fn_all t n _ nm' q' di hli a' fd' pa' bo' sc' F' hs' hi', hb', M', fun us h hp e => ?_⟩
          obtain ⟨e1, e2⟩ := call_mk hl' hp e
          exact ⟨by rw [hk, e1], e2⟩
    have ok : Ok T (cxOf (L2.CX P w) P w K mg base d.ns q sc a cdv A outer s H E) ca (callF T.fns n) (fun cls d _ H => E cls d H) (2 * n) d.ns sc :=
      ⟨wo, hr, rfl, rfl, S.nd, rfl, takes_of rfl rfl rfl rfl⟩
    have okS : OkS T (cxOf (L2.CX P w) P w K mg base d.ns q sc a cdv A outer s H E) ca (callF T.fns n) (fun cls d _ H => E cls d H) (2 * n) d.ns sc :=
      ⟨ok, passes_of rfl, fun _ => rfl, S.kind, rfl, rfl, rfl⟩
    refine ⟨_, sSs d.body okS bo hb, ρ, P', us.map some ++ List.replicate (d.ns.length - us.length) none, h, R, re_start rv, ?_⟩
    have hu : us.length = d.ps.length := by rw [rv.length]; exact hlen
    unfold callF at p
    rw [hl] at p
    simp only at p
    rw [if_pos hu] at p
    cases hr' : exSs (callF T.fns n) d.body (us.map some ++ List.replicate (d.ns.length - us.length) none) h with
    | bad => rw [hr'] at p; exact p.elim
    | nx env h' =>
      rw [hr'] at p
      intro σ' ρ' P'' H' e' R' re'
      exact p .non ρ' P'' H' e' R' RV.mk_non
    | rt v h' =>
      rw [hr'] at p
      exact p
    | ex x env h' =>
      rw [hr'] at p
      intro ρ' P'' H' cls d' σ' e' R' re' x'
      exact p ρ' P'' H' cls d' e' R' x'
/-- the law's own promise -/
theorem law_sp {n : Nat} {H : Hp} {a : Addr} {ns : List Int} {ps : List Str} (hps : ps.length = 1) (hO : Only H) (hS : SqL K H a (ns.map V.int)) (hl : ∃ h', callF T.fns n "law" [.ref 0] [.ro (ns.map Val.int)] = .ok (.bl true) h') :
    spR K ca (callF T.fns n) "law" ps [.ref a] H (fun v _ => v = .bl true) fun _ _ _ => False := by
  obtain ⟨h', e⟩ := hl
  have rv : RVs [a] H (ns.map Val.int) (ns.map V.int) := by
    clear hS e
    induction ns with
    | nil => exact RVs.nil
    | cons x r ih => exact RVs.cons RV.mk_int ih
  refine ⟨by rw [hps]; rfl, [a], fun _ => none, [.ro (ns.map Val.int)], [.ref 0], ?_, ?_, ?_⟩
  · have one : ∀ {i : Nat} {o : Ob}, ([Ob.ro (ns.map Val.int)] : List Ob)[i]? = some o → i = 0 ∧ o = .ro (ns.map Val.int) := fun {i o} e => by
      cases i with
      | zero => cases e; exact ⟨rfl, rfl⟩
      | succ i => cases e
    refine ⟨rfl, fun i j b o u h1 h2 _ _ => ?_, fun i o b h1 h2 => ?_, fun b o z => (by cases z), fun i o b h1 _ => ?_⟩
    · obtain ⟨rfl, _⟩ := one h1
      obtain ⟨rfl, _⟩ := one h2
      exact .inl rfl
    · obtain ⟨rfl, rfl⟩ := one h1
      cases h2
      refine ⟨ns.map V.int, ?_, rv⟩
      rcases hS with hS | hS
      · rcases hS with hS | ⟨o, hS⟩
        · rcases hO a with z | ⟨o, xs, z⟩
          · rw [z] at hS; cases hS
          · rw [z] at hS; cases hS
        · exact .inl ⟨o, hS⟩
      · exact .inr fun H' => .inr hS
    · obtain ⟨rfl, rfl⟩ := one h1
      exact .inl trivial
  · refine RVs.of1 ?_
    unfold RV
    exact ⟨a, rfl, rfl⟩
  · rw [e]
    intro z ρ' P' H' e' R' r'
    unfold RV at r'
    exact r'
end
/-- a law's end, what it may let out told by the world -/
theorem walk_end {l : PySem.W.OpenLaw} {n k : Nat} {q : Program} {loose : List Str} {XP : (Str → Option Value) → Heap → Prop} {YP : World → Heap → Prop} {d : DefRec} {x : Str} (most : l.most = some n) (small : n ≤ sizeLine) (plain : d.params.defaults = []) (room : Room k callerA)
    (ends : ∀ (w : World) (g : Str → Option Value) (f : Addr) (h : Heap), YP w h → h.Ns mainGlobals g → g d.name = some (.ref f) → ∃ (K : PySem.W.Frag) (fd : FuncData) (sp : Sp), K.In h ∧ (∀ (s : Shared) (u : Value), BindsTo s fd ⟨[u], []⟩ [(x, u)]) ∧
      (∀ (H : Hp) (a : Addr) (ns : List Int), ns.length ≤ n → (∀ z ∈ ns, Builtin.Int.intBits z ≤ 1048576) → Only H → SqL K H a (ns.map V.int) → sp [.ref a] H (fun v _ => v = .bl true) fun _ _ _ => False) ∧ ∀ base : Heap, K.In base → base.Ns mainGlobals g → FnOk l.prog w K g base (L2.CX l.prog w) k f fd [x] sp) :
    PySem.W.WalkO q loose XP YP l.row.toRowW d [] (fun f vs => PySem.call f vs) := by
  refine Att.attach_callB most plain fun w s0 s1 g gb f ob pm cd doc a vs ns Gd Yd h1 h2 h3 h4 h5 h6 h7 hz h8 => ?_
  obtain ⟨K, fd, sp, i1, i2, i3, i4⟩ := ends w g f _ Yd Gd.T.g h4
  refine law_call i1 Gd.T.g Gd.T.b Gd.T.builtins Gd.T.nolimit h8 h5 h6 (Nat.le_trans h7 small) room i4 i2 (fun H o z => i3 H a ns h7 hz o z) fun H e s' z => ?_
  obtain ⟨_, _, _, _, _, _, _, _, _, _, _, _, z⟩ := z
  exact z
end Fs
set_option Elab.async false
set_option linter.all false
set_option maxRecDepth 100000
set_option maxHeartbeats 4000000
set_option autoImplicit false
set_option relaxedAutoImplicit false
namespace Fs
open PySem PySem.Spec PyProof.Rows L2
/-! ### the facts of exception classes, read off the top -/
def excB (K : PySem.W.Frag) (D : Addr) : Bool :=
  decide (PySem.W.findIn K (.ref D) "__getattribute__" = some (some (.builtin "BaseException.__getattribute__"))) && (decide (PySem.W.findIn K (.ref D) "__getattr__" = some none) &&
  (decide (PySem.W.subIn K (.ref D) (.type "BaseException") = some true) && (PySem.W.hasDictIn K D && (decide (PySem.W.findIn K (.ref D) "__class__" = some (some (.builtin "object.__class__"))) &&
  (decide (PySem.W.specialIn K (.builtin "object.__class__") "__get__" = some (some (.builtin "getset_descriptor.__get__"))) && (decide (PySem.W.takesIn K (.builtin "object.__class__") = some true) && decide (PySem.W.mroIn K D (.type "object") = some true)))))))
theorem excB_ok {K : PySem.W.Frag} {D : Addr} (h : excB K D = true) : ExcC K D := by
  obtain ⟨h1, h⟩ := and2 h
  obtain ⟨h2, h⟩ := and2 h
  obtain ⟨h3, h⟩ := and2 h
  obtain ⟨h4, h⟩ := and2 h
  obtain ⟨h5, h⟩ := and2 h
  obtain ⟨h6, h⟩ := and2 h
  obtain ⟨h7, h8⟩ := and2 h
  exact ⟨of_decide_eq_true h1, of_decide_eq_true h2, of_decide_eq_true h3, h4, of_decide_eq_true h5, of_decide_eq_true h6, of_decide_eq_true h7, of_decide_eq_true h8⟩
def cvOf (K : PySem.W.Frag) (c : Str) : Value := if c = "ValueError" then .type "ValueError" else .ref (He.ga K c)
def exFact (K : PySem.W.Frag) (q : Str × List Str × List Str) : Bool :=
  decide (PySem.W.kitOne K (.type "NoneType") (cvOf K q.1) = some false) && ((q.2.1.all fun k => excB K (He.ga K k) && (decide (PySem.W.kitOne K (.ref (He.ga K k)) (cvOf K q.1) = some true) && decide (PySem.W.exmOne K (.ref (He.ga K k)) (cvOf K q.1) = some true))) &&
  (q.2.2.all fun k => excB K (He.ga K k) && (decide (PySem.W.kitOne K (.ref (He.ga K k)) (cvOf K q.1) = some false) && decide (PySem.W.exmOne K (.ref (He.ga K k)) (cvOf K q.1) = some false))))
def exAll (l : List (Str × List Str × List Str)) (K : PySem.W.Frag) : Bool := l.all (exFact K)
theorem exAll_at {l : List (Str × List Str × List Str)} {K : PySem.W.Frag} (h : exAll l K = true) {q : Str × List Str × List Str} (hq : q ∈ l) : exFact K q = true := List.all_eq_true.mp h q hq
theorem exFact_ok {K : PySem.W.Frag} {mg : Str → Option Value} {c : Str} {sub non : List Str} (h : exFact K (c, sub, non) = true) (hn : (c ≠ "ValueError" ∧ mg c = some (.ref (He.ga K c))) ∨ (c = "ValueError" ∧ mg "ValueError" = none ∧ bootBuiltins "ValueError" = some (.type "ValueError"))) : ExOk K mg (He.ga K) c sub non := by
  obtain ⟨h1, h⟩ := and2 h
  obtain ⟨h2, h3⟩ := and2 h
  have h1 := of_decide_eq_true h1
  have ky : ∀ k ∈ sub, ExcC K (He.ga K k) ∧ PySem.W.kitOne K (.ref (He.ga K k)) (cvOf K c) = some true ∧ PySem.W.exmOne K (.ref (He.ga K k)) (cvOf K c) = some true := fun k hk => by
    obtain ⟨a, b⟩ := and2 (List.all_eq_true.mp h2 k hk)
    obtain ⟨b, d⟩ := and2 b
    exact ⟨excB_ok a, of_decide_eq_true b, of_decide_eq_true d⟩
  have kn : ∀ k ∈ non, ExcC K (He.ga K k) ∧ PySem.W.kitOne K (.ref (He.ga K k)) (cvOf K c) = some false ∧ PySem.W.exmOne K (.ref (He.ga K k)) (cvOf K c) = some false := fun k hk => by
    obtain ⟨a, b⟩ := and2 (List.all_eq_true.mp h3 k hk)
    obtain ⟨b, d⟩ := and2 b
    exact ⟨excB_ok a, of_decide_eq_true b, of_decide_eq_true d⟩
  rcases hn with ⟨hne, hm⟩ | ⟨rfl, hm, hb⟩
  · have e : cvOf K c = .ref (He.ga K c) := if_neg hne
    exact ⟨.ref (He.ga K c), cvOf K c, fun u => by rw [e]; exact Iff.rfl, .inl (by rw [e]; exact hm), h1, ky, kn⟩
  · have e : cvOf K "ValueError" = .type "ValueError" := if_pos rfl
    exact ⟨.ty "ValueError", cvOf K "ValueError", fun u => by rw [e]; exact Iff.rfl, .inr ⟨hm, by rw [e]; exact hb⟩, h1, ky, kn⟩
end Fs
set_option Elab.async false
set_option linter.all false
set_option maxRecDepth 100000
set_option maxHeartbeats 4000000
namespace Fw
open PySem L2
open Fs (lim keyOf keysOf kVal look put drp setF Bop Cop Ty Tn isTn cut Blt Mt Tg E Es Oe I S Ss Def)
/-- values: lists and dicts by what they hold (fl, fk, ft), and objects (ref) -/
inductive W where
  | non | bl (b : Bool) | int (i : Int) | str (s : Str) | tup (xs : List W) | ref (n : Nat)
  | fl (xs : List W) | fk (kvs : List (Key × W)) | ft (kvs : List (List Key × W))
  deriving Inhabited
inductive Ob where
  | lst (xs : List W) | ro (xs : List W) | dK (fz : Bool) (kvs : List (Key × W)) | dT (fz : Bool) (kvs : List (List Key × W)) | ins (c : Str) (fs : List (Str × W)) | exc (c : Str)
  deriving Inhabited
abbrev Hep := List Ob
abbrev Evn := List (Option W)
structure Ex where
  cls : Str
  fs : List (Str × W)
inductive Res (α : Type) where
  | ok (a : α) (h : Hep) | ex (x : Ex) (h : Hep) | bad
def Res.bind {α β : Type} (r : Res α) (f : α → Hep → Res β) : Res β := match r with
  | .ok a h => f a h
  | .ex x h => .ex x h
  | .bad => .bad
def Res.of {α : Type} (o : Option α) (h : Hep) : Res α := match o with
  | some a => .ok a h
  | none => .bad
def keyW : W → Option Key
  | .int i => some (.inl i)
  | .str s => some (.inr s)
  | _ => none
def keysW : W → Option (List Key)
  | .tup xs => xs.mapM keyW
  | _ => none
def kW : Key → W
  | .inl i => .int i
  | .inr s => .str s
/-- what a value reads as -/
def rd (h : Hep) : Nat → W → Option PyData
  | 0, _ => none
  | _ + 1, .non => some .none
  | _ + 1, .bl b => some (.bool b)
  | _ + 1, .int i => some (.int i)
  | _ + 1, .str s => some (.str s)
  | k + 1, .tup xs => (xs.mapM (rd h k)).map .tuple
  | k + 1, .fl xs => (xs.mapM (rd h k)).map .list
  | k + 1, .ref n => match h[n]? with
    | some (.lst xs) => (xs.mapM (rd h k)).map .list
    | _ => none
  | _ + 1, _ => none
def lstOf (h : Hep) : W → Option (List W)
  | .fl xs => some xs
  | .ref n => match h[n]? with
    | some (.lst xs) => some xs
    | _ => none
  | _ => none
def seqOf (h : Hep) : W → Option (List W)
  | .tup xs => some xs
  | v => lstOf h v
def dkOf (h : Hep) : W → Option (List (Key × W))
  | .fk kvs => some kvs
  | .ref n => match h[n]? with
    | some (.dK _ kvs) => some kvs
    | _ => none
  | _ => none
def dtOf (h : Hep) : W → Option (List (List Key × W))
  | .ft kvs => some kvs
  | .ref n => match h[n]? with
    | some (.dT _ kvs) => some kvs
    | _ => none
  | _ => none
def addO (h : Hep) : W → W → Option W
  | .int i, .int j => some (.int (i + j))
  | .str a, .str b => if a.length + b.length ≤ lim then some (.str (a ++ b)) else none
  | .tup a, .tup b => if a.length + b.length ≤ lim then some (.tup (a ++ b)) else none
  | a, b => match lstOf h a, lstOf h b with
    | some xs, some ys => if xs.length + ys.length ≤ lim then some (.fl (xs ++ ys)) else none
    | _, _ => none
def subO : W → W → Option W
  | .int i, .int j => some (.int (i - j))
  | _, _ => none
def mulO (h : Hep) : W → W → Option W
  | .int i, .int j => if i.natAbs.log2 + j.natAbs.log2 < 4000000 then some (.int (i * j)) else none
  | a, .int j => match lstOf h a with
    | some xs => if 0 ≤ j ∧ j < 2 ^ 62 ∧ xs.length * j.toNat ≤ lim then some (.fl (List.replicate j.toNat xs).flatten) else none
    | none => none
  | _, _ => none
def fdivO : W → W → Option W
  | .int i, .int j => if 0 < j ∧ j.natAbs.log2 < 9000 then some (.int (i / j)) else none
  | _, _ => none
def modO : W → W → Option W
  | .int i, .int j => if 0 < j then some (.int (i % j)) else none
  | _, _ => none
def powO : W → W → Option W
  | .int i, .int j => if 0 ≤ j ∧ j ≤ 1000000 ∧ i.natAbs < 2 ^ 64 then some (.int (i ^ j.toNat)) else none
  | _, _ => none
def bop (h : Hep) : Bop → W → W → Option W
  | .add, u, v => addO h u v
  | .sub, u, v => subO u v
  | .mul, u, v => mulO h u v
  | .fdiv, u, v => fdivO u v
  | .mod, u, v => modO u v
  | .pow, u, v => powO u v
def eqO (h : Hep) (u v : W) : Option Bool := match u, v with
  | .int i, .int j => some (decide (i = j))
  | .str a, .str b => some (decide (a = b))
  | .bl a, .bl b => some (decide (a = b))
  | u, v => match rd h 12 u, rd h 12 v with
    | some d, some e => some (PyData.eqv d e)
    | _, _ => none
def inL (h : Hep) (u : W) (xs : List W) : Option Bool := match rd h 12 u, xs.mapM (rd h 11) with
  | some d, some ds => some (ds.any fun e => PyData.eqv e d)
  | _, _ => none
def inO (h : Hep) (u v : W) : Option Bool := match v with
  | .str b => match u with
    | .str a => some (!(Builtin.Str.occurrences b a 0 b.length 1).isEmpty)
    | _ => none
  | .fk kvs => (keyW u).map fun k => (look kvs k).isSome
  | .ft kvs => (keysW u).map fun k => (look kvs k).isSome
  | .ref n => match h[n]? with
    | some (.dK _ kvs) => (keyW u).map fun k => (look kvs k).isSome
    | some (.dT _ kvs) => (keysW u).map fun k => (look kvs k).isSome
    | some (.lst xs) => inL h u xs
    | _ => none
  | .fl xs => inL h u xs
  | .tup xs => inL h u xs
  | _ => none
def ltO (h : Hep) (u v : W) : Option Bool := match u, v with
  | .int i, .int j => some (decide (i < j))
  | .tup xs, .tup ys => match rd h 12 (.tup xs), rd h 12 (.tup ys) with
    | some d, some e => if PySem.W.alike d e = true then some (PySem.W.dataLt d e) else none
    | _, _ => none
  | _, _ => none
def gtO : W → W → Option Bool
  | .int i, .int j => some (decide (j < i))
  | _, _ => none
def leO : W → W → Option Bool
  | .int i, .int j => some (decide (i ≤ j))
  | _, _ => none
def geO : W → W → Option Bool
  | .int i, .int j => some (decide (j ≤ i))
  | _, _ => none
def isNon : W → Bool
  | .non => true
  | _ => false
def isO : W → W → Option Bool
  | .bl a, .bl b => some (decide (a = b))
  | u, .non => some (isNon u)
  | _, _ => none
def cop (h : Hep) : Cop → W → W → Option Bool
  | .eq, u, v => eqO h u v
  | .ne, u, v => (eqO h u v).map (!·)
  | .lt, u, v => ltO h u v
  | .gt, u, v => gtO u v
  | .le, u, v => leO u v
  | .ge, u, v => geO u v
  | .is_, u, v => isO u v
  | .isn, u, v => (isO u v).map (!·)
  | .in_, u, v => inO h u v
  | .nin, u, v => (inO h u v).map (!·)
def tru (h : Hep) : W → Option Bool
  | .non => some false
  | .bl b => some b
  | .int i => some (i != 0)
  | .str s => if s.length ≤ lim then some (!decide (s.length = 0)) else none
  | .tup xs => some (!xs.isEmpty)
  | .fl xs => some (!xs.isEmpty)
  | .ref n => match h[n]? with
    | some (.lst xs) => some (!xs.isEmpty)
    | _ => none
  | _ => none
def tyN (h : Hep) : W → Option Tn
  | .non => some .none
  | .bl _ => some .bool
  | .int _ => some .int
  | .str _ => some .str
  | .tup _ => some .tuple
  | .fl _ => some .list
  | .fk _ => some .dict
  | .ref n => match h[n]? with
    | some (.lst _) => some .list
    | some (.dK ..) => some .dict
    | some (.dT false _) => some .dict
    | _ => none
  | _ => none
def isi (h : Hep) (v : W) (t : Ty) : Option Bool := (tyN h v).bind fun a => isTn a t
/-- isinstance of a kept exception, of None -/
def iscO (sub non : List Str) (h : Hep) (v : W) : Option Bool := match v with
  | .non => some false
  | .ref n => match h[n]? with
    | some (.exc k) => if k ∈ sub then some true else if k ∈ non then some false else none
    | _ => none
  | _ => none
def ixO (h : Hep) (a i : W) : Option W := match a with
  | .str s => match i with
    | .int j => if s.length ≤ lim then (atI s.cps.toList j).map fun c => .str ⟨#[c]⟩ else none
    | _ => none
  | .tup xs => match i with
    | .int j => atI xs j
    | _ => none
  | .fl xs => match i with
    | .int j => atI xs j
    | _ => none
  | .fk kvs => (keyW i).bind (look kvs)
  | .ft kvs => (keysW i).bind (look kvs)
  | .ref n => match h[n]? with
    | some (.lst xs) => match i with
      | .int j => atI xs j
      | _ => none
    | some (.ro xs) => match i with
      | .int j => atI xs j
      | _ => none
    | some (.dK _ kvs) => (keyW i).bind (look kvs)
    | some (.dT _ kvs) => (keysW i).bind (look kvs)
    | _ => none
  | _ => none
def slO (h : Hep) (a : W) (lo hi : Option Int) : Option W := match a with
  | .str s => if s.length ≤ lim then some (.str (cutS s lo hi)) else none
  | .tup xs => some (.tup (cut xs lo hi))
  | a => match lstOf h a with
    | some xs => some (.fl (cut xs lo hi))
    | none => none
def fldO (c f : Str) (h : Hep) (a : W) : Option W := match a with
  | .ref n => match h[n]? with
    | some (.ins d fs) => if d = c then fs.lookup f else none
    | _ => none
  | _ => none
/-! ### built-ins -/
def isIn (xs : List W) : Option (List Int) := xs.mapM fun | .int i => some i | _ => none
def isBl (xs : List W) : Option (List Bool) := xs.mapM fun | .bl i => some i | _ => none
def isSt (xs : List W) : Option (List Str) := xs.mapM fun | .str i => some i | _ => none
def isPr (xs : List W) : Option (List (W × W)) := xs.mapM fun | .tup [a, b] => some (a, b) | _ => none
def encD (h : Hep) (v : W) : PyData := (rd h 12 v).getD .none
def sortable (h : Hep) (xs : List W) : Bool := (xs.all fun x => (rd h 12 x).isSome) && (xs.all fun x => xs.all fun y => PySem.W.alike (encD h x) (encD h y)) &&
  ((xs.all fun x => Fs.isTupC (encD h x)) || (xs.all fun x => Fs.isPlainD (encD h x)))
def sortO (h : Hep) (xs : List W) : Option (List W) := if sortable h xs = true ∧ xs.length ≤ lim then some (xs.mergeSort (PySem.W.dataLe false (encD h))) else none
def newD (ps : List (W × W)) : Option W := if ps.isEmpty = true then some (.ft []) else match ps.mapM fun p => (keyW p.1).map (·, p.2) with
  | some kvs => some (.fk (kvs.foldl (fun acc kv => put acc kv.1 kv.2) []))
  | none => match ps.mapM fun p => (keysW p.1).map (·, p.2) with
    | some kvs => some (.ft (kvs.foldl (fun acc kv => put acc kv.1 kv.2) []))
    | none => none
def un (f : Hep → W → Option W) (h : Hep) : List W → Option W
  | [v] => f h v
  | _ => none
def lenV (h : Hep) (v : W) : Option W := match v with
  | .str s => if s.length ≤ lim then some (.int s.length) else none
  | .tup xs => some (.int xs.length)
  | .fl xs => some (.int xs.length)
  | .fk xs => some (.int xs.length)
  | .ft xs => some (.int xs.length)
  | .ref n => match h[n]? with
    | some (.dK _ kvs) => some (.int kvs.length)
    | some (.dT _ kvs) => some (.int kvs.length)
    | some (.ro xs) => some (.int xs.length)
    | some (.lst xs) => some (.int xs.length)
    | _ => none
  | _ => none
def listV (h : Hep) (v : W) : Option W := match v with
  | .tup xs => some (.fl xs)
  | .fl xs => some (.fl xs)
  | .ft kvs => some (.fl (kvs.map fun kv => .tup (kv.1.map kW)))
  | .ref n => match h[n]? with
    | some (.dT _ kvs) => some (.fl (kvs.map fun kv => .tup (kv.1.map kW)))
    | some (.dK false kvs) => some (.fl (kvs.map fun kv => kW kv.1))
    | some (.lst xs) => some (.fl xs)
    | _ => none
  | _ => none
def tupleV (h : Hep) (v : W) : Option W := (seqOf h v).map .tup
def sortedV (h : Hep) (v : W) : Option W := ((lstOf h v).bind (sortO h)).map .fl
def sumV (h : Hep) (v : W) : Option W := ((lstOf h v).bind isIn).map fun ns => .int ns.sum
def allV (h : Hep) (v : W) : Option W := ((lstOf h v).bind isBl).map fun bs => .bl (bs.all id)
def anyV (h : Hep) (v : W) : Option W := ((lstOf h v).bind isBl).map fun bs => .bl (bs.any id)
def intV (_ : Hep) (v : W) : Option W := match v with
  | .int i => some (.int i)
  | .bl b => some (.int (if b = true then 1 else 0))
  | .str s => if s.length ≤ 640 then (PySem.intText? s).map .int else none
  | _ => none
def strV (_ : Hep) (v : W) : Option W := match v with
  | .int i => if i.natAbs.log2 < 1920 then some (.str (toString i)) else none
  | _ => none
def maxB : List W → Option W
  | [.int i, .int j] => some (.int (if j > i then j else i))
  | _ => none
def minB : List W → Option W
  | [.int i, .int j] => some (.int (if j < i then j else i))
  | _ => none
def dictB (h : Hep) : List W → Option W
  | [v] => ((lstOf h v).bind isPr).bind newD
  | _ => none
def bltF (h : Hep) : Blt → List W → Option W
  | .len, vs => un lenV h vs
  | .list, vs => un listV h vs
  | .tuple, vs => un tupleV h vs
  | .sorted, vs => un sortedV h vs
  | .sum, vs => un sumV h vs
  | .all, vs => un allV h vs
  | .any, vs => un anyV h vs
  | .int, vs => un intV h vs
  | .str, vs => un strV h vs
  | .max, vs => maxB vs
  | .min, vs => minB vs
  | .dict, vs => dictB h vs
  | _, _ => none
def appM (h : Hep) : W → List W → Option (W × Hep)
  | .ref n, [v] => match h[n]? with
    | some (.lst xs) => if xs.length < lim then some (.non, h.set n (.lst (xs ++ [v]))) else none
    | _ => none
  | _, _ => none
def extM (h : Hep) : W → List W → Option (W × Hep)
  | .ref n, [v] => match h[n]?, lstOf h v with
    | some (.lst xs), some ys => if xs.length + ys.length ≤ lim then some (.non, h.set n (.lst (xs ++ ys))) else none
    | _, _ => none
  | _, _ => none
def popM (h : Hep) : W → List W → Option (W × Hep)
  | .ref n, [] => match h[n]? with
    | some (.lst xs) => (xs[xs.length - 1]?).map fun y => (y, h.set n (.lst xs.dropLast))
    | _ => none
  | .ref n, [.int i] => match h[n]? with
    | some (.lst xs) => if i.natAbs < 2 ^ 62 then (ixN xs.length i).bind fun k => (xs[k]?).map fun y => (y, h.set n (.lst (xs.eraseIdx k))) else none
    | _ => none
  | _, _ => none
def popD (h : Hep) : W → List W → Option (W × Hep)
  | .ref n, [v] => match h[n]? with
    | some (.dK false kvs) => (keyW v).bind fun k => (look kvs k).map fun y => (y, h.set n (.dK false (drp kvs k)))
    | _ => none
  | _, _ => none
def revM (h : Hep) : W → List W → Option (W × Hep)
  | .ref n, [] => match h[n]? with
    | some (.lst xs) => some (.non, h.set n (.lst xs.reverse))
    | _ => none
  | _, _ => none
def getM (h : Hep) (u : W) : List W → Option (W × Hep)
  | [k, d] => match dkOf h u with
    | some kvs => (keyW k).map fun k => ((look kvs k).getD d, h)
    | none => match dtOf h u with
      | some kvs => (keysW k).map fun k => ((look kvs k).getD d, h)
      | none => none
  | _ => none
def joinM (h : Hep) : W → List W → Option (W × Hep)
  | .str s, [v] => ((lstOf h v).bind isSt).bind fun ys => if (ys.map (·.length)).sum + ys.length * s.length ≤ lim then some (.str (Txt.join s ys), h) else none
  | _, _ => none
def splitM (h : Hep) : W → List W → Option (W × Hep)
  | .str s, [.str b] => if (b.length == 0) = false ∧ s.length + 2 ≤ lim then some (.fl ((Txt.split s b).map .str), h) else none
  | _, _ => none
def startM (h : Hep) : W → List W → Option (W × Hep)
  | .str s, [.str b] => some (.bl (Txt.startswith s b), h)
  | _, _ => none
def lowerM (h : Hep) : W → List W → Option (W × Hep)
  | .str s, [] => if s.length ≤ 5592405 then some (.str (Txt.lower s), h) else none
  | _, _ => none
def isL (h : Hep) : W → Bool
  | .ref n => match h[n]? with
    | some (.lst _) => true
    | _ => false
  | _ => false
def isD (h : Hep) (v : W) : Bool := match v with
  | .ref n => match h[n]? with
    | some (.dK false _) => true
    | some (.dT false _) => true
    | _ => false
  | _ => false
def isStr : W → Bool
  | .str _ => true
  | _ => false
/-- the receiver's own type -/
def recv (h : Hep) : Mt → W → Bool
  | .append, v => isL h v
  | .extend, v => isL h v
  | .pop, v => isL h v
  | .reverse, v => isL h v
  | .get, v => (dkOf h v).isSome || (dtOf h v).isSome
  | .popD, v => isD h v
  | .join, v => isStr v
  | .split, v => isStr v
  | .startswith, v => isStr v
  | .lower, v => isStr v
def mtF (h : Hep) : Mt → W → List W → Option (W × Hep)
  | .append, u, vs => appM h u vs
  | .extend, u, vs => extM h u vs
  | .pop, u, vs => popM h u vs
  | .popD, u, vs => popD h u vs
  | .reverse, u, vs => revM h u vs
  | .get, u, vs => getM h u vs
  | .join, u, vs => joinM h u vs
  | .split, u, vs => splitM h u vs
  | .startswith, u, vs => startM h u vs
  | .lower, u, vs => lowerM h u vs
abbrev Orc := Str → List W → Hep → Res W
/-! ### the evaluator -/
def asgT (h : Hep) : Tg → W → Evn → Option Evn
  | .nm i, v, σ => if i < σ.length then some (σ.set i (some v)) else none
  | .tp ts, v, σ => match v with
    | .tup xs => asgTs h ts xs σ
    | .fl xs => asgTs h ts xs σ
    | .ref n => match h[n]? with
      | some (.lst xs) => asgTs h ts xs σ
      | _ => none
    | _ => none
where asgTs (h : Hep) : List Tg → List W → Evn → Option Evn
  | [], [], σ => some σ
  | t :: ts, x :: xs, σ => (asgT h t x σ).bind (asgTs h ts xs)
  | _, _, _ => none
/-- what is walked: given items, or an object that is looked at anew each turn -/
inductive Src where
  | snap (xs : List W) | live (n : Nat)
inductive Wk where
  | fix (xs : List W) | lst (n : Nat) | enum (n : Nat) | zip (s t : Src)
def srcAt (h : Hep) : Src → Option (List W)
  | .snap xs => some xs
  | .live n => match h[n]? with
    | some (.lst xs) => some xs
    | some (.ro xs) => some xs
    | _ => none
def srcOf (h : Hep) : W → Option Src
  | .fl xs => some (.snap xs)
  | .ref n => match h[n]? with
    | some (.lst _) => some (.live n)
    | some (.ro _) => some (.live n)
    | _ => none
  | _ => none
def itAt (h : Hep) : Wk → Nat → Option (Option W)
  | .lst n, i => (srcAt h (.live n)).map (·[i]?)
  | .enum n, i => (srcAt h (.live n)).map fun xs => xs[i]?.map fun x => .tup [.int i, x]
  | .zip s t, i => match srcAt h s, srcAt h t with
    | some xs, some ys => some (match xs[i]?, ys[i]? with
      | some x, some y => some (.tup [x, y])
      | _, _ => none)
    | _, _ => none
  | .fix xs, i => some xs[i]?
def itLen (h : Hep) : Wk → Nat
  | .lst n => ((srcAt h (.live n)).getD []).length
  | .enum n => ((srcAt h (.live n)).getD []).length
  | .zip s _ => ((srcAt h s).getD []).length
  | .fix xs => xs.length
/-- the items with their numbers -/
def numd (k : Nat) : List W → List W
  | [] => []
  | x :: r => .tup [.int (k : Int), x] :: numd (k + 1) r
def prs : List W → List W → List W
  | x :: xs, y :: ys => .tup [x, y] :: prs xs ys
  | _, _ => []
def enumOf (h : Hep) (u : W) : Option Wk := match u with
  | .fl xs => some (.fix (numd 0 xs))
  | u => match srcOf h u with
    | some (.live n) => some (.enum n)
    | _ => none
def zipOf (h : Hep) (u v : W) : Option Wk := match u, v with
  | .fl xs, .fl ys => some (.fix (prs xs ys))
  | u, v => match srcOf h u, srcOf h v with
    | some s, some t => some (.zip s t)
    | _, _ => none
def lockD (n : Nat) (h : Hep) : Option Hep := match h[n]? with
  | some (.dK false kvs) => some (h.set n (.dK true kvs))
  | some (.dT false kvs) => some (h.set n (.dT true kvs))
  | _ => none
def unlockD (n : Nat) (h : Hep) : Option Hep := match h[n]? with
  | some (.dK true kvs) => some (h.set n (.dK false kvs))
  | some (.dT true kvs) => some (h.set n (.dT false kvs))
  | _ => none
def kkeys (kvs : List (Key × W)) : List W := kvs.map fun kv => kW kv.1
def tkeys (kvs : List (List Key × W)) : List W := kvs.map fun kv => .tup (kv.1.map kW)
def kitems (kvs : List (Key × W)) : List W := kvs.map fun kv => .tup [kW kv.1, kv.2]
def kvals (kvs : List (Key × W)) : List W := kvs.map fun kv => kv.2
inductive How | keys | items | vals
def walkD (h : Hep) (w : How) (n : Nat) : Option (List W) := match w, h[n]? with
  | .keys, some (.dK true kvs) => some (kkeys kvs)
  | .keys, some (.dT true kvs) => some (tkeys kvs)
  | .items, some (.dK true kvs) => some (kitems kvs)
  | .vals, some (.dK true kvs) => some (kvals kvs)
  | _, _ => none
/-- what is walked of a dict by what it holds -/
def walkF (w : How) (u : W) : Option (List W) := match w, u with
  | .keys, .fk kvs => some (kkeys kvs)
  | .keys, .ft kvs => some (tkeys kvs)
  | .items, .fk kvs => some (kitems kvs)
  | .vals, .fk kvs => some (kvals kvs)
  | _, _ => none
def isFD : W → Bool
  | .fk _ => true
  | .ft _ => true
  | _ => false
/-- the dict that a walk would lock -/
def dictOf (h : Hep) : W → Option Nat
  | .ref n => match h[n]? with
    | some (.dK false _) => some n
    | some (.dT false _) => some n
    | _ => none
  | _ => none
def rngO : List W → Option (List W)
  | [.int j] => if j.natAbs < 2 ^ 62 then some ((List.range j.toNat).map fun (i : Nat) => .int (0 + (i : Int))) else none
  | [.int i, .int j] => if i.natAbs < 2 ^ 62 ∧ j.natAbs < 2 ^ 62 then some ((List.range (j - i).toNat).map fun (k : Nat) => .int (i + (k : Int))) else none
  | [.int i, .int j, .int (-1)] => if i.natAbs < 2 ^ 62 ∧ j.natAbs < 2 ^ 62 then some ((List.range (i - j).toNat).map fun (k : Nat) => .int (i + (k : Nat) * (-1))) else none
  | _ => none
def rngL (vs : List W) : Option W := match vs with
  | [.int j] => if j.natAbs < 2 ^ 62 ∧ j.toNat ≤ lim then some (.fl ((List.range j.toNat).map fun (i : Nat) => .int (0 + (i : Int)))) else none
  | [.int i, .int j] => if i.natAbs < 2 ^ 62 ∧ j.natAbs < 2 ^ 62 ∧ (j - i).toNat ≤ lim then some (.fl ((List.range (j - i).toNat).map fun (k : Nat) => .int (i + (k : Int)))) else none
  | _ => none
def signs (s : Str) : List W := s.cps.toList.map fun c => .str ⟨#[c]⟩
def wkOf (h : Hep) : W → Option Wk
  | .tup xs => some (.fix xs)
  | .str s => some (.fix (signs s))
  | .fl xs => some (.fix xs)
  | .ref n => match h[n]? with
    | some (.lst _) => some (.lst n)
    | some (.ro _) => some (.lst n)
    | some (.dK true kvs) => some (.fix (kkeys kvs))
    | some (.dT true kvs) => some (.fix (tkeys kvs))
    | _ => none
  | _ => none
inductive SRes where
  | nx (σ : Evn) (h : Hep) | rt (v : W) (h : Hep) | ex (x : Ex) (σ : Evn) (h : Hep) | bad
def Res.sb {α : Type} (σ : Evn) (r : Res α) (f : α → Hep → SRes) : SRes := match r with
  | .ok a h => f a h
  | .ex x h => .ex x σ h
  | .bad => .bad
def SRes.sq (r : SRes) (f : Evn → Hep → SRes) : SRes := match r with
  | .nx σ h => f σ h
  | .rt v h => .rt v h
  | .ex x σ h => .ex x σ h
  | .bad => .bad
def Res.nox {α : Type} : Res α → Res α
  | .ok a h => .ok a h
  | _ => .bad
def lcL (step : W → Hep → Res (Option W)) : List W → Hep → Res (List W)
  | [], h => .ok [] h
  | x :: r, h => (step x h).bind fun o h1 => (lcL step r h1).bind fun vs h2 => .ok (match o with
    | some v => v :: vs
    | none => vs) h2
def lcGo (w : Wk) (step : W → Hep → Res (Option W)) : Nat → Nat → List W → Hep → Res (List W)
  | 0, _, _, _ => .bad
  | k + 1, i, acc, h => match itAt h w i with
    | none => .bad
    | some none => .ok acc h
    | some (some x) => match step x h with
      | .ok none h' => lcGo w step k (i + 1) acc h'
      | .ok (some v) h' => if acc.length < lim then lcGo w step k (i + 1) (acc ++ [v]) h' else .bad
      | _ => .bad
def lcR (w : Wk) (step : W → Hep → Res (Option W)) (h : Hep) : Res (List W) := match w with
  | .fix xs => if xs.length ≤ lim then lcL step xs h else .bad
  | w => lcGo w step (itLen h w + 1) 0 [] h
def forL (step : W → Evn → Hep → SRes) : List W → Evn → Hep → SRes
  | [], σ, h => .nx σ h
  | x :: r, σ, h => (step x σ h).sq fun σ' h' => forL step r σ' h'
def forGo (w : Wk) (step : W → Evn → Hep → SRes) : Nat → Nat → Evn → Hep → SRes
  | 0, _, _, _ => .bad
  | k + 1, i, σ, h => match itAt h w i with
    | none => .bad
    | some none => .nx σ h
    | some (some x) => (step x σ h).sq fun σ' h' => forGo w step k (i + 1) σ' h'
def forR (w : Wk) (step : W → Evn → Hep → SRes) (σ : Evn) (h : Hep) : SRes := match w with
  | .fix xs => forL step xs σ h
  | w => forGo w step (itLen h w + 1) 0 σ h
def whGo (test : Evn → Hep → Res Bool) (step : Evn → Hep → SRes) : Nat → Evn → Hep → SRes
  | 0, _, _ => .bad
  | k + 1, σ, h => (test σ h).sb σ fun b h' => if b = true then (step σ h').sq fun σ' h'' => whGo test step k σ' h'' else .nx σ h'
def wipeE (σ : Evn) : List Nat → Evn
  | [] => σ
  | v :: vs => (wipeE σ vs).set v none
def resO {α : Type} (o : Option (α × Hep)) : Res α := match o with
  | some (a, h) => .ok a h
  | none => .bad
/-- behind a walk over a dict: it is unlocked; nothing is raised within -/
def unlkE {α : Type} (n : Nat) : Res α → Res α
  | .ok a h => match unlockD n h with
    | some h' => .ok a h'
    | none => .bad
  | _ => .bad
def unlkS (n : Nat) : SRes → SRes
  | .nx σ h => match unlockD n h with
    | some h' => .nx σ h'
    | none => .bad
  | .rt v h => match unlockD n h with
    | some h' => .rt v h'
    | none => .bad
  | _ => .bad
/-- behind a walk over a dict by what it holds: nothing is raised within -/
def noxS : SRes → SRes
  | .nx σ h => .nx σ h
  | .rt v h => .rt v h
  | _ => .bad
/-- what stands behind a walk: nothing, an object to be unlocked, a dict by what it holds -/
inductive Bk | no | un (n : Nat) | fd
def isVar : E → Bool
  | .var _ => true
  | _ => false
/-- an expression whose list is a new one -/
def fresh : E → Bool
  | .lst _ => true
  | .lc .. => true
  | .rng _ => true
  | .rev _ => true
  | .sl .. => true
  | .blt .list _ => true
  | .blt .sorted _ => true
  | .bin .add _ _ => true
  | .bin .mul _ _ => true
  | _ => false
def layW : W → Hep → Res W
  | .fl xs, h => .ok (.ref h.length) (h ++ [.lst xs])
  | _, _ => .bad
def layD : W → Hep → Res W
  | .fk kvs, h => .ok (.ref h.length) (h ++ [.dK false kvs])
  | .ft kvs, h => .ok (.ref h.length) (h ++ [.dT false kvs])
  | _, _ => .bad
section
variable (F : Orc)
mutual
def evE : E → Evn → Hep → Res W
  | .var i, σ, h => match σ[i]? with
    | some (some v) => .ok v h
    | _ => .bad
  | .non, _, h => .ok .non h
  | .bl b, _, h => .ok (.bl b) h
  | .int i, _, h => .ok (.int i) h
  | .str s, _, h => .ok (.str s) h
  | .gint _ i, _, h => .ok (.int i) h
  | .gstr _ s, _, h => .ok (.str s) h
  | .bin o a b, σ, h => (evE a σ h).bind fun u h1 => (evE b σ h1).bind fun v h2 => Res.of (bop h2 o u v) h2
  | .neg a, σ, h => (evE a σ h).bind fun u h1 => match u with
    | .int i => .ok (.int (-i)) h1
    | _ => .bad
  | .cmp o a b, σ, h => (evE a σ h).bind fun u h1 => (evE b σ h1).bind fun v h2 => (Res.of (cop h2 o u v) h2).bind fun b h3 => .ok (.bl b) h3
  | .chain o p a b c, σ, h => (evE a σ h).bind fun u h1 => (evE b σ h1).bind fun v h2 => (Res.of (cop h2 o u v) h2).bind fun k h3 =>
      if k = true then (evE c σ h3).bind fun w h4 => (Res.of (cop h4 p v w) h4).bind fun b h5 => .ok (.bl b) h5 else .ok (.bl false) h3
  | .and a b, σ, h => (evE a σ h).bind fun u h1 => (Res.of (tru h1 u) h1).bind fun k h2 => if k = true then evE b σ h2 else .ok u h2
  | .or a b, σ, h => (evE a σ h).bind fun u h1 => (Res.of (tru h1 u) h1).bind fun k h2 => if k = true then .ok u h2 else evE b σ h2
  | .not a, σ, h => (evE a σ h).bind fun u h1 => (Res.of (tru h1 u) h1).bind fun k h2 => .ok (.bl (!k)) h2
  | .tup es, σ, h => (evEs es σ h).bind fun vs h1 => if vs.length ≤ lim then .ok (.tup vs) h1 else .bad
  | .lst es, σ, h => (evEs es σ h).bind fun vs h1 => if vs.length ≤ lim then .ok (.fl vs) h1 else .bad
  | .dnew t, _, h => .ok (.ref h.length) (h ++ [if t = true then .dT false [] else .dK false []])
  | .disp k v, σ, h => (evE k σ h).bind fun u h1 => (evE v σ h1).bind fun w h2 => match keyW u with
    | some k => .ok (.ref h2.length) (h2 ++ [.dK false [(k, w)]])
    | none => match keysW u with
      | some k => .ok (.ref h2.length) (h2 ++ [.dT false [(k, w)]])
      | none => .bad
  | .idx a i, σ, h => (evE a σ h).bind fun u h1 => (evE i σ h1).bind fun v h2 => Res.of (ixO h2 u v) h2
  | .sl a lo hi, σ, h => (evE a σ h).bind fun u h1 => (evO lo σ h1).bind fun l h2 => (evO hi σ h2).bind fun r h3 => Res.of (slO h3 u l r) h3
  | .rev a, σ, h => (evE a σ h).bind fun u h1 => Res.of ((lstOf h1 u).map fun xs => .fl xs.reverse) h1
  | .fld a c f, σ, h => (evE a σ h).bind fun u h1 => Res.of (fldO c f h1 u) h1
  | .call f es, σ, h => (evEs es σ h).bind fun vs h1 => F f vs h1
  | .make c es, σ, h => (evEs es σ h).bind fun vs h1 => (F (c ++ ".__init__") (.ref h1.length :: vs) (h1 ++ [.ins c []])).bind fun v h2 => match v with
    | .non => .ok (.ref h1.length) h2
    | _ => .bad
  | .meth o c m es, σ, h => (evE o σ h).bind fun u h1 => match u with
    | .ref n => match h1[n]? with
      | some (.ins c' fs) => if c' = c ∧ fs.lookup m = none then (evEs es σ h1).bind fun vs h2 => F (c ++ "." ++ m) (.ref n :: vs) h2 else .bad
      | _ => .bad
    | _ => .bad
  | .blt b es, σ, h => (evEs es σ h).bind fun vs h1 => Res.of (bltF h1 b vs) h1
  | .bm m o es, σ, h => (evE o σ h).bind fun u h1 => if recv h1 m u = true then (evEs es σ h1).bind fun vs h2 => resO (mtF h2 m u vs) else .bad
  | .isi a t, σ, h => (evE a σ h).bind fun u h1 => (Res.of (isi h1 u t) h1).bind fun b h2 => .ok (.bl b) h2
  | .isc a _ sub non, σ, h => (evE a σ h).bind fun u h1 => (Res.of (iscO sub non h1 u) h1).bind fun b h2 => .ok (.bl b) h2
  | .rng es, σ, h => (evEs es σ h).bind fun vs h1 => Res.of (rngL vs) h1
  | .sitems a, σ, h => (evE a σ h).bind fun u h1 => match dictOf h1 u with
    | some n => match h1[n]? with
      | some (.dT _ kvs) => Res.of ((sortO h1 (kvs.map fun kv => .tup [.tup (kv.1.map kW), kv.2])).map .fl) h1
      | _ => .bad
    | none => .bad
  | .lc own elt tg it c, σ, h => (evI it σ h).bind fun (w, d) h1 =>
      let r := lcR w (fun x h => match asgT h tg x (wipeE σ own) with
        | some σ' => (evC c σ' h).bind fun k h' => if k = true then (evE elt σ' h').bind fun v h'' => .ok (some v) h'' else .ok none h'
        | none => .bad) h1
      (match d with
        | .un n => unlkE n r
        | _ => r.nox).bind fun acc h2 => .ok (.fl acc) h2
  | .lay e, σ, h => match e with
    | .blt .dict es => (evEs es σ h).bind fun vs h1 => (Res.of (dictB h1 vs) h1).bind layD
    | e => if fresh e = true then (evE e σ h).bind layW else .bad
def evT : E → Evn → Hep → Res Bool
  | .and a b, σ, h => (evT a σ h).bind fun k h1 => if k = true then evT b σ h1 else .ok false h1
  | .or a b, σ, h => (evT a σ h).bind fun k h1 => if k = true then .ok true h1 else evT b σ h1
  | .not a, σ, h => (evT a σ h).bind fun k h1 => .ok (!k) h1
  | e, σ, h => (evE e σ h).bind fun v h1 => Res.of (tru h1 v) h1
def evEs : Es → Evn → Hep → Res (List W)
  | .nil, _, h => .ok [] h
  | .cons e es, σ, h => (evE e σ h).bind fun v h1 => (evEs es σ h1).bind fun vs h3 => .ok (v :: vs) h3
def evO : Oe → Evn → Hep → Res (Option Int)
  | .none, _, h => .ok none h
  | .some e, σ, h => (evE e σ h).bind fun u h1 => match u with
    | .int i => .ok (some i) h1
    | _ => .bad
def evC : Oe → Evn → Hep → Res Bool
  | .none, _, h => .ok true h
  | .some e, σ, h => evT e σ h
def evI : I → Evn → Hep → Res (Wk × Bk)
  | .of e, σ, h => match evE e σ h with
    | .ok u h1 => if isFD u = true then (if isVar e = true then (Res.of (walkF .keys u) h).bind fun xs h1 => .ok (.fix xs, .fd) h1 else .bad) else match dictOf h u with
      | some n => match lockD n h with
        | some hl => match evE e σ hl with
          | .ok (.ref m) h2 => if m = n then (Res.of (walkD h2 .keys n) h2).bind fun xs h3 => .ok (.fix xs, .un n) h3 else .bad
          | _ => .bad
        | none => .bad
      | none => (Res.of (wkOf h1 u) h1).bind fun w h2 => .ok (w, .no) h2
    | .ex x h1 => .ex x h1
    | .bad => .bad
  | .rng es, σ, h => (evEs es σ h).bind fun vs h1 => (Res.of (rngO vs) h1).bind fun xs h2 => .ok (.fix xs, .no) h2
  | .enum e, σ, h => (evE e σ h).bind fun u h1 => (Res.of (enumOf h1 u) h1).bind fun s h2 => .ok (s, .no) h2
  | .zip a b, σ, h => (evE a σ h).bind fun u h1 => (evE b σ h1).bind fun v h2 => (Res.of (zipOf h2 u v) h2).bind fun s h3 => .ok (s, .no) h3
  | .items e, σ, h => match evE e σ h with
    | .ok u _ => if isFD u = true then (if isVar e = true then (Res.of (walkF .items u) h).bind fun xs h1 => .ok (.fix xs, .fd) h1 else .bad) else match dictOf h u with
      | some n => match lockD n h with
        | some hl => match evE e σ hl with
          | .ok (.ref m) h2 => if m = n then (Res.of (walkD h2 .items n) h2).bind fun xs h3 => .ok (.fix xs, .un n) h3 else .bad
          | _ => .bad
        | none => .bad
      | none => .bad
    | _ => .bad
  | .values e, σ, h => match evE e σ h with
    | .ok u _ => if isFD u = true then (if isVar e = true then (Res.of (walkF .vals u) h).bind fun xs h1 => .ok (.fix xs, .fd) h1 else .bad) else match dictOf h u with
      | some n => match lockD n h with
        | some hl => match evE e σ hl with
          | .ok (.ref m) h2 => if m = n then (Res.of (walkD h2 .vals n) h2).bind fun xs h3 => .ok (.fix xs, .un n) h3 else .bad
          | _ => .bad
        | none => .bad
      | none => .bad
    | _ => .bad
end
def setI (h : Hep) (u v w : W) : Option Hep := match u with
  | .ref n => match h[n]? with
    | some (.lst xs) => match v with
      | .int i => (ixN xs.length i).map fun k => h.set n (.lst (xs.set k w))
      | _ => none
    | some (.dK false kvs) => (keyW v).bind fun k => if kvs.length < lim then some (h.set n (.dK false (put kvs k w))) else none
    | some (.dT false kvs) => (keysW v).bind fun k => if kvs.length < lim then some (h.set n (.dT false (put kvs k w))) else none
    | _ => none
  | _ => none
def setFO (h : Hep) (u : W) (c f : Str) (w : W) : Option Hep := match u with
  | .ref n => match h[n]? with
    | some (.ins d fs) => if d = c ∧ fs.length < 1000 then some (h.set n (.ins c (setF f w fs))) else none
    | _ => none
  | _ => none
mutual
def exS : S → Evn → Hep → SRes
  | .expr e, σ, h => (evE F e σ h).sb σ fun _ h1 => .nx σ h1
  | .asg tg e, σ, h => (evE F e σ h).sb σ fun v h1 => match asgT h1 tg v σ with
    | some σ' => .nx σ' h1
    | none => .bad
  | .aug i e, σ, h => match σ[i]? with
    | some (some u) => (evE F e σ h).sb σ fun v h1 => match u, v with
      | .int a, .int b => .nx (σ.set i (some (.int (a + b)))) h1
      | _, _ => .bad
    | _ => .bad
  | .seti o i e, σ, h => (evE F e σ h).sb σ fun w h2 => (evE F o σ h2).sb σ fun u h3 => (evE F i σ h3).sb σ fun v h4 => match setI h4 u v w with
    | some h5 => .nx σ h5
    | none => .bad
  | .setf o c f e, σ, h => (evE F e σ h).sb σ fun w h2 => (evE F o σ h2).sb σ fun u h3 => match setFO h3 u c f w with
    | some h4 => .nx σ h4
    | none => .bad
  | .ret e, σ, h => (evE F e σ h).sb σ fun v h1 => .rt v h1
  | .retN, _, h => .rt .non h
  | .pass, σ, h => .nx σ h
  | .never, _, _ => .bad
  | .wipe l, σ, h => .nx (wipeE σ l) h
  | .ifs t a b, σ, h => (evT F t σ h).sb σ fun k h1 => if k = true then exSs a σ h1 else exSs b σ h1
  | .whl t b, σ, h => whGo (evT F t) (exSs b) 100000 σ h
  | .for_ tg it b, σ, h => (evI F it σ h).sb σ fun (w, d) h1 =>
      let r := forR w (fun x σ h => match asgT h tg x σ with
        | some σ' => exSs b σ' h
        | none => .bad) σ h1
      match d with
        | .un n => unlkS n r
        | .fd => noxS r
        | .no => r
  | .raise c, σ, h => .ex ⟨c, []⟩ σ h
  | .tryE b _ sub _ i j, σ, h => match exSs b σ h with
    | .ex x σ' h' => if x.cls ∈ sub ∧ x.fs = [] ∧ i ≠ j ∧ i < σ'.length ∧ j < σ'.length then .nx ((σ'.set j (some (.ref h'.length))).set i none) (h' ++ [.exc x.cls]) else .bad
    | r => r
def exSs : Ss → Evn → Hep → SRes
  | .nil, σ, h => .nx σ h
  | .cons s ss, σ, h => (exS s σ h).sq fun σ' h' => exSs ss σ' h'
end
end
/-! ### what a call leaves -/
/-- no object from n on -/
def clean (n : Nat) : Nat → W → Bool
  | 0, _ => false
  | k + 1, .tup xs => xs.all (clean n k)
  | k + 1, .fl xs => xs.all (clean n k)
  | k + 1, .fk kvs => kvs.all fun kv => clean n k kv.2
  | k + 1, .ft kvs => kvs.all fun kv => clean n k kv.2
  | _ + 1, .ref m => decide (m < n)
  | _ + 1, _ => true
def cleanOb (n : Nat) : Ob → Bool
  | .lst xs => xs.all (clean n 12)
  | .ro xs => xs.all (clean n 12)
  | .dK _ kvs => kvs.all fun kv => clean n 12 kv.2
  | .dT _ kvs => kvs.all fun kv => clean n 12 kv.2
  | .ins _ fs => fs.all fun kv => clean n 12 kv.2
  | .exc _ => true
/-- a new object becomes what it holds -/
def frz (h : Hep) (n e : Nat) : Nat → W → Option W
  | 0, _ => none
  | k + 1, .tup xs => (xs.mapM (frz h n e k)).map .tup
  | k + 1, .ref m => if m < n then some (.ref m) else if m = e then none else match h[m]? with
    | some (.lst xs) => (xs.mapM (frz h n e k)).map .fl
    | some (.dK _ kvs) => (kvs.mapM fun kv => (frz h n e k kv.2).map (kv.1, ·)).map .fk
    | some (.dT _ kvs) => (kvs.mapM fun kv => (frz h n e k kv.2).map (kv.1, ·)).map .ft
    | _ => none
  | k + 1, w => if clean n (k + 1) w = true then some w else none
def frzOb (h : Hep) (n e : Nat) : Ob → Option Ob
  | .lst xs => (xs.mapM (frz h n e 12)).map .lst
  | .dK fz kvs => (kvs.mapM fun kv => (frz h n e 12 kv.2).map (kv.1, ·)).map (.dK fz)
  | .dT fz kvs => (kvs.mapM fun kv => (frz h n e 12 kv.2).map (kv.1, ·)).map (.dT fz)
  | _ => none
/-- what stood ahead stands, or holds no new object -/
def Old (h h' : Hep) : Prop := ∀ i, i < h.length → h'[i]? = h[i]? ∨ ∃ o, h'[i]? = some o ∧ cleanOb h.length o = true
open Classical in
noncomputable def cutV (md : Nat) (h : Hep) (r : Res W) : Res W := match r with
  | .bad => .bad
  | .ok w h' => if md = 0 then .ok w h' else if Old h h' then (if md = 1 then (match frz h' h.length h'.length 12 w with
      | some w' => .ok w' (h'.take h.length)
      | none => .bad) else match w with
        | .ref q => if h.length ≤ q then (match (h'[q]?).bind (frzOb h' h.length q) with
          | some o => .ok (.ref h.length) (h'.take h.length ++ [o])
          | none => .bad) else .bad
        | _ => .bad) else .bad
  | .ex x h' => if md = 0 then .ex x h' else if Old h h' then (match x.fs.mapM fun kv => (frz h' h.length h'.length 12 kv.2).map (kv.1, ·) with
      | some fs => .ex ⟨x.cls, fs⟩ (h'.take h.length)
      | none => .bad) else .bad
def retOf : SRes → Res W
  | .nx _ h => .ok .non h
  | .rt v h => .ok v h
  | .ex x _ h => .ex x h
  | .bad => .bad
noncomputable def callV (T : List (Str × Def)) (md : List (Str × Nat)) : Nat → Orc
  | 0, _, _, _ => .bad
  | n + 1, f, vs, h => match T.lookup f with
    | some d => if vs.length = d.ps.length then cutV ((md.lookup f).getD 0) h (retOf (exSs (callV T md n) d.body (vs.map some ++ List.replicate (d.ns.length - vs.length) none) h)) else .bad
    | none => .bad
/-- a comprehension's turn -/
def stepV (F : Orc) (own : List Nat) (elt : E) (tg : Tg) (c : Oe) (σ : Evn) : W → Hep → Res (Option W) := fun x h => match asgT h tg x (wipeE σ own) with
  | some σ' => (evC F c σ' h).bind fun k h' => if k = true then (evE F elt σ' h').bind fun v h'' => .ok (some v) h'' else .ok none h'
  | none => .bad
def fstepV (F : Orc) (tg : Tg) (b : Ss) : W → Evn → Hep → SRes := fun x σ h => match asgT h tg x σ with
  | some σ' => exSs F b σ' h
  | none => .bad
end Fw
set_option Elab.async false
set_option linter.all false
set_option maxRecDepth 100000
set_option maxHeartbeats 4000000
set_option autoImplicit false
set_option relaxedAutoImplicit false
namespace Fw
open PySem L2
open Fs (lim keyOf keysOf kVal look put drp setF Bop Cop Ty Tn isTn cut Blt Mt Tg E Es Oe I S Ss Def)
/-! ### the value evaluator's state and the heap evaluator's -/
abbrev Zm := Nat → Option W
mutual
def RW (Z : Zm) (ρ : List Nat) : W → Fs.Val → Prop
  | .non, v => v = .non
  | .bl b, v => v = .bl b
  | .int i, v => v = .int i
  | .str s, v => v = .str s
  | .tup xs, v => ∃ vs, v = .tup vs ∧ RWs Z ρ xs vs
  | .ref n, v => ∃ m, v = .ref m ∧ ρ[n]? = some m
  | .fl xs, v => ∃ m, v = .ref m ∧ Z m = some (.fl xs)
  | .fk xs, v => ∃ m, v = .ref m ∧ Z m = some (.fk xs)
  | .ft xs, v => ∃ m, v = .ref m ∧ Z m = some (.ft xs)
def RWs (Z : Zm) (ρ : List Nat) : List W → List Fs.Val → Prop
  | [], vs => vs = []
  | x :: xs, vs => ∃ v r, vs = v :: r ∧ RW Z ρ x v ∧ RWs Z ρ xs r
end
/-- pairs of a key and a value -/
def RK {κ : Type} (Z : Zm) (ρ : List Nat) : List (κ × W) → List (κ × Fs.Val) → Prop
  | [], zs => zs = []
  | p :: r, zs => ∃ v s, zs = (p.1, v) :: s ∧ RW Z ρ p.2 v ∧ RK Z ρ r s
/-- a result: a list of one's own may be in the air -/
def RX (Z : Zm) (ρ : List Nat) (w : W) (v : Fs.Val) : Prop := (∃ xs vs, w = .fl xs ∧ v = .tl vs ∧ RWs Z ρ xs vs) ∨ RW Z ρ w v
def RXs (Z : Zm) (ρ : List Nat) : List W → List Fs.Val → Prop
  | [], vs => vs = []
  | x :: xs, vs => ∃ v r, vs = v :: r ∧ RX Z ρ x v ∧ RXs Z ρ xs r
def RO (Z : Zm) (ρ : List Nat) : Ob → Fs.Ob → Prop
  | .lst xs, o => ∃ vs, o = .lst vs ∧ RWs Z ρ xs vs
  | .ro xs, o => ∃ vs, o = .ro vs ∧ RWs Z ρ xs vs
  | .dK fz kvs, o => ∃ zs, o = .dK fz zs ∧ RK Z ρ kvs zs
  | .dT fz kvs, o => ∃ zs, o = .dT fz zs ∧ RK Z ρ kvs zs
  | .ins c fs, o => ∃ zs, o = .ins c zs ∧ RK Z ρ fs zs
  | .exc c, o => o = .exc c []
def RZ (Z : Zm) (ρ : List Nat) : W → Fs.Ob → Prop
  | .fl xs, o => ∃ vs, o = .lst vs ∧ RWs Z ρ xs vs
  | .fk kvs, o => ∃ fz zs, o = .dK fz zs ∧ RK Z ρ kvs zs
  | .ft kvs, o => ∃ fz zs, o = .dT fz zs ∧ RK Z ρ kvs zs
  | _, _ => False
structure SR (Z : Zm) (ρ : List Nat) (hv : Hep) (h : Fs.Hep) : Prop where
  len : ρ.length = hv.length
  ob : ∀ (n : Nat) o m, hv[n]? = some o → ρ[n]? = some m → ∃ u, h[m]? = some u ∧ RO Z ρ o u
  nd : ∀ (i j : Nat) m, ρ[i]? = some m → ρ[j]? = some m → i = j
  ap : ∀ (n : Nat) m, ρ[n]? = some m → Z m = none
  fz : ∀ (m : Nat) w, Z m = some w → ∃ u, h[m]? = some u ∧ RZ Z ρ w u
structure Ext (Z : Zm) (ρ : List Nat) (h : Fs.Hep) (Z' : Zm) (ρ' : List Nat) (h' : Fs.Hep) : Prop where
  pre : ∃ t, ρ' = ρ ++ t
  zs : ∀ (m : Nat) w, Z m = some w → Z' m = some w
  kp : ∀ (m : Nat) w, Z m = some w → h'[m]? = h[m]?
  len : h.length ≤ h'.length
  nz : ∀ (m : Nat) w, Z' m = some w → Z m = some w ∨ h.length ≤ m
  nr : ∀ (n m : Nat), ρ'[n]? = some m → ρ[n]? = some m ∨ h.length ≤ m
theorem Ext.refl {Z : Zm} {ρ : List Nat} {h : Fs.Hep} : Ext Z ρ h Z ρ h := ⟨⟨[], by simp⟩, fun _ _ e => e, fun _ _ _ => rfl, Nat.le_refl _, fun _ _ e => .inl e, fun _ _ e => .inl e⟩
theorem Ext.trans {Z Z1 Z2 : Zm} {ρ ρ1 ρ2 : List Nat} {h h1 h2 : Fs.Hep} (a : Ext Z ρ h Z1 ρ1 h1) (b : Ext Z1 ρ1 h1 Z2 ρ2 h2) : Ext Z ρ h Z2 ρ2 h2 := by
  obtain ⟨t, e⟩ := a.pre
  obtain ⟨u, e'⟩ := b.pre
  exact ⟨⟨t ++ u, by rw [e', e, List.append_assoc]⟩, fun m w z => b.zs _ _ (a.zs _ _ z), fun m w z => by rw [b.kp m w (a.zs _ _ z), a.kp m w z], Nat.le_trans a.len b.len,
    fun m w z => (b.nz m w z).elim (fun z => a.nz m w z) (fun z => .inr (Nat.le_trans a.len z)), fun n m z => (b.nr n m z).elim (fun z => a.nr n m z) (fun z => .inr (Nat.le_trans a.len z))⟩
/-- what values lean on -/
structure Low (Z : Zm) (ρ : List Nat) (Z' : Zm) (ρ' : List Nat) : Prop where
  at_ : ∀ (n : Nat) m, ρ[n]? = some m → ρ'[n]? = some m
  zs : ∀ (m : Nat) w, Z m = some w → Z' m = some w
theorem Ext.low {Z Z' : Zm} {ρ ρ' : List Nat} {h h' : Fs.Hep} (e : Ext Z ρ h Z' ρ' h') : Low Z ρ Z' ρ' := ⟨fun n m z => by
  obtain ⟨t, rfl⟩ := e.pre
  rw [List.getElem?_append_left (List.getElem?_eq_some_iff.mp z).1]
  exact z, e.zs⟩
section
variable {Z Z' : Zm} {ρ ρ' : List Nat} {hv hv' : Hep} {h h' : Fs.Hep}
mutual
theorem RW.low (e : Low Z ρ Z' ρ') : ∀ (u : W) (v : Fs.Val), RW Z ρ u v → RW Z' ρ' u v
  | .non, _, h => by unfold RW at h ⊢; exact h
  | .bl _, _, h => by unfold RW at h ⊢; exact h
  | .int _, _, h => by unfold RW at h ⊢; exact h
  | .str _, _, h => by unfold RW at h ⊢; exact h
  | .tup xs, _, h => by
    unfold RW at h ⊢
    obtain ⟨vs, rfl, h2⟩ := h
    exact ⟨vs, rfl, RWs.low e xs vs h2⟩
  | .ref n, _, h => by
    unfold RW at h ⊢
    obtain ⟨a, rfl, h1⟩ := h
    exact ⟨a, rfl, e.at_ _ _ h1⟩
  | .fl _, _, h => by
    unfold RW at h ⊢
    obtain ⟨a, rfl, h1⟩ := h
    exact ⟨a, rfl, e.zs _ _ h1⟩
  | .fk _, _, h => by
    unfold RW at h ⊢
    obtain ⟨a, rfl, h1⟩ := h
    exact ⟨a, rfl, e.zs _ _ h1⟩
  | .ft _, _, h => by
    unfold RW at h ⊢
    obtain ⟨a, rfl, h1⟩ := h
    exact ⟨a, rfl, e.zs _ _ h1⟩
theorem RWs.low (e : Low Z ρ Z' ρ') : ∀ (us : List W) (vs : List Fs.Val), RWs Z ρ us vs → RWs Z' ρ' us vs
  | [], _, h => by unfold RWs at h ⊢; exact h
  | x :: xs, _, h => by
    unfold RWs at h ⊢
    obtain ⟨v, r, rfl, h1, h2⟩ := h
    exact ⟨v, r, rfl, RW.low e x v h1, RWs.low e xs r h2⟩
end
theorem RWs.length : ∀ {us : List W} {vs : List Fs.Val}, RWs Z ρ us vs → us.length = vs.length
  | [], _, h => by unfold RWs at h; subst h; rfl
  | x :: xs, _, h => by
    unfold RWs at h
    obtain ⟨v, r, rfl, _, h2⟩ := h
    simp [RWs.length h2]
theorem RWs.nil : RWs Z ρ [] [] := by unfold RWs; rfl
theorem RWs.cons {x : W} {v : Fs.Val} {xs : List W} {vs : List Fs.Val} (h : RW Z ρ x v) (hs : RWs Z ρ xs vs) : RWs Z ρ (x :: xs) (v :: vs) := by
  unfold RWs
  exact ⟨v, vs, rfl, h, hs⟩
theorem RWs.inv_nil {vs : List Fs.Val} (h : RWs Z ρ [] vs) : vs = [] := by unfold RWs at h; exact h
theorem RWs.inv_cons {x : W} {xs : List W} {vs : List Fs.Val} (h : RWs Z ρ (x :: xs) vs) : ∃ v r, vs = v :: r ∧ RW Z ρ x v ∧ RWs Z ρ xs r := by unfold RWs at h; exact h
theorem RWs.get : ∀ {us : List W} {vs : List Fs.Val}, RWs Z ρ us vs → ∀ (i : Nat), (us[i]? = none ∧ vs[i]? = none) ∨ ∃ u v, us[i]? = some u ∧ vs[i]? = some v ∧ RW Z ρ u v
  | [], _, h, i => by unfold RWs at h; subst h; exact .inl ⟨by simp, by simp⟩
  | x :: xs, _, h, i => by
    unfold RWs at h
    obtain ⟨v, r, rfl, h1, h2⟩ := h
    cases i with
    | zero => exact .inr ⟨x, v, rfl, rfl, h1⟩
    | succ i => simpa using RWs.get h2 i
theorem RWs.at {us : List W} {vs : List Fs.Val} (r : RWs Z ρ us vs) {i : Nat} {u : W} (e : us[i]? = some u) : ∃ v, vs[i]? = some v ∧ RW Z ρ u v := by
  rcases r.get i with ⟨h1, _⟩ | ⟨u', v, h1, h2, h3⟩
  · rw [h1] at e; cases e
  · rw [h1] at e; cases e; exact ⟨v, h2, h3⟩
theorem RWs.no {us : List W} {vs : List Fs.Val} (r : RWs Z ρ us vs) {i : Nat} (e : us[i]? = none) : vs[i]? = none := by
  rcases r.get i with ⟨_, h⟩ | ⟨u', v, h1, _, _⟩
  · exact h
  · rw [h1] at e; cases e
theorem RWs.append : ∀ {us : List W} {vs : List Fs.Val} {us' : List W} {vs' : List Fs.Val}, RWs Z ρ us vs → RWs Z ρ us' vs' → RWs Z ρ (us ++ us') (vs ++ vs')
  | [], _, _, _, h, h' => by unfold RWs at h; subst h; exact h'
  | x :: xs, _, _, _, h, h' => by
    unfold RWs at h
    obtain ⟨v, r, rfl, h1, h2⟩ := h
    exact RWs.cons h1 (RWs.append h2 h')
theorem RWs.take : ∀ {us : List W} {vs : List Fs.Val} (n : Nat), RWs Z ρ us vs → RWs Z ρ (us.take n) (vs.take n)
  | _, _, 0, _ => by simp [RWs.nil]
  | [], _, n + 1, h => by unfold RWs at h; subst h; exact RWs.nil
  | x :: xs, _, n + 1, h => by
    unfold RWs at h
    obtain ⟨v, r, rfl, h1, h2⟩ := h
    exact RWs.cons h1 (RWs.take n h2)
theorem RWs.drop : ∀ {us : List W} {vs : List Fs.Val} (n : Nat), RWs Z ρ us vs → RWs Z ρ (us.drop n) (vs.drop n)
  | _, _, 0, h => h
  | [], _, n + 1, h => by unfold RWs at h; subst h; exact RWs.nil
  | x :: xs, _, n + 1, h => by
    unfold RWs at h
    obtain ⟨v, r, rfl, h1, h2⟩ := h
    exact RWs.drop n h2
theorem RWs.reverse {us : List W} {vs : List Fs.Val} (h : RWs Z ρ us vs) : RWs Z ρ us.reverse vs.reverse := by
  induction us generalizing vs with
  | nil => unfold RWs at h; subst h; exact RWs.nil
  | cons x xs ih =>
    unfold RWs at h
    obtain ⟨v, r, rfl, h1, h2⟩ := h
    rw [List.reverse_cons, List.reverse_cons]
    exact (ih h2).append (RWs.cons h1 RWs.nil)
theorem RWs.set : ∀ {us : List W} {vs : List Fs.Val} (i : Nat) {u : W} {v : Fs.Val}, RWs Z ρ us vs → RW Z ρ u v → RWs Z ρ (us.set i u) (vs.set i v)
  | [], _, _, _, _, h, _ => by unfold RWs at h; subst h; exact RWs.nil
  | x :: xs, _, i, _, _, h, hu => by
    unfold RWs at h
    obtain ⟨v, r, rfl, h1, h2⟩ := h
    cases i with
    | zero => exact RWs.cons hu h2
    | succ i => exact RWs.cons h1 (RWs.set i h2 hu)
theorem RWs.eraseIdx : ∀ {us : List W} {vs : List Fs.Val} (i : Nat), RWs Z ρ us vs → RWs Z ρ (us.eraseIdx i) (vs.eraseIdx i)
  | [], _, _, h => by unfold RWs at h; subst h; exact RWs.nil
  | x :: xs, _, i, h => by
    unfold RWs at h
    obtain ⟨v, r, rfl, h1, h2⟩ := h
    cases i with
    | zero => exact h2
    | succ i => exact RWs.cons h1 (RWs.eraseIdx i h2)
theorem RWs.dropLast {us : List W} {vs : List Fs.Val} (h : RWs Z ρ us vs) : RWs Z ρ us.dropLast vs.dropLast := by
  rw [List.dropLast_eq_take, List.dropLast_eq_take, h.length]
  exact h.take _
theorem RWs.replicate {us : List W} {vs : List Fs.Val} (h : RWs Z ρ us vs) : ∀ n : Nat, RWs Z ρ (List.replicate n us).flatten (List.replicate n vs).flatten
  | 0 => RWs.nil
  | n + 1 => by
    rw [List.replicate_succ, List.replicate_succ, List.flatten_cons, List.flatten_cons]
    exact h.append (RWs.replicate h n)
theorem RWs.mapE {α : Type} {f : α → W} {g : α → Fs.Val} (h : ∀ a, RW Z ρ (f a) (g a)) : ∀ l : List α, RWs Z ρ (l.map f) (l.map g)
  | [] => RWs.nil
  | a :: r => RWs.cons (h a) (RWs.mapE h r)
theorem RW.mk_int {i : Int} : RW Z ρ (.int i) (.int i) := by unfold RW; rfl
theorem RW.mk_str {s : Str} : RW Z ρ (.str s) (.str s) := by unfold RW; rfl
theorem RW.mk_bl {b : Bool} : RW Z ρ (.bl b) (.bl b) := by unfold RW; rfl
theorem RW.mk_non : RW Z ρ .non .non := by unfold RW; rfl
theorem RW.mk_tup {xs : List W} {vs : List Fs.Val} (h : RWs Z ρ xs vs) : RW Z ρ (.tup xs) (.tup vs) := by unfold RW; exact ⟨vs, rfl, h⟩
theorem RW.i_int {i : Int} {v : Fs.Val} (h : RW Z ρ (.int i) v) : v = .int i := by unfold RW at h; exact h
theorem RW.i_str {i : Str} {v : Fs.Val} (h : RW Z ρ (.str i) v) : v = .str i := by unfold RW at h; exact h
theorem RW.i_bl {i : Bool} {v : Fs.Val} (h : RW Z ρ (.bl i) v) : v = .bl i := by unfold RW at h; exact h
theorem RW.i_non {v : Fs.Val} (h : RW Z ρ .non v) : v = .non := by unfold RW at h; exact h
theorem RW.i_tup {xs : List W} {v : Fs.Val} (h : RW Z ρ (.tup xs) v) : ∃ vs, v = .tup vs ∧ RWs Z ρ xs vs := by unfold RW at h; exact h
theorem RW.i_ref {n : Nat} {v : Fs.Val} (h : RW Z ρ (.ref n) v) : ∃ m, v = .ref m ∧ ρ[n]? = some m := by unfold RW at h; exact h
theorem RW.i_fl {xs : List W} {v : Fs.Val} (h : RW Z ρ (.fl xs) v) : ∃ m, v = .ref m ∧ Z m = some (.fl xs) := by unfold RW at h; exact h
theorem RW.i_fk {xs : List (Key × W)} {v : Fs.Val} (h : RW Z ρ (.fk xs) v) : ∃ m, v = .ref m ∧ Z m = some (.fk xs) := by unfold RW at h; exact h
theorem RW.i_ft {xs : List (List Key × W)} {v : Fs.Val} (h : RW Z ρ (.ft xs) v) : ∃ m, v = .ref m ∧ Z m = some (.ft xs) := by unfold RW at h; exact h
theorem RX.of {w : W} {v : Fs.Val} (h : RW Z ρ w v) : RX Z ρ w v := .inr h
theorem RX.tl {xs : List W} {vs : List Fs.Val} (h : RWs Z ρ xs vs) : RX Z ρ (.fl xs) (.tl vs) := .inl ⟨xs, vs, rfl, rfl, h⟩
theorem RX.low (e : Low Z ρ Z' ρ') {w : W} {v : Fs.Val} (h : RX Z ρ w v) : RX Z' ρ' w v := by
  rcases h with ⟨xs, vs, h1, h2, h3⟩ | h
  · exact .inl ⟨xs, vs, h1, h2, RWs.low e _ _ h3⟩
  · exact .inr (RW.low e _ _ h)
theorem RX.nofl {w : W} {v : Fs.Val} (h : RX Z ρ w v) (n : ∀ xs, w ≠ .fl xs) : RW Z ρ w v := by
  rcases h with ⟨xs, vs, h1, h2, h3⟩ | h
  · exact absurd h1 (n xs)
  · exact h
theorem RX.i_int {i : Int} {v : Fs.Val} (h : RX Z ρ (.int i) v) : v = .int i := (h.nofl fun _ z => nomatch z).i_int
theorem RX.i_str {i : Str} {v : Fs.Val} (h : RX Z ρ (.str i) v) : v = .str i := (h.nofl fun _ z => nomatch z).i_str
theorem RX.i_bl {i : Bool} {v : Fs.Val} (h : RX Z ρ (.bl i) v) : v = .bl i := (h.nofl fun _ z => nomatch z).i_bl
theorem RX.i_non {v : Fs.Val} (h : RX Z ρ .non v) : v = .non := (h.nofl fun _ z => nomatch z).i_non
theorem RX.i_tup {xs : List W} {v : Fs.Val} (h : RX Z ρ (.tup xs) v) : ∃ vs, v = .tup vs ∧ RWs Z ρ xs vs := (h.nofl fun _ z => nomatch z).i_tup
theorem RX.i_ref {n : Nat} {v : Fs.Val} (h : RX Z ρ (.ref n) v) : ∃ m, v = .ref m ∧ ρ[n]? = some m := (h.nofl fun _ z => nomatch z).i_ref
theorem RX.i_fk {xs : List (Key × W)} {v : Fs.Val} (h : RX Z ρ (.fk xs) v) : ∃ m, v = .ref m ∧ Z m = some (.fk xs) := (h.nofl fun _ z => nomatch z).i_fk
theorem RX.i_ft {xs : List (List Key × W)} {v : Fs.Val} (h : RX Z ρ (.ft xs) v) : ∃ m, v = .ref m ∧ Z m = some (.ft xs) := (h.nofl fun _ z => nomatch z).i_ft
theorem RXs.low (e : Low Z ρ Z' ρ') : ∀ {us : List W} {vs : List Fs.Val}, RXs Z ρ us vs → RXs Z' ρ' us vs
  | [], _, h => h
  | x :: xs, _, h => by
    obtain ⟨v, r, rfl, h1, h2⟩ := h
    exact ⟨v, r, rfl, h1.low e, RXs.low e h2⟩
theorem RXs.of : ∀ {us : List W} {vs : List Fs.Val}, RWs Z ρ us vs → RXs Z ρ us vs
  | [], _, h => by unfold RWs at h; exact h
  | x :: xs, _, h => by
    unfold RWs at h
    obtain ⟨v, r, rfl, h1, h2⟩ := h
    exact ⟨v, r, rfl, .of h1, RXs.of h2⟩
theorem RK.low {κ : Type} (e : Low Z ρ Z' ρ') : ∀ {l : List (κ × W)} {m : List (κ × Fs.Val)}, RK Z ρ l m → RK Z' ρ' l m
  | [], _, h => h
  | p :: r, _, h => by
    obtain ⟨v, s, rfl, h1, h2⟩ := h
    exact ⟨v, s, rfl, RW.low e _ _ h1, RK.low e h2⟩
theorem RK.length {κ : Type} : ∀ {l : List (κ × W)} {m : List (κ × Fs.Val)}, RK Z ρ l m → l.length = m.length
  | [], _, h => by cases h; rfl
  | p :: r, _, h => by
    obtain ⟨v, s, rfl, h1, h2⟩ := h
    simp [RK.length h2]
theorem RK.keys {κ : Type} : ∀ {l : List (κ × W)} {m : List (κ × Fs.Val)}, RK Z ρ l m → l.map (·.1) = m.map (·.1)
  | [], _, h => by cases h; rfl
  | p :: r, _, h => by
    obtain ⟨v, s, rfl, h1, h2⟩ := h
    simp [RK.keys h2]
theorem RK.append {κ : Type} : ∀ {l l' : List (κ × W)} {m m' : List (κ × Fs.Val)}, RK Z ρ l m → RK Z ρ l' m' → RK Z ρ (l ++ l') (m ++ m')
  | [], _, _, _, h, h' => by cases h; exact h'
  | p :: r, _, _, _, h, h' => by
    obtain ⟨v, s, rfl, h1, h2⟩ := h
    exact ⟨v, _, rfl, h1, RK.append h2 h'⟩
theorem RK.look {κ : Type} [DecidableEq κ] (k : κ) : ∀ {l : List (κ × W)} {m : List (κ × Fs.Val)}, RK Z ρ l m → (look l k = none ∧ look m k = none) ∨ ∃ w v, look l k = some w ∧ look m k = some v ∧ RW Z ρ w v
  | [], _, h => by cases h; exact .inl ⟨rfl, rfl⟩
  | p :: r, _, h => by
    obtain ⟨v, s, rfl, h1, h2⟩ := h
    unfold Fs.look
    rw [List.find?_cons, List.find?_cons]
    by_cases e : p.1 = k
    · simp only [e, decide_true]
      exact .inr ⟨p.2, v, rfl, rfl, h1⟩
    · simp only [e, decide_false]
      exact RK.look k h2
theorem RK.any {κ : Type} {f : κ → Bool} : ∀ {l : List (κ × W)} {m : List (κ × Fs.Val)}, RK Z ρ l m → (l.any fun kv => f kv.1) = m.any fun kv => f kv.1
  | [], _, h => by cases h; rfl
  | p :: r, _, h => by
    obtain ⟨v, s, rfl, h1, h2⟩ := h
    simp [RK.any h2]
theorem RK.putm {κ : Type} [DecidableEq κ] (k : κ) {w : W} {v : Fs.Val} (hw : RW Z ρ w v) : ∀ {l : List (κ × W)} {m : List (κ × Fs.Val)}, RK Z ρ l m → RK Z ρ (l.map fun kv => if kv.1 = k then (kv.1, w) else kv) (m.map fun kv => if kv.1 = k then (kv.1, v) else kv)
  | [], _, h => by cases h; rfl
  | p :: r, _, h => by
    obtain ⟨v', s, rfl, h1, h2⟩ := h
    by_cases e : p.1 = k
    · simp only [List.map_cons, e, if_true]
      exact ⟨v, _, rfl, hw, RK.putm k hw h2⟩
    · simp only [List.map_cons, e, if_false]
      exact ⟨v', _, rfl, h1, RK.putm k hw h2⟩
theorem RK.put {κ : Type} [DecidableEq κ] (k : κ) {w : W} {v : Fs.Val} {l : List (κ × W)} {m : List (κ × Fs.Val)} (h : RK Z ρ l m) (hw : RW Z ρ w v) : RK Z ρ (put l k w) (put m k v) := by
  unfold Fs.put
  rw [RK.any (f := fun a => decide (a = k)) h]
  split
  · exact RK.putm k hw h
  · exact RK.append h ⟨v, [], rfl, hw, rfl⟩
theorem RK.drp {κ : Type} [DecidableEq κ] (k : κ) : ∀ {l : List (κ × W)} {m : List (κ × Fs.Val)}, RK Z ρ l m → RK Z ρ (drp l k) (drp m k)
  | [], _, h => by cases h; rfl
  | p :: r, _, h => by
    obtain ⟨v, s, rfl, h1, h2⟩ := h
    have ih := RK.drp k h2
    unfold Fs.drp at ih ⊢
    by_cases e : p.1 = k
    · simpa [e] using ih
    · simp only [List.filter_cons, ne_eq, e, not_false_eq_true, decide_true, if_true]
      exact ⟨v, _, rfl, h1, ih⟩
theorem RK.setF (f : Str) {w : W} {v : Fs.Val} (hw : RW Z ρ w v) : ∀ {l : List (Str × W)} {m : List (Str × Fs.Val)}, RK Z ρ l m → RK Z ρ (setF f w l) (setF f v m)
  | [], _, h => by cases h; exact ⟨v, [], rfl, hw, rfl⟩
  | p :: r, _, h => by
    obtain ⟨v', s, rfl, h1, h2⟩ := h
    unfold Fs.setF
    by_cases e : p.1 = f
    · simp only [e, if_true]
      exact ⟨v, _, rfl, hw, h2⟩
    · simp only [e, if_false]
      exact ⟨v', _, rfl, h1, RK.setF f hw h2⟩
theorem RK.lookup_none {Z : Zm} {ρ : List Nat} (f : Str) : ∀ {l : List (Str × W)} {m : List (Str × Fs.Val)}, RK Z ρ l m → l.lookup f = none → m.lookup f = none
  | [], _, h, _ => by unfold RK at h; subst h; rfl
  | p :: r, _, h, e => by
    unfold RK at h
    obtain ⟨v, s, rfl, _, h2⟩ := h
    rw [List.lookup_cons] at e ⊢
    cases q : f == p.1 with
    | true => rw [q] at e; cases e
    | false => rw [q] at e; exact RK.lookup_none f h2 e
theorem RK.lookup (f : Str) : ∀ {l : List (Str × W)} {m : List (Str × Fs.Val)} {w : W}, RK Z ρ l m → l.lookup f = some w → ∃ v, m.lookup f = some v ∧ RW Z ρ w v
  | [], _, _, h, e => by cases e
  | p :: r, _, w, h, e => by
    obtain ⟨v', s, rfl, h1, h2⟩ := h
    rw [List.lookup_cons] at e ⊢
    cases q : f == p.1 with
    | true => rw [q] at e; cases e; exact ⟨v', rfl, h1⟩
    | false => rw [q] at e; exact RK.lookup f h2 e
theorem RK.mapW {κ : Type} {f : κ × W → W} {g : κ × Fs.Val → Fs.Val} (hf : ∀ k w v, RW Z ρ w v → RW Z ρ (f (k, w)) (g (k, v))) : ∀ {l : List (κ × W)} {m : List (κ × Fs.Val)}, RK Z ρ l m → RWs Z ρ (l.map f) (m.map g)
  | [], _, h => by cases h; exact RWs.nil
  | p :: r, _, h => by
    obtain ⟨v, s, rfl, h1, h2⟩ := h
    exact RWs.cons (hf p.1 p.2 v h1) (RK.mapW hf h2)
theorem RO.low (e : Low Z ρ Z' ρ') {o : Ob} {u : Fs.Ob} (r : RO Z ρ o u) : RO Z' ρ' o u := by
  cases o with
  | lst xs => obtain ⟨vs, rfl, h⟩ := r; exact ⟨vs, rfl, RWs.low e _ _ h⟩
  | ro xs => obtain ⟨vs, rfl, h⟩ := r; exact ⟨vs, rfl, RWs.low e _ _ h⟩
  | dK fz kvs => obtain ⟨vs, rfl, h⟩ := r; exact ⟨vs, rfl, RK.low e h⟩
  | dT fz kvs => obtain ⟨vs, rfl, h⟩ := r; exact ⟨vs, rfl, RK.low e h⟩
  | ins c fs => obtain ⟨vs, rfl, h⟩ := r; exact ⟨vs, rfl, RK.low e h⟩
  | exc c => exact r
theorem RZ.low (e : Low Z ρ Z' ρ') {o : W} {u : Fs.Ob} (r : RZ Z ρ o u) : RZ Z' ρ' o u := by
  cases o with
  | fl xs => obtain ⟨vs, rfl, h⟩ := r; exact ⟨vs, rfl, RWs.low e _ _ h⟩
  | fk kvs => obtain ⟨fz, vs, rfl, h⟩ := r; exact ⟨fz, vs, rfl, RK.low e h⟩
  | ft kvs => obtain ⟨fz, vs, rfl, h⟩ := r; exact ⟨fz, vs, rfl, RK.low e h⟩
  | _ => exact r.elim
/-! ### steps of the state -/
theorem SR.zlt (R : SR Z ρ hv h) {m : Nat} {w : W} (e : Z m = some w) : m < h.length := by
  obtain ⟨u, hu, _⟩ := R.fz m w e
  exact (List.getElem?_eq_some_iff.mp hu).1
theorem SR.rat (R : SR Z ρ hv h) {n m : Nat} (e : ρ[n]? = some m) : ∃ o, hv[n]? = some o := by
  have : n < hv.length := by rw [← R.len]; exact (List.getElem?_eq_some_iff.mp e).1
  exact ⟨_, List.getElem?_eq_getElem this⟩
theorem SR.rlt (R : SR Z ρ hv h) {n m : Nat} (e : ρ[n]? = some m) : m < h.length := by
  obtain ⟨o, ho⟩ := R.rat e
  obtain ⟨u, hu, _⟩ := R.ob n o m ho e
  exact (List.getElem?_eq_some_iff.mp hu).1
/-- the heap evaluator's heap grows -/
theorem SR.grow (R : SR Z ρ hv h) (o : Fs.Ob) : SR Z ρ hv (h ++ [o]) := by
  refine ⟨R.len, fun n u m e1 e2 => ?_, R.nd, R.ap, fun m w e => ?_⟩
  · obtain ⟨u', h1, h2⟩ := R.ob n u m e1 e2
    exact ⟨u', by rw [List.getElem?_append_left (List.getElem?_eq_some_iff.mp h1).1]; exact h1, h2⟩
  · obtain ⟨u', h1, h2⟩ := R.fz m w e
    exact ⟨u', by rw [List.getElem?_append_left (List.getElem?_eq_some_iff.mp h1).1]; exact h1, h2⟩
theorem ext_grow (R : SR Z ρ hv h) (o : Fs.Ob) : Ext Z ρ h Z ρ (h ++ [o]) := ⟨⟨[], by simp⟩, fun _ _ e => e, fun m w e => List.getElem?_append_left (R.zlt e), by simp, fun _ _ e => .inl e, fun _ _ e => .inl e⟩
/-- a new thing by what it holds -/
def zput (Z : Zm) (k : Nat) (w : W) : Zm := fun m => if m = k then some w else Z m
theorem SR.frzn (R : SR Z ρ hv h) {w : W} {o : Fs.Ob} (r : RZ Z ρ w o) : SR (zput Z h.length w) ρ hv (h ++ [o]) ∧ Ext Z ρ h (zput Z h.length w) ρ (h ++ [o]) ∧ zput Z h.length w h.length = some w := by
  have hne : ∀ m w', Z m = some w' → m ≠ h.length := fun m w' e => Nat.ne_of_lt (R.zlt e)
  have lw : Low Z ρ (zput Z h.length w) ρ := ⟨fun _ _ e => e, fun m w' e => by unfold zput; rw [if_neg (hne m w' e)]; exact e⟩
  have G := R.grow o
  refine ⟨⟨R.len, fun n u m e1 e2 => ?_, R.nd, fun n m e => ?_, fun m w' e => ?_⟩, ⟨⟨[], by simp⟩, lw.zs, (ext_grow R o).kp, by simp, fun m w' e => ?_, fun _ _ e => .inl e⟩, by unfold zput; rw [if_pos rfl]⟩
  · obtain ⟨u', h1, h2⟩ := G.ob n u m e1 e2
    exact ⟨u', h1, h2.low lw⟩
  · unfold zput
    rw [if_neg (Nat.ne_of_lt (R.rlt e))]
    exact R.ap n m e
  · by_cases hm : m = h.length
    · subst hm
      unfold zput at e
      rw [if_pos rfl] at e
      cases e
      exact ⟨o, by simp, r.low lw⟩
    · unfold zput at e
      rw [if_neg hm] at e
      obtain ⟨u', h1, h2⟩ := G.fz m w' e
      exact ⟨u', h1, h2.low lw⟩
  · unfold zput at e
    split at e
    · rename_i hm; exact .inr (Nat.le_of_eq hm.symm)
    · exact .inl e
/-- a new object -/
theorem SR.obj (R : SR Z ρ hv h) {ov : Ob} {o : Fs.Ob} (r : RO Z (ρ ++ [h.length]) ov o) : SR Z (ρ ++ [h.length]) (hv ++ [ov]) (h ++ [o]) ∧ Ext Z ρ h Z (ρ ++ [h.length]) (h ++ [o]) ∧ (ρ ++ [h.length])[hv.length]? = some h.length := by
  have lw : Low Z ρ Z (ρ ++ [h.length]) := ⟨fun n m e => by rw [List.getElem?_append_left (List.getElem?_eq_some_iff.mp e).1]; exact e, fun _ _ e => e⟩
  have G := R.grow o
  have cas : ∀ {n m : Nat}, (ρ ++ [h.length])[n]? = some m → ρ[n]? = some m ∨ (n = hv.length ∧ m = h.length) := fun {n m} e => by
    by_cases hn : n < ρ.length
    · rw [List.getElem?_append_left hn] at e
      exact .inl e
    · have l1 : n < (ρ ++ [h.length]).length := (List.getElem?_eq_some_iff.mp e).1
      rw [List.length_append, List.length_singleton] at l1
      have : n = ρ.length := by omega
      subst this
      rw [List.getElem?_append_right (Nat.le_refl _)] at e
      simp at e
      exact .inr ⟨R.len, e.symm⟩
  refine ⟨⟨by simp [R.len], fun n u m e1 e2 => ?_, fun i j m e1 e2 => ?_, fun n m e => ?_, fun m w e => ?_⟩, ⟨⟨_, rfl⟩, fun _ _ e => e, (ext_grow R o).kp, by simp, fun _ _ e => .inl e, fun n m e => (cas e).imp id fun z => Nat.le_of_eq z.2.symm⟩, by rw [← R.len]; simp⟩
  · rcases cas e2 with e2 | ⟨rfl, rfl⟩
    · have hn : n < hv.length := by rw [← R.len]; exact (List.getElem?_eq_some_iff.mp e2).1
      rw [List.getElem?_append_left hn] at e1
      obtain ⟨u', h1, h2⟩ := G.ob n u m e1 e2
      exact ⟨u', h1, h2.low lw⟩
    · simp at e1
      subst e1
      exact ⟨o, by simp, r⟩
  · rcases cas e1 with e1 | ⟨rfl, rfl⟩
    · rcases cas e2 with e2 | ⟨rfl, rfl⟩
      · exact R.nd i j m e1 e2
      · exact absurd (R.rlt e1) (Nat.lt_irrefl _)
    · rcases cas e2 with e2 | ⟨rfl, _⟩
      · exact absurd (R.rlt e2) (Nat.lt_irrefl _)
      · rfl
  · rcases cas e with e | ⟨rfl, rfl⟩
    · exact R.ap n m e
    · cases q : Z h.length with
      | none => rfl
      | some w => exact absurd (R.zlt q) (Nat.lt_irrefl _)
  · obtain ⟨u', h1, h2⟩ := G.fz m w e
    exact ⟨u', h1, h2.low lw⟩
/-- an object changes -/
theorem SR.write (R : SR Z ρ hv h) {n m : Nat} {ov : Ob} {o : Fs.Ob} (hm : ρ[n]? = some m) (r : RO Z ρ ov o) : SR Z ρ (hv.set n ov) (h.set m o) ∧ Ext Z ρ h Z ρ (h.set m o) := by
  have hml := R.rlt hm
  refine ⟨⟨by simp [R.len], fun i u k e1 e2 => ?_, R.nd, R.ap, fun k w e => ?_⟩, ⟨⟨[], by simp⟩, fun _ _ e => e, fun k w e => ?_, by simp, fun _ _ e => .inl e, fun _ _ e => .inl e⟩⟩
  · by_cases hi : i = n
    · subst hi
      rw [hm] at e2
      cases e2
      have hn : i < hv.length := by rw [← R.len]; exact (List.getElem?_eq_some_iff.mp hm).1
      rw [List.getElem?_set_self hn] at e1
      cases e1
      exact ⟨o, List.getElem?_set_self hml, r⟩
    · rw [List.getElem?_set_ne (Ne.symm hi)] at e1
      have hk : k ≠ m := fun z => hi (R.nd i n m (z ▸ e2) hm)
      obtain ⟨u', h1, h2⟩ := R.ob i u k e1 e2
      exact ⟨u', by rw [List.getElem?_set_ne (Ne.symm hk)]; exact h1, h2⟩
  · have hk : k ≠ m := fun z => by rw [z, R.ap n m hm] at e; cases e
    obtain ⟨u', h1, h2⟩ := R.fz k w e
    exact ⟨u', by rw [List.getElem?_set_ne (Ne.symm hk)]; exact h1, h2⟩
  · have hk : k ≠ m := fun z => by rw [z, R.ap n m hm] at e; cases e
    rw [List.getElem?_set_ne (Ne.symm hk)]
/-- what a value in the air becomes when it is laid -/
theorem mat_ok (R : SR Z ρ hv h) {w : W} {v : Fs.Val} (r : RX Z ρ w v) : ∃ Z', Ext Z ρ h Z' ρ (Fs.mat v h).2 ∧ SR Z' ρ hv (Fs.mat v h).2 ∧ RW Z' ρ w (Fs.mat v h).1 := by
  rcases r with ⟨xs, vs, rfl, rfl, h3⟩ | r
  · obtain ⟨a, b, c⟩ := R.frzn (w := .fl xs) (o := .lst vs) ⟨vs, rfl, h3⟩
    refine ⟨_, b, a, ?_⟩
    unfold RW
    exact ⟨h.length, rfl, c⟩
  · have e : Fs.mat v h = (v, h) := by
      cases v with
      | tl vs =>
        exfalso
        cases w <;> (unfold RW at r; first | (obtain ⟨_, r2, _⟩ := r; cases r2; done) | (cases r; done))
      | _ => rfl
    rw [e]
    exact ⟨Z, .refl, R, r⟩
end
end Fw
set_option Elab.async false
set_option linter.all false
set_option maxRecDepth 100000
set_option maxHeartbeats 4000000
set_option autoImplicit false
set_option relaxedAutoImplicit false
namespace Fw
open PySem L2
open Fs (lim keyOf keysOf kVal look put drp setF Bop Cop Ty Tn isTn cut Blt Mt Tg E Es Oe I S Ss Def)
section
variable {Z Z' : Zm} {ρ ρ' : List Nat} {hv hv' : Hep} {h h' : Fs.Hep}
theorem map_some {α β : Type} {o : Option α} {f : α → β} {b : β} (e : o.map f = some b) : ∃ a, o = some a ∧ f a = b := by
  cases o with
  | none => cases e
  | some a => exact ⟨a, rfl, Option.some.inj e⟩
theorem bind_some {α β : Type} {o : Option α} {f : α → Option β} {b : β} (e : o.bind f = some b) : ∃ a, o = some a ∧ f a = some b := by
  cases o with
  | none => cases e
  | some a => exact ⟨a, rfl, e⟩
theorem SR.at_ref (R : SR Z ρ hv h) {n m : Nat} {o : Ob} (hm : ρ[n]? = some m) (hn : hv[n]? = some o) : ∃ u, h[m]? = some u ∧ RO Z ρ o u := R.ob n o m hn hm
theorem SR.at_fl (R : SR Z ρ hv h) {m : Nat} {xs : List W} (e : Z m = some (.fl xs)) : ∃ vs, h[m]? = some (.lst vs) ∧ RWs Z ρ xs vs := by
  obtain ⟨u, h1, vs, rfl, h2⟩ := R.fz m _ e
  exact ⟨vs, h1, h2⟩
theorem SR.at_fk (R : SR Z ρ hv h) {m : Nat} {xs : List (Key × W)} (e : Z m = some (.fk xs)) : ∃ fz vs, h[m]? = some (.dK fz vs) ∧ RK Z ρ xs vs := by
  obtain ⟨u, h1, fz, vs, rfl, h2⟩ := R.fz m _ e
  exact ⟨fz, vs, h1, h2⟩
theorem SR.at_ft (R : SR Z ρ hv h) {m : Nat} {xs : List (List Key × W)} (e : Z m = some (.ft xs)) : ∃ fz vs, h[m]? = some (.dT fz vs) ∧ RK Z ρ xs vs := by
  obtain ⟨u, h1, fz, vs, rfl, h2⟩ := R.fz m _ e
  exact ⟨fz, vs, h1, h2⟩
theorem lst_rel (R : SR Z ρ hv h) {w : W} {v : Fs.Val} {xs : List W} (r : RX Z ρ w v) (e : lstOf hv w = some xs) : ∃ vs, Fs.lstOf h v = some vs ∧ RWs Z ρ xs vs := by
  cases w <;> first | (cases e; done) | skip
  · rename_i n
    obtain ⟨m, rfl, hm⟩ := r.i_ref
    simp only [lstOf] at e
    split at e
    · rename_i ys hn
      cases e
      obtain ⟨u, h1, vs, rfl, h2⟩ := R.at_ref hm hn
      exact ⟨vs, by simp [Fs.lstOf, h1], h2⟩
    · cases e
  · cases e
    rcases r with ⟨ys, vs, e1, rfl, h3⟩ | r
    · cases e1
      exact ⟨vs, rfl, h3⟩
    · obtain ⟨m, rfl, hm⟩ := r.i_fl
      obtain ⟨vs, h1, h2⟩ := R.at_fl hm
      exact ⟨vs, by simp [Fs.lstOf, h1], h2⟩
theorem seq_rel (R : SR Z ρ hv h) {w : W} {v : Fs.Val} {xs : List W} (r : RX Z ρ w v) (e : seqOf hv w = some xs) : ∃ vs, Fs.seqOf h v = some vs ∧ RWs Z ρ xs vs := by
  by_cases ht : ∃ ys, w = .tup ys
  · obtain ⟨ys, rfl⟩ := ht
    obtain ⟨vs, rfl, h2⟩ := r.i_tup
    cases e
    exact ⟨vs, rfl, h2⟩
  · have e' : lstOf hv w = some xs := by
      cases w <;> first | exact e | exact absurd ⟨_, rfl⟩ ht
    obtain ⟨vs, h1, h2⟩ := lst_rel R r e'
    refine ⟨vs, ?_, h2⟩
    cases v <;> first | exact h1 | cases h1
theorem dk_rel (R : SR Z ρ hv h) {w : W} {v : Fs.Val} {xs : List (Key × W)} (r : RX Z ρ w v) (e : dkOf hv w = some xs) : ∃ m fz vs, v = .ref m ∧ h[m]? = some (.dK fz vs) ∧ RK Z ρ xs vs := by
  cases w <;> first | (cases e; done) | skip
  · rename_i n
    obtain ⟨m, rfl, hm⟩ := r.i_ref
    simp only [dkOf] at e
    split at e
    · rename_i fz ys hn
      cases e
      obtain ⟨u, h1, vs, rfl, h2⟩ := R.at_ref hm hn
      exact ⟨m, fz, vs, rfl, h1, h2⟩
    · cases e
  · cases e
    obtain ⟨m, rfl, hm⟩ := r.i_fk
    obtain ⟨fz, vs, h1, h2⟩ := R.at_fk hm
    exact ⟨m, fz, vs, rfl, h1, h2⟩
theorem dt_rel (R : SR Z ρ hv h) {w : W} {v : Fs.Val} {xs : List (List Key × W)} (r : RX Z ρ w v) (e : dtOf hv w = some xs) : ∃ m fz vs, v = .ref m ∧ h[m]? = some (.dT fz vs) ∧ RK Z ρ xs vs := by
  cases w <;> first | (cases e; done) | skip
  · rename_i n
    obtain ⟨m, rfl, hm⟩ := r.i_ref
    simp only [dtOf] at e
    split at e
    · rename_i fz ys hn
      cases e
      obtain ⟨u, h1, vs, rfl, h2⟩ := R.at_ref hm hn
      exact ⟨m, fz, vs, rfl, h1, h2⟩
    · cases e
  · cases e
    obtain ⟨m, rfl, hm⟩ := r.i_ft
    obtain ⟨fz, vs, h1, h2⟩ := R.at_ft hm
    exact ⟨m, fz, vs, rfl, h1, h2⟩
theorem mapM_rel {α : Type} {f : W → Option α} {g : Fs.Val → Option α} (hf : ∀ w v d, RW Z ρ w v → f w = some d → g v = some d) : ∀ {xs : List W} {vs : List Fs.Val} {ds : List α}, RWs Z ρ xs vs → xs.mapM f = some ds → vs.mapM g = some ds
  | [], vs, ds, r, e => by
    cases r.inv_nil
    simpa using e
  | x :: xs, vs, ds, r, e => by
    obtain ⟨v, s, rfl, h1, h2⟩ := r.inv_cons
    rw [List.mapM_cons] at e ⊢
    obtain ⟨d, e1, e2⟩ := bind_some e
    obtain ⟨ds', e3, e4⟩ := bind_some e2
    rw [hf x v d h1 e1, mapM_rel hf h2 e3]
    exact e4
theorem rd_rel (R : SR Z ρ hv h) : ∀ (k : Nat) {w : W} {v : Fs.Val} {d : PyData}, RX Z ρ w v → rd hv k w = some d → Fs.rei h k v = some d
  | 0, w, v, d, r, e => by unfold rd at e; cases e
  | k + 1, w, v, d, r, e => by
    have hl : ∀ {xs vs : _} {ds : List PyData}, RWs Z ρ xs vs → xs.mapM (rd hv k) = some ds → vs.mapM (Fs.rei h k) = some ds := fun r e => mapM_rel (fun w v d r e => rd_rel R k (.of r) e) r e
    cases w with
    | non => cases r.i_non; exact e
    | bl b => cases r.i_bl; exact e
    | int b => cases r.i_int; exact e
    | str b => cases r.i_str; exact e
    | tup xs =>
      obtain ⟨vs, rfl, h2⟩ := r.i_tup
      simp only [rd] at e
      obtain ⟨ds, e1, e2⟩ := map_some e
      simp only [Fs.rei]
      rw [hl h2 e1]
      exact congrArg some e2
    | ref n =>
      obtain ⟨m, rfl, hm⟩ := r.i_ref
      simp only [rd] at e
      split at e
      · rename_i xs hn
        obtain ⟨u, h1, vs, rfl, h2⟩ := R.at_ref hm hn
        obtain ⟨ds, e1, e2⟩ := map_some e
        simp only [Fs.rei, h1]
        rw [hl h2 e1]
        exact congrArg some e2
      · cases e
    | fl xs =>
      simp only [rd] at e
      obtain ⟨ds, e1, e2⟩ := map_some e
      rcases r with ⟨ys, vs, e3, rfl, h3⟩ | r
      · cases e3
        simp only [Fs.rei]
        rw [hl h3 e1]
        exact congrArg some e2
      · obtain ⟨m, rfl, hm⟩ := r.i_fl
        obtain ⟨vs, h1, h2⟩ := R.at_fl hm
        simp only [Fs.rei, h1]
        rw [hl h2 e1]
        exact congrArg some e2
    | fk xs => simp only [rd] at e; cases e
    | ft xs => simp only [rd] at e; cases e
theorem key_rel {w : W} {v : Fs.Val} {k : Key} (r : RX Z ρ w v) (e : keyW w = some k) : keyOf v = some k := by
  cases w <;> first | (cases e; done) | skip
  · cases r.i_int; exact e
  · cases r.i_str; exact e
theorem keys_rel {w : W} {v : Fs.Val} {k : List Key} (r : RX Z ρ w v) (e : keysW w = some k) : keysOf v = some k := by
  cases w <;> first | (cases e; done) | skip
  obtain ⟨vs, rfl, h2⟩ := r.i_tup
  exact mapM_rel (fun w v d r e => key_rel (.of r) e) h2 e
theorem keyN_rel {w : W} {v : Fs.Val} (r : RX Z ρ w v) (e : keyW w = none) : keyOf v = none := by
  cases w with
  | non => cases r.i_non; rfl
  | bl b => cases r.i_bl; rfl
  | int b => cases e
  | str b => cases e
  | tup xs => obtain ⟨vs, rfl, h2⟩ := r.i_tup; rfl
  | ref n => obtain ⟨m, rfl, hm⟩ := r.i_ref; rfl
  | fl xs =>
    rcases r with ⟨ys, vs, e3, rfl, h3⟩ | r
    · rfl
    · obtain ⟨m, rfl, hm⟩ := r.i_fl; rfl
  | fk xs => obtain ⟨m, rfl, hm⟩ := r.i_fk; rfl
  | ft xs => obtain ⟨m, rfl, hm⟩ := r.i_ft; rfl
theorem kW_rel (k : Key) : RW Z ρ (kW k) (kVal k) := by
  cases k with
  | inl i => exact RW.mk_int
  | inr s => exact RW.mk_str
theorem kWs_rel (k : List Key) : RW Z ρ (.tup (k.map kW)) (.tup (k.map kVal)) := RW.mk_tup (RWs.mapE kW_rel k)
/-! ### operators -/
theorem add_rel (R : SR Z ρ hv h) {w1 w2 w : W} {v1 v2 : Fs.Val} (r1 : RX Z ρ w1 v1) (r2 : RX Z ρ w2 v2) (e : addO hv w1 w2 = some w) : ∃ v, Fs.addO h v1 v2 = some v ∧ RX Z ρ w v := by
  have key : ∀ xs ys, lstOf hv w1 = some xs → lstOf hv w2 = some ys → xs.length + ys.length ≤ lim → w = .fl (xs ++ ys) → ∃ v, Fs.addO h v1 v2 = some v ∧ RX Z ρ w v := by
    intro xs ys e1 e2 hl hw
    obtain ⟨vs1, f1, g1⟩ := lst_rel R r1 e1
    obtain ⟨vs2, f2, g2⟩ := lst_rel R r2 e2
    refine ⟨.tl (vs1 ++ vs2), ?_, hw ▸ RX.tl (g1.append g2)⟩
    have hl' : vs1.length + vs2.length ≤ lim := by rw [← g1.length, ← g2.length]; exact hl
    cases v1 <;> first | (cases f1; done) | (cases v2 <;> first | (cases f2; done) | (simp only [Fs.addO, f1, f2, if_pos hl']))
  unfold addO at e
  split at e
  · cases e; cases r1.i_int; cases r2.i_int; exact ⟨_, rfl, .of RW.mk_int⟩
  · split at e
    · rename_i hl
      cases e; cases r1.i_str; cases r2.i_str
      exact ⟨_, by simp only [Fs.addO, if_pos hl], .of RW.mk_str⟩
    · cases e
  · split at e
    · rename_i hl
      cases e
      obtain ⟨vs1, rfl, g1⟩ := r1.i_tup
      obtain ⟨vs2, rfl, g2⟩ := r2.i_tup
      refine ⟨_, by simp only [Fs.addO]; rw [if_pos (by rw [← g1.length, ← g2.length]; exact hl)], .of (RW.mk_tup (g1.append g2))⟩
    · cases e
  · split at e
    · rename_i xs ys e1 e2
      split at e
      · rename_i hl
        cases e
        exact key xs ys e1 e2 hl rfl
      · cases e
    · cases e
theorem mul_rel (R : SR Z ρ hv h) {w1 w2 w : W} {v1 v2 : Fs.Val} (r1 : RX Z ρ w1 v1) (r2 : RX Z ρ w2 v2) (e : mulO hv w1 w2 = some w) : ∃ v, Fs.mulO h v1 v2 = some v ∧ RX Z ρ w v := by
  unfold mulO at e
  split at e
  · split at e
    · rename_i hl
      cases e; cases r1.i_int; cases r2.i_int
      exact ⟨_, by simp only [Fs.mulO, if_pos hl], .of RW.mk_int⟩
    · cases e
  · rename_i j hn
    cases r2.i_int
    split at e
    · rename_i xs e1
      split at e
      · rename_i hl
        cases e
        obtain ⟨vs1, f1, g1⟩ := lst_rel R r1 e1
        refine ⟨.tl (List.replicate j.toNat vs1).flatten, ?_, RX.tl (g1.replicate _)⟩
        rw [g1.length] at hl
        cases v1 <;> first | (cases f1; done) | (simp only [Fs.mulO, f1, if_pos hl])
      · cases e
    · cases e
  · cases e
theorem bop_rel (R : SR Z ρ hv h) {o : Bop} {w1 w2 w : W} {v1 v2 : Fs.Val} (r1 : RX Z ρ w1 v1) (r2 : RX Z ρ w2 v2) (e : bop hv o w1 w2 = some w) : ∃ v, Fs.bop h o v1 v2 = some v ∧ RX Z ρ w v := by
  have two : ∀ {f : W → W → Option W} {g : Fs.Val → Fs.Val → Option Fs.Val}, f w1 w2 = some w → (∀ a b, w1 = .int a → w2 = .int b → ∃ i, w = .int i ∧ g (.int a) (.int b) = some (.int i)) → (∃ a b, w1 = .int a ∧ w2 = .int b) → ∃ v, g v1 v2 = some v ∧ RX Z ρ w v := by
    rintro f g e hg ⟨a, b, rfl, rfl⟩
    cases r1.i_int; cases r2.i_int
    obtain ⟨i, rfl, ei⟩ := hg a b rfl rfl
    exact ⟨_, ei, .of RW.mk_int⟩
  cases o with
  | add => exact add_rel R r1 r2 e
  | mul => exact mul_rel R r1 r2 e
  | sub =>
    have e : subO w1 w2 = some w := e
    unfold subO at e
    split at e
    · cases e; cases r1.i_int; cases r2.i_int; exact ⟨_, rfl, .of RW.mk_int⟩
    · cases e
  | fdiv =>
    have e : fdivO w1 w2 = some w := e
    unfold fdivO at e
    split at e
    · split at e
      · rename_i hl
        cases e; cases r1.i_int; cases r2.i_int; exact ⟨_, by simp only [Fs.bop, Fs.fdivO, if_pos hl], .of RW.mk_int⟩
      · cases e
    · cases e
  | mod =>
    have e : modO w1 w2 = some w := e
    unfold modO at e
    split at e
    · split at e
      · rename_i hl
        cases e; cases r1.i_int; cases r2.i_int; exact ⟨_, by simp only [Fs.bop, Fs.modO, if_pos hl], .of RW.mk_int⟩
      · cases e
    · cases e
  | pow =>
    have e : powO w1 w2 = some w := e
    unfold powO at e
    split at e
    · split at e
      · rename_i hl
        cases e; cases r1.i_int; cases r2.i_int; exact ⟨_, by simp only [Fs.bop, Fs.powO, if_pos hl], .of RW.mk_int⟩
      · cases e
    · cases e
theorem eq_rel (R : SR Z ρ hv h) {w1 w2 : W} {b : Bool} {v1 v2 : Fs.Val} (r1 : RX Z ρ w1 v1) (r2 : RX Z ρ w2 v2) (e : eqO hv w1 w2 = some b) : Fs.eqO h v1 v2 = some b := by
  unfold eqO at e
  split at e
  · cases r1.i_int; cases r2.i_int; exact e
  · cases r1.i_str; cases r2.i_str; exact e
  · cases r1.i_bl; cases r2.i_bl; exact e
  · rename_i n1 n2 n3
    split at e
    · rename_i d1 d2 e1 e2
      have f1 := rd_rel R 12 r1 e1
      have f2 := rd_rel R 12 r2 e2
      unfold Fs.eqO
      split
      · rename_i i j
        exfalso
        have z1 : w1 = .int i := by
          cases w1 with
          | int a => cases r1.i_int; rfl
          | fl xs => rcases r1 with ⟨_, _, _, z, _⟩ | r1; · cases z
                     · obtain ⟨_, z, _⟩ := r1.i_fl; cases z
          | _ => first | (cases r1.i_non; done) | (cases r1.i_bl; done) | (cases r1.i_str; done) | (obtain ⟨_, z, _⟩ := r1.i_tup; cases z; done) | (obtain ⟨_, z, _⟩ := r1.i_ref; cases z; done) | (obtain ⟨_, z, _⟩ := r1.i_fk; cases z; done) | (obtain ⟨_, z, _⟩ := r1.i_ft; cases z; done)
        have z2 : w2 = .int j := by
          cases w2 with
          | int a => cases r2.i_int; rfl
          | fl xs => rcases r2 with ⟨_, _, _, z, _⟩ | r2; · cases z
                     · obtain ⟨_, z, _⟩ := r2.i_fl; cases z
          | _ => first | (cases r2.i_non; done) | (cases r2.i_bl; done) | (cases r2.i_str; done) | (obtain ⟨_, z, _⟩ := r2.i_tup; cases z; done) | (obtain ⟨_, z, _⟩ := r2.i_ref; cases z; done) | (obtain ⟨_, z, _⟩ := r2.i_fk; cases z; done) | (obtain ⟨_, z, _⟩ := r2.i_ft; cases z; done)
        exact n1 i j z1 z2
      · rename_i i j
        exfalso
        have z1 : w1 = .str i := by
          cases w1 with
          | str a => cases r1.i_str; rfl
          | fl xs => rcases r1 with ⟨_, _, _, z, _⟩ | r1; · cases z
                     · obtain ⟨_, z, _⟩ := r1.i_fl; cases z
          | _ => first | (cases r1.i_non; done) | (cases r1.i_bl; done) | (cases r1.i_int; done) | (obtain ⟨_, z, _⟩ := r1.i_tup; cases z; done) | (obtain ⟨_, z, _⟩ := r1.i_ref; cases z; done) | (obtain ⟨_, z, _⟩ := r1.i_fk; cases z; done) | (obtain ⟨_, z, _⟩ := r1.i_ft; cases z; done)
        have z2 : w2 = .str j := by
          cases w2 with
          | str a => cases r2.i_str; rfl
          | fl xs => rcases r2 with ⟨_, _, _, z, _⟩ | r2; · cases z
                     · obtain ⟨_, z, _⟩ := r2.i_fl; cases z
          | _ => first | (cases r2.i_non; done) | (cases r2.i_bl; done) | (cases r2.i_int; done) | (obtain ⟨_, z, _⟩ := r2.i_tup; cases z; done) | (obtain ⟨_, z, _⟩ := r2.i_ref; cases z; done) | (obtain ⟨_, z, _⟩ := r2.i_fk; cases z; done) | (obtain ⟨_, z, _⟩ := r2.i_ft; cases z; done)
        exact n2 i j z1 z2
      · rename_i i j
        exfalso
        have z1 : w1 = .bl i := by
          cases w1 with
          | bl a => cases r1.i_bl; rfl
          | fl xs => rcases r1 with ⟨_, _, _, z, _⟩ | r1; · cases z
                     · obtain ⟨_, z, _⟩ := r1.i_fl; cases z
          | _ => first | (cases r1.i_non; done) | (cases r1.i_str; done) | (cases r1.i_int; done) | (obtain ⟨_, z, _⟩ := r1.i_tup; cases z; done) | (obtain ⟨_, z, _⟩ := r1.i_ref; cases z; done) | (obtain ⟨_, z, _⟩ := r1.i_fk; cases z; done) | (obtain ⟨_, z, _⟩ := r1.i_ft; cases z; done)
        have z2 : w2 = .bl j := by
          cases w2 with
          | bl a => cases r2.i_bl; rfl
          | fl xs => rcases r2 with ⟨_, _, _, z, _⟩ | r2; · cases z
                     · obtain ⟨_, z, _⟩ := r2.i_fl; cases z
          | _ => first | (cases r2.i_non; done) | (cases r2.i_str; done) | (cases r2.i_int; done) | (obtain ⟨_, z, _⟩ := r2.i_tup; cases z; done) | (obtain ⟨_, z, _⟩ := r2.i_ref; cases z; done) | (obtain ⟨_, z, _⟩ := r2.i_fk; cases z; done) | (obtain ⟨_, z, _⟩ := r2.i_ft; cases z; done)
        exact n3 i j z1 z2
      · rw [f1, f2]
        exact e
    · cases e
theorem inL_rel (R : SR Z ρ hv h) {w : W} {v : Fs.Val} {xs : List W} {vs : List Fs.Val} {b : Bool} (r1 : RX Z ρ w v) (r2 : RWs Z ρ xs vs) (e : inL hv w xs = some b) : (match Fs.rei h 12 v, vs.mapM (Fs.rei h 11) with
    | some d, some ds => some (ds.any fun e => PyData.eqv e d)
    | _, _ => none) = some b := by
  unfold inL at e
  split at e
  · rename_i d ds e1 e2
    rw [rd_rel R 12 r1 e1, mapM_rel (fun w v d r e => rd_rel R 11 (.of r) e) r2 e2]
    exact e
  · cases e
theorem in_rel (R : SR Z ρ hv h) {w1 w2 : W} {b : Bool} {v1 v2 : Fs.Val} (r1 : RX Z ρ w1 v1) (r2 : RX Z ρ w2 v2) (e : inO hv w1 w2 = some b) : Fs.inO h v1 v2 = some b := by
  have kk : ∀ {xs : List (Key × W)} {vs : List (Key × Fs.Val)}, RK Z ρ xs vs → (keyW w1).map (fun k => (look xs k).isSome) = some b → (keyOf v1).map (fun k => (look vs k).isSome) = some b := by
    intro xs vs rk e
    obtain ⟨k, e1, e2⟩ := map_some e
    rw [key_rel r1 e1]
    rcases rk.look k with ⟨a1, a2⟩ | ⟨_, _, a1, a2, _⟩
    · rw [a1] at e2; simp only [Option.map_some, a2]; exact congrArg some e2
    · rw [a1] at e2; simp only [Option.map_some, a2]; exact congrArg some e2
  have kt : ∀ {xs : List (List Key × W)} {vs : List (List Key × Fs.Val)}, RK Z ρ xs vs → (keysW w1).map (fun k => (look xs k).isSome) = some b → (keysOf v1).map (fun k => (look vs k).isSome) = some b := by
    intro xs vs rk e
    obtain ⟨k, e1, e2⟩ := map_some e
    rw [keys_rel r1 e1]
    rcases rk.look k with ⟨a1, a2⟩ | ⟨_, _, a1, a2, _⟩
    · rw [a1] at e2; simp only [Option.map_some, a2]; exact congrArg some e2
    · rw [a1] at e2; simp only [Option.map_some, a2]; exact congrArg some e2
  cases w2 with
  | str s =>
    cases r2.i_str
    simp only [inO] at e
    split at e
    · cases r1.i_str; exact e
    · cases e
  | fk kvs =>
    obtain ⟨m, rfl, hm⟩ := r2.i_fk
    obtain ⟨fz, vs, h1, h2⟩ := R.at_fk hm
    simp only [Fs.inO, h1]
    exact kk h2 e
  | ft kvs =>
    obtain ⟨m, rfl, hm⟩ := r2.i_ft
    obtain ⟨fz, vs, h1, h2⟩ := R.at_ft hm
    simp only [Fs.inO, h1]
    exact kt h2 e
  | ref n =>
    obtain ⟨m, rfl, hm⟩ := r2.i_ref
    simp only [inO] at e
    split at e
    · rename_i fz kvs hn
      obtain ⟨u, h1, vs, rfl, h2⟩ := R.at_ref hm hn
      simp only [Fs.inO, h1]
      exact kk h2 e
    · rename_i fz kvs hn
      obtain ⟨u, h1, vs, rfl, h2⟩ := R.at_ref hm hn
      simp only [Fs.inO, h1]
      exact kt h2 e
    · rename_i xs hn
      obtain ⟨u, h1, vs, rfl, h2⟩ := R.at_ref hm hn
      simp only [Fs.inO, h1]
      exact inL_rel R r1 h2 e
    · cases e
  | fl xs =>
    rcases r2 with ⟨ys, vs, e3, rfl, h3⟩ | r2
    · cases e3
      exact inL_rel R r1 h3 e
    · obtain ⟨m, rfl, hm⟩ := r2.i_fl
      obtain ⟨vs, h1, h2⟩ := R.at_fl hm
      simp only [Fs.inO, h1]
      exact inL_rel R r1 h2 e
  | tup xs =>
    obtain ⟨vs, rfl, h2⟩ := r2.i_tup
    exact inL_rel R r1 h2 e
  | _ => cases e
theorem lt_rel (R : SR Z ρ hv h) {w1 w2 : W} {b : Bool} {v1 v2 : Fs.Val} (r1 : RX Z ρ w1 v1) (r2 : RX Z ρ w2 v2) (e : ltO hv w1 w2 = some b) : Fs.ltO h v1 v2 = some b := by
  unfold ltO at e
  split at e
  · cases r1.i_int; cases r2.i_int; exact e
  · rename_i xs ys
    split at e
    · rename_i d1 d2 e1 e2
      have f1 := rd_rel R 12 r1 e1
      have f2 := rd_rel R 12 r2 e2
      obtain ⟨vs1, rfl, _⟩ := r1.i_tup
      obtain ⟨vs2, rfl, _⟩ := r2.i_tup
      simp only [Fs.ltO, f1, f2]
      exact e
    · cases e
  · cases e
theorem RX.non_v {w : W} (r : RX Z ρ w .non) : w = .non := by
  cases w with
  | non => rfl
  | fl xs => rcases r with ⟨_, _, _, z, _⟩ | r
             · cases z
             · obtain ⟨_, z, _⟩ := r.i_fl; cases z
  | bl b => cases r.i_bl
  | str b => cases r.i_str
  | int b => cases r.i_int
  | tup xs => obtain ⟨_, z, _⟩ := r.i_tup; cases z
  | ref n => obtain ⟨_, z, _⟩ := r.i_ref; cases z
  | fk n => obtain ⟨_, z, _⟩ := r.i_fk; cases z
  | ft n => obtain ⟨_, z, _⟩ := r.i_ft; cases z
theorem is_rel {w1 w2 : W} {b : Bool} {v1 v2 : Fs.Val} (r1 : RX Z ρ w1 v1) (r2 : RX Z ρ w2 v2) (e : isO w1 w2 = some b) : Fs.isO v1 v2 = some b := by
  unfold isO at e
  split at e
  · cases r1.i_bl; cases r2.i_bl; exact e
  · rename_i n
    cases r2.i_non
    have : Fs.isNon v1 = isNon w1 := by
      cases v1 with
      | non => rw [r1.non_v]; rfl
      | _ =>
        cases w1 with
        | non => cases r1.i_non
        | _ => rfl
    have z : Fs.isO v1 .non = some (Fs.isNon v1) := by cases v1 <;> rfl
    rw [z, this]
    exact e
  · cases e
theorem cop_rel (R : SR Z ρ hv h) {o : Cop} {w1 w2 : W} {b : Bool} {v1 v2 : Fs.Val} (r1 : RX Z ρ w1 v1) (r2 : RX Z ρ w2 v2) (e : cop hv o w1 w2 = some b) : Fs.cop h o v1 v2 = some b := by
  have ii : ∀ {f : W → W → Option Bool} {g : Fs.Val → Fs.Val → Option Bool}, f w1 w2 = some b → (∀ i j, w1 = .int i → w2 = .int j → g (.int i) (.int j) = some b) → (∃ i j, w1 = .int i ∧ w2 = .int j) → g v1 v2 = some b := by
    rintro f g _ hg ⟨i, j, rfl, rfl⟩
    cases r1.i_int; cases r2.i_int
    exact hg i j rfl rfl
  cases o with
  | eq => exact eq_rel R r1 r2 e
  | ne => obtain ⟨c, e1, e2⟩ := map_some (show (eqO hv w1 w2).map (!·) = some b from e); simp only [Fs.cop]; rw [eq_rel R r1 r2 e1]; exact congrArg some e2
  | lt => exact lt_rel R r1 r2 e
  | gt =>
    have e : gtO w1 w2 = some b := e
    unfold gtO at e
    split at e
    · cases r1.i_int; cases r2.i_int; exact e
    · cases e
  | le =>
    have e : leO w1 w2 = some b := e
    unfold leO at e
    split at e
    · cases r1.i_int; cases r2.i_int; exact e
    · cases e
  | ge =>
    have e : geO w1 w2 = some b := e
    unfold geO at e
    split at e
    · cases r1.i_int; cases r2.i_int; exact e
    · cases e
  | is_ => exact is_rel r1 r2 e
  | isn => obtain ⟨c, e1, e2⟩ := map_some (show (isO w1 w2).map (!·) = some b from e); simp only [Fs.cop]; rw [is_rel r1 r2 e1]; exact congrArg some e2
  | in_ => exact in_rel R r1 r2 e
  | nin => obtain ⟨c, e1, e2⟩ := map_some (show (inO hv w1 w2).map (!·) = some b from e); simp only [Fs.cop]; rw [in_rel R r1 r2 e1]; exact congrArg some e2
theorem RWs.emp {xs : List W} {vs : List Fs.Val} (r : RWs Z ρ xs vs) : xs.isEmpty = vs.isEmpty := by
  cases xs with
  | nil => cases r.inv_nil; rfl
  | cons x xs => obtain ⟨v, s, rfl, _⟩ := r.inv_cons; rfl
theorem tru_rel (R : SR Z ρ hv h) {w : W} {b : Bool} {v : Fs.Val} (r : RX Z ρ w v) (e : tru hv w = some b) : Fs.tru h v = some b := by
  cases w with
  | non => cases r.i_non; exact e
  | bl _ => cases r.i_bl; exact e
  | int _ => cases r.i_int; exact e
  | str _ => cases r.i_str; exact e
  | tup xs => obtain ⟨vs, rfl, h2⟩ := r.i_tup; simp only [tru, h2.emp] at e; exact e
  | fl xs =>
    rcases r with ⟨ys, vs, e3, rfl, h3⟩ | r
    · cases e3; simp only [tru, h3.emp] at e; exact e
    · obtain ⟨m, rfl, hm⟩ := r.i_fl
      obtain ⟨vs, h1, h2⟩ := R.at_fl hm
      simp only [Fs.tru, h1]
      simp only [tru, h2.emp] at e; exact e
  | ref n =>
    obtain ⟨m, rfl, hm⟩ := r.i_ref
    simp only [tru] at e
    split at e
    · rename_i xs hn
      obtain ⟨u, h1, vs, rfl, h2⟩ := R.at_ref hm hn
      simp only [Fs.tru, h1]
      rw [h2.emp] at e; exact e
    · cases e
  | _ => cases e
theorem ty_rel (R : SR Z ρ hv h) {w : W} {b : Tn} {v : Fs.Val} (r : RX Z ρ w v) (e : tyN hv w = some b) : Fs.tyN h v = some b := by
  cases w with
  | non => cases r.i_non; exact e
  | bl _ => cases r.i_bl; exact e
  | int _ => cases r.i_int; exact e
  | str _ => cases r.i_str; exact e
  | tup xs => obtain ⟨vs, rfl, h2⟩ := r.i_tup; exact e
  | fl xs =>
    rcases r with ⟨ys, vs, e3, rfl, h3⟩ | r
    · exact e
    · obtain ⟨m, rfl, hm⟩ := r.i_fl
      obtain ⟨vs, h1, h2⟩ := R.at_fl hm
      simp only [Fs.tyN, h1]
      exact e
  | fk xs =>
    obtain ⟨m, rfl, hm⟩ := r.i_fk
    obtain ⟨fz, vs, h1, h2⟩ := R.at_fk hm
    simp only [Fs.tyN, h1]
    exact e
  | ref n =>
    obtain ⟨m, rfl, hm⟩ := r.i_ref
    simp only [tyN] at e
    split at e
    · rename_i xs hn
      obtain ⟨u, h1, vs, rfl, h2⟩ := R.at_ref hm hn
      simp only [Fs.tyN, h1]; exact e
    · rename_i xs hn
      obtain ⟨u, h1, vs, rfl, h2⟩ := R.at_ref hm hn
      simp only [Fs.tyN, h1]; exact e
    · rename_i xs hn
      obtain ⟨u, h1, vs, rfl, h2⟩ := R.at_ref hm hn
      simp only [Fs.tyN, h1]; exact e
    · cases e
  | _ => cases e
theorem isi_rel (R : SR Z ρ hv h) {w : W} {b : Bool} {t : Ty} {v : Fs.Val} (r : RX Z ρ w v) (e : isi hv w t = some b) : Fs.isi h v t = some b := by
  obtain ⟨a, e1, e2⟩ := bind_some e
  unfold Fs.isi
  rw [ty_rel R r e1]
  exact e2
theorem isc_rel (R : SR Z ρ hv h) {w : W} {b : Bool} {sub non : List Str} {v : Fs.Val} (r : RX Z ρ w v) (e : iscO sub non hv w = some b) : Fs.iscO sub non h v = some b := by
  unfold iscO at e
  split at e
  · cases r.i_non
    exact e
  · rename_i n
    obtain ⟨m, rfl, hm⟩ := r.i_ref
    split at e
    · rename_i k hn
      obtain ⟨u, h1, ro⟩ := R.at_ref hm hn
      cases (show u = .exc k [] from ro)
      unfold Fs.iscO
      simp only [h1]
      exact e
    · cases e
  · cases e
theorem atI_rel {xs : List W} {vs : List Fs.Val} {j : Int} {w : W} (r : RWs Z ρ xs vs) (e : atI xs j = some w) : ∃ v, atI vs j = some v ∧ RW Z ρ w v := by
  unfold atI at e ⊢
  rw [← r.length]
  obtain ⟨k, e1, e2⟩ := bind_some e
  obtain ⟨v, h1, h2⟩ := r.at e2
  rw [e1]
  exact ⟨v, h1, h2⟩
theorem lk_rel {xs : List (Key × W)} {vs : List (Key × Fs.Val)} {i w : W} {j : Fs.Val} (rk : RK Z ρ xs vs) (r : RX Z ρ i j) (e : (keyW i).bind (look xs) = some w) : ∃ v, (keyOf j).bind (look vs) = some v ∧ RX Z ρ w v := by
  obtain ⟨k, e1, e2⟩ := bind_some e
  rw [key_rel r e1]
  rcases rk.look k with ⟨a1, a2⟩ | ⟨w', v, a1, a2, a3⟩
  · rw [a1] at e2; cases e2
  · rw [a1] at e2; cases e2; exact ⟨v, a2, .of a3⟩
theorem lt'_rel {xs : List (List Key × W)} {vs : List (List Key × Fs.Val)} {i w : W} {j : Fs.Val} (rk : RK Z ρ xs vs) (r : RX Z ρ i j) (e : (keysW i).bind (look xs) = some w) : ∃ v, (keysOf j).bind (look vs) = some v ∧ RX Z ρ w v := by
  obtain ⟨k, e1, e2⟩ := bind_some e
  rw [keys_rel r e1]
  rcases rk.look k with ⟨a1, a2⟩ | ⟨w', v, a1, a2, a3⟩
  · rw [a1] at e2; cases e2
  · rw [a1] at e2; cases e2; exact ⟨v, a2, .of a3⟩
theorem ix_rel (R : SR Z ρ hv h) {a i w : W} {u j : Fs.Val} (r1 : RX Z ρ a u) (r2 : RX Z ρ i j) (e : ixO hv a i = some w) : ∃ v, Fs.ixO h u j = some v ∧ RX Z ρ w v := by
  have sq : ∀ {xs : List W} {vs : List Fs.Val}, RWs Z ρ xs vs → (match (generalizing := false) i with | .int k => atI xs k | _ => none) = some w → ∃ v, (match (generalizing := false) j with | .int k => atI vs k | _ => none) = some v ∧ RX Z ρ w v := by
    intro xs vs r e
    split at e
    · cases r2.i_int
      obtain ⟨v, h1, h2⟩ := atI_rel r e
      exact ⟨v, h1, .of h2⟩
    · cases e
  cases a with
  | str s =>
    cases r1.i_str
    simp only [ixO] at e
    split at e
    · rename_i jj
      replace e : (if s.length ≤ lim then (atI s.cps.toList jj).map fun c => W.str ⟨#[c]⟩ else none) = some w := e
      cases r2.i_int
      split at e
      · rename_i hl
        obtain ⟨c, e1, e2⟩ := map_some e
        cases e2
        exact ⟨.str ⟨#[c]⟩, by simp only [Fs.ixO, if_pos hl]; rw [e1]; rfl, .of RW.mk_str⟩
      · cases e
    · cases e
  | tup xs => obtain ⟨vs, rfl, h2⟩ := r1.i_tup; exact sq h2 e
  | fl xs =>
    rcases r1 with ⟨ys, vs, e3, rfl, h3⟩ | r
    · cases e3; exact sq h3 e
    · obtain ⟨m, rfl, hm⟩ := r.i_fl
      obtain ⟨vs, h1, h2⟩ := R.at_fl hm
      simp only [Fs.ixO, h1]
      exact sq h2 e
  | fk xs =>
    obtain ⟨m, rfl, hm⟩ := r1.i_fk
    obtain ⟨fz, vs, h1, h2⟩ := R.at_fk hm
    simp only [Fs.ixO, h1]
    exact lk_rel h2 r2 e
  | ft xs =>
    obtain ⟨m, rfl, hm⟩ := r1.i_ft
    obtain ⟨fz, vs, h1, h2⟩ := R.at_ft hm
    simp only [Fs.ixO, h1]
    exact lt'_rel h2 r2 e
  | ref n =>
    obtain ⟨m, rfl, hm⟩ := r1.i_ref
    simp only [ixO] at e
    split at e
    · rename_i xs hn
      obtain ⟨u, h1, vs, rfl, h2⟩ := R.at_ref hm hn
      simp only [Fs.ixO, h1]; exact sq h2 e
    · rename_i xs hn
      obtain ⟨u, h1, vs, rfl, h2⟩ := R.at_ref hm hn
      simp only [Fs.ixO, h1]; exact sq h2 e
    · rename_i xs hn
      obtain ⟨u, h1, vs, rfl, h2⟩ := R.at_ref hm hn
      simp only [Fs.ixO, h1]; exact lk_rel h2 r2 e
    · rename_i xs hn
      obtain ⟨u, h1, vs, rfl, h2⟩ := R.at_ref hm hn
      simp only [Fs.ixO, h1]; exact lt'_rel h2 r2 e
    · cases e
  | _ => cases e
theorem cut_rel {xs : List W} {vs : List Fs.Val} (lo hi : Option Int) (r : RWs Z ρ xs vs) : RWs Z ρ (cut xs lo hi) (cut vs lo hi) := by
  unfold Fs.cut
  rw [r.length]
  exact (r.drop _).take _
theorem sl_rel (R : SR Z ρ hv h) {a w : W} {u : Fs.Val} {lo hi : Option Int} (r : RX Z ρ a u) (e : slO hv a lo hi = some w) : ∃ v, Fs.slO h u lo hi = some v ∧ RX Z ρ w v := by
  unfold slO at e
  split at e
  · split at e
    · rename_i hl
      cases e; cases r.i_str
      exact ⟨_, by simp only [Fs.slO, if_pos hl], .of RW.mk_str⟩
    · cases e
  · cases e
    obtain ⟨vs, rfl, h2⟩ := r.i_tup
    exact ⟨_, rfl, .of (RW.mk_tup (cut_rel lo hi h2))⟩
  · split at e
    · rename_i xs e1
      cases e
      obtain ⟨vs, f1, g1⟩ := lst_rel R r e1
      refine ⟨.tl (cut vs lo hi), ?_, .tl (cut_rel lo hi g1)⟩
      cases u <;> first | (cases f1; done) | (simp only [Fs.slO, f1])
    · cases e
theorem fld_rel (R : SR Z ρ hv h) {a w : W} {u : Fs.Val} {c f : Str} (r : RX Z ρ a u) (e : fldO c f hv a = some w) : ∃ v, Fs.fldO c f h u = some v ∧ RX Z ρ w v := by
  unfold fldO at e
  split at e
  · obtain ⟨m, rfl, hm⟩ := r.i_ref
    split at e
    · rename_i d fs hn
      split at e
      · rename_i hd
        obtain ⟨u, h1, zs, rfl, h2⟩ := R.at_ref hm hn
        obtain ⟨v, e1, e2⟩ := h2.lookup f e
        exact ⟨v, by simp only [Fs.fldO, h1, if_pos hd]; exact e1, .of e2⟩
      · cases e
    · cases e
  · cases e
end
end Fw
set_option Elab.async false
set_option linter.all false
set_option maxRecDepth 100000
set_option maxHeartbeats 4000000
set_option autoImplicit false
set_option relaxedAutoImplicit false
namespace Fw
open PySem L2
open Fs (lim keyOf keysOf kVal look put drp setF Bop Cop Ty Tn isTn cut Blt Mt Tg E Es Oe I S Ss Def)
section
variable {Z Z' : Zm} {ρ ρ' : List Nat} {hv hv' : Hep} {h h' : Fs.Hep}
theorem isIn_rel {xs : List W} {vs : List Fs.Val} {ns : List Int} (r : RWs Z ρ xs vs) (e : isIn xs = some ns) : Fs.isIn vs = some ns :=
  mapM_rel (fun w v d r e => by cases w <;> first | (cases e; done) | (cases r.i_int; exact e)) r e
theorem isBl_rel {xs : List W} {vs : List Fs.Val} {ns : List Bool} (r : RWs Z ρ xs vs) (e : isBl xs = some ns) : Fs.isBl vs = some ns :=
  mapM_rel (fun w v d r e => by cases w <;> first | (cases e; done) | (cases r.i_bl; exact e)) r e
theorem isSt_rel {xs : List W} {vs : List Fs.Val} {ns : List Str} (r : RWs Z ρ xs vs) (e : isSt xs = some ns) : Fs.isSt vs = some ns :=
  mapM_rel (fun w v d r e => by cases w <;> first | (cases e; done) | (cases r.i_str; exact e)) r e
theorem isPr_rel : ∀ {xs : List W} {vs : List Fs.Val} {ps : List (W × W)}, RWs Z ρ xs vs → isPr xs = some ps → ∃ qs, Fs.isPr vs = some qs ∧ RWs Z ρ (ps.map (·.1)) (qs.map (·.1)) ∧ RWs Z ρ (ps.map (·.2)) (qs.map (·.2))
  | [], vs, ps, r, e => by
    cases r.inv_nil
    cases e
    exact ⟨[], rfl, RWs.nil, RWs.nil⟩
  | x :: xs, vs, ps, r, e => by
    obtain ⟨v, s, rfl, h1, h2⟩ := r.inv_cons
    unfold isPr at e
    rw [List.mapM_cons] at e
    obtain ⟨p, e1, e2⟩ := bind_some e
    obtain ⟨ps', e3, e4⟩ := bind_some e2
    cases e4
    obtain ⟨qs, f1, f2, f3⟩ := isPr_rel h2 e3
    split at e1
    · rename_i a b
      cases e1
      obtain ⟨vs', rfl, g⟩ := h1.i_tup
      obtain ⟨v1, s1, rfl, g1, g2⟩ := g.inv_cons
      obtain ⟨v2, s2, rfl, g3, g4⟩ := g2.inv_cons
      cases g4.inv_nil
      refine ⟨(v1, v2) :: qs, ?_, RWs.cons g1 f2, RWs.cons g3 f3⟩
      unfold Fs.isPr at f1 ⊢
      rw [List.mapM_cons, f1]
      rfl
    · cases e1
theorem fold_put {κ : Type} [DecidableEq κ] : ∀ {ks : List (κ × W)} {zs : List (κ × Fs.Val)} {acc : List (κ × W)} {acc' : List (κ × Fs.Val)}, RK Z ρ ks zs → RK Z ρ acc acc' → RK Z ρ (ks.foldl (fun acc kv => put acc kv.1 kv.2) acc) (zs.foldl (fun acc kv => put acc kv.1 kv.2) acc')
  | [], _, _, _, r, ra => by cases r; exact ra
  | p :: ks, _, _, _, r, ra => by
    obtain ⟨v, s, rfl, h1, h2⟩ := r
    rw [List.foldl_cons, List.foldl_cons]
    exact fold_put h2 (ra.put p.1 h1)
theorem newK_rel {κ : Type} {f : W → Option κ} {g : Fs.Val → Option κ} (hf : ∀ w v k, RW Z ρ w v → f w = some k → g v = some k) : ∀ {ps : List (W × W)} {qs : List (Fs.Val × Fs.Val)} {kvs : List (κ × W)}, RWs Z ρ (ps.map (·.1)) (qs.map (·.1)) → RWs Z ρ (ps.map (·.2)) (qs.map (·.2)) →
    ps.mapM (fun p => (f p.1).map (·, p.2)) = some kvs → ∃ zs, qs.mapM (fun p => (g p.1).map (·, p.2)) = some zs ∧ RK Z ρ kvs zs
  | [], qs, kvs, r1, r2, e => by
    have : qs = [] := by
      have := r1.length
      simpa using this.symm
    subst this
    cases e
    exact ⟨[], rfl, rfl⟩
  | p :: ps, [], kvs, r1, r2, e => by
    have := r1.length
    simp at this
  | p :: ps, q :: qs, kvs, r1, r2, e => by
    obtain ⟨v1, s1, z1, a1, a2⟩ := r1.inv_cons
    obtain ⟨v2, s2, z2, b1, b2⟩ := r2.inv_cons
    cases z1
    cases z2
    rw [List.mapM_cons] at e
    obtain ⟨kv, e1, e2⟩ := bind_some e
    obtain ⟨kvs', e3, e4⟩ := bind_some e2
    cases e4
    obtain ⟨k, e5, e6⟩ := map_some e1
    cases e6
    obtain ⟨zs, f1, f2⟩ := newK_rel hf a2 b2 e3
    refine ⟨(k, q.2) :: zs, ?_, ⟨q.2, zs, rfl, b1, f2⟩⟩
    rw [List.mapM_cons, hf _ _ _ a1 e5, f1]
    rfl
theorem newN_rel : ∀ {ps : List (W × W)} {qs : List (Fs.Val × Fs.Val)}, RWs Z ρ (ps.map (·.1)) (qs.map (·.1)) → ps.mapM (fun p => (keyW p.1).map (·, p.2)) = none → qs.mapM (fun p => (keyOf p.1).map (·, p.2)) = none
  | [], qs, r1, e => by cases e
  | p :: ps, [], r1, e => by
    have := r1.length
    simp at this
  | p :: ps, q :: qs, r1, e => by
    obtain ⟨v1, s1, z1, a1, a2⟩ := r1.inv_cons
    cases z1
    rw [List.mapM_cons] at e ⊢
    cases hk : keyW p.1 with
    | none => rw [keyN_rel (.of a1) hk]; rfl
    | some k =>
      rw [hk] at e
      rw [key_rel (.of a1) hk]
      cases hm : ps.mapM (fun p => (keyW p.1).map (·, p.2)) with
      | none => rw [newN_rel a2 hm]; rfl
      | some x => rw [hm] at e; cases e
theorem newD_rel {ps : List (W × W)} {qs : List (Fs.Val × Fs.Val)} {w : W} (r1 : RWs Z ρ (ps.map (·.1)) (qs.map (·.1))) (r2 : RWs Z ρ (ps.map (·.2)) (qs.map (·.2))) (e : newD ps = some w) :
    (∃ kvs zs, w = .fk kvs ∧ Fs.newD qs = some (.dK false zs) ∧ RK Z ρ kvs zs) ∨ ∃ kvs zs, w = .ft kvs ∧ Fs.newD qs = some (.dT false zs) ∧ RK Z ρ kvs zs := by
  have hl := r1.length
  simp only [List.length_map] at hl
  unfold newD at e
  by_cases hp : ps.isEmpty = true
  · rw [if_pos hp] at e
    cases e
    have hq : qs.isEmpty = true := by
      rw [List.isEmpty_iff] at hp
      rw [hp] at hl
      rw [List.isEmpty_iff]
      exact List.length_eq_zero_iff.mp hl.symm
    refine .inr ⟨[], [], rfl, ?_, rfl⟩
    unfold Fs.newD
    rw [if_pos hq]
  have hq : ¬ qs.isEmpty = true := fun hq => hp (by
    rw [List.isEmpty_iff] at hq
    rw [hq] at hl
    rw [List.isEmpty_iff]
    exact List.length_eq_zero_iff.mp hl)
  rw [if_neg hp] at e
  split at e
  · rename_i kvs e1
    cases e
    obtain ⟨zs, f1, f2⟩ := newK_rel (fun w v k r e => key_rel (.of r) e) r1 r2 e1
    refine .inl ⟨_, _, rfl, ?_, fold_put f2 rfl⟩
    unfold Fs.newD
    rw [if_neg hq, f1]
  · rename_i e0
    have n0 := newN_rel r1 e0
    split at e
    · rename_i kvs e1
      cases e
      obtain ⟨zs, f1, f2⟩ := newK_rel (fun w v k r e => keys_rel (.of r) e) r1 r2 e1
      refine .inr ⟨_, _, rfl, ?_, fold_put f2 rfl⟩
      unfold Fs.newD
      rw [if_neg hq, n0, f1]
    · cases e
/-! ### sorting -/
theorem pairs_rel : ∀ {P : List (W × Fs.Val)}, (∀ p ∈ P, RW Z ρ p.1 p.2) → RWs Z ρ (P.map (·.1)) (P.map (·.2))
  | [], _ => RWs.nil
  | p :: P, f => RWs.cons (f p (by simp)) (pairs_rel fun q hq => f q (by simp [hq]))
theorem to_pairs : ∀ {xs : List W} {vs : List Fs.Val}, RWs Z ρ xs vs → ∃ P : List (W × Fs.Val), xs = P.map (·.1) ∧ vs = P.map (·.2) ∧ ∀ p ∈ P, RW Z ρ p.1 p.2
  | [], _, r => by cases r.inv_nil; exact ⟨[], rfl, rfl, fun _ h => nomatch h⟩
  | x :: xs, _, r => by
    obtain ⟨v, s, rfl, h1, h2⟩ := r.inv_cons
    obtain ⟨P, e1, e2, f⟩ := to_pairs h2
    exact ⟨(x, v) :: P, by rw [e1]; rfl, by rw [e2]; rfl, fun p hp => by
      rcases List.mem_cons.mp hp with rfl | hp
      · exact h1
      · exact f p hp⟩
theorem sort_rel (R : SR Z ρ hv h) {xs ys : List W} {vs : List Fs.Val} (r : RWs Z ρ xs vs) (e : sortO hv xs = some ys) : ∃ us, Fs.sortO h vs = some us ∧ RWs Z ρ ys us := by
  unfold sortO at e
  split at e
  · rename_i hc
    cases e
    obtain ⟨hs, hl⟩ := hc
    obtain ⟨P, rfl, rfl, f⟩ := to_pairs r
    have hs' := hs
    unfold sortable at hs'
    simp only [Bool.and_eq_true, Bool.or_eq_true, List.all_eq_true] at hs'
    obtain ⟨⟨s1, s2⟩, s3⟩ := hs'
    have key : ∀ p ∈ P, Fs.encD h p.2 = encD hv p.1 ∧ (Fs.rei h 12 p.2).isSome = true := by
      intro p hp
      have := s1 p.1 (List.mem_map_of_mem hp)
      obtain ⟨d, hd⟩ := Option.isSome_iff_exists.mp this
      have e2 := rd_rel R 12 (.of (f p hp)) hd
      unfold Fs.encD encD
      rw [hd, e2]
      exact ⟨rfl, rfl⟩
    have hso : Fs.sortable h (P.map (·.2)) = true := by
      unfold Fs.sortable
      simp only [Bool.and_eq_true, Bool.or_eq_true, List.all_eq_true]
      refine ⟨⟨fun x hx => ?_, fun x hx y hy => ?_⟩, ?_⟩
      · obtain ⟨p, hp, rfl⟩ := List.mem_map.mp hx
        exact (key p hp).2
      · obtain ⟨p, hp, rfl⟩ := List.mem_map.mp hx
        obtain ⟨q, hq, rfl⟩ := List.mem_map.mp hy
        rw [(key p hp).1, (key q hq).1]
        exact s2 p.1 (List.mem_map_of_mem hp) q.1 (List.mem_map_of_mem hq)
      · refine s3.imp (fun s3 x hx => ?_) fun s3 x hx => ?_
        · obtain ⟨p, hp, rfl⟩ := List.mem_map.mp hx
          rw [(key p hp).1]
          exact s3 p.1 (List.mem_map_of_mem hp)
        · obtain ⟨p, hp, rfl⟩ := List.mem_map.mp hx
          rw [(key p hp).1]
          exact s3 p.1 (List.mem_map_of_mem hp)
    refine ⟨_, by unfold Fs.sortO; rw [if_pos ⟨hso, by simpa using hl⟩], ?_⟩
    rw [← List.map_mergeSort (r := fun (p q : W × Fs.Val) => PySem.W.dataLe false (encD hv) p.1 q.1) (s := PySem.W.dataLe false (encD hv)) (f := fun p : W × Fs.Val => p.1) (fun _ _ _ _ => rfl)]
    rw [← List.map_mergeSort (r := fun (p q : W × Fs.Val) => PySem.W.dataLe false (encD hv) p.1 q.1) (s := PySem.W.dataLe false (Fs.encD h)) (f := fun p : W × Fs.Val => p.2) (fun p hp q hq => by
      have e1 : ∀ {β : Type} (k : β → PyData) (a b : β), PySem.W.dataLe false k a b = PySem.W.dataLe false id (k a) (k b) := fun _ _ _ => rfl
      rw [e1 (encD hv), e1 (Fs.encD h), (key p hp).1, (key q hq).1])]
    exact pairs_rel fun p hp => f p ((List.mergeSort_perm _ _).mem_iff.mp hp)
  · cases e
/-! ### built-ins -/
theorem RXs.one {w : W} {vs : List Fs.Val} (r : RXs Z ρ [w] vs) : ∃ v, vs = [v] ∧ RX Z ρ w v := by
  obtain ⟨v, s, rfl, h1, h2⟩ := r
  cases h2
  exact ⟨v, rfl, h1⟩
theorem RXs.two {w1 w2 : W} {vs : List Fs.Val} (r : RXs Z ρ [w1, w2] vs) : ∃ v1 v2, vs = [v1, v2] ∧ RX Z ρ w1 v1 ∧ RX Z ρ w2 v2 := by
  obtain ⟨v, s, rfl, h1, h2⟩ := r
  obtain ⟨v2, rfl, h3⟩ := h2.one
  exact ⟨v, v2, rfl, h1, h3⟩
theorem len_rel (R : SR Z ρ hv h) {w u : W} {v : Fs.Val} (r : RX Z ρ w v) (e : lenV hv w = some u) : ∃ x, Fs.lenV h v = some x ∧ RX Z ρ u x := by
  cases w with
  | str s =>
    cases r.i_str
    simp only [lenV] at e
    split at e
    · rename_i hl; cases e; exact ⟨_, by simp only [Fs.lenV, if_pos hl], .of RW.mk_int⟩
    · cases e
  | tup xs => obtain ⟨vs, rfl, h2⟩ := r.i_tup; cases e; rw [h2.length]; exact ⟨_, rfl, .of RW.mk_int⟩
  | fl xs =>
    cases e
    rcases r with ⟨ys, vs, e3, rfl, h3⟩ | r
    · cases e3; rw [h3.length]; exact ⟨_, rfl, .of RW.mk_int⟩
    · obtain ⟨m, rfl, hm⟩ := r.i_fl
      obtain ⟨vs, h1, h2⟩ := R.at_fl hm
      rw [h2.length]
      exact ⟨_, by simp only [Fs.lenV, h1], .of RW.mk_int⟩
  | fk xs =>
    cases e
    obtain ⟨m, rfl, hm⟩ := r.i_fk
    obtain ⟨fz, vs, h1, h2⟩ := R.at_fk hm
    rw [h2.length]
    exact ⟨_, by simp only [Fs.lenV, h1], .of RW.mk_int⟩
  | ft xs =>
    cases e
    obtain ⟨m, rfl, hm⟩ := r.i_ft
    obtain ⟨fz, vs, h1, h2⟩ := R.at_ft hm
    rw [h2.length]
    exact ⟨_, by simp only [Fs.lenV, h1], .of RW.mk_int⟩
  | ref n =>
    obtain ⟨m, rfl, hm⟩ := r.i_ref
    simp only [lenV] at e
    split at e <;> first | (cases e; done) | skip
    all_goals
      rename_i hn
      cases e
      obtain ⟨u, h1, vs, rfl, h2⟩ := R.at_ref hm hn
      rw [h2.length]
      exact ⟨_, by simp only [Fs.lenV, h1], .of RW.mk_int⟩
  | _ => cases e
theorem list_rel (R : SR Z ρ hv h) {w u : W} {v : Fs.Val} (r : RX Z ρ w v) (e : listV hv w = some u) : ∃ x, Fs.listV h v = some x ∧ RX Z ρ u x := by
  cases w with
  | tup xs => obtain ⟨vs, rfl, h2⟩ := r.i_tup; cases e; exact ⟨_, rfl, .tl h2⟩
  | fl xs =>
    cases e
    rcases r with ⟨ys, vs, e3, rfl, h3⟩ | r
    · cases e3; exact ⟨_, rfl, .tl h3⟩
    · obtain ⟨m, rfl, hm⟩ := r.i_fl
      obtain ⟨vs, h1, h2⟩ := R.at_fl hm
      exact ⟨_, by simp only [Fs.listV, h1], .tl h2⟩
  | ft xs =>
    cases e
    obtain ⟨m, rfl, hm⟩ := r.i_ft
    obtain ⟨fz, vs, h1, h2⟩ := R.at_ft hm
    exact ⟨_, by simp only [Fs.listV, h1], .tl (RK.mapW (f := fun kv => .tup (kv.1.map kW)) (g := fun kv => .tup (kv.1.map kVal)) (fun k w v _ => kWs_rel k) h2)⟩
  | ref n =>
    obtain ⟨m, rfl, hm⟩ := r.i_ref
    simp only [listV] at e
    split at e
    · rename_i hn
      cases e
      obtain ⟨u, h1, vs, rfl, h2⟩ := R.at_ref hm hn
      exact ⟨_, by simp only [Fs.listV, h1], .tl (RK.mapW (f := fun kv => .tup (kv.1.map kW)) (g := fun kv => .tup (kv.1.map kVal)) (fun k w v _ => kWs_rel k) h2)⟩
    · rename_i hn
      cases e
      obtain ⟨u, h1, vs, rfl, h2⟩ := R.at_ref hm hn
      exact ⟨_, by simp only [Fs.listV, h1], .tl (RK.mapW (f := fun kv => kW kv.1) (g := fun kv => kVal kv.1) (fun k w v _ => kW_rel k) h2)⟩
    · rename_i hn
      cases e
      obtain ⟨u, h1, vs, rfl, h2⟩ := R.at_ref hm hn
      exact ⟨_, by simp only [Fs.listV, h1], .tl h2⟩
    · cases e
  | _ => cases e
theorem int_rel {w u : W} {v : Fs.Val} (r : RX Z ρ w v) (e : intV hv w = some u) : ∃ x, Fs.intV h v = some x ∧ RX Z ρ u x := by
  cases w with
  | int i => cases r.i_int; cases e; exact ⟨_, rfl, .of RW.mk_int⟩
  | bl i => cases r.i_bl; cases e; exact ⟨_, rfl, .of RW.mk_int⟩
  | str s =>
    cases r.i_str
    simp only [intV] at e
    split at e
    · rename_i hl
      obtain ⟨i, e1, e2⟩ := map_some e
      cases e2
      exact ⟨.int i, by simp only [Fs.intV, if_pos hl]; rw [e1]; rfl, .of RW.mk_int⟩
    · cases e
  | _ => cases e
theorem str_rel {w u : W} {v : Fs.Val} (r : RX Z ρ w v) (e : strV hv w = some u) : ∃ x, Fs.strV h v = some x ∧ RX Z ρ u x := by
  cases w with
  | int i =>
    cases r.i_int
    simp only [strV] at e
    split at e
    · rename_i hl
      cases e
      exact ⟨_, by simp only [Fs.strV, if_pos hl], .of RW.mk_str⟩
    · cases e
  | _ => cases e
theorem un_rel {f : Hep → W → Option W} {g : Fs.Hep → Fs.Val → Option Fs.Val} {ws : List W} {vs : List Fs.Val} {w : W} (hf : ∀ {a u : W} {v : Fs.Val}, RX Z ρ a v → f hv a = some u → ∃ x, g h v = some x ∧ RX Z ρ u x) (r : RXs Z ρ ws vs) (e : un f hv ws = some w) :
    ∃ v, Fs.un g h vs = some (v, h) ∧ RX Z ρ w v := by
  unfold un at e
  split at e
  · obtain ⟨v, rfl, r1⟩ := r.one
    obtain ⟨x, e1, r2⟩ := hf r1 e
    exact ⟨x, by simp only [Fs.un, e1, Option.map_some], r2⟩
  · cases e
theorem blt_rel (R : SR Z ρ hv h) {b : Blt} {ws : List W} {vs : List Fs.Val} {w : W} (r : RXs Z ρ ws vs) (e : bltF hv b ws = some w) : ∃ v h' Z', Fs.bltF h b vs = some (v, h') ∧ Ext Z ρ h Z' ρ h' ∧ SR Z' ρ hv h' ∧ RX Z' ρ w v := by
  have fin : ∀ {v : Fs.Val}, Fs.bltF h b vs = some (v, h) → RX Z ρ w v → ∃ v h' Z', Fs.bltF h b vs = some (v, h') ∧ Ext Z ρ h Z' ρ h' ∧ SR Z' ρ hv h' ∧ RX Z' ρ w v := fun e r => ⟨_, _, _, e, .refl, R, r⟩
  have lst : ∀ {α : Type} {p : List W → Option α} {q : List Fs.Val → Option α} {f : α → W} {g : α → Fs.Val}, (∀ {xs vs d}, RWs Z ρ xs vs → p xs = some d → q vs = some d) → (∀ a, RX Z ρ (f a) (g a)) →
      ∀ {a u : W} {v : Fs.Val}, RX Z ρ a v → ((lstOf hv a).bind p).map f = some u → ∃ x, ((Fs.lstOf h v).bind q).map g = some x ∧ RX Z ρ u x := by
    intro α p q f g hp hg a u v r e
    obtain ⟨d, e1, e2⟩ := map_some e
    obtain ⟨xs, e3, e4⟩ := bind_some e1
    obtain ⟨vs, f1, f2⟩ := lst_rel R r e3
    rw [f1, Option.bind_some, hp f2 e4]
    exact ⟨_, rfl, e2 ▸ hg d⟩
  cases b with
  | len => obtain ⟨v, e1, r1⟩ := un_rel (g := Fs.lenV) (len_rel R) r e; exact fin e1 r1
  | list => obtain ⟨v, e1, r1⟩ := un_rel (g := Fs.listV) (list_rel R) r e; exact fin e1 r1
  | int => obtain ⟨v, e1, r1⟩ := un_rel (g := Fs.intV) int_rel r e; exact fin e1 r1
  | str => obtain ⟨v, e1, r1⟩ := un_rel (g := Fs.strV) str_rel r e; exact fin e1 r1
  | tuple =>
    obtain ⟨v, e1, r1⟩ := un_rel (f := tupleV) (g := Fs.tupleV) (fun {a u v} r e => by
      obtain ⟨xs, e1, e2⟩ := map_some e
      obtain ⟨vs, f1, f2⟩ := seq_rel R r e1
      exact ⟨.tup vs, by unfold Fs.tupleV; rw [f1]; rfl, e2 ▸ .of (RW.mk_tup f2)⟩) r e
    exact fin e1 r1
  | sorted =>
    obtain ⟨v, e1, r1⟩ := un_rel (f := sortedV) (g := Fs.sortedV) (fun {a u v} r e => by
      obtain ⟨d, e1, e2⟩ := map_some e
      obtain ⟨xs, e3, e4⟩ := bind_some e1
      obtain ⟨vs, f1, f2⟩ := lst_rel R r e3
      obtain ⟨us, g1, g2⟩ := sort_rel R f2 e4
      exact ⟨.tl us, by unfold Fs.sortedV; rw [f1, Option.bind_some, g1]; rfl, e2 ▸ .tl g2⟩) r e
    exact fin e1 r1
  | sum => obtain ⟨v, e1, r1⟩ := un_rel (f := sumV) (g := Fs.sumV) (lst isIn_rel fun a => .of RW.mk_int) r e; exact fin e1 r1
  | all => obtain ⟨v, e1, r1⟩ := un_rel (f := allV) (g := Fs.allV) (lst isBl_rel fun a => .of RW.mk_bl) r e; exact fin e1 r1
  | any => obtain ⟨v, e1, r1⟩ := un_rel (f := anyV) (g := Fs.anyV) (lst isBl_rel fun a => .of RW.mk_bl) r e; exact fin e1 r1
  | max =>
    have e : maxB ws = some w := e
    unfold maxB at e
    split at e
    · cases e
      obtain ⟨v1, v2, rfl, r1, r2⟩ := r.two
      cases r1.i_int; cases r2.i_int
      exact fin rfl (.of RW.mk_int)
    · cases e
  | min =>
    have e : minB ws = some w := e
    unfold minB at e
    split at e
    · cases e
      obtain ⟨v1, v2, rfl, r1, r2⟩ := r.two
      cases r1.i_int; cases r2.i_int
      exact fin rfl (.of RW.mk_int)
    · cases e
  | dict =>
    have e : dictB hv ws = some w := e
    unfold dictB at e
    split at e
    · obtain ⟨v, rfl, r1⟩ := r.one
      obtain ⟨ps, e1, e2⟩ := bind_some e
      obtain ⟨xs, e3, e4⟩ := bind_some e1
      obtain ⟨vs, f1, f2⟩ := lst_rel R r1 e3
      obtain ⟨qs, g1, g2, g3⟩ := isPr_rel f2 e4
      rcases newD_rel g2 g3 e2 with ⟨kvs, zs, rfl, n1, n2⟩ | ⟨kvs, zs, rfl, n1, n2⟩
      · obtain ⟨a1, a2, a3⟩ := R.frzn (w := .fk kvs) (o := .dK false zs) ⟨_, zs, rfl, n2⟩
        refine ⟨.ref h.length, _, _, ?_, a2, a1, .of ?_⟩
        · simp only [Fs.bltF, Fs.dictB]
          rw [f1, Option.bind_some, g1, Option.bind_some, n1]
          rfl
        · unfold RW; exact ⟨_, rfl, a3⟩
      · obtain ⟨a1, a2, a3⟩ := R.frzn (w := .ft kvs) (o := .dT false zs) ⟨_, zs, rfl, n2⟩
        refine ⟨.ref h.length, _, _, ?_, a2, a1, .of ?_⟩
        · simp only [Fs.bltF, Fs.dictB]
          rw [f1, Option.bind_some, g1, Option.bind_some, n1]
          rfl
        · unfold RW; exact ⟨_, rfl, a3⟩
    · cases e
  | _ => cases e
/-- a dict that is laid as an object -/
theorem dictO_rel (R : SR Z ρ hv h) {ws : List W} {vs : List Fs.Val} {w u : W} {hv' : Hep} (r : RXs Z ρ ws vs) (e : dictB hv ws = some w) (el : layD w hv = .ok u hv') : ∃ v h' ρ', Fs.bltF h .dict vs = some (v, h') ∧ Ext Z ρ h Z ρ' h' ∧ SR Z ρ' hv' h' ∧ RW Z ρ' u v := by
  unfold dictB at e
  split at e
  · obtain ⟨v, rfl, r1⟩ := r.one
    obtain ⟨ps, e1, e2⟩ := bind_some e
    obtain ⟨xs, e3, e4⟩ := bind_some e1
    obtain ⟨vs, f1, f2⟩ := lst_rel R r1 e3
    obtain ⟨qs, g1, g2, g3⟩ := isPr_rel f2 e4
    have lw : Low Z ρ Z (ρ ++ [h.length]) := ⟨fun n m e => by rw [List.getElem?_append_left (List.getElem?_eq_some_iff.mp e).1]; exact e, fun _ _ e => e⟩
    rcases newD_rel g2 g3 e2 with ⟨kvs, zs, rfl, n1, n2⟩ | ⟨kvs, zs, rfl, n1, n2⟩
    · cases el
      obtain ⟨a1, a2, a3⟩ := R.obj (ov := .dK false kvs) (o := .dK false zs) ⟨zs, rfl, n2.low lw⟩
      refine ⟨.ref h.length, _, _, ?_, a2, a1, ?_⟩
      · simp only [Fs.bltF, Fs.dictB]
        rw [f1, Option.bind_some, g1, Option.bind_some, n1]
        rfl
      · unfold RW; exact ⟨_, rfl, a3⟩
    · cases el
      obtain ⟨a1, a2, a3⟩ := R.obj (ov := .dT false kvs) (o := .dT false zs) ⟨zs, rfl, n2.low lw⟩
      refine ⟨.ref h.length, _, _, ?_, a2, a1, ?_⟩
      · simp only [Fs.bltF, Fs.dictB]
        rw [f1, Option.bind_some, g1, Option.bind_some, n1]
        rfl
      · unfold RW; exact ⟨_, rfl, a3⟩
  · cases e
/-! ### methods -/
theorem RWs.one {w : W} {vs : List Fs.Val} (r : RWs Z ρ [w] vs) : ∃ v, vs = [v] ∧ RW Z ρ w v := by
  obtain ⟨v, s, rfl, h1, h2⟩ := r.inv_cons
  cases h2.inv_nil
  exact ⟨v, rfl, h1⟩
theorem RWs.two {w1 w2 : W} {vs : List Fs.Val} (r : RWs Z ρ [w1, w2] vs) : ∃ v1 v2, vs = [v1, v2] ∧ RW Z ρ w1 v1 ∧ RW Z ρ w2 v2 := by
  obtain ⟨v, s, rfl, h1, h2⟩ := r.inv_cons
  obtain ⟨v2, rfl, h3⟩ := h2.one
  exact ⟨v, v2, rfl, h1, h3⟩
theorem RW.noTl {w : W} {v : Fs.Val} (r : RW Z ρ w v) : Fs.noTl v = true := by
  cases v with
  | tl vs => exfalso; cases w <;> (unfold RW at r; first | (obtain ⟨_, r2, _⟩ := r; cases r2; done) | (cases r; done))
  | _ => rfl
theorem RWs.noTl : ∀ {ws : List W} {vs : List Fs.Val}, RWs Z ρ ws vs → vs.all Fs.noTl = true
  | [], _, r => by cases r.inv_nil; rfl
  | w :: ws, _, r => by
    obtain ⟨v, s, rfl, h1, h2⟩ := r.inv_cons
    rw [List.all_cons, h1.noTl, RWs.noTl h2]
    rfl
theorem recv_rel (R : SR Z ρ hv h) {m : Mt} {w : W} {v : Fs.Val} (r : RX Z ρ w v) (e : recv hv m w = true) : Fs.recv h m v = true := by
  have l : isL hv w = true → Fs.tyN h v = some .list := by
    intro e
    cases w <;> first | (cases e; done) | skip
    obtain ⟨k, rfl, hm⟩ := r.i_ref
    simp only [isL] at e
    split at e
    · rename_i hn
      obtain ⟨u, h1, vs, rfl, h2⟩ := R.at_ref hm hn
      simp only [Fs.tyN, h1]
    · cases e
  have s : isStr w = true → Fs.tyN h v = some .str := by
    intro e
    cases w <;> first | (cases e; done) | skip
    cases r.i_str
    rfl
  cases m with
  | append => exact decide_eq_true (l e)
  | extend => exact decide_eq_true (l e)
  | pop => exact decide_eq_true (l e)
  | reverse => exact decide_eq_true (l e)
  | join => exact decide_eq_true (s e)
  | split => exact decide_eq_true (s e)
  | startswith => exact decide_eq_true (s e)
  | lower => exact decide_eq_true (s e)
  | get =>
    have e : ((dkOf hv w).isSome || (dtOf hv w).isSome) = true := e
    rw [Bool.or_eq_true] at e
    show Fs.isDr h v = true
    rcases e with e | e
    · obtain ⟨kvs, e⟩ := Option.isSome_iff_exists.mp e
      obtain ⟨k, fz, vs, rfl, h1, _⟩ := dk_rel R r e
      simp only [Fs.isDr, h1]
    · obtain ⟨kvs, e⟩ := Option.isSome_iff_exists.mp e
      obtain ⟨k, fz, vs, rfl, h1, _⟩ := dt_rel R r e
      simp only [Fs.isDr, h1]
  | popD =>
    have e : isD hv w = true := e
    cases w <;> first | (cases e; done) | skip
    obtain ⟨k, rfl, hm⟩ := r.i_ref
    simp only [isD] at e
    show Fs.isD h (.ref k) = true
    split at e
    · rename_i hn
      obtain ⟨u, h1, vs, rfl, h2⟩ := R.at_ref hm hn
      simp only [Fs.isD, h1]
    · rename_i hn
      obtain ⟨u, h1, vs, rfl, h2⟩ := R.at_ref hm hn
      simp only [Fs.isD, h1]
    · cases e
/-- what a method does -/
abbrev MtPost (Z : Zm) (ρ : List Nat) (h : Fs.Hep) (w : W) (hv' : Hep) (o : Option (Fs.Val × Fs.Hep)) : Prop := ∃ v h', o = some (v, h') ∧ Ext Z ρ h Z ρ h' ∧ SR Z ρ hv' h' ∧ RX Z ρ w v
theorem app_rel (R : SR Z ρ hv h) {u w : W} {ws : List W} {v : Fs.Val} {vs : List Fs.Val} (r : RX Z ρ u v) (ra : RWs Z ρ ws vs) (e : appM hv u ws = some (w, hv')) : MtPost Z ρ h w hv' (Fs.appM h v vs) := by
  unfold appM at e
  split at e
  · obtain ⟨m, rfl, hm⟩ := r.i_ref
    obtain ⟨x, rfl, rx⟩ := ra.one
    split at e
    · rename_i xs hn
      split at e
      · rename_i hl
        cases e
        obtain ⟨u, h1, ys, rfl, h2⟩ := R.at_ref hm hn
        obtain ⟨R', E'⟩ := R.write (ov := .lst _) (o := .lst (ys ++ [x])) hm ⟨_, rfl, h2.append (RWs.cons rx RWs.nil)⟩
        exact ⟨.non, _, by simp only [Fs.appM, h1]; rw [if_pos (by rw [← h2.length]; exact hl)], E', R', .of RW.mk_non⟩
      · cases e
    · cases e
  · cases e
theorem ext_rel (R : SR Z ρ hv h) {u w : W} {ws : List W} {v : Fs.Val} {vs : List Fs.Val} (r : RX Z ρ u v) (ra : RXs Z ρ ws vs) (e : extM hv u ws = some (w, hv')) : MtPost Z ρ h w hv' (Fs.extM h v vs) := by
  unfold extM at e
  split at e
  · obtain ⟨m, rfl, hm⟩ := r.i_ref
    obtain ⟨x, rfl, rx⟩ := ra.one
    split at e
    · rename_i xs zs hn hz
      split at e
      · rename_i hl
        cases e
        obtain ⟨u, h1, ys, rfl, h2⟩ := R.at_ref hm hn
        obtain ⟨us, f1, f2⟩ := lst_rel R rx hz
        obtain ⟨R', E'⟩ := R.write (ov := .lst _) (o := .lst (ys ++ us)) hm ⟨_, rfl, h2.append f2⟩
        exact ⟨.non, _, by simp only [Fs.extM, h1, f1]; rw [if_pos (by rw [← h2.length, ← f2.length]; exact hl)], E', R', .of RW.mk_non⟩
      · cases e
    · cases e
  · cases e
theorem pop_rel (R : SR Z ρ hv h) {u w : W} {ws : List W} {v : Fs.Val} {vs : List Fs.Val} (r : RX Z ρ u v) (ra : RWs Z ρ ws vs) (e : popM hv u ws = some (w, hv')) : MtPost Z ρ h w hv' (Fs.popM h v vs) := by
  unfold popM at e
  split at e
  · obtain ⟨m, rfl, hm⟩ := r.i_ref
    cases ra.inv_nil
    split at e
    · rename_i xs hn
      obtain ⟨y, e1, e2⟩ := map_some e
      cases e2
      obtain ⟨u, h1, ys, rfl, h2⟩ := R.at_ref hm hn
      obtain ⟨z, f1, f2⟩ := h2.at e1
      obtain ⟨R', E'⟩ := R.write (ov := .lst _) (o := .lst ys.dropLast) hm ⟨_, rfl, h2.dropLast⟩
      exact ⟨z, _, by simp only [Fs.popM, h1]; rw [← h2.length, f1]; rfl, E', R', .of f2⟩
    · cases e
  · obtain ⟨m, rfl, hm⟩ := r.i_ref
    obtain ⟨x, rfl, rx⟩ := ra.one
    cases rx.i_int
    split at e
    · rename_i xs hn
      split at e
      · rename_i hl
        obtain ⟨k, e0, e'⟩ := bind_some e
        obtain ⟨y, e1, e2⟩ := map_some e'
        cases e2
        obtain ⟨u, h1, ys, rfl, h2⟩ := R.at_ref hm hn
        obtain ⟨z, f1, f2⟩ := h2.at e1
        obtain ⟨R', E'⟩ := R.write (ov := .lst _) (o := .lst (ys.eraseIdx k)) hm ⟨_, rfl, h2.eraseIdx k⟩
        exact ⟨z, _, by simp only [Fs.popM, h1, if_pos hl]; rw [← h2.length, e0]; simp only [Option.bind_some]; rw [f1]; rfl, E', R', .of f2⟩
      · cases e
    · cases e
  · cases e
theorem popD_rel (R : SR Z ρ hv h) {u w : W} {ws : List W} {v : Fs.Val} {vs : List Fs.Val} (r : RX Z ρ u v) (ra : RWs Z ρ ws vs) (e : popD hv u ws = some (w, hv')) : MtPost Z ρ h w hv' (Fs.popD h v vs) := by
  unfold popD at e
  split at e
  · obtain ⟨m, rfl, hm⟩ := r.i_ref
    obtain ⟨x, rfl, rx⟩ := ra.one
    split at e
    · rename_i kvs hn
      obtain ⟨k, e0, e'⟩ := bind_some e
      obtain ⟨y, e1, e2⟩ := map_some e'
      cases e2
      obtain ⟨u, h1, ys, rfl, h2⟩ := R.at_ref hm hn
      rcases h2.look k with ⟨a1, a2⟩ | ⟨w', z, a1, a2, a3⟩
      · rw [a1] at e1; cases e1
      · rw [a1] at e1
        cases e1
        obtain ⟨R', E'⟩ := R.write (ov := .dK false _) (o := .dK false (drp ys k)) hm ⟨_, rfl, h2.drp k⟩
        exact ⟨z, _, by simp only [Fs.popD, h1]; rw [key_rel (.of rx) e0]; simp only [Option.bind_some]; rw [a2]; rfl, E', R', .of a3⟩
    · cases e
  · cases e
theorem rev_rel (R : SR Z ρ hv h) {u w : W} {ws : List W} {v : Fs.Val} {vs : List Fs.Val} (r : RX Z ρ u v) (ra : RWs Z ρ ws vs) (e : revM hv u ws = some (w, hv')) : MtPost Z ρ h w hv' (Fs.revM h v vs) := by
  unfold revM at e
  split at e
  · obtain ⟨m, rfl, hm⟩ := r.i_ref
    cases ra.inv_nil
    split at e
    · rename_i xs hn
      cases e
      obtain ⟨u, h1, ys, rfl, h2⟩ := R.at_ref hm hn
      obtain ⟨R', E'⟩ := R.write (ov := .lst _) (o := .lst ys.reverse) hm ⟨_, rfl, h2.reverse⟩
      exact ⟨.non, _, by simp only [Fs.revM, h1], E', R', .of RW.mk_non⟩
    · cases e
  · cases e
theorem get_rel (R : SR Z ρ hv h) {u w : W} {ws : List W} {v : Fs.Val} {vs : List Fs.Val} (r : RX Z ρ u v) (ra : RWs Z ρ ws vs) (e : getM hv u ws = some (w, hv')) : MtPost Z ρ h w hv' (Fs.getM h v vs) := by
  unfold getM at e
  split at e
  · obtain ⟨k', d', rfl, r1, r2⟩ := ra.two
    split at e
    · rename_i kvs e1
      obtain ⟨k, e2, e3⟩ := map_some e
      cases e3
      obtain ⟨m, fz, zs, rfl, h1, rk⟩ := dk_rel R r e1
      have := key_rel (.of r1) e2
      rcases rk.look k with ⟨a1, a2⟩ | ⟨w', z, a1, a2, a3⟩
      · exact ⟨d', _, by simp only [Fs.getM, h1]; rw [this]; simp only [Option.map_some, a2, Option.getD_none], .refl, R, by rw [a1]; exact .of r2⟩
      · exact ⟨z, _, by simp only [Fs.getM, h1]; rw [this]; simp only [Option.map_some, a2, Option.getD_some], .refl, R, by rw [a1]; exact .of a3⟩
    · split at e
      · rename_i kvs e1
        obtain ⟨k, e2, e3⟩ := map_some e
        cases e3
        obtain ⟨m, fz, zs, rfl, h1, rk⟩ := dt_rel R r e1
        have := keys_rel (.of r1) e2
        rcases rk.look k with ⟨a1, a2⟩ | ⟨w', z, a1, a2, a3⟩
        · exact ⟨d', _, by simp only [Fs.getM, h1]; rw [this]; simp only [Option.map_some, a2, Option.getD_none], .refl, R, by rw [a1]; exact .of r2⟩
        · exact ⟨z, _, by simp only [Fs.getM, h1]; rw [this]; simp only [Option.map_some, a2, Option.getD_some], .refl, R, by rw [a1]; exact .of a3⟩
      · cases e
  · cases e
theorem join_rel (R : SR Z ρ hv h) {u w : W} {ws : List W} {v : Fs.Val} {vs : List Fs.Val} (r : RX Z ρ u v) (ra : RXs Z ρ ws vs) (e : joinM hv u ws = some (w, hv')) : MtPost Z ρ h w hv' (Fs.joinM h v vs) := by
  unfold joinM at e
  split at e
  · cases r.i_str
    obtain ⟨x, rfl, rx⟩ := ra.one
    obtain ⟨ys, e1, e2⟩ := bind_some e
    obtain ⟨xs, e3, e4⟩ := bind_some e1
    obtain ⟨zs, f1, f2⟩ := lst_rel R rx e3
    split at e2
    · rename_i hl
      cases e2
      exact ⟨_, _, by simp only [Fs.joinM]; rw [f1, Option.bind_some, isSt_rel f2 e4, Option.bind_some, if_pos hl], .refl, R, .of RW.mk_str⟩
    · cases e2
  · cases e
theorem split_rel (R : SR Z ρ hv h) {u w : W} {ws : List W} {v : Fs.Val} {vs : List Fs.Val} (r : RX Z ρ u v) (ra : RWs Z ρ ws vs) (e : splitM hv u ws = some (w, hv')) : MtPost Z ρ h w hv' (Fs.splitM h v vs) := by
  unfold splitM at e
  split at e
  · cases r.i_str
    obtain ⟨x, rfl, rx⟩ := ra.one
    cases rx.i_str
    split at e
    · rename_i hl
      cases e
      exact ⟨_, _, by simp only [Fs.splitM]; rw [if_pos hl], .refl, R, .tl (RWs.mapE (fun _ => RW.mk_str) _)⟩
    · cases e
  · cases e
theorem start_rel (R : SR Z ρ hv h) {u w : W} {ws : List W} {v : Fs.Val} {vs : List Fs.Val} (r : RX Z ρ u v) (ra : RWs Z ρ ws vs) (e : startM hv u ws = some (w, hv')) : MtPost Z ρ h w hv' (Fs.startM h v vs) := by
  unfold startM at e
  split at e
  · cases r.i_str
    obtain ⟨x, rfl, rx⟩ := ra.one
    cases rx.i_str
    cases e
    exact ⟨_, _, rfl, .refl, R, .of RW.mk_bl⟩
  · cases e
theorem lower_rel (R : SR Z ρ hv h) {u w : W} {ws : List W} {v : Fs.Val} {vs : List Fs.Val} (r : RX Z ρ u v) (ra : RWs Z ρ ws vs) (e : lowerM hv u ws = some (w, hv')) : MtPost Z ρ h w hv' (Fs.lowerM h v vs) := by
  unfold lowerM at e
  split at e
  · cases r.i_str
    cases ra.inv_nil
    split at e
    · rename_i hl
      cases e
      exact ⟨_, _, by simp only [Fs.lowerM]; rw [if_pos hl], .refl, R, .of RW.mk_str⟩
    · cases e
  · cases e
theorem kp_eq {f : Fs.Hep → Fs.Val → List Fs.Val → Option (Fs.Val × Fs.Hep)} {v : Fs.Val} {ws : List W} {vs : List Fs.Val} (r : RWs Z ρ ws vs) : Fs.kp f h v vs = f h v vs := by
  unfold Fs.kp
  rw [if_pos r.noTl]
theorem mtK_rel (R : SR Z ρ hv h) {m : Mt} {u w : W} {ws : List W} {v : Fs.Val} {vs : List Fs.Val} (hk : Fs.keeps m = true) (r : RX Z ρ u v) (ra : RWs Z ρ ws vs) (e : mtF hv m u ws = some (w, hv')) : MtPost Z ρ h w hv' (Fs.mtF h m v vs) := by
  cases m with
  | append => simp only [Fs.mtF]; rw [kp_eq ra]; exact app_rel R r ra e
  | extend => cases hk
  | join => cases hk
  | pop => exact pop_rel R r ra e
  | reverse => exact rev_rel R r ra e
  | get => simp only [Fs.mtF]; rw [kp_eq ra]; exact get_rel R r ra e
  | popD => exact popD_rel R r ra e
  | split => exact split_rel R r ra e
  | startswith => exact start_rel R r ra e
  | lower => exact lower_rel R r ra e
theorem mtN_rel (R : SR Z ρ hv h) {m : Mt} {u w : W} {ws : List W} {v : Fs.Val} {vs : List Fs.Val} (hk : Fs.keeps m = false) (r : RX Z ρ u v) (ra : RXs Z ρ ws vs) (e : mtF hv m u ws = some (w, hv')) : MtPost Z ρ h w hv' (Fs.mtF h m v vs) := by
  cases m with
  | extend => exact ext_rel R r ra e
  | join => exact join_rel R r ra e
  | _ => cases hk
/-! ### stores -/
theorem setI_rel (R : SR Z ρ hv h) {u i w : W} {u' i' v : Fs.Val} {hv' : Hep} (r1 : RX Z ρ u u') (r2 : RX Z ρ i i') (r3 : RW Z ρ w v) (e : setI hv u i w = some hv') : ∃ h', Fs.setI h u' i' v = some h' ∧ Ext Z ρ h Z ρ h' ∧ SR Z ρ hv' h' := by
  unfold setI at e
  split at e
  · obtain ⟨m, rfl, hm⟩ := r1.i_ref
    split at e
    · rename_i xs hn
      split at e
      · cases r2.i_int
        obtain ⟨k, e1, e2⟩ := map_some e
        cases e2
        obtain ⟨o, h1, ys, rfl, h2⟩ := R.at_ref hm hn
        obtain ⟨R', E'⟩ := R.write (ov := .lst _) (o := .lst (ys.set k v)) hm ⟨_, rfl, h2.set k r3⟩
        exact ⟨_, by simp only [Fs.setI, h1]; rw [← h2.length, e1]; rfl, E', R'⟩
      · cases e
    · rename_i kvs hn
      obtain ⟨k, e1, e2⟩ := bind_some e
      split at e2
      · rename_i hl
        cases e2
        obtain ⟨o, h1, ys, rfl, h2⟩ := R.at_ref hm hn
        obtain ⟨R', E'⟩ := R.write (ov := .dK false _) (o := .dK false (put ys k v)) hm ⟨_, rfl, h2.put k r3⟩
        exact ⟨_, by simp only [Fs.setI, h1]; rw [key_rel r2 e1]; simp only [Option.bind_some]; rw [if_pos (by rw [← h2.length]; exact hl)], E', R'⟩
      · cases e2
    · rename_i kvs hn
      obtain ⟨k, e1, e2⟩ := bind_some e
      split at e2
      · rename_i hl
        cases e2
        obtain ⟨o, h1, ys, rfl, h2⟩ := R.at_ref hm hn
        obtain ⟨R', E'⟩ := R.write (ov := .dT false _) (o := .dT false (put ys k v)) hm ⟨_, rfl, h2.put k r3⟩
        exact ⟨_, by simp only [Fs.setI, h1]; rw [keys_rel r2 e1]; simp only [Option.bind_some]; rw [if_pos (by rw [← h2.length]; exact hl)], E', R'⟩
      · cases e2
    · cases e
  · cases e
theorem setFO_rel (R : SR Z ρ hv h) {u w : W} {u' v : Fs.Val} {c f : Str} {hv' : Hep} (r1 : RX Z ρ u u') (r3 : RW Z ρ w v) (e : setFO hv u c f w = some hv') : ∃ h', Fs.setFO h u' c f v = some h' ∧ Ext Z ρ h Z ρ h' ∧ SR Z ρ hv' h' := by
  unfold setFO at e
  split at e
  · obtain ⟨m, rfl, hm⟩ := r1.i_ref
    split at e
    · rename_i d fs hn
      split at e
      · rename_i hd
        cases e
        obtain ⟨o, h1, ys, rfl, h2⟩ := R.at_ref hm hn
        obtain ⟨R', E'⟩ := R.write (ov := .ins c _) (o := .ins c (setF f v ys)) hm ⟨_, rfl, h2.setF f r3⟩
        exact ⟨_, by simp only [Fs.setFO, h1]; rw [if_pos ⟨hd.1, by rw [← h2.length]; exact hd.2⟩], E', R'⟩
      · cases e
    · cases e
  · cases e
end
end Fw
set_option Elab.async false
set_option linter.all false
set_option maxRecDepth 100000
set_option maxHeartbeats 4000000
set_option autoImplicit false
set_option relaxedAutoImplicit false
namespace Fw
open PySem L2
open Fs (lim keyOf keysOf kVal look put drp setF Bop Cop Ty Tn isTn cut Blt Mt Tg E Es Oe I S Ss Def)
def RY (Z : Zm) (ρ : List Nat) (x : Ex) (y : Fs.Ex) : Prop := y.cls = x.cls ∧ RK Z ρ x.fs y.fs
/-- results -/
def RR {α β : Type} (Q : Zm → List Nat → α → β → Prop) (Z : Zm) (ρ : List Nat) (h : Fs.Hep) : Res α → Fs.Res β → Prop
  | .bad, _ => True
  | .ok a hv', r => ∃ b h' Z' ρ', r = .ok b h' ∧ Ext Z ρ h Z' ρ' h' ∧ SR Z' ρ' hv' h' ∧ Q Z' ρ' a b
  | .ex x hv', r => ∃ y h' Z' ρ', r = .ex y h' ∧ Ext Z ρ h Z' ρ' h' ∧ SR Z' ρ' hv' h' ∧ RY Z' ρ' x y
def EQ {α : Type} : Zm → List Nat → α → α → Prop := fun _ _ a b => b = a
/-- slots -/
def RV (Z : Zm) (ρ : List Nat) (σv : Evn) (σ : Fs.Evn) : Prop := σv.length = σ.length ∧ ∀ (i : Nat) w, σv[i]? = some (some w) → ∃ v, σ[i]? = some (some v) ∧ RW Z ρ w v
def OR (F : Orc) (G : Fs.Orc) : Prop := ∀ (f : Str) (ws : List W) (hv : Hep) (Z : Zm) (ρ : List Nat) (h : Fs.Hep) (vs : List Fs.Val), SR Z ρ hv h → RWs Z ρ ws vs → RR RW Z ρ h (F f ws hv) (G f vs h)
section
variable {Z Z' Z1 : Zm} {ρ ρ' ρ1 : List Nat} {hv hv' : Hep} {h h' h1 : Fs.Hep} {F : Orc} {G : Fs.Orc} {σv : Evn} {σ : Fs.Evn}
theorem RV.low (e : Low Z ρ Z' ρ') (r : RV Z ρ σv σ) : RV Z' ρ' σv σ := ⟨r.1, fun i w e1 => by
  obtain ⟨v, h1, h2⟩ := r.2 i w e1
  exact ⟨v, h1, h2.low e⟩⟩
theorem RY.low (e : Low Z ρ Z' ρ') {x : Ex} {y : Fs.Ex} (r : RY Z ρ x y) : RY Z' ρ' x y := ⟨r.1, r.2.low e⟩
theorem RR.ext {α β : Type} {Q : Zm → List Nat → α → β → Prop} {r : Res α} {r' : Fs.Res β} (e : Ext Z1 ρ1 h1 Z ρ h) (p : RR Q Z ρ h r r') : RR Q Z1 ρ1 h1 r r' := by
  cases r with
  | bad => trivial
  | ok a hv' => obtain ⟨b, h', Z', ρ', e1, e2, e3, e4⟩ := p; exact ⟨b, h', Z', ρ', e1, e.trans e2, e3, e4⟩
  | ex a hv' => obtain ⟨b, h', Z', ρ', e1, e2, e3, e4⟩ := p; exact ⟨b, h', Z', ρ', e1, e.trans e2, e3, e4⟩
theorem RR.bind {α β γ δ : Type} {Q : Zm → List Nat → α → β → Prop} {Q2 : Zm → List Nat → γ → δ → Prop} {r : Res α} {r' : Fs.Res β} {f : α → Hep → Res γ} {f' : β → Fs.Hep → Fs.Res δ} (p : RR Q Z ρ h r r')
    (k : ∀ a b hv1 h1 Z1 ρ1, Ext Z ρ h Z1 ρ1 h1 → SR Z1 ρ1 hv1 h1 → Q Z1 ρ1 a b → RR Q2 Z1 ρ1 h1 (f a hv1) (f' b h1)) : RR Q2 Z ρ h (r.bind f) (r'.bind f') := by
  cases r with
  | bad => trivial
  | ok a hv' =>
    obtain ⟨b, h', Z', ρ', rfl, e2, e3, e4⟩ := p
    exact (k a b hv' h' Z' ρ' e2 e3 e4).ext e2
  | ex a hv' => obtain ⟨b, h', Z', ρ', rfl, e2, e3, e4⟩ := p; exact ⟨b, h', Z', ρ', rfl, e2, e3, e4⟩
theorem RR.ok {α β : Type} {Q : Zm → List Nat → α → β → Prop} {a : α} {b : β} (R : SR Z ρ hv h) (q : Q Z ρ a b) : RR Q Z ρ h (.ok a hv) (.ok b h) := ⟨b, h, Z, ρ, rfl, .refl, R, q⟩
theorem RR.of {α β : Type} {Q : Zm → List Nat → α → β → Prop} {o : Option α} {o' : Option β} (R : SR Z ρ hv h) (q : ∀ a, o = some a → ∃ b, o' = some b ∧ Q Z ρ a b) : RR Q Z ρ h (Res.of o hv) (Fs.Res.of o' h) := by
  cases o with
  | none => trivial
  | some a =>
    obtain ⟨b, rfl, q1⟩ := q a rfl
    exact RR.ok R q1
theorem RR.imp {α β : Type} {Q Q' : Zm → List Nat → α → β → Prop} {r : Res α} {r' : Fs.Res β} (p : RR Q Z ρ h r r') (k : ∀ Z ρ a b, Q Z ρ a b → Q' Z ρ a b) : RR Q' Z ρ h r r' := by
  cases r with
  | bad => trivial
  | ok a hv' => obtain ⟨b, h', Z', ρ', e1, e2, e3, e4⟩ := p; exact ⟨b, h', Z', ρ', e1, e2, e3, k _ _ _ _ e4⟩
  | ex a hv' => exact p
/-! ### targets -/
theorem RV.set {i : Nat} {w : W} {v : Fs.Val} (r : RV Z ρ σv σ) (hw : RW Z ρ w v) : RV Z ρ (σv.set i (some w)) (σ.set i (some v)) := by
  refine ⟨by simp [r.1], fun j u e => ?_⟩
  by_cases hj : i = j
  · subst hj
    have hl : i < σv.length := by
      have := (List.getElem?_eq_some_iff.mp e).1
      simpa using this
    rw [List.getElem?_set_self hl] at e
    cases e
    exact ⟨v, List.getElem?_set_self (by rw [← r.1]; exact hl), hw⟩
  · rw [List.getElem?_set_ne hj] at e ⊢
    exact r.2 j u e
theorem RV.wipe1 {i : Nat} (r : RV Z ρ σv σ) : RV Z ρ (σv.set i none) σ := by
  refine ⟨by simp [r.1], fun j u e => ?_⟩
  by_cases hj : i = j
  · subst hj
    have hl : i < σv.length := by
      have := (List.getElem?_eq_some_iff.mp e).1
      simpa using this
    rw [List.getElem?_set_self hl] at e
    cases e
  · rw [List.getElem?_set_ne hj] at e
    exact r.2 j u e
theorem RV.wipe : ∀ (l : List Nat) {σv : Evn} {σ : Fs.Evn}, RV Z ρ σv σ → RV Z ρ (wipeE σv l) σ
  | [], _, _, r => r
  | i :: l, _, _, r => (RV.wipe l r).wipe1
theorem RV.wipe2 : ∀ (l : List Nat) {σv : Evn} {σ : Fs.Evn}, RV Z ρ σv σ → RV Z ρ (wipeE σv l) (Fs.wipeE σ l)
  | [], _, _, r => r
  | i :: l, σv, σ, r => by
    have ih := RV.wipe2 l r
    refine ⟨by simp [wipeE, Fs.wipeE, ih.1], fun j u e => ?_⟩
    unfold wipeE at e
    unfold Fs.wipeE
    by_cases hj : i = j
    · subst hj
      have hl : i < (wipeE σv l).length := by
        have := (List.getElem?_eq_some_iff.mp e).1
        simpa using this
      rw [List.getElem?_set_self hl] at e
      cases e
    · rw [List.getElem?_set_ne hj] at e ⊢
      exact ih.2 j u e
mutual
theorem asg_rel (R : SR Z ρ hv h) : ∀ (t : Tg) {w : W} {v : Fs.Val} {σv σv' : Evn} {σ : Fs.Evn}, RW Z ρ w v → RV Z ρ σv σ → asgT hv t w σv = some σv' → ∃ σ', Fs.asgT h t v σ = some σ' ∧ RV Z ρ σv' σ'
  | .nm i, w, v, σv, σv', σ, r, re, e => by
    unfold asgT at e
    split at e
    · rename_i hl
      cases e
      exact ⟨_, by unfold Fs.asgT; rw [if_pos (by rw [← re.1]; exact hl)], re.set r⟩
    · cases e
  | .tp ts, w, v, σv, σv', σ, r, re, e => by
    cases w <;> first | (unfold asgT at e; cases e; done) | skip
    · obtain ⟨vs, rfl, h2⟩ := r.i_tup
      unfold asgT at e
      unfold Fs.asgT
      exact asgs_rel R ts h2 re e
    · obtain ⟨m, rfl, hm⟩ := r.i_ref
      unfold asgT at e
      simp only at e
      split at e
      · rename_i xs hn
        obtain ⟨u, h1, vs, rfl, h2⟩ := R.at_ref hm hn
        unfold Fs.asgT
        simp only [h1]
        exact asgs_rel R ts h2 re e
      · cases e
    · obtain ⟨m, rfl, hm⟩ := r.i_fl
      obtain ⟨vs, h1, h2⟩ := R.at_fl hm
      unfold asgT at e
      unfold Fs.asgT
      simp only [h1]
      exact asgs_rel R ts h2 re e
theorem asgs_rel (R : SR Z ρ hv h) : ∀ (ts : List Tg) {ws : List W} {vs : List Fs.Val} {σv σv' : Evn} {σ : Fs.Evn}, RWs Z ρ ws vs → RV Z ρ σv σ → asgT.asgTs hv ts ws σv = some σv' → ∃ σ', Fs.asgT.asgTs h ts vs σ = some σ' ∧ RV Z ρ σv' σ'
  | [], ws, vs, σv, σv', σ, r, re, e => by
    cases ws with
    | nil =>
      cases r.inv_nil
      unfold asgT.asgTs at e
      cases e
      exact ⟨σ, by unfold Fs.asgT.asgTs; rfl, re⟩
    | cons _ _ => unfold asgT.asgTs at e; cases e
  | t :: ts, ws, vs, σv, σv', σ, r, re, e => by
    cases ws with
    | nil => unfold asgT.asgTs at e; cases e
    | cons w ws =>
      obtain ⟨v, s, rfl, h1, h2⟩ := r.inv_cons
      unfold asgT.asgTs at e
      obtain ⟨σ1, e1, e2⟩ := bind_some e
      obtain ⟨σ2, f1, f2⟩ := asg_rel R t h1 re e1
      obtain ⟨σ3, g1, g2⟩ := asgs_rel R ts h2 f2 e2
      exact ⟨σ3, by unfold Fs.asgT.asgTs; rw [f1]; exact g1, g2⟩
end
/-! ### walks -/
/-- the turns of ours are theirs -/
def IW (Z : Zm) (ρ : List Nat) (h : Fs.Hep) (w : Wk) (w' : Fs.Wk) : Prop := ∀ (Z' : Zm) (ρ' : List Nat) (hv' : Hep) (h' : Fs.Hep), Ext Z ρ h Z' ρ' h' → SR Z' ρ' hv' h' → ∀ i : Nat,
  (itAt hv' w i = some none → Fs.itAt h' w' i = some none) ∧ (∀ x, itAt hv' w i = some (some x) → ∃ v, Fs.itAt h' w' i = some (some v) ∧ RW Z' ρ' x v)
theorem IW.ext {w : Wk} {w' : Fs.Wk} (e : Ext Z ρ h Z' ρ' h') (i : IW Z ρ h w w') : IW Z' ρ' h' w w' := fun Z2 ρ2 hv2 h2 e2 R2 => i Z2 ρ2 hv2 h2 (e.trans e2) R2
/-- given items -/
theorem iw_fix {xs : List W} {w' : Fs.Wk} (f : ∀ (Z' : Zm) (ρ' : List Nat) (hv' : Hep) (h' : Fs.Hep), Ext Z ρ h Z' ρ' h' → SR Z' ρ' hv' h' → ∃ vs, RWs Z' ρ' xs vs ∧ ∀ i, Fs.itAt h' w' i = some vs[i]?) : IW Z ρ h (.fix xs) w' := fun Z' ρ' hv' h' e R i => by
  obtain ⟨vs, r, g⟩ := f Z' ρ' hv' h' e R
  refine ⟨fun z => ?_, fun x z => ?_⟩
  · have : xs[i]? = none := by simpa [itAt] using z
    rw [g, r.no this]
  · have : xs[i]? = some x := by simpa [itAt] using z
    obtain ⟨v, h1, h2⟩ := r.at this
    exact ⟨v, by rw [g, h1], h2⟩
theorem iw_of {xs : List W} {vs : List Fs.Val} (r : RWs Z ρ xs vs) : IW Z ρ h (.fix xs) (.fix vs) := iw_fix fun Z' ρ' hv' h' e R => ⟨vs, RWs.low e.low _ _ r, fun _ => rfl⟩
theorem RWs.numd : ∀ {xs : List W} {vs : List Fs.Val} (k : Nat), RWs Z ρ xs vs → ∃ us, RWs Z ρ (numd k xs) us ∧ ∀ i : Nat, us[i]? = vs[i]?.map fun x => .tup [.int ((k + i : Nat) : Int), x]
  | [], _, k, r => by cases r.inv_nil; exact ⟨[], RWs.nil, fun i => by simp⟩
  | x :: xs, _, k, r => by
    obtain ⟨v, s, rfl, h1, h2⟩ := r.inv_cons
    obtain ⟨us, a, b⟩ := RWs.numd (k + 1) h2
    refine ⟨.tup [.int (k : Int), v] :: us, RWs.cons (RW.mk_tup (RWs.cons RW.mk_int (RWs.cons h1 RWs.nil))) a, fun i => ?_⟩
    cases i with
    | zero => simp
    | succ i =>
      rw [List.getElem?_cons_succ, List.getElem?_cons_succ, b i]
      have : k + 1 + i = k + (i + 1) := by omega
      rw [this]
theorem numd_length : ∀ (xs : List W) (k : Nat), (numd k xs).length = xs.length
  | [], _ => rfl
  | x :: xs, k => by simp [numd, numd_length xs (k + 1)]
theorem RWs.prs : ∀ {xs ys : List W} {vs us : List Fs.Val}, RWs Z ρ xs vs → RWs Z ρ ys us → ∃ ps, RWs Z ρ (prs xs ys) ps ∧ ∀ i : Nat, ps[i]? = (match vs[i]?, us[i]? with
      | some x, some y => some (.tup [x, y])
      | _, _ => none)
  | [], ys, _, us, r1, r2 => by cases r1.inv_nil; exact ⟨[], by unfold Fw.prs; exact RWs.nil, fun i => by simp⟩
  | x :: xs, [], vs, _, r1, r2 => by
    cases r2.inv_nil
    refine ⟨[], by unfold Fw.prs; exact RWs.nil, fun i => ?_⟩
    cases vs[i]? <;> simp
  | x :: xs, y :: ys, vs, us, r1, r2 => by
    obtain ⟨v, s, rfl, h1, h2⟩ := r1.inv_cons
    obtain ⟨u, t, rfl, g1, g2⟩ := r2.inv_cons
    obtain ⟨ps, a, b⟩ := RWs.prs h2 g2
    refine ⟨.tup [v, u] :: ps, RWs.cons (RW.mk_tup (RWs.cons h1 (RWs.cons g1 RWs.nil))) a, fun i => ?_⟩
    cases i with
    | zero => simp
    | succ i =>
      rw [List.getElem?_cons_succ, List.getElem?_cons_succ, List.getElem?_cons_succ, b i]
theorem prs_length : ∀ (xs ys : List W), (prs xs ys).length ≤ xs.length
  | [], _ => by unfold prs; simp
  | x :: xs, [] => by unfold prs; simp
  | x :: xs, y :: ys => by
    have := prs_length xs ys
    simp [prs, this]
/-- where the items stand -/
def SrR (Z : Zm) (ρ : List Nat) : Src → Fs.Src → Prop
  | .snap xs, s => (∃ vs, s = .snap vs ∧ RWs Z ρ xs vs) ∨ ∃ m, s = .live m ∧ Z m = some (.fl xs)
  | .live n, s => ∃ m, s = .live m ∧ ρ[n]? = some m
theorem src_rel (R : SR Z ρ hv h) {u : W} {v : Fs.Val} {s : Src} (r : RX Z ρ u v) (e : srcOf hv u = some s) : ∃ s', Fs.srcOf h v = some s' ∧ SrR Z ρ s s' := by
  cases u <;> first | (cases e; done) | skip
  · obtain ⟨m, rfl, hm⟩ := r.i_ref
    simp only [srcOf] at e
    split at e
    · rename_i xs hn
      cases e
      obtain ⟨u, h1, vs, rfl, h2⟩ := R.at_ref hm hn
      exact ⟨.live m, by simp only [Fs.srcOf, h1], m, rfl, hm⟩
    · rename_i xs hn
      cases e
      obtain ⟨u, h1, vs, rfl, h2⟩ := R.at_ref hm hn
      exact ⟨.live m, by simp only [Fs.srcOf, h1], m, rfl, hm⟩
    · cases e
  · cases e
    rcases r with ⟨ys, vs, e3, rfl, h3⟩ | r
    · cases e3; exact ⟨.snap vs, rfl, .inl ⟨vs, rfl, h3⟩⟩
    · obtain ⟨m, rfl, hm⟩ := r.i_fl
      obtain ⟨vs, h1, h2⟩ := R.at_fl hm
      exact ⟨.live m, by simp only [Fs.srcOf, h1], .inr ⟨m, rfl, hm⟩⟩
theorem srcAt_rel (R : SR Z ρ hv h) {s : Src} {s' : Fs.Src} {xs : List W} (r : SrR Z ρ s s') (e : srcAt hv s = some xs) : ∃ vs, Fs.srcAt h s' = some vs ∧ RWs Z ρ xs vs := by
  cases s with
  | snap ys =>
    cases e
    rcases r with ⟨vs, rfl, h2⟩ | ⟨m, rfl, hm⟩
    · exact ⟨vs, rfl, h2⟩
    · obtain ⟨vs, h1, h2⟩ := R.at_fl hm
      exact ⟨vs, by simp only [Fs.srcAt, h1], h2⟩
  | live n =>
    obtain ⟨m, rfl, hm⟩ := r
    simp only [srcAt] at e
    split at e
    · rename_i ys hn
      cases e
      obtain ⟨u, h1, vs, rfl, h2⟩ := R.at_ref hm hn
      exact ⟨vs, by simp only [Fs.srcAt, h1], h2⟩
    · rename_i ys hn
      cases e
      obtain ⟨u, h1, vs, rfl, h2⟩ := R.at_ref hm hn
      exact ⟨vs, by simp only [Fs.srcAt, h1], h2⟩
    · cases e
theorem SrR.low (e : Low Z ρ Z' ρ') {s : Src} {s' : Fs.Src} (r : SrR Z ρ s s') : SrR Z' ρ' s s' := by
  cases s with
  | snap ys =>
    rcases r with ⟨vs, rfl, h2⟩ | ⟨m, rfl, hm⟩
    · exact .inl ⟨vs, rfl, RWs.low e _ _ h2⟩
    · exact .inr ⟨m, rfl, e.zs _ _ hm⟩
  | live n => obtain ⟨m, rfl, hm⟩ := r; exact ⟨m, rfl, e.at_ _ _ hm⟩
/-- a walk, as it begins -/
def WR (Z : Zm) (ρ : List Nat) (hv : Hep) (h : Fs.Hep) (w : Wk) (w' : Fs.Wk) : Prop := IW Z ρ h w w' ∧ (∀ xs, w = .fix xs → xs.length ≤ Fs.itLen h w') ∧ ((∀ xs, w ≠ .fix xs) → Fs.itLen h w' = itLen hv w)
theorem wr_fix {xs : List W} {w' : Fs.Wk} (i : IW Z ρ h (.fix xs) w') (l : xs.length ≤ Fs.itLen h w') : WR Z ρ hv h (.fix xs) w' := ⟨i, fun ys e => by cases e; exact l, fun n => absurd rfl (n xs)⟩
theorem wr_live {w : Wk} {w' : Fs.Wk} (i : IW Z ρ h w w') (l : Fs.itLen h w' = itLen hv w) (n : ∀ xs, w ≠ .fix xs) : WR Z ρ hv h w w' := ⟨i, fun ys e => absurd e (n ys), fun _ => l⟩
theorem RWs.map_fst_k {kvs : List (Key × W)} {zs : List (Key × Fs.Val)} (r : RK Z ρ kvs zs) : RWs Z ρ (kkeys kvs) (zs.map fun kv => kVal kv.1) := RK.mapW (f := fun kv => kW kv.1) (g := fun kv => kVal kv.1) (fun k w v _ => kW_rel k) r
theorem RWs.map_fst_t {kvs : List (List Key × W)} {zs : List (List Key × Fs.Val)} (r : RK Z ρ kvs zs) : RWs Z ρ (tkeys kvs) (zs.map fun kv => .tup (kv.1.map kVal)) := RK.mapW (f := fun (kv : List Key × W) => W.tup (kv.1.map kW)) (g := fun (kv : List Key × Fs.Val) => Fs.Val.tup (kv.1.map kVal)) (fun k w v _ => kWs_rel k) r
theorem RWs.map_items {kvs : List (Key × W)} {zs : List (Key × Fs.Val)} (r : RK Z ρ kvs zs) : RWs Z ρ (kitems kvs) (zs.map fun kv => .tup [kVal kv.1, kv.2]) := RK.mapW (f := fun kv => .tup [kW kv.1, kv.2]) (g := fun kv => .tup [kVal kv.1, kv.2]) (fun k w v r => RW.mk_tup (RWs.cons (kW_rel k) (RWs.cons r RWs.nil))) r
theorem RWs.map_vals {kvs : List (Key × W)} {zs : List (Key × Fs.Val)} (r : RK Z ρ kvs zs) : RWs Z ρ (kvals kvs) (zs.map fun kv => kv.2) := RK.mapW (f := fun kv => kv.2) (g := fun kv => kv.2) (fun k w v r => r) r
/-- what `for x in u` walks, when no dict is locked for it -/
theorem wk_rel (R : SR Z ρ hv h) {u : W} {v : Fs.Val} {w : Wk} (r : RX Z ρ u v) (e : wkOf hv u = some w) :
    (Fs.keysL h v = none ∧ Fs.dictOf h v = none ∧ ∃ w', Fs.wkOf h v = some w' ∧ WR Z ρ hv h w w') ∨ ∃ vs, Fs.dictOf h v = none ∧ Fs.keysL h v = some vs ∧ WR Z ρ hv h w (.fix vs) := by
  have fixd : ∀ {xs : List W} {vs : List Fs.Val}, RWs Z ρ xs vs → WR Z ρ hv h (.fix xs) (.fix vs) := fun r => wr_fix (iw_of r) (Nat.le_of_eq r.length)
  cases u with
  | tup xs => cases e; obtain ⟨vs, rfl, h2⟩ := r.i_tup; exact .inl ⟨rfl, rfl, _, rfl, fixd h2⟩
  | str s => cases e; cases r.i_str; exact .inl ⟨rfl, rfl, _, rfl, fixd (RWs.mapE (fun _ => RW.mk_str) _)⟩
  | fl xs =>
    cases e
    rcases r with ⟨ys, vs, e3, rfl, h3⟩ | r
    · cases e3
      refine .inl ⟨rfl, rfl, .lst (.snap vs), rfl, wr_fix (iw_fix fun Z' ρ' hv' h' e R => ⟨vs, RWs.low e.low _ _ h3, fun i => rfl⟩) ?_⟩
      rw [h3.length]
      exact Nat.le_refl _
    · obtain ⟨m, rfl, hm⟩ := r.i_fl
      obtain ⟨vs, h1, h2⟩ := R.at_fl hm
      refine .inl ⟨by simp only [Fs.keysL, Fs.keysD, h1], by simp only [Fs.dictOf, h1], .lst (.live m), by simp only [Fs.wkOf, Fs.srcOf, h1, Option.map_some], wr_fix (iw_fix fun Z' ρ' hv' h' e R => ?_) ?_⟩
      · obtain ⟨vs', h1', h2'⟩ := R.at_fl (e.zs _ _ hm)
        exact ⟨vs', h2', fun i => by simp only [Fs.itAt, Fs.srcAt, h1', Option.map_some]⟩
      · simp only [Fs.itLen, Fs.srcAt, h1, Option.getD_some]
        rw [h2.length]
        exact Nat.le_refl _
  | ref n =>
    obtain ⟨m, rfl, hm⟩ := r.i_ref
    have liv : ∀ {xs : List W}, srcAt hv (.live n) = some xs → WR Z ρ hv h (.lst n) (.lst (.live m)) := by
      intro xs ex
      obtain ⟨vs, f1, f2⟩ := srcAt_rel (s := .live n) (s' := .live m) R ⟨m, rfl, hm⟩ ex
      refine wr_live (fun Z' ρ' hv' h' e R i => ?_) ?_ (fun _ z => nomatch z)
      · have key : ∀ o, itAt hv' (.lst n) i = some o → ∃ vs ys, srcAt hv' (.live n) = some ys ∧ Fs.srcAt h' (.live m) = some vs ∧ RWs Z' ρ' ys vs ∧ ys[i]? = o := by
          intro o eo
          obtain ⟨ys, e1, e2⟩ := map_some (show (srcAt hv' (.live n)).map (fun xs => xs[i]?) = some o from eo)
          obtain ⟨vs, g1, g2⟩ := srcAt_rel (s := .live n) (s' := .live m) R ⟨m, rfl, e.low.at_ _ _ hm⟩ e1
          exact ⟨vs, ys, e1, g1, g2, e2⟩
        refine ⟨fun z => ?_, fun x z => ?_⟩
        · obtain ⟨vs, ys, _, g1, g2, g3⟩ := key none z
          show (Fs.srcAt h' (.live m)).map _ = _
          rw [g1]
          exact congrArg some (g2.no g3)
        · obtain ⟨vs, ys, _, g1, g2, g3⟩ := key (some x) z
          obtain ⟨v, k1, k2⟩ := g2.at g3
          refine ⟨v, ?_, k2⟩
          show (Fs.srcAt h' (.live m)).map _ = _
          rw [g1]
          exact congrArg some k1
      · show ((Fs.srcAt h (.live m)).getD []).length = ((srcAt hv (.live n)).getD []).length
        rw [f1, ex]
        exact f2.length.symm
    simp only [wkOf] at e
    split at e
    · rename_i xs hn
      cases e
      obtain ⟨u, h1, vs, rfl, h2⟩ := R.at_ref hm hn
      exact .inl ⟨by simp only [Fs.keysL, Fs.keysD, h1], by simp only [Fs.dictOf, h1], _, by simp only [Fs.wkOf, Fs.srcOf, h1, Option.map_some], liv (xs := xs) (by simp only [srcAt, hn])⟩
    · rename_i xs hn
      cases e
      obtain ⟨u, h1, vs, rfl, h2⟩ := R.at_ref hm hn
      exact .inl ⟨by simp only [Fs.keysL, Fs.keysD, h1], by simp only [Fs.dictOf, h1], _, by simp only [Fs.wkOf, Fs.srcOf, h1, Option.map_some], liv (xs := xs) (by simp only [srcAt, hn])⟩
    · rename_i kvs hn
      cases e
      obtain ⟨u, h1, zs, rfl, h2⟩ := R.at_ref hm hn
      exact .inr ⟨_, by simp only [Fs.dictOf, h1], by simp only [Fs.keysL, Fs.keysD, h1], fixd (RWs.map_fst_k h2)⟩
    · rename_i kvs hn
      cases e
      obtain ⟨u, h1, zs, rfl, h2⟩ := R.at_ref hm hn
      exact .inr ⟨_, by simp only [Fs.dictOf, h1], by simp only [Fs.keysL, Fs.keysD, h1], fixd (RWs.map_fst_t h2)⟩
    · cases e
  | _ => cases e
theorem enum_rel (R : SR Z ρ hv h) {u : W} {v : Fs.Val} {w : Wk} (r : RX Z ρ u v) (e : enumOf hv u = some w) : ∃ s, Fs.srcOf h v = some s ∧ WR Z ρ hv h w (.enum s) := by
  by_cases hf : ∃ xs, u = .fl xs
  · obtain ⟨xs, rfl⟩ := hf
    cases e
    obtain ⟨s', g1, g2⟩ := src_rel R r (s := .snap xs) rfl
    obtain ⟨vs, k1, k2⟩ := srcAt_rel R g2 (xs := xs) rfl
    refine ⟨s', g1, wr_fix (iw_fix fun Z' ρ' hv' h' e R => ?_) ?_⟩
    · obtain ⟨vs', k1', k2'⟩ := srcAt_rel R (g2.low e.low) (xs := xs) rfl
      obtain ⟨us, a, b⟩ := RWs.numd 0 k2'
      refine ⟨us, a, fun i => ?_⟩
      show (Fs.srcAt h' s').map _ = _
      rw [k1', b i]
      simp
    · rw [numd_length]
      show _ ≤ ((Fs.srcAt h s').getD []).length
      rw [k1, k2.length]
      exact Nat.le_refl _
  · have e' : (match srcOf hv u with
      | some (.live n) => some (Wk.enum n)
      | _ => none) = some w := by
      unfold enumOf at e
      split at e
      · exact absurd ⟨_, rfl⟩ hf
      · exact e
    split at e'
    · rename_i n es
      cases e'
      obtain ⟨s', g1, g2⟩ := src_rel R r es
      have hx : ∃ xs, srcAt hv (.live n) = some xs := by
        cases u <;> first | (cases es; done) | skip
        · simp only [srcOf] at es
          split at es
          · rename_i xs hn; cases es; exact ⟨xs, by simp only [srcAt, hn]⟩
          · rename_i xs hn; cases es; exact ⟨xs, by simp only [srcAt, hn]⟩
          · cases es
      obtain ⟨xs, ex⟩ := hx
      obtain ⟨vs, k1, k2⟩ := srcAt_rel R g2 ex
      refine ⟨s', g1, wr_live (fun Z' ρ' hv' h' e R i => ?_) ?_ (fun _ z => nomatch z)⟩
      · have key : ∀ o, itAt hv' (.enum n) i = some o → ∃ vs ys, srcAt hv' (.live n) = some ys ∧ Fs.srcAt h' s' = some vs ∧ RWs Z' ρ' ys vs ∧ ys[i]?.map (fun x => W.tup [.int i, x]) = o := by
          intro o eo
          obtain ⟨ys, e1, e2⟩ := map_some (show (srcAt hv' (.live n)).map (fun xs => xs[i]?.map fun x => W.tup [.int i, x]) = some o from eo)
          obtain ⟨vs, g1, g2⟩ := srcAt_rel R (g2.low e.low) e1
          exact ⟨vs, ys, e1, g1, g2, e2⟩
        refine ⟨fun z => ?_, fun x z => ?_⟩
        · obtain ⟨vs, ys, _, a1, a2, a3⟩ := key none z
          show (Fs.srcAt h' s').map _ = _
          rw [a1]
          cases q : ys[i]? with
          | none => simp [a2.no q]
          | some y => rw [q] at a3; cases a3
        · obtain ⟨vs, ys, _, a1, a2, a3⟩ := key (some x) z
          obtain ⟨y, b1, b2⟩ := map_some a3
          obtain ⟨v, c1, c2⟩ := a2.at b1
          refine ⟨.tup [.int i, v], ?_, b2 ▸ RW.mk_tup (RWs.cons RW.mk_int (RWs.cons c2 RWs.nil))⟩
          show (Fs.srcAt h' s').map _ = _
          rw [a1]
          simp [c1]
      · show ((Fs.srcAt h s').getD []).length = ((srcAt hv (.live n)).getD []).length
        rw [k1, ex]
        exact k2.length.symm
    · cases e'
theorem srcOf_at {u : W} {s : Src} (es : srcOf hv u = some s) : ∃ xs, srcAt hv s = some xs := by
  cases u <;> first | (cases es; done) | skip
  · simp only [srcOf] at es
    split at es
    · rename_i xs hn; cases es; exact ⟨xs, by simp only [srcAt, hn]⟩
    · rename_i xs hn; cases es; exact ⟨xs, by simp only [srcAt, hn]⟩
    · cases es
  · cases es
    exact ⟨_, rfl⟩
theorem zip_rel (R : SR Z ρ hv h) {u u2 : W} {v v2 : Fs.Val} {w : Wk} (r : RX Z ρ u v) (r2 : RX Z ρ u2 v2) (e : zipOf hv u u2 = some w) : ∃ s t, Fs.srcOf h v = some s ∧ Fs.srcOf h v2 = some t ∧ WR Z ρ hv h w (.zip s t) := by
  have itz : ∀ {h' : Fs.Hep} {s t : Fs.Src} {i : Nat} {vs us : List Fs.Val}, Fs.srcAt h' s = some vs → Fs.srcAt h' t = some us → Fs.itAt h' (.zip s t) i = some (match vs[i]?, us[i]? with
      | some x, some y => some (.tup [x, y])
      | _, _ => none) := by
    intro h' s t i vs us e1 e2
    simp only [Fs.itAt, e1, e2] <;> rfl
  by_cases hf : (∃ xs, u = .fl xs) ∧ ∃ ys, u2 = .fl ys
  · obtain ⟨⟨xs, rfl⟩, ys, rfl⟩ := hf
    cases e
    obtain ⟨s', g1, g2⟩ := src_rel R r (s := .snap xs) rfl
    obtain ⟨t', g3, g4⟩ := src_rel R r2 (s := .snap ys) rfl
    obtain ⟨vs, k1, k2⟩ := srcAt_rel R g2 (xs := xs) rfl
    refine ⟨s', t', g1, g3, wr_fix (iw_fix fun Z' ρ' hv' h' e R => ?_) ?_⟩
    · obtain ⟨vs', k1', k2'⟩ := srcAt_rel R (g2.low e.low) (xs := xs) rfl
      obtain ⟨us', k3', k4'⟩ := srcAt_rel R (g4.low e.low) (xs := ys) rfl
      obtain ⟨ps, a, b⟩ := RWs.prs k2' k4'
      exact ⟨ps, a, fun i => by rw [itz k1' k3', b i]⟩
    · show _ ≤ ((Fs.srcAt h s').getD []).length
      rw [k1]
      refine Nat.le_trans (prs_length xs ys) ?_
      rw [k2.length]
      exact Nat.le_refl _
  · have e' : (match srcOf hv u, srcOf hv u2 with
      | some s, some t => some (Wk.zip s t)
      | _, _ => none) = some w := by
      unfold zipOf at e
      split at e
      · exact absurd ⟨⟨_, rfl⟩, _, rfl⟩ hf
      · exact e
    split at e'
    · rename_i s t es et
      cases e'
      obtain ⟨s', g1, g2⟩ := src_rel R r es
      obtain ⟨t', g3, g4⟩ := src_rel R r2 et
      obtain ⟨xs, ex⟩ := srcOf_at es
      obtain ⟨vs, k1, k2⟩ := srcAt_rel R g2 ex
      refine ⟨s', t', g1, g3, wr_live (fun Z' ρ' hv' h' e R i => ?_) ?_ (fun _ z => nomatch z)⟩
      · have key : ∀ o, itAt hv' (.zip s t) i = some o → ∃ xs ys vs us, Fs.srcAt h' s' = some vs ∧ Fs.srcAt h' t' = some us ∧ RWs Z' ρ' xs vs ∧ RWs Z' ρ' ys us ∧ (match xs[i]?, ys[i]? with
            | some x, some y => some (W.tup [x, y])
            | _, _ => none) = o := by
          intro o eo
          simp only [itAt] at eo
          split at eo
          · rename_i xs ys e1 e2
            obtain ⟨vs, a1, a2⟩ := srcAt_rel R (g2.low e.low) e1
            obtain ⟨us, a3, a4⟩ := srcAt_rel R (g4.low e.low) e2
            exact ⟨xs, ys, vs, us, a1, a3, a2, a4, Option.some.inj eo⟩
          · cases eo
        refine ⟨fun z => ?_, fun x z => ?_⟩
        · obtain ⟨xs, ys, vs, us, a1, a2, a3, a4, a5⟩ := key none z
          rw [itz a1 a2]
          cases q : xs[i]? with
          | none => rw [a3.no q]
          | some x =>
            cases q2 : ys[i]? with
            | none => rw [a4.no q2]; cases vs[i]? <;> rfl
            | some y => rw [q, q2] at a5; cases a5
        · obtain ⟨xs, ys, vs, us, a1, a2, a3, a4, a5⟩ := key (some x) z
          rw [itz a1 a2]
          cases q : xs[i]? with
          | none => rw [q] at a5; cases a5
          | some x1 =>
            cases q2 : ys[i]? with
            | none => rw [q, q2] at a5; cases a5
            | some y1 =>
              rw [q, q2] at a5
              cases a5
              obtain ⟨v1, b1, b2⟩ := a3.at q
              obtain ⟨v2, b3, b4⟩ := a4.at q2
              rw [b1, b3]
              exact ⟨_, rfl, RW.mk_tup (RWs.cons b2 (RWs.cons b4 RWs.nil))⟩
      · show ((Fs.srcAt h s').getD []).length = ((srcAt hv s).getD []).length
        rw [k1, ex]
        exact k2.length.symm
    · cases e'
theorem rng_rel {ws xs : List W} {vs : List Fs.Val} (r : RWs Z ρ ws vs) (e : rngO ws = some xs) : ∃ us, Fs.rngO vs = some us ∧ RWs Z ρ xs us := by
  unfold rngO at e
  split at e
  · split at e
    · rename_i hl
      cases e
      obtain ⟨v, rfl, r1⟩ := r.one
      cases r1.i_int
      exact ⟨_, by simp only [Fs.rngO, if_pos hl], RWs.mapE (fun _ => RW.mk_int) _⟩
    · cases e
  · split at e
    · rename_i hl
      cases e
      obtain ⟨v, v2, rfl, r1, r2⟩ := r.two
      cases r1.i_int; cases r2.i_int
      exact ⟨_, by simp only [Fs.rngO, if_pos hl], RWs.mapE (fun _ => RW.mk_int) _⟩
    · cases e
  · split at e
    · rename_i hl
      cases e
      obtain ⟨v, s, rfl, r1, rs⟩ := r.inv_cons
      obtain ⟨v2, v3, rfl, r2, r3⟩ := rs.two
      cases r1.i_int; cases r2.i_int; cases r3.i_int
      exact ⟨_, by simp only [Fs.rngO, if_pos hl], RWs.mapE (fun _ => RW.mk_int) _⟩
    · cases e
  · cases e
theorem rngL_rel {ws : List W} {w : W} {vs : List Fs.Val} (r : RWs Z ρ ws vs) (e : rngL ws = some w) : ∃ v, Fs.rngL vs = some v ∧ RX Z ρ w v := by
  unfold rngL at e
  split at e
  · split at e
    · rename_i hl
      cases e
      obtain ⟨v, rfl, r1⟩ := r.one
      cases r1.i_int
      exact ⟨_, by simp only [Fs.rngL, if_pos hl], .tl (RWs.mapE (fun _ => RW.mk_int) _)⟩
    · cases e
  · split at e
    · rename_i hl
      cases e
      obtain ⟨v, v2, rfl, r1, r2⟩ := r.two
      cases r1.i_int; cases r2.i_int
      exact ⟨_, by simp only [Fs.rngL, if_pos hl], .tl (RWs.mapE (fun _ => RW.mk_int) _)⟩
    · cases e
  · cases e
/-! ### locks -/
theorem lock_obj (R : SR Z ρ hv h) {n m : Nat} {hvl : Hep} (hm : ρ[n]? = some m) (e : lockD n hv = some hvl) : ∃ hl, Fs.lockD m h = some hl ∧ Ext Z ρ h Z ρ hl ∧ SR Z ρ hvl hl := by
  unfold lockD at e
  split at e
  · rename_i kvs hn
    cases e
    obtain ⟨u, h1, zs, rfl, h2⟩ := R.at_ref hm hn
    obtain ⟨a, b⟩ := R.write (ov := .dK true kvs) (o := .dK true zs) hm ⟨zs, rfl, h2⟩
    exact ⟨_, by simp only [Fs.lockD, h1], b, a⟩
  · rename_i kvs hn
    cases e
    obtain ⟨u, h1, zs, rfl, h2⟩ := R.at_ref hm hn
    obtain ⟨a, b⟩ := R.write (ov := .dT true kvs) (o := .dT true zs) hm ⟨zs, rfl, h2⟩
    exact ⟨_, by simp only [Fs.lockD, h1], b, a⟩
  · cases e
theorem unlock_obj (R : SR Z ρ hv h) {n m : Nat} {hvl : Hep} (hm : ρ[n]? = some m) (e : unlockD n hv = some hvl) : ∃ hl, Fs.unlockD m h = some hl ∧ Ext Z ρ h Z ρ hl ∧ SR Z ρ hvl hl := by
  unfold unlockD at e
  split at e
  · rename_i kvs hn
    cases e
    obtain ⟨u, h1, zs, rfl, h2⟩ := R.at_ref hm hn
    obtain ⟨a, b⟩ := R.write (ov := .dK false kvs) (o := .dK false zs) hm ⟨zs, rfl, h2⟩
    exact ⟨_, by simp only [Fs.unlockD, h1], b, a⟩
  · rename_i kvs hn
    cases e
    obtain ⟨u, h1, zs, rfl, h2⟩ := R.at_ref hm hn
    obtain ⟨a, b⟩ := R.write (ov := .dT false kvs) (o := .dT false zs) hm ⟨zs, rfl, h2⟩
    exact ⟨_, by simp only [Fs.unlockD, h1], b, a⟩
  · cases e
/-- the flag of a dict by what it holds -/
theorem SR.reflag (R : SR Z ρ hv h) {m : Nat} {w : W} {o : Fs.Ob} (hz : Z m = some w) (r : RZ Z ρ w o) : SR Z ρ hv (h.set m o) := by
  have hml := R.zlt hz
  refine ⟨R.len, fun i u k e1 e2 => ?_, R.nd, R.ap, fun k w' e => ?_⟩
  · have hk : k ≠ m := fun z => by have := R.ap i k e2; rw [z, hz] at this; cases this
    obtain ⟨u', a, b⟩ := R.ob i u k e1 e2
    exact ⟨u', by rw [List.getElem?_set_ne (Ne.symm hk)]; exact a, b⟩
  · by_cases hk : k = m
    · subst hk
      rw [hz] at e
      cases e
      exact ⟨o, List.getElem?_set_self hml, r⟩
    · obtain ⟨u', a, b⟩ := R.fz k w' e
      exact ⟨u', by rw [List.getElem?_set_ne (Ne.symm hk)]; exact a, b⟩
theorem lock_fz (R : SR Z ρ hv h) {m : Nat} {w : W} {hl : Fs.Hep} (hz : Z m = some w) (e : Fs.lockD m h = some hl) : SR Z ρ hv hl ∧
    ∀ Z2 ρ2 hv2 h2, Ext Z ρ hl Z2 ρ2 h2 → SR Z2 ρ2 hv2 h2 → ∃ h3, Fs.unlockD m h2 = some h3 ∧ SR Z2 ρ2 hv2 h3 ∧ Ext Z ρ h Z2 ρ2 h3 := by
  obtain ⟨u, hu, ru⟩ := R.fz m w hz
  have hml := R.zlt hz
  have fin : ∀ (o : Fs.Ob), hl = h.set m o → (∀ h2 : Fs.Hep, h2[m]? = some o → Fs.unlockD m h2 = some (h2.set m u)) → RZ Z ρ w o → SR Z ρ hv hl ∧ ∀ Z2 ρ2 hv2 h2, Ext Z ρ hl Z2 ρ2 h2 → SR Z2 ρ2 hv2 h2 → ∃ h3, Fs.unlockD m h2 = some h3 ∧ SR Z2 ρ2 hv2 h3 ∧ Ext Z ρ h Z2 ρ2 h3 := by
    rintro o rfl hun ro
    refine ⟨R.reflag hz ro, fun Z2 ρ2 hv2 h2 e2 R2 => ?_⟩
    have h2m : h2[m]? = some o := by rw [e2.kp m w hz, List.getElem?_set_self hml]
    have hz2 := e2.zs m w hz
    have hml2 := R2.zlt hz2
    refine ⟨_, hun h2 h2m, R2.reflag hz2 (ru.low e2.low), ⟨e2.pre, e2.zs, fun k w' ek => ?_, by have := e2.len; simpa using this, fun k w' ek => by have := e2.nz k w' ek; simpa using this, fun n k ek => by have := e2.nr n k ek; simpa using this⟩⟩
    by_cases hk : k = m
    · subst hk
      rw [List.getElem?_set_self hml2, hu]
    · rw [List.getElem?_set_ne (Ne.symm hk), e2.kp k w' ek, List.getElem?_set_ne (Ne.symm hk)]
  unfold Fs.lockD at e
  split at e
  · rename_i zs hn
    cases e
    rw [hn] at hu
    cases hu
    refine fin _ rfl (fun h2 e2 => by simp only [Fs.unlockD, e2]) ?_
    cases w with
    | fk kvs => obtain ⟨fz, zs', z1, z2⟩ := ru; cases z1; exact ⟨true, _, rfl, z2⟩
    | fl kvs => obtain ⟨zs', z1, z2⟩ := ru; cases z1
    | ft kvs => obtain ⟨fz, zs', z1, z2⟩ := ru; cases z1
    | _ => exact ru.elim
  · rename_i zs hn
    cases e
    rw [hn] at hu
    cases hu
    refine fin _ rfl (fun h2 e2 => by simp only [Fs.unlockD, e2]) ?_
    cases w with
    | ft kvs => obtain ⟨fz, zs', z1, z2⟩ := ru; cases z1; exact ⟨true, _, rfl, z2⟩
    | fl kvs => obtain ⟨zs', z1, z2⟩ := ru; cases z1
    | fk kvs => obtain ⟨fz, zs', z1, z2⟩ := ru; cases z1
    | _ => exact ru.elim
  · cases e
end
end Fw
set_option Elab.async false
set_option linter.all false
set_option maxRecDepth 100000
set_option maxHeartbeats 8000000
set_option autoImplicit false
set_option relaxedAutoImplicit false
namespace Fw
open PySem L2
open Fs (lim keyOf keysOf kVal look put drp setF Bop Cop Ty Tn isTn cut Blt Mt Tg E Es Oe I S Ss Def)
section
variable {Z Z' Z1 : Zm} {ρ ρ' ρ1 : List Nat} {hv hv' : Hep} {h h' h1 : Fs.Hep} {F : Orc} {G : Fs.Orc} {σv : Evn} {σ : Fs.Evn}
/-! ### comprehensions -/
abbrev LStep (Z : Zm) (ρ : List Nat) (h : Fs.Hep) (step : W → Hep → Res (Option W)) (step' : Fs.Val → Fs.Hep → Fs.Res (Option Fs.Val)) : Prop := ∀ (Z' : Zm) (ρ' : List Nat) (hv' : Hep) (h' : Fs.Hep) x v, Ext Z ρ h Z' ρ' h' → SR Z' ρ' hv' h' → RW Z' ρ' x v →
  RR (fun Z ρ (a : Option W) b => match a with
    | none => b = none
    | some w => ∃ v, b = some v ∧ RW Z ρ w v) Z' ρ' h' (step x hv') (step' v h')
theorem LStep.ext {step : W → Hep → Res (Option W)} {step' : Fs.Val → Fs.Hep → Fs.Res (Option Fs.Val)} (e : Ext Z ρ h Z' ρ' h') (l : LStep Z ρ h step step') : LStep Z' ρ' h' step step' := fun Z2 ρ2 hv2 h2 x v e2 => l Z2 ρ2 hv2 h2 x v (e.trans e2)
/-- what a comprehension's turn may let out is none's -/
def okR {α β : Type} (Q : Zm → List Nat → α → β → Prop) (Z : Zm) (ρ : List Nat) (h : Fs.Hep) : Res α → Fs.Res β → Prop
  | .ok a hv', r => ∃ b h' Z' ρ', r = .ok b h' ∧ Ext Z ρ h Z' ρ' h' ∧ SR Z' ρ' hv' h' ∧ Q Z' ρ' a b
  | _, _ => True
theorem lcL_sim {step : W → Hep → Res (Option W)} {step' : Fs.Val → Fs.Hep → Fs.Res (Option Fs.Val)} {xs : List W} {w' : Fs.Wk} : ∀ (k i : Nat) (acc : List Fs.Val) (Z : Zm) (ρ : List Nat) (hv : Hep) (h : Fs.Hep), IW Z ρ h (.fix xs) w' → LStep Z ρ h step step' → SR Z ρ hv h → xs.length ≤ i + k → acc.length + (xs.length - i) ≤ lim →
    okR (fun Z ρ (ws : List W) vs => ∃ tl, vs = acc ++ tl ∧ RWs Z ρ ws tl) Z ρ h (lcL step (xs.drop i) hv) (Fs.lcGo w' step' (k + 1) i acc h)
  | k, i, acc, Z, ρ, hv, h, iw, ls, R, hk, hl => by
    have it := iw Z ρ hv h .refl R i
    cases hx : xs[i]? with
    | none =>
      have hd : xs.drop i = [] := List.drop_eq_nil_of_le (List.getElem?_eq_none_iff.mp hx)
      rw [hd]
      unfold Fs.lcGo
      rw [it.1 (by simp [itAt, hx])]
      exact ⟨acc, h, Z, ρ, rfl, .refl, R, [], by simp, RWs.nil⟩
    | some x =>
      obtain ⟨v, e1, r1⟩ := it.2 x (by simp [itAt, hx])
      have hi : i < xs.length := (List.getElem?_eq_some_iff.mp hx).1
      have hd : xs.drop i = x :: xs.drop (i + 1) := by
        rw [List.drop_eq_getElem_cons hi]
        have := List.getElem?_eq_getElem hi
        rw [hx] at this
        rw [Option.some.inj this]
      cases k with
      | zero => omega
      | succ k =>
        rw [hd]
        unfold Fs.lcGo
        rw [e1]
        simp only [lcL]
        have st := ls Z ρ hv h x v .refl R r1
        cases hs : step x hv with
        | bad => trivial
        | ex y hv1 => trivial
        | ok a hv1 =>
          rw [hs] at st
          obtain ⟨b, h1, Z1, ρ1, e2, ex, R1, q⟩ := st
          rw [e2]
          show okR _ _ _ _ ((lcL step (xs.drop (i + 1)) hv1).bind _) _
          cases a with
          | none =>
            cases (show b = none from q)
            have ih := lcL_sim k (i + 1) acc Z1 ρ1 hv1 h1 (iw.ext ex) (ls.ext ex) R1 (by omega) (by omega)
            cases hr : lcL step (xs.drop (i + 1)) hv1 with
            | bad => trivial
            | ex y hv2 => trivial
            | ok ws hv2 =>
              rw [hr] at ih
              obtain ⟨vs, h2, Z2, ρ2, e3, ex2, R2, tl, q1, q2⟩ := ih
              exact ⟨vs, h2, Z2, ρ2, e3, ex.trans ex2, R2, tl, q1, q2⟩
          | some w =>
            obtain ⟨v', rfl, q⟩ := q
            have hlt : acc.length < lim := by omega
            simp only [if_pos hlt]
            have ih := lcL_sim k (i + 1) (acc ++ [v']) Z1 ρ1 hv1 h1 (iw.ext ex) (ls.ext ex) R1 (by omega) (by simp; omega)
            cases hr : lcL step (xs.drop (i + 1)) hv1 with
            | bad => trivial
            | ex y hv2 => trivial
            | ok ws hv2 =>
              rw [hr] at ih
              obtain ⟨vs, h2, Z2, ρ2, e3, ex2, R2, tl, q1, q2⟩ := ih
              exact ⟨vs, h2, Z2, ρ2, e3, ex.trans ex2, R2, v' :: tl, by rw [q1]; simp, RWs.cons (RW.low ex2.low _ _ q) q2⟩
theorem lcGo_sim {step : W → Hep → Res (Option W)} {step' : Fs.Val → Fs.Hep → Fs.Res (Option Fs.Val)} {w : Wk} {w' : Fs.Wk} : ∀ (k i : Nat) (accv : List W) (acc : List Fs.Val) (Z : Zm) (ρ : List Nat) (hv : Hep) (h : Fs.Hep), IW Z ρ h w w' → LStep Z ρ h step step' → SR Z ρ hv h → RWs Z ρ accv acc →
    okR (fun Z ρ (ws : List W) vs => RWs Z ρ ws vs) Z ρ h (lcGo w step k i accv hv) (Fs.lcGo w' step' k i acc h)
  | 0, i, accv, acc, Z, ρ, hv, h, iw, ls, R, ra => by unfold lcGo; trivial
  | k + 1, i, accv, acc, Z, ρ, hv, h, iw, ls, R, ra => by
    have it := iw Z ρ hv h .refl R i
    unfold lcGo Fs.lcGo
    cases hx : itAt hv w i with
    | none => trivial
    | some o =>
      cases o with
      | none =>
        rw [it.1 hx]
        exact ⟨acc, h, Z, ρ, rfl, .refl, R, ra⟩
      | some x =>
        obtain ⟨v, e1, r1⟩ := it.2 x hx
        rw [e1]
        simp only
        have st := ls Z ρ hv h x v .refl R r1
        cases hs : step x hv with
        | bad => trivial
        | ex y hv1 => trivial
        | ok a hv1 =>
          rw [hs] at st
          obtain ⟨b, h1, Z1, ρ1, e2, ex, R1, q⟩ := st
          rw [e2]
          cases a with
          | none =>
            cases (show b = none from q)
            have ih := lcGo_sim (step := step) (step' := step') k (i + 1) accv acc Z1 ρ1 hv1 h1 (iw.ext ex) (ls.ext ex) R1 (RWs.low ex.low _ _ ra)
            simp only
            cases hr : lcGo w step k (i + 1) accv hv1 with
            | bad => trivial
            | ex y hv2 => trivial
            | ok ws hv2 =>
              rw [hr] at ih
              obtain ⟨vs, h2, Z2, ρ2, e3, ex2, R2, q2⟩ := ih
              exact ⟨vs, h2, Z2, ρ2, e3, ex.trans ex2, R2, q2⟩
          | some w1 =>
            obtain ⟨v', rfl, q⟩ := q
            simp only
            by_cases hlt : accv.length < lim
            · rw [if_pos hlt, if_pos (by rw [← ra.length]; exact hlt)]
              have ih := lcGo_sim (step := step) (step' := step') k (i + 1) (accv ++ [w1]) (acc ++ [v']) Z1 ρ1 hv1 h1 (iw.ext ex) (ls.ext ex) R1 ((RWs.low ex.low _ _ ra).append (RWs.cons q RWs.nil))
              cases hr : lcGo w step k (i + 1) (accv ++ [w1]) hv1 with
              | bad => trivial
              | ex y hv2 => trivial
              | ok ws hv2 =>
                rw [hr] at ih
                obtain ⟨vs, h2, Z2, ρ2, e3, ex2, R2, q2⟩ := ih
                exact ⟨vs, h2, Z2, ρ2, e3, ex.trans ex2, R2, q2⟩
            · rw [if_neg hlt]
              trivial
theorem lcR_sim {step : W → Hep → Res (Option W)} {step' : Fs.Val → Fs.Hep → Fs.Res (Option Fs.Val)} {w : Wk} {w' : Fs.Wk} (R : SR Z ρ hv h) (wr : WR Z ρ hv h w w') (ls : LStep Z ρ h step step') :
    okR (fun Z ρ (ws : List W) vs => RWs Z ρ ws vs) Z ρ h (lcR w step hv) (Fs.lcGo w' step' (Fs.itLen h w' + 1) 0 [] h) := by
  by_cases hf : ∃ xs, w = .fix xs
  · obtain ⟨xs, rfl⟩ := hf
    unfold lcR
    simp only
    by_cases hl : xs.length ≤ lim
    · rw [if_pos hl]
      have := lcL_sim (step := step) (step' := step') (Fs.itLen h w') 0 [] Z ρ hv h wr.1 ls R (by have := wr.2.1 xs rfl; omega) (by simpa using hl)
      rw [List.drop_zero] at this
      cases hr : lcL step xs hv with
      | bad => trivial
      | ex y hv2 => trivial
      | ok ws hv2 =>
        rw [hr] at this
        obtain ⟨vs, h2, Z2, ρ2, e3, ex2, R2, tl, q1, q2⟩ := this
        exact ⟨vs, h2, Z2, ρ2, e3, ex2, R2, by rw [q1]; exact q2⟩
    · rw [if_neg hl]
      trivial
  · have e : lcR w step hv = lcGo w step (itLen hv w + 1) 0 [] hv := by
      unfold lcR
      cases w <;> first | rfl | exact absurd ⟨_, rfl⟩ hf
    rw [e, wr.2.2 fun xs z => hf ⟨xs, z⟩]
    exact lcGo_sim _ _ _ _ Z ρ hv h wr.1 ls R RWs.nil
/-! ### statements' results -/
def RS (Z : Zm) (ρ : List Nat) (h : Fs.Hep) : SRes → Fs.SRes → Prop
  | .bad, _ => True
  | .nx σv hv', r => ∃ σ h' Z' ρ', r = .nx σ h' ∧ Ext Z ρ h Z' ρ' h' ∧ SR Z' ρ' hv' h' ∧ RV Z' ρ' σv σ
  | .rt w hv', r => ∃ v h' Z' ρ', r = .rt v h' ∧ Ext Z ρ h Z' ρ' h' ∧ SR Z' ρ' hv' h' ∧ RW Z' ρ' w v
  | .ex x σv hv', r => ∃ y σ h' Z' ρ', r = .ex y σ h' ∧ Ext Z ρ h Z' ρ' h' ∧ SR Z' ρ' hv' h' ∧ RY Z' ρ' x y ∧ RV Z' ρ' σv σ
theorem RS.ext {r : SRes} {r' : Fs.SRes} (e : Ext Z1 ρ1 h1 Z ρ h) (p : RS Z ρ h r r') : RS Z1 ρ1 h1 r r' := by
  cases r with
  | bad => trivial
  | nx a hv' => obtain ⟨b, h', Z', ρ', e1, e2, e3, e4⟩ := p; exact ⟨b, h', Z', ρ', e1, e.trans e2, e3, e4⟩
  | rt a hv' => obtain ⟨b, h', Z', ρ', e1, e2, e3, e4⟩ := p; exact ⟨b, h', Z', ρ', e1, e.trans e2, e3, e4⟩
  | ex a s hv' => obtain ⟨b, c, h', Z', ρ', e1, e2, e3, e4⟩ := p; exact ⟨b, c, h', Z', ρ', e1, e.trans e2, e3, e4⟩
theorem RR.sb {α β : Type} {Q : Zm → List Nat → α → β → Prop} {r : Res α} {r' : Fs.Res β} {f : α → Hep → SRes} {f' : β → Fs.Hep → Fs.SRes} (re : RV Z ρ σv σ) (p : RR Q Z ρ h r r')
    (k : ∀ a b hv1 h1 Z1 ρ1, Ext Z ρ h Z1 ρ1 h1 → SR Z1 ρ1 hv1 h1 → RV Z1 ρ1 σv σ → Q Z1 ρ1 a b → RS Z1 ρ1 h1 (f a hv1) (f' b h1)) : RS Z ρ h (r.sb σv f) (r'.sb σ f') := by
  cases r with
  | bad => trivial
  | ok a hv' =>
    obtain ⟨b, h', Z', ρ', rfl, e2, e3, e4⟩ := p
    exact (k a b hv' h' Z' ρ' e2 e3 (re.low e2.low) e4).ext e2
  | ex a hv' => obtain ⟨b, h', Z', ρ', rfl, e2, e3, e4⟩ := p; exact ⟨b, σ, h', Z', ρ', rfl, e2, e3, e4, re.low e2.low⟩
theorem RS.sq {r : SRes} {r' : Fs.SRes} {f : Evn → Hep → SRes} {f' : Fs.Evn → Fs.Hep → Fs.SRes} (p : RS Z ρ h r r')
    (k : ∀ σv σ hv1 h1 Z1 ρ1, Ext Z ρ h Z1 ρ1 h1 → SR Z1 ρ1 hv1 h1 → RV Z1 ρ1 σv σ → RS Z1 ρ1 h1 (f σv hv1) (f' σ h1)) : RS Z ρ h (r.sq f) (r'.sq f') := by
  cases r with
  | bad => trivial
  | nx a hv' =>
    obtain ⟨b, h', Z', ρ', rfl, e2, e3, e4⟩ := p
    exact (k a b hv' h' Z' ρ' e2 e3 e4).ext e2
  | rt a hv' => obtain ⟨b, h', Z', ρ', rfl, e2, e3, e4⟩ := p; exact ⟨b, h', Z', ρ', rfl, e2, e3, e4⟩
  | ex a s hv' => obtain ⟨b, c, h', Z', ρ', rfl, e2, e3, e4⟩ := p; exact ⟨b, c, h', Z', ρ', rfl, e2, e3, e4⟩
abbrev FStep (Z : Zm) (ρ : List Nat) (h : Fs.Hep) (step : W → Evn → Hep → SRes) (step' : Fs.Val → Fs.Evn → Fs.Hep → Fs.SRes) : Prop := ∀ (Z' : Zm) (ρ' : List Nat) (hv' : Hep) (h' : Fs.Hep) x v σv σ, Ext Z ρ h Z' ρ' h' → SR Z' ρ' hv' h' → RW Z' ρ' x v → RV Z' ρ' σv σ →
  RS Z' ρ' h' (step x σv hv') (step' v σ h')
theorem FStep.ext {step : W → Evn → Hep → SRes} {step' : Fs.Val → Fs.Evn → Fs.Hep → Fs.SRes} (e : Ext Z ρ h Z' ρ' h') (l : FStep Z ρ h step step') : FStep Z' ρ' h' step step' := fun Z2 ρ2 hv2 h2 x v σv σ e2 => l Z2 ρ2 hv2 h2 x v σv σ (e.trans e2)
theorem forL_sim {step : W → Evn → Hep → SRes} {step' : Fs.Val → Fs.Evn → Fs.Hep → Fs.SRes} {xs : List W} {w' : Fs.Wk} : ∀ (k i : Nat) (Z : Zm) (ρ : List Nat) (σv : Evn) (σ : Fs.Evn) (hv : Hep) (h : Fs.Hep), IW Z ρ h (.fix xs) w' → FStep Z ρ h step step' → SR Z ρ hv h → RV Z ρ σv σ → xs.length ≤ i + k →
    RS Z ρ h (forL step (xs.drop i) σv hv) (Fs.forGo w' step' (k + 1) i σ h)
  | k, i, Z, ρ, σv, σ, hv, h, iw, ls, R, re, hk => by
    have it := iw Z ρ hv h .refl R i
    cases hx : xs[i]? with
    | none =>
      have hd : xs.drop i = [] := List.drop_eq_nil_of_le (List.getElem?_eq_none_iff.mp hx)
      rw [hd]
      unfold Fs.forGo
      rw [it.1 (by simp [itAt, hx])]
      exact ⟨σ, h, Z, ρ, rfl, .refl, R, re⟩
    | some x =>
      obtain ⟨v, e1, r1⟩ := it.2 x (by simp [itAt, hx])
      have hi : i < xs.length := (List.getElem?_eq_some_iff.mp hx).1
      have hd : xs.drop i = x :: xs.drop (i + 1) := by
        rw [List.drop_eq_getElem_cons hi]
        have := List.getElem?_eq_getElem hi
        rw [hx] at this
        rw [Option.some.inj this]
      cases k with
      | zero => omega
      | succ k =>
        rw [hd]
        unfold Fs.forGo
        rw [e1]
        simp only [forL]
        exact (ls Z ρ hv h x v σv σ .refl R r1 re).sq fun σv1 σ1 hv1 h1 Z1 ρ1 ex R1 re1 => forL_sim k (i + 1) Z1 ρ1 σv1 σ1 hv1 h1 (iw.ext ex) (ls.ext ex) R1 re1 (by omega)
theorem forGo_sim {step : W → Evn → Hep → SRes} {step' : Fs.Val → Fs.Evn → Fs.Hep → Fs.SRes} {w : Wk} {w' : Fs.Wk} : ∀ (k i : Nat) (Z : Zm) (ρ : List Nat) (σv : Evn) (σ : Fs.Evn) (hv : Hep) (h : Fs.Hep), IW Z ρ h w w' → FStep Z ρ h step step' → SR Z ρ hv h → RV Z ρ σv σ →
    RS Z ρ h (forGo w step k i σv hv) (Fs.forGo w' step' k i σ h)
  | 0, i, Z, ρ, σv, σ, hv, h, iw, ls, R, re => by unfold forGo; trivial
  | k + 1, i, Z, ρ, σv, σ, hv, h, iw, ls, R, re => by
    have it := iw Z ρ hv h .refl R i
    unfold forGo Fs.forGo
    cases hx : itAt hv w i with
    | none => trivial
    | some o =>
      cases o with
      | none =>
        rw [it.1 hx]
        exact ⟨σ, h, Z, ρ, rfl, .refl, R, re⟩
      | some x =>
        obtain ⟨v, e1, r1⟩ := it.2 x hx
        rw [e1]
        simp only
        exact (ls Z ρ hv h x v σv σ .refl R r1 re).sq fun σv1 σ1 hv1 h1 Z1 ρ1 ex R1 re1 => forGo_sim k (i + 1) Z1 ρ1 σv1 σ1 hv1 h1 (iw.ext ex) (ls.ext ex) R1 re1
theorem forR_sim {step : W → Evn → Hep → SRes} {step' : Fs.Val → Fs.Evn → Fs.Hep → Fs.SRes} {w : Wk} {w' : Fs.Wk} (R : SR Z ρ hv h) (re : RV Z ρ σv σ) (wr : WR Z ρ hv h w w') (ls : FStep Z ρ h step step') :
    RS Z ρ h (forR w step σv hv) (Fs.forGo w' step' (Fs.itLen h w' + 1) 0 σ h) := by
  by_cases hf : ∃ xs, w = .fix xs
  · obtain ⟨xs, rfl⟩ := hf
    unfold forR
    simp only
    have := forL_sim (step := step) (step' := step') (Fs.itLen h w') 0 Z ρ σv σ hv h wr.1 ls R re (by have := wr.2.1 xs rfl; omega)
    rw [List.drop_zero] at this
    exact this
  · have e : forR w step σv hv = forGo w step (itLen hv w + 1) 0 σv hv := by
      unfold forR
      cases w <;> first | rfl | exact absurd ⟨_, rfl⟩ hf
    rw [e, wr.2.2 fun xs z => hf ⟨xs, z⟩]
    exact forGo_sim _ _ Z ρ σv σ hv h wr.1 ls R re
theorem wh_sim {test : Evn → Hep → Res Bool} {test' : Fs.Evn → Fs.Hep → Fs.Res Bool} {step : Evn → Hep → SRes} {step' : Fs.Evn → Fs.Hep → Fs.SRes} (ht : ∀ Z ρ hv h σv σ, SR Z ρ hv h → RV Z ρ σv σ → RR EQ Z ρ h (test σv hv) (test' σ h)) (hs : ∀ Z ρ hv h σv σ, SR Z ρ hv h → RV Z ρ σv σ → RS Z ρ h (step σv hv) (step' σ h)) :
    ∀ (k : Nat) (Z : Zm) (ρ : List Nat) (σv : Evn) (σ : Fs.Evn) (hv : Hep) (h : Fs.Hep), SR Z ρ hv h → RV Z ρ σv σ → RS Z ρ h (whGo test step k σv hv) (Fs.whGo test' step' k σ h)
  | 0, Z, ρ, σv, σ, hv, h, R, re => by unfold whGo; trivial
  | k + 1, Z, ρ, σv, σ, hv, h, R, re => by
    unfold whGo Fs.whGo
    refine (ht Z ρ hv h σv σ R re).sb re fun a b hv1 h1 Z1 ρ1 ex R1 re1 q => ?_
    cases (show b = a from q)
    cases a with
    | false => exact ⟨σ, h1, Z1, ρ1, rfl, .refl, R1, re1⟩
    | true =>
      simp only [if_true]
      exact (hs Z1 ρ1 hv1 h1 σv σ R1 re1).sq fun σv2 σ2 hv2 h2 Z2 ρ2 ex2 R2 re2 => wh_sim ht hs k Z2 ρ2 σv2 σ2 hv2 h2 R2 re2
/-! ### what is walked -/
def BkR (Z : Zm) (ρ : List Nat) (h : Fs.Hep) (Z' : Zm) (ρ' : List Nat) (h' : Fs.Hep) : Bk → Option Nat → Prop
  | .no, d => d = none ∧ Ext Z ρ h Z' ρ' h'
  | .un n, d => ∃ m, d = some m ∧ ρ'[n]? = some m ∧ Ext Z ρ h Z' ρ' h'
  | .fd, d => (d = none ∧ Ext Z ρ h Z' ρ' h') ∨ ∃ m w, d = some m ∧ Z m = some w ∧ Fs.lockD m h = some h' ∧ Z' = Z ∧ ρ' = ρ
def RI (Z : Zm) (ρ : List Nat) (h : Fs.Hep) : Res (Wk × Bk) → Fs.Res (Fs.Wk × Option Nat) → Prop
  | .bad, _ => True
  | .ex x hv', r => ∃ y h' Z' ρ', r = .ex y h' ∧ Ext Z ρ h Z' ρ' h' ∧ SR Z' ρ' hv' h' ∧ RY Z' ρ' x y
  | .ok a hv', r => ∃ w' d h' Z' ρ', r = .ok (w', d) h' ∧ SR Z' ρ' hv' h' ∧ WR Z' ρ' hv' h' a.1 w' ∧ BkR Z ρ h Z' ρ' h' a.2 d
def D' : Fs.I → Fs.Hep → Nat → Option (List Fs.Val)
  | .items _ => Fs.itemsD
  | .values _ => Fs.valsD
  | _ => Fs.keysD
def howD : How → Fs.Hep → Nat → Option (List Fs.Val)
  | .keys => Fs.keysD
  | .items => Fs.itemsD
  | .vals => Fs.valsD
theorem walkD_rel (R : SR Z ρ hv h) {n m : Nat} {w : How} {xs : List W} (hm : ρ[n]? = some m) (e : walkD hv w n = some xs) : ∃ vs, howD w h m = some vs ∧ RWs Z ρ xs vs := by
  unfold walkD at e
  split at e
  · rename_i kvs hn
    cases e
    obtain ⟨u, h1, zs, rfl, h2⟩ := R.at_ref hm hn
    exact ⟨_, by simp only [howD, Fs.keysD, h1], RWs.map_fst_k h2⟩
  · rename_i kvs hn
    cases e
    obtain ⟨u, h1, zs, rfl, h2⟩ := R.at_ref hm hn
    exact ⟨_, by simp only [howD, Fs.keysD, h1], RWs.map_fst_t h2⟩
  · rename_i kvs hn
    cases e
    obtain ⟨u, h1, zs, rfl, h2⟩ := R.at_ref hm hn
    exact ⟨_, by simp only [howD, Fs.itemsD, h1], RWs.map_items h2⟩
  · rename_i kvs hn
    cases e
    obtain ⟨u, h1, zs, rfl, h2⟩ := R.at_ref hm hn
    exact ⟨_, by simp only [howD, Fs.valsD, h1], RWs.map_vals h2⟩
  · cases e
theorem walkF_rel (R : SR Z ρ hv h) {m : Nat} {w : How} {u : W} {xs : List W} (hz : Z m = some u) (e : walkF w u = some xs) : (∃ hl vs, Fs.dictOf h (.ref m) = some m ∧ Fs.lockD m h = some hl ∧ howD w hl m = some vs ∧ RWs Z ρ xs vs) ∨ ∃ vs, Fs.dictOf h (.ref m) = none ∧ howD w h m = some vs ∧ RWs Z ρ xs vs := by
  obtain ⟨o, ho, ro⟩ := R.fz m u hz
  have hml := R.zlt hz
  unfold walkF at e
  split at e
  · rename_i kvs
    cases e
    obtain ⟨fz, zs, rfl, h2⟩ := ro
    cases fz with
    | false => exact .inl ⟨h.set m (.dK true zs), _, by simp only [Fs.dictOf, ho], by simp only [Fs.lockD, ho], by simp only [howD, Fs.keysD, List.getElem?_set_self hml], RWs.map_fst_k h2⟩
    | true => exact .inr ⟨_, by simp only [Fs.dictOf, ho], by simp only [howD, Fs.keysD, ho], RWs.map_fst_k h2⟩
  · rename_i kvs
    cases e
    obtain ⟨fz, zs, rfl, h2⟩ := ro
    cases fz with
    | false => exact .inl ⟨h.set m (.dT true zs), _, by simp only [Fs.dictOf, ho], by simp only [Fs.lockD, ho], by simp only [howD, Fs.keysD, List.getElem?_set_self hml], RWs.map_fst_t h2⟩
    | true => exact .inr ⟨_, by simp only [Fs.dictOf, ho], by simp only [howD, Fs.keysD, ho], RWs.map_fst_t h2⟩
  · rename_i kvs
    cases e
    obtain ⟨fz, zs, rfl, h2⟩ := ro
    cases fz with
    | false => exact .inl ⟨h.set m (.dK true zs), _, by simp only [Fs.dictOf, ho], by simp only [Fs.lockD, ho], by simp only [howD, Fs.itemsD, List.getElem?_set_self hml], RWs.map_items h2⟩
    | true => exact .inr ⟨_, by simp only [Fs.dictOf, ho], by simp only [howD, Fs.itemsD, ho], RWs.map_items h2⟩
  · rename_i kvs
    cases e
    obtain ⟨fz, zs, rfl, h2⟩ := ro
    cases fz with
    | false => exact .inl ⟨h.set m (.dK true zs), _, by simp only [Fs.dictOf, ho], by simp only [Fs.lockD, ho], by simp only [howD, Fs.valsD, List.getElem?_set_self hml], RWs.map_vals h2⟩
    | true => exact .inr ⟨_, by simp only [Fs.dictOf, ho], by simp only [howD, Fs.valsD, ho], RWs.map_vals h2⟩
  · cases e
theorem wr_of {xs : List W} {vs : List Fs.Val} (r : RWs Z ρ xs vs) : WR Z ρ hv h (.fix xs) (.fix vs) := wr_fix (iw_of r) (Nat.le_of_eq r.length)
/-- a walk over a dict: what both do once they know it -/
def evDv (w : How) (g : Hep → Res W) (u : W) (b : Bool) (hv h1 : Hep) (els : Res (Wk × Bk)) : Res (Wk × Bk) := if isFD u = true then (if b = true then (Res.of (walkF w u) hv).bind fun xs h1 => .ok (.fix xs, .fd) h1 else .bad) else match dictOf hv u with
  | some n => match lockD n hv with
    | some hl => match g hl with
      | .ok (.ref m) h2 => if m = n then (Res.of (walkD h2 w n) h2).bind fun xs h3 => .ok (.fix xs, .un n) h3 else .bad
      | _ => .bad
    | none => .bad
  | none => els
def evDo (w : How) (g : Fs.Hep → Fs.Res Fs.Val) (u : Fs.Val) (h : Fs.Hep) (els : Fs.Res (Fs.Wk × Option Nat)) : Fs.Res (Fs.Wk × Option Nat) := match Fs.dictOf h u with
  | some n => match Fs.lockD n h with
    | some hl => match g hl with
      | .ok (.ref m) h2 => if m = n then (Fs.Res.of (howD w h2 n) h2).bind fun xs h3 => .ok (.fix xs, some n) h3 else .bad
      | _ => .bad
    | none => .bad
  | none => els
theorem evD_sim {w : How} {g : Hep → Res W} {g' : Fs.Hep → Fs.Res Fs.Val} {u : W} {v : Fs.Val} {b : Bool} {hv1 : Hep} {h1 : Fs.Hep} {els : Res (Wk × Bk)} {els' : Fs.Res (Fs.Wk × Option Nat)} (R : SR Z ρ hv h)
    (hg : ∀ hvl hl, SR Z ρ hvl hl → RR RX Z ρ hl (g hvl) (g' hl)) (R1 : SR Z1 ρ1 hv1 h1) (ex : Ext Z ρ h Z1 ρ1 h1) (r : RX Z1 ρ1 u v)
    (hvar : b = true → h1 = h ∧ Z1 = Z ∧ ρ1 = ρ ∧ ∀ hl, g' hl = .ok v hl)
    (he : isFD u = false → dictOf hv u = none → RI Z ρ h els els' ∧ (els = .bad ∨ Fs.dictOf h v = none)) (hf : ∀ xs, isFD u = true → b = true → walkF w u = some xs → Fs.dictOf h v = none → ∃ vs, els' = .ok (.fix vs, none) h ∧ RWs Z ρ xs vs)
    (hdo : ∀ n m, u = .ref n → v = .ref m → ρ1[n]? = some m → n < hv.length → ρ[n]? = some m) : RI Z ρ h (evDv w g u b hv hv1 els) (evDo w g' v h els') := by
  unfold evDv
  by_cases hfd : isFD u = true
  · rw [if_pos hfd]
    cases b with
    | false => rw [if_neg Bool.false_ne_true]; trivial
    | true =>
      rw [if_pos rfl]
      obtain ⟨rfl, rfl, rfl, hgv⟩ := hvar rfl
      cases hw : walkF w u with
      | none => trivial
      | some xs =>
        have hv' : ∃ m, v = .ref m ∧ Z1 m = some u := by
          cases u <;> first | (cases hfd; done) | skip
          · exact r.i_fk
          · exact r.i_ft
        obtain ⟨m, rfl, hz⟩ := hv'
        rcases walkF_rel R hz hw with ⟨hl, vs, e1, e2, e3, e4⟩ | ⟨vs, e1, e2, e3⟩
        · refine ⟨.fix vs, some m, hl, Z1, ρ1, ?_, (lock_fz R hz e2).1, wr_of e4, .inr ⟨m, u, rfl, hz, e2, rfl, rfl⟩⟩
          unfold evDo
          rw [e1]
          simp only [e2, hgv hl, e3, if_true]
          rfl
        · obtain ⟨vs', e4, e5⟩ := hf xs hfd rfl hw e1
          refine ⟨.fix vs', none, h1, Z1, ρ1, ?_, R, wr_of e5, .inl ⟨rfl, .refl⟩⟩
          unfold evDo
          rw [e1]
          exact e4
  · rw [if_neg hfd]
    have hfd' : isFD u = false := by simpa using hfd
    cases hd : dictOf hv u with
    | none =>
      obtain ⟨a, a2⟩ := he hfd' hd
      rcases a2 with rfl | a2
      · trivial
      · unfold evDo
        rw [a2]
        exact a
    | some n =>
      have hu : u = .ref n ∧ n < hv.length ∧ ∃ o, hv[n]? = some o := by
        cases u <;> first | (cases hd; done) | skip
        rename_i k
        simp only [dictOf] at hd
        split at hd
        · rename_i hn; cases hd; exact ⟨rfl, (List.getElem?_eq_some_iff.mp hn).1, _, hn⟩
        · rename_i hn; cases hd; exact ⟨rfl, (List.getElem?_eq_some_iff.mp hn).1, _, hn⟩
        · cases hd
      obtain ⟨rfl, hn, _⟩ := hu
      obtain ⟨m, rfl, hm1⟩ := r.i_ref
      have hm := hdo n m rfl rfl hm1 hn
      simp only
      cases hlk : lockD n hv with
      | none => trivial
      | some hvl =>
        obtain ⟨hl, l1, l2, l3⟩ := lock_obj R hm hlk
        have hdo' : Fs.dictOf h (.ref m) = some m := by
          unfold Fs.lockD at l1
          simp only [Fs.dictOf]
          split at l1
          · rfl
          · rfl
          · cases l1
        simp only
        have hgl := hg hvl hl l3
        cases hgv : g hvl with
        | bad => trivial
        | ex _ _ => trivial
        | ok a hv2 =>
          rw [hgv] at hgl
          obtain ⟨b2, h2, Z2, ρ2, e1, e2, e3, e4⟩ := hgl
          cases a <;> first | trivial | skip
          rename_i k
          simp only
          by_cases hk : k = n
          · subst hk
            rw [if_pos rfl]
            obtain ⟨m', rfl, hm'⟩ := e4.i_ref
            have : m' = m := by
              have := e2.low.at_ _ _ hm
              rw [hm'] at this
              exact Option.some.inj this
            subst this
            cases hw : walkD hv2 w k with
            | none => trivial
            | some xs =>
              obtain ⟨vs, w1, w2⟩ := walkD_rel e3 hm' hw
              refine ⟨.fix vs, some m', h2, Z2, ρ2, ?_, e3, wr_of w2, m', rfl, hm', l2.trans e2⟩
              unfold evDo
              rw [hdo']
              simp only [l1, e1, if_true, w1]
              rfl
          · rw [if_neg hk]
            trivial
end
end Fw
set_option Elab.async false
set_option linter.all false
set_option maxRecDepth 100000
set_option maxHeartbeats 8000000
set_option autoImplicit false
set_option relaxedAutoImplicit false
namespace Fw
open PySem L2
open Fs (lim keyOf keysOf kVal look put drp setF Bop Cop Ty Tn isTn cut Blt Mt Tg E Es Oe I S Ss Def)
section
variable {Z Z' Z1 : Zm} {ρ ρ' ρ1 : List Nat} {hv hv' : Hep} {h h' h1 : Fs.Hep} {F : Orc} {G : Fs.Orc} {σv : Evn} {σ : Fs.Evn}
theorem Ext.back (R : SR Z ρ hv h) (ex : Ext Z ρ h Z1 ρ1 h1) {n m : Nat} (e : ρ1[n]? = some m) (hn : n < hv.length) : ρ[n]? = some m := by
  obtain ⟨t, rfl⟩ := ex.pre
  rw [List.getElem?_append_left (by rw [R.len]; exact hn)] at e
  exact e
/-- no dict: for both -/
theorem nodict (R : SR Z ρ hv h) (ex : Ext Z ρ h Z1 ρ1 h1) {u : W} {v : Fs.Val} (r : RX Z1 ρ1 u v) (hf : isFD u = false) (hd : dictOf hv u = none) : Fs.dictOf h v = none := by
  have big : ∀ m, h.length ≤ m → Fs.dictOf h (.ref m) = none := fun m hm => by
    simp only [Fs.dictOf, List.getElem?_eq_none_iff.mpr hm]
  cases u with
  | non => cases r.i_non; rfl
  | bl _ => cases r.i_bl; rfl
  | int _ => cases r.i_int; rfl
  | str _ => cases r.i_str; rfl
  | tup xs => obtain ⟨vs, rfl, _⟩ := r.i_tup; rfl
  | fl xs =>
    rcases r with ⟨_, vs, _, rfl, _⟩ | r
    · rfl
    · obtain ⟨m, rfl, hm⟩ := r.i_fl
      rcases ex.nz m _ hm with hz | hz
      · obtain ⟨vs, h1, _⟩ := R.at_fl hz
        simp only [Fs.dictOf, h1]
      · exact big m hz
  | fk xs => cases hf
  | ft xs => cases hf
  | ref n =>
    obtain ⟨m, rfl, hm⟩ := r.i_ref
    rcases ex.nr n m hm with hz | hz
    · obtain ⟨o, ho⟩ := R.rat hz
      obtain ⟨u, h1, ro⟩ := R.at_ref hz ho
      simp only [dictOf, ho] at hd
      cases o with
      | lst xs => obtain ⟨_, rfl, _⟩ := ro; simp only [Fs.dictOf, h1]
      | ro xs => obtain ⟨_, rfl, _⟩ := ro; simp only [Fs.dictOf, h1]
      | ins c xs => obtain ⟨_, rfl, _⟩ := ro; simp only [Fs.dictOf, h1]
      | exc c => cases (show u = .exc c [] from ro); simp only [Fs.dictOf, h1]
      | dK fz xs =>
        obtain ⟨_, rfl, _⟩ := ro
        cases fz with
        | false => cases hd
        | true => simp only [Fs.dictOf, h1]
      | dT fz xs =>
        obtain ⟨_, rfl, _⟩ := ro
        cases fz with
        | false => cases hd
        | true => simp only [Fs.dictOf, h1]
    · exact big m hz
theorem evI_of {F : Orc} {e : E} {σ : Evn} {h : Hep} : evI F (.of e) σ h = match evE F e σ h with
    | .ok u h1 => evDv .keys (evE F e σ) u (isVar e) h h1 ((Res.of (wkOf h1 u) h1).bind fun w h2 => .ok (w, .no) h2)
    | .ex x h1 => .ex x h1
    | .bad => .bad := by simp only [evI]; rfl
theorem evI_it {F : Orc} {e : E} {σ : Evn} {h : Hep} : evI F (.items e) σ h = match evE F e σ h with
    | .ok u h1 => evDv .items (evE F e σ) u (isVar e) h h1 .bad
    | _ => .bad := by simp only [evI]; rfl
theorem evI_va {F : Orc} {e : E} {σ : Evn} {h : Hep} : evI F (.values e) σ h = match evE F e σ h with
    | .ok u h1 => evDv .vals (evE F e σ) u (isVar e) h h1 .bad
    | _ => .bad := by simp only [evI]; rfl
theorem fevI_of {F : Fs.Orc} {e : E} {σ : Fs.Evn} {h : Fs.Hep} : Fs.evI F (.of e) σ h = match Fs.evE F e σ h with
    | .ok u h1 => evDo .keys (Fs.evE F e σ) u h (match Fs.keysL h1 u with
        | some xs => .ok (.fix xs, none) h1
        | none => (Fs.Res.of (Fs.wkOf h1 u) h1).bind fun w h2 => .ok (w, none) h2)
    | .ex x h1 => .ex x h1
    | .bad => .bad := by simp only [Fs.evI]; rfl
theorem fevI_it {F : Fs.Orc} {e : E} {σ : Fs.Evn} {h : Fs.Hep} : Fs.evI F (.items e) σ h = match Fs.evE F e σ h with
    | .ok u h1 => evDo .items (Fs.evE F e σ) u h ((Fs.Res.of (Fs.itemsL h1 u) h1).bind fun xs h2 => .ok (.fix xs, none) h2)
    | _ => .bad := by simp only [Fs.evI]; rfl
theorem fevI_va {F : Fs.Orc} {e : E} {σ : Fs.Evn} {h : Fs.Hep} : Fs.evI F (.values e) σ h = match Fs.evE F e σ h with
    | .ok u h1 => evDo .vals (Fs.evE F e σ) u h ((Fs.Res.of (Fs.valsL h1 u) h1).bind fun xs h2 => .ok (.fix xs, none) h2)
    | _ => .bad := by simp only [Fs.evI]; rfl
theorem var_ok {e : E} (he : isVar e = true) {u : Fs.Val} {h' : Fs.Hep} (hr : Fs.evE G e σ h = .ok u h') : h' = h ∧ ∀ hl, Fs.evE G e σ hl = .ok u hl := by
  cases e <;> first | cases he | skip
  rename_i i
  simp only [Fs.evE] at hr ⊢
  split at hr
  · cases hr
    exact ⟨rfl, fun _ => rfl⟩
  · cases hr
theorem walk_none {w : How} {u : W} {m : Nat} {xs : List W} (R : SR Z ρ hv h) (r : Z m = some u) (hw : walkF w u = some xs) (hd : Fs.dictOf h (.ref m) = none) : ∃ vs, howD w h m = some vs ∧ RWs Z ρ xs vs := by
  rcases walkF_rel R r hw with ⟨hl, vs, e1, _⟩ | ⟨vs, e1, e2, e3⟩
  · rw [hd] at e1; cases e1
  · exact ⟨vs, e2, e3⟩
theorem it_sim {w : How} {e : E} {els : W → Hep → Res (Wk × Bk)} {els' : Fs.Val → Fs.Hep → Fs.Res (Fs.Wk × Option Nat)} (R : SR Z ρ hv h) (re : RV Z ρ σv σ)
    (hE : ∀ Z ρ hv h, SR Z ρ hv h → RV Z ρ σv σ → RR RX Z ρ h (evE F e σv hv) (Fs.evE G e σ h)) {u : W} {hv1 : Hep} (hu : evE F e σv hv = .ok u hv1)
    (hels : ∀ (Z1 : Zm) (ρ1 : List Nat) (h1 : Fs.Hep) v, Ext Z ρ h Z1 ρ1 h1 → SR Z1 ρ1 hv1 h1 → RX Z1 ρ1 u v → isFD u = false → RI Z ρ h (els u hv1) (els' v h1))
    (hfr : ∀ (m : Nat) vs, howD w h m = some vs → els' (.ref m) h = .ok (.fix vs, none) h) :
    ∃ v h1, Fs.evE G e σ h = .ok v h1 ∧ RI Z ρ h (evDv w (evE F e σv) u (isVar e) hv hv1 (els u hv1)) (evDo w (Fs.evE G e σ) v h (els' v h1)) := by
  have p := hE Z ρ hv h R re
  rw [hu] at p
  obtain ⟨v, h1, Z1, ρ1, e1, ex, R1, r⟩ := p
  refine ⟨v, h1, e1, ?_⟩
  have hvar' : isVar e = true → h1 = h ∧ ∀ hl, Fs.evE G e σ hl = .ok v hl := fun z => var_ok z e1
  by_cases hb : isVar e = true
  · obtain ⟨rfl, hgv⟩ := hvar' hb
    -- the state is as it was
    have hw : ∃ i, e = .var i := by cases e <;> first | exact ⟨_, rfl⟩ | cases hb
    obtain ⟨i, rfl⟩ := hw
    have hu2 : σv[i]? = some (some u) ∧ hv1 = hv := by
      simp only [evE] at hu
      split at hu
      · rename_i q; cases hu; exact ⟨q, rfl⟩
      · cases hu
    obtain ⟨q, rfl⟩ := hu2
    obtain ⟨v', q1, q2⟩ := re.2 i u q
    have hv2 : v = v' := by
      simp only [Fs.evE, q1] at e1
      cases e1; rfl
    subst hv2
    refine evD_sim (Z1 := Z) (ρ1 := ρ) R (fun hvl hl Rl => hE Z ρ hvl hl Rl re) R .refl (.of q2) (fun _ => ⟨rfl, rfl, rfl, hgv⟩) (fun hf hd => ⟨hels Z ρ h1 v .refl R (.of q2) hf, .inr (nodict R .refl (.of q2) hf hd)⟩) (fun xs hf _ hw hd => ?_) (fun n m _ _ hm _ => hm)
    have hv' : ∃ m, v = .ref m ∧ Z m = some u := by
      cases u <;> first | (cases hf; done) | skip
      · exact q2.i_fk
      · exact q2.i_ft
    obtain ⟨m, rfl, hz⟩ := hv'
    obtain ⟨vs, a, b⟩ := walk_none R hz hw hd
    exact ⟨vs, hfr m vs a, b⟩
  · have hb' : isVar e = false := by simpa using hb
    rw [hb']
    exact evD_sim R (fun hvl hl Rl => hE Z ρ hvl hl Rl re) R1 ex r (fun z => nomatch z) (fun hf hd => ⟨hels Z1 ρ1 h1 v ex R1 r hf, .inr (nodict R ex r hf hd)⟩) (fun _ _ z => nomatch z) (fun n m _ _ hm hn => ex.back R hm hn)
theorem RI.ext {r : Res (Wk × Bk)} {r' : Fs.Res (Fs.Wk × Option Nat)} (e : Ext Z1 ρ1 h1 Z ρ h) (nfd : ∀ w hv, r ≠ .ok (w, .fd) hv) (p : RI Z ρ h r r') : RI Z1 ρ1 h1 r r' := by
  cases r with
  | bad => trivial
  | ex a hv' => obtain ⟨b, h', Z', ρ', e1, e2, e3, e4⟩ := p; exact ⟨b, h', Z', ρ', e1, e.trans e2, e3, e4⟩
  | ok a hv' =>
    obtain ⟨w', d, h', Z', ρ', e1, e2, e3, e4⟩ := p
    refine ⟨w', d, h', Z', ρ', e1, e2, e3, ?_⟩
    obtain ⟨w, bk⟩ := a
    cases bk with
    | no => exact ⟨e4.1, e.trans e4.2⟩
    | un n => obtain ⟨m, a, b, c⟩ := e4; exact ⟨m, a, b, e.trans c⟩
    | fd => exact absurd rfl (nfd w hv')
theorem ri_bind {α β : Type} {Q : Zm → List Nat → α → β → Prop} {r : Res α} {r' : Fs.Res β} {f : α → Hep → Res (Wk × Bk)} {f' : β → Fs.Hep → Fs.Res (Fs.Wk × Option Nat)} (p : RR Q Z ρ h r r') (nfd : ∀ a hv w hv', f a hv ≠ .ok (w, .fd) hv')
    (k : ∀ a b hv1 h1 Z1 ρ1, Ext Z ρ h Z1 ρ1 h1 → SR Z1 ρ1 hv1 h1 → Q Z1 ρ1 a b → RI Z1 ρ1 h1 (f a hv1) (f' b h1)) : RI Z ρ h (r.bind f) (r'.bind f') := by
  cases r with
  | bad => trivial
  | ok a hv' =>
    obtain ⟨b, h', Z', ρ', rfl, e2, e3, e4⟩ := p
    exact (k a b hv' h' Z' ρ' e2 e3 e4).ext e2 (nfd a hv')
  | ex a hv' => obtain ⟨b, h', Z', ρ', rfl, e2, e3, e4⟩ := p; exact ⟨b, h', Z', ρ', rfl, e2, e3, e4⟩
theorem ri_ok (R : SR Z ρ hv h) {w : Wk} {w' : Fs.Wk} (wr : WR Z ρ hv h w w') : RI Z ρ h (.ok (w, .no) hv) (.ok (w', none) h) := ⟨w', none, h, Z, ρ, rfl, R, wr, rfl, .refl⟩
/-- a list that is a new one is in the air -/
theorem fresh_tl {e : E} (hf : fresh e = true) {v : Fs.Val} {h' : Fs.Hep} (hr : Fs.evE G e σ h = .ok v h') : ∀ m, v ≠ .ref m := by
  have bind_ok : ∀ {α β : Type} {r : Fs.Res α} {f : α → Fs.Hep → Fs.Res β} {b : β} {h2 : Fs.Hep}, r.bind f = .ok b h2 → ∃ a h1, r = .ok a h1 ∧ f a h1 = .ok b h2 := by
    intro α β r f b h2 e
    cases r with
    | ok a h1 => exact ⟨a, h1, rfl, e⟩
    | ex x h1 => cases e
    | bad => cases e
  have of_ok : ∀ {α : Type} {o : Option α} {a : α} {h1 h2 : Fs.Hep}, Fs.Res.of o h1 = .ok a h2 → o = some a := by
    intro α o a h1 h2 e
    cases o with
    | none => cases e
    | some b => cases e; rfl
  rintro m rfl
  cases e <;> first | (cases hf; done) | skip
  · rename_i o a b
    cases o <;> first | (cases hf; done) | skip
    · simp only [Fs.evE] at hr
      obtain ⟨u, h1, e1, e2⟩ := bind_ok hr
      obtain ⟨u2, h2, e3, e4⟩ := bind_ok e2
      have := of_ok e4
      simp only [Fs.bop] at this
      unfold Fs.addO at this
      split at this
      · cases this
      · split at this <;> cases this
      · split at this <;> cases this
      · split at this
        · split at this <;> cases this
        · cases this
    · simp only [Fs.evE] at hr
      obtain ⟨u, h1, e1, e2⟩ := bind_ok hr
      obtain ⟨u2, h2, e3, e4⟩ := bind_ok e2
      have := of_ok e4
      simp only [Fs.bop] at this
      unfold Fs.mulO at this
      split at this
      · split at this <;> cases this
      · split at this
        · split at this <;> cases this
        · cases this
      · cases this
  · simp only [Fs.evE] at hr
    obtain ⟨u, h1, e1, e2⟩ := bind_ok hr
    split at e2 <;> cases e2
  · simp only [Fs.evE] at hr
    obtain ⟨u, h1, e1, e2⟩ := bind_ok hr
    obtain ⟨u2, h2, e3, e4⟩ := bind_ok e2
    obtain ⟨u3, h3, e5, e6⟩ := bind_ok e4
    have := of_ok e6
    unfold Fs.slO at this
    split at this
    · split at this <;> cases this
    · cases this
    · split at this <;> cases this
  · simp only [Fs.evE] at hr
    obtain ⟨u, h1, e1, e2⟩ := bind_ok hr
    obtain ⟨a, _, z⟩ := map_some (of_ok e2)
    cases z
  · rename_i b es
    cases b <;> first | (cases hf; done) | skip
    · simp only [Fs.evE] at hr
      obtain ⟨u, h1, e1, e2⟩ := bind_ok hr
      cases q : Fs.bltF h1 .list u with
      | none => rw [q] at e2; cases e2
      | some p =>
        obtain ⟨p1, p2⟩ := p
        rw [q] at e2
        cases e2
        simp only [Fs.bltF] at q
        unfold Fs.un at q
        split at q
        · obtain ⟨a, q1, q2⟩ := map_some q
          cases q2
          unfold Fs.listV at q1
          split at q1 <;> first | (cases q1; done) | skip
          split at q1 <;> cases q1
        · cases q
    · simp only [Fs.evE] at hr
      obtain ⟨u, h1, e1, e2⟩ := bind_ok hr
      cases q : Fs.bltF h1 .sorted u with
      | none => rw [q] at e2; cases e2
      | some p =>
        obtain ⟨p1, p2⟩ := p
        rw [q] at e2
        cases e2
        simp only [Fs.bltF] at q
        unfold Fs.un at q
        split at q
        · obtain ⟨a, q1, q2⟩ := map_some q
          cases q2
          obtain ⟨b, _, z⟩ := map_some q1
          cases z
        · cases q
  · simp only [Fs.evE] at hr
    obtain ⟨u, h1, e1, e2⟩ := bind_ok hr
    have := of_ok e2
    unfold Fs.rngL at this
    split at this
    · split at this <;> cases this
    · split at this <;> cases this
    · cases this
  · simp only [Fs.evE] at hr
    obtain ⟨u, h1, e1, e2⟩ := bind_ok hr
    obtain ⟨u2, h2, e3, e4⟩ := bind_ok e2
    cases e4
theorem unlkE_rel {α β : Type} {Q : Zm → List Nat → α → β → Prop} (lw : ∀ Z ρ Z' ρ' a b, Low Z ρ Z' ρ' → Q Z ρ a b → Q Z' ρ' a b) {n m : Nat} {r : Res α} {r' : Fs.Res β} (hm : ρ[n]? = some m) (p : okR Q Z ρ h r r') : RR Q Z ρ h (unlkE n r) (Fs.unlkE m r') := by
  cases r with
  | bad => trivial
  | ex _ _ => trivial
  | ok a hv' =>
    obtain ⟨b, h', Z', ρ', rfl, e2, e3, e4⟩ := p
    unfold unlkE
    simp only
    cases hu : unlockD n hv' with
    | none => trivial
    | some hv2 =>
      obtain ⟨hl, l1, l2, l3⟩ := unlock_obj e3 (e2.low.at_ _ _ hm) hu
      exact ⟨b, hl, Z', ρ', by unfold Fs.unlkE; simp only [l1], e2.trans l2, l3, e4⟩
theorem nox_rel {α β : Type} {Q : Zm → List Nat → α → β → Prop} {r : Res α} {r' : Fs.Res β} (p : okR Q Z ρ h r r') : RR Q Z ρ h r.nox r'.nox := by
  cases r with
  | bad => trivial
  | ex _ _ => trivial
  | ok a hv' =>
    obtain ⟨b, h', Z', ρ', rfl, e2, e3, e4⟩ := p
    exact ⟨b, h', Z', ρ', rfl, e2, e3, e4⟩
theorem lay_rel {w : W} {v : Fs.Val} (R : SR Z ρ hv h) (r : RX Z ρ w v) (nr : ∀ m, v ≠ .ref m) : RR RX Z ρ h (layW w hv) (.ok (Fs.mat v h).1 (Fs.mat v h).2) := by
  cases w <;> first | trivial | skip
  rename_i xs
  rcases r with ⟨ys, vs, e3, rfl, h3⟩ | r
  · cases e3
    have lw : Low Z ρ Z (ρ ++ [h.length]) := ⟨fun n m e => by rw [List.getElem?_append_left (List.getElem?_eq_some_iff.mp e).1]; exact e, fun _ _ e => e⟩
    obtain ⟨a1, a2, a3⟩ := R.obj (ov := .lst xs) (o := .lst vs) ⟨vs, rfl, RWs.low lw _ _ h3⟩
    refine ⟨_, _, _, _, rfl, a2, a1, .of ?_⟩
    unfold RW
    exact ⟨_, rfl, a3⟩
  · obtain ⟨m, rfl, _⟩ := r.i_fl
    exact absurd rfl (nr m)
end
end Fw
set_option Elab.async false
set_option linter.all false
set_option maxRecDepth 100000
set_option maxHeartbeats 8000000
set_option autoImplicit false
set_option relaxedAutoImplicit false
namespace Fw
open PySem L2
open Fs (lim keyOf keysOf kVal look put drp setF Bop Cop Ty Tn isTn cut Blt Mt Tg E Es Oe I S Ss Def)
section
variable {F : Orc} {G : Fs.Orc}
theorem two_rel {f : Hep → W → W → Option W} {g : Fs.Hep → Fs.Val → Fs.Val → Option Fs.Val} {a b : E} {σv : Evn} {σ : Fs.Evn} {Z : Zm} {ρ : List Nat} {hv : Hep} {h : Fs.Hep} (R : SR Z ρ hv h) (re : RV Z ρ σv σ)
    (ha : ∀ {Z ρ hv h}, SR Z ρ hv h → RV Z ρ σv σ → RR RX Z ρ h (evE F a σv hv) (Fs.evE G a σ h)) (hb : ∀ {Z ρ hv h}, SR Z ρ hv h → RV Z ρ σv σ → RR RX Z ρ h (evE F b σv hv) (Fs.evE G b σ h))
    (hf : ∀ {Z ρ hv h w1 w2 w v1 v2}, SR Z ρ hv h → RX Z ρ w1 v1 → RX Z ρ w2 v2 → f hv w1 w2 = some w → ∃ v, g h v1 v2 = some v ∧ RX Z ρ w v) :
    RR RX Z ρ h ((evE F a σv hv).bind fun u h1 => (evE F b σv h1).bind fun v h2 => Res.of (f h2 u v) h2) ((Fs.evE G a σ h).bind fun u h1 => (Fs.evE G b σ h1).bind fun v h2 => Fs.Res.of (g h2 u v) h2) :=
  (ha R re).bind fun u v hv1 h1 Z1 ρ1 e1 R1 r1 => (hb R1 (re.low e1.low)).bind fun u2 v2 hv2 h2 Z2 ρ2 e2 R2 r2 => RR.of R2 fun w e => hf R2 (r1.low e2.low) r2 e
def stepO (G : Fs.Orc) (own : List Nat) (elt : E) (tg : Tg) (c : Oe) (σ : Fs.Evn) : Fs.Val → Fs.Hep → Fs.Res (Option Fs.Val) := fun x h => match Fs.asgT h tg x (Fs.wipeE σ own) with
  | some σ' => (Fs.evC G c σ' h).bind fun k h' => if k = true then (Fs.evE G elt σ' h').bind fun v h'' => let (v', h3) := Fs.mat v h''; .ok (some v') h3 else .ok none h'
  | none => .bad
mutual
theorem sE (o : OR F G) : ∀ (e : E) {σv : Evn} {σ : Fs.Evn} {Z : Zm} {ρ : List Nat} {hv : Hep} {h : Fs.Hep}, SR Z ρ hv h → RV Z ρ σv σ → RR RX Z ρ h (evE F e σv hv) (Fs.evE G e σ h)
  | .var i, σv, σ, Z, ρ, hv, h, R, re => by
    simp only [evE, Fs.evE]
    cases q : σv[i]? with
    | none => trivial
    | some ow =>
      cases ow with
      | none => trivial
      | some w =>
        obtain ⟨v, h1, h2⟩ := re.2 i w q
        rw [h1]
        exact RR.ok R (.of h2)
  | .non, σv, σ, Z, ρ, hv, h, R, re => by simp only [evE, Fs.evE]; exact RR.ok R (.of RW.mk_non)
  | .bl b, σv, σ, Z, ρ, hv, h, R, re => by simp only [evE, Fs.evE]; exact RR.ok R (.of RW.mk_bl)
  | .int b, σv, σ, Z, ρ, hv, h, R, re => by simp only [evE, Fs.evE]; exact RR.ok R (.of RW.mk_int)
  | .str b, σv, σ, Z, ρ, hv, h, R, re => by simp only [evE, Fs.evE]; exact RR.ok R (.of RW.mk_str)
  | .gint _ b, σv, σ, Z, ρ, hv, h, R, re => by simp only [evE, Fs.evE]; exact RR.ok R (.of RW.mk_int)
  | .gstr _ b, σv, σ, Z, ρ, hv, h, R, re => by simp only [evE, Fs.evE]; exact RR.ok R (.of RW.mk_str)
  | .bin op a b, σv, σ, Z, ρ, hv, h, R, re => by
    simp only [evE, Fs.evE]
    exact two_rel (f := fun h => bop h op) (g := fun h => Fs.bop h op) R re (fun R re => sE o a R re) (fun R re => sE o b R re) fun R r1 r2 e => bop_rel R r1 r2 e
  | .neg a, σv, σ, Z, ρ, hv, h, R, re => by
    simp only [evE, Fs.evE]
    refine (sE o a R re).bind fun u v hv1 h1 Z1 ρ1 e1 R1 r1 => ?_
    cases u <;> first | trivial | skip
    cases r1.i_int
    exact RR.ok R1 (.of RW.mk_int)
  | .cmp op a b, σv, σ, Z, ρ, hv, h, R, re => by
    simp only [evE, Fs.evE]
    refine (sE o a R re).bind fun u v hv1 h1 Z1 ρ1 e1 R1 r1 => (sE o b R1 (re.low e1.low)).bind fun u2 v2 hv2 h2 Z2 ρ2 e2 R2 r2 => ?_
    exact (RR.of (Q := EQ) (o' := Fs.cop h2 op v v2) R2 fun c e => ⟨c, cop_rel R2 (r1.low e2.low) r2 e, rfl⟩).bind fun c c' hv3 h3 Z3 ρ3 e3 R3 q => by
      cases (show c' = c from q)
      exact RR.ok R3 (.of RW.mk_bl)
  | .chain op p a b c, σv, σ, Z, ρ, hv, h, R, re => by
    simp only [evE, Fs.evE]
    refine (sE o a R re).bind fun u v hv1 h1 Z1 ρ1 e1 R1 r1 => (sE o b R1 (re.low e1.low)).bind fun u2 v2 hv2 h2 Z2 ρ2 e2 R2 r2 => ?_
    refine (RR.of (Q := EQ) (o' := Fs.cop h2 op v v2) R2 fun c e => ⟨c, cop_rel R2 (r1.low e2.low) r2 e, rfl⟩).bind fun k k' hv3 h3 Z3 ρ3 e3 R3 q => ?_
    cases (show k' = k from q)
    cases k with
    | false => exact RR.ok R3 (.of RW.mk_bl)
    | true =>
      rw [if_pos rfl, if_pos rfl]
      refine (sE o c R3 (((re.low e1.low).low e2.low).low e3.low)).bind fun u4 v4 hv4 h4 Z4 ρ4 e4 R4 r4 => ?_
      exact (RR.of (Q := EQ) (o' := Fs.cop h4 p v2 v4) R4 fun c e => ⟨c, cop_rel R4 ((r2.low e3.low).low e4.low) r4 e, rfl⟩).bind fun c c' hv5 h5 Z5 ρ5 e5 R5 q => by
        cases (show c' = c from q)
        exact RR.ok R5 (.of RW.mk_bl)
  | .and a b, σv, σ, Z, ρ, hv, h, R, re => by
    simp only [evE, Fs.evE]
    refine (sE o a R re).bind fun u v hv1 h1 Z1 ρ1 e1 R1 r1 => ?_
    refine (RR.of (Q := EQ) (o' := Fs.tru h1 v) R1 fun c e => ⟨c, tru_rel R1 r1 e, rfl⟩).bind fun k k' hv3 h3 Z3 ρ3 e3 R3 q => ?_
    cases (show k' = k from q)
    cases k with
    | false => exact RR.ok R3 (r1.low e3.low)
    | true => exact sE o b R3 ((re.low e1.low).low e3.low)
  | .or a b, σv, σ, Z, ρ, hv, h, R, re => by
    simp only [evE, Fs.evE]
    refine (sE o a R re).bind fun u v hv1 h1 Z1 ρ1 e1 R1 r1 => ?_
    refine (RR.of (Q := EQ) (o' := Fs.tru h1 v) R1 fun c e => ⟨c, tru_rel R1 r1 e, rfl⟩).bind fun k k' hv3 h3 Z3 ρ3 e3 R3 q => ?_
    cases (show k' = k from q)
    cases k with
    | true => exact RR.ok R3 (r1.low e3.low)
    | false => exact sE o b R3 ((re.low e1.low).low e3.low)
  | .not a, σv, σ, Z, ρ, hv, h, R, re => by
    simp only [evE, Fs.evE]
    refine (sE o a R re).bind fun u v hv1 h1 Z1 ρ1 e1 R1 r1 => ?_
    refine (RR.of (Q := EQ) (o' := Fs.tru h1 v) R1 fun c e => ⟨c, tru_rel R1 r1 e, rfl⟩).bind fun k k' hv3 h3 Z3 ρ3 e3 R3 q => ?_
    cases (show k' = k from q)
    exact RR.ok R3 (.of RW.mk_bl)
  | .tup es, σv, σ, Z, ρ, hv, h, R, re => by
    simp only [evE, Fs.evE]
    refine (sEs o es R re).bind fun u v hv1 h1 Z1 ρ1 e1 R1 r1 => ?_
    by_cases hl : u.length ≤ lim
    · rw [if_pos hl, if_pos (by rw [← RWs.length r1]; exact hl)]
      exact RR.ok R1 (.of (RW.mk_tup r1))
    · rw [if_neg hl]; trivial
  | .lst es, σv, σ, Z, ρ, hv, h, R, re => by
    simp only [evE, Fs.evE]
    refine (sEs o es R re).bind fun u v hv1 h1 Z1 ρ1 e1 R1 r1 => ?_
    by_cases hl : u.length ≤ lim
    · rw [if_pos hl, if_pos (by rw [← RWs.length r1]; exact hl)]
      exact RR.ok R1 (.tl r1)
    · rw [if_neg hl]; trivial
  | .dnew t, σv, σ, Z, ρ, hv, h, R, re => by
    simp only [evE, Fs.evE]
    cases t with
    | true =>
      obtain ⟨a1, a2, a3⟩ := R.obj (ov := .dT false []) (o := .dT false []) ⟨[], rfl, rfl⟩
      exact ⟨_, _, _, _, rfl, a2, a1, .of (by unfold RW; exact ⟨_, rfl, a3⟩)⟩
    | false =>
      obtain ⟨a1, a2, a3⟩ := R.obj (ov := .dK false []) (o := .dK false []) ⟨[], rfl, rfl⟩
      exact ⟨_, _, _, _, rfl, a2, a1, .of (by unfold RW; exact ⟨_, rfl, a3⟩)⟩
  | .disp k x, σv, σ, Z, ρ, hv, h, R, re => by
    simp only [evE, Fs.evE]
    refine (sE o k R re).bind fun u v hv1 h1 Z1 ρ1 e1 R1 r1 => (sE o x R1 (re.low e1.low)).bind fun u2 v2 hv2 h2 Z2 ρ2 e2 R2 r2 => ?_
    obtain ⟨Z3, e3, R3, r3⟩ := mat_ok R2 r2
    have lw : Low Z3 ρ2 Z3 (ρ2 ++ [(Fs.mat v2 h2).2.length]) := ⟨fun n m e => by rw [List.getElem?_append_left (List.getElem?_eq_some_iff.mp e).1]; exact e, fun _ _ e => e⟩
    cases hk : keyW u with
    | some kk =>
      have f1 := key_rel ((r1.low e2.low).low e3.low) hk
      simp only
      rw [f1]
      obtain ⟨a1, a2, a3⟩ := R3.obj (ov := .dK false [(kk, u2)]) (o := .dK false [(kk, (Fs.mat v2 h2).1)]) ⟨_, rfl, _, _, rfl, RW.low lw _ _ r3, rfl⟩
      exact ⟨_, _, _, _, rfl, e3.trans a2, a1, .of (by unfold RW; exact ⟨_, rfl, a3⟩)⟩
    | none =>
      have f1 := keyN_rel ((r1.low e2.low).low e3.low) hk
      simp only
      rw [f1]
      cases hk2 : keysW u with
      | none => trivial
      | some kk =>
        have f2 := keys_rel ((r1.low e2.low).low e3.low) hk2
        simp only
        rw [f2]
        obtain ⟨a1, a2, a3⟩ := R3.obj (ov := .dT false [(kk, u2)]) (o := .dT false [(kk, (Fs.mat v2 h2).1)]) ⟨_, rfl, _, _, rfl, RW.low lw _ _ r3, rfl⟩
        exact ⟨_, _, _, _, rfl, e3.trans a2, a1, .of (by unfold RW; exact ⟨_, rfl, a3⟩)⟩
  | .idx a b, σv, σ, Z, ρ, hv, h, R, re => by
    simp only [evE, Fs.evE]
    exact two_rel (f := ixO) (g := Fs.ixO) R re (fun R re => sE o a R re) (fun R re => sE o b R re) fun R r1 r2 e => ix_rel R r1 r2 e
  | .sl a lo hi, σv, σ, Z, ρ, hv, h, R, re => by
    simp only [evE, Fs.evE]
    refine (sE o a R re).bind fun u v hv1 h1 Z1 ρ1 e1 R1 r1 => (sO o lo R1 (re.low e1.low)).bind fun u2 v2 hv2 h2 Z2 ρ2 e2 R2 q2 => (sO o hi R2 ((re.low e1.low).low e2.low)).bind fun u3 v3 hv3 h3 Z3 ρ3 e3 R3 q3 => ?_
    cases (show v2 = u2 from q2)
    cases (show v3 = u3 from q3)
    exact RR.of R3 fun w e => sl_rel R3 ((r1.low e2.low).low e3.low) e
  | .rev a, σv, σ, Z, ρ, hv, h, R, re => by
    simp only [evE, Fs.evE]
    refine (sE o a R re).bind fun u v hv1 h1 Z1 ρ1 e1 R1 r1 => RR.of R1 fun w e => ?_
    obtain ⟨xs, e2, e3⟩ := map_some e
    obtain ⟨vs, f1, f2⟩ := lst_rel R1 r1 e2
    exact ⟨.tl vs.reverse, by rw [f1]; rfl, e3 ▸ .tl f2.reverse⟩
  | .fld a c f, σv, σ, Z, ρ, hv, h, R, re => by
    simp only [evE, Fs.evE]
    exact (sE o a R re).bind fun u v hv1 h1 Z1 ρ1 e1 R1 r1 => RR.of R1 fun w e => fld_rel R1 r1 e
  | .call f es, σv, σ, Z, ρ, hv, h, R, re => by
    simp only [evE, Fs.evE]
    exact (sEs o es R re).bind fun u v hv1 h1 Z1 ρ1 e1 R1 r1 => (o f u hv1 Z1 ρ1 h1 v R1 r1).imp fun _ _ _ _ q => .of q
  | .make c es, σv, σ, Z, ρ, hv, h, R, re => by
    simp only [evE, Fs.evE]
    refine (sEs o es R re).bind fun u v hv1 h1 Z1 ρ1 e1 R1 r1 => ?_
    obtain ⟨a1, a2, a3⟩ := R1.obj (ov := .ins c []) (o := .ins c []) ⟨[], rfl, rfl⟩
    have q := o (c ++ ".__init__") (.ref hv1.length :: u) _ _ _ _ (.ref h1.length :: v) a1 (RWs.cons (by unfold RW; exact ⟨_, rfl, a3⟩) (RWs.low a2.low _ _ r1))
    refine (q.bind fun w x hv2 h2 Z2 ρ2 e2 R2 r2 => ?_).ext a2
    cases w <;> first | trivial | skip
    cases RW.i_non r2
    exact RR.ok R2 (.of (by unfold RW; exact ⟨_, rfl, e2.low.at_ _ _ a3⟩))
  | .meth a c0 m es, σv, σ, Z, ρ, hv, h, R, re => by
    simp only [evE, Fs.evE]
    refine (sE o a R re).bind fun u v hv1 h1 Z1 ρ1 e1 R1 r1 => ?_
    cases u <;> first | trivial | skip
    rename_i n
    obtain ⟨k, rfl, hm⟩ := r1.i_ref
    simp only
    cases hn : hv1[n]? with
    | none => simp only; trivial
    | some ob =>
      cases ob with
      | ins c fs =>
        obtain ⟨u, h2, zs, rfl, rk⟩ := R1.at_ref hm hn
        simp only [h2]
        by_cases hc : c = c0 ∧ fs.lookup m = none
        · rw [if_pos hc, if_pos (show c = c0 ∧ zs.lookup m = none from ⟨hc.1, rk.lookup_none m hc.2⟩)]
          refine (sEs o es R1 (re.low e1.low)).bind fun u3 v3 hv3 h3 Z3 ρ3 e3 R3 r3 => ?_
          have rr : RW Z3 ρ3 (.ref n) (.ref k) := by unfold RW; exact ⟨_, rfl, e3.low.at_ _ _ hm⟩
          exact (o _ _ hv3 Z3 ρ3 h3 _ R3 (RWs.cons rr r3)).imp fun _ _ _ _ q => RX.of q
        · rw [if_neg hc]
          trivial
      | _ => simp only; trivial
  | .blt b es, σv, σ, Z, ρ, hv, h, R, re => by
    simp only [evE, Fs.evE]
    refine (sEr o es R re).bind fun u v hv1 h1 Z1 ρ1 e1 R1 r1 => ?_
    cases hb : bltF hv1 b u with
    | none => trivial
    | some w =>
      obtain ⟨x, h2, Z2, f1, f2, f3, f4⟩ := blt_rel R1 r1 hb
      rw [f1]
      exact ⟨x, h2, Z2, ρ1, rfl, f2, f3, f4⟩
  | .bm m a es, σv, σ, Z, ρ, hv, h, R, re => by
    simp only [evE, Fs.evE]
    refine (sE o a R re).bind fun u v hv1 h1 Z1 ρ1 e1 R1 r1 => ?_
    by_cases hr : recv hv1 m u = true
    · rw [if_pos hr, if_pos (recv_rel R1 r1 hr)]
      cases hk : Fs.keeps m with
      | true =>
        rw [if_pos rfl]
        refine (sEs o es R1 (re.low e1.low)).bind fun u3 v3 hv3 h3 Z3 ρ3 e3 R3 r3 => ?_
        cases hb : mtF hv3 m u u3 with
        | none => trivial
        | some p =>
          obtain ⟨w, hv4⟩ := p
          obtain ⟨x, h4, f1, f2, f3, f4⟩ := mtK_rel R3 hk (r1.low e3.low) r3 hb
          rw [f1]
          exact ⟨x, h4, Z3, ρ3, rfl, f2, f3, f4⟩
      | false =>
        rw [if_neg Bool.false_ne_true]
        refine (sEr o es R1 (re.low e1.low)).bind fun u3 v3 hv3 h3 Z3 ρ3 e3 R3 r3 => ?_
        cases hb : mtF hv3 m u u3 with
        | none => trivial
        | some p =>
          obtain ⟨w, hv4⟩ := p
          obtain ⟨x, h4, f1, f2, f3, f4⟩ := mtN_rel R3 hk (r1.low e3.low) r3 hb
          rw [f1]
          exact ⟨x, h4, Z3, ρ3, rfl, f2, f3, f4⟩
    · rw [if_neg hr]; trivial
  | .isi a t, σv, σ, Z, ρ, hv, h, R, re => by
    simp only [evE, Fs.evE]
    refine (sE o a R re).bind fun u v hv1 h1 Z1 ρ1 e1 R1 r1 => ?_
    refine (RR.of (Q := EQ) (o' := Fs.isi h1 v t) R1 fun c e => ⟨c, isi_rel R1 r1 e, rfl⟩).bind fun k k' hv3 h3 Z3 ρ3 e3 R3 q => ?_
    cases (show k' = k from q)
    exact RR.ok R3 (.of RW.mk_bl)
  | .isc a c sub non, σv, σ, Z, ρ, hv, h, R, re => by
    simp only [evE, Fs.evE]
    refine (sE o a R re).bind fun u v hv1 h1 Z1 ρ1 e1 R1 r1 => ?_
    refine (RR.of (Q := EQ) (o' := Fs.iscO sub non h1 v) R1 fun c e => ⟨c, isc_rel R1 r1 e, rfl⟩).bind fun k k' hv3 h3 Z3 ρ3 e3 R3 q => ?_
    cases (show k' = k from q)
    exact RR.ok R3 (.of RW.mk_bl)
  | .rng es, σv, σ, Z, ρ, hv, h, R, re => by
    simp only [evE, Fs.evE]
    exact (sEs o es R re).bind fun u v hv1 h1 Z1 ρ1 e1 R1 r1 => RR.of R1 fun w e => rngL_rel r1 e
  | .sitems a, σv, σ, Z, ρ, hv, h, R, re => by
    simp only [evE, Fs.evE]
    refine (sE o a R re).bind fun u v hv1 h1 Z1 ρ1 e1 R1 r1 => ?_
    cases hd : dictOf hv1 u with
    | none => trivial
    | some n =>
      have hu : u = .ref n := by
        cases u <;> first | (cases hd; done) | skip
        simp only [dictOf] at hd
        split at hd <;> cases hd <;> rfl
      subst hu
      obtain ⟨k, rfl, hm⟩ := r1.i_ref
      simp only
      simp only [dictOf] at hd
      cases hn : hv1[n]? with
      | none => trivial
      | some ob =>
        cases ob <;> first | trivial | skip
        rename_i fz kvs
        obtain ⟨u, h2, zs, rfl, rk⟩ := R1.at_ref hm hn
        rw [hn] at hd
        cases fz with
        | true => cases hd
        | false =>
          simp only [Fs.dictOf, h2]
          refine RR.of R1 fun w e => ?_
          obtain ⟨ys, e2, e3⟩ := map_some e
          have rw' : RWs Z1 ρ1 (kvs.map fun kv => W.tup [.tup (kv.1.map kW), kv.2]) (zs.map fun kv => Fs.Val.tup [.tup (kv.1.map kVal), kv.2]) :=
            RK.mapW (f := fun (kv : List Key × W) => W.tup [.tup (kv.1.map kW), kv.2]) (g := fun (kv : List Key × Fs.Val) => Fs.Val.tup [.tup (kv.1.map kVal), kv.2]) (fun k w v r => RW.mk_tup (RWs.cons (kWs_rel k) (RWs.cons r RWs.nil))) rk
          obtain ⟨us, f1, f2⟩ := sort_rel R1 rw' e2
          exact ⟨.tl us, by rw [f1]; rfl, e3 ▸ .tl f2⟩
  | .lay e, σv, σ, Z, ρ, hv, h, R, re => by
    by_cases hd : ∃ es, e = .blt .dict es
    · obtain ⟨es, rfl⟩ := hd
      simp only [evE, Fs.evE]
      have q := sEr o es R re
      cases hr : evEs F es σv hv with
      | bad => trivial
      | ex x hv1 =>
        rw [hr] at q
        obtain ⟨y, h1, Z1, ρ1, e1, e2, e3, e4⟩ := q
        rw [e1]
        exact ⟨y, h1, Z1, ρ1, rfl, e2, e3, e4⟩
      | ok ws hv1 =>
        rw [hr] at q
        obtain ⟨vs, h1, Z1, ρ1, e1, e2, e3, e4⟩ := q
        rw [e1]
        show RR RX Z ρ h ((Res.of (dictB hv1 ws) hv1).bind layD) _
        cases hb : dictB hv1 ws with
        | none => trivial
        | some w =>
          show RR RX Z ρ h (layD w hv1) _
          cases hl : layD w hv1 with
          | bad => trivial
          | ex _ _ => cases w <;> cases hl
          | ok u hv2 =>
            obtain ⟨v, h2, ρ2, f1, f2, f3, f4⟩ := dictO_rel e3 e4 hb hl
            show RR RX Z ρ h _ (Fs.Res.bind (Fs.resO (Fs.bltF h1 .dict vs)) _)
            rw [f1]
            have hm : Fs.mat v h2 = (v, h2) := by
              have := f4.noTl
              cases v <;> first | rfl | cases this
            refine ⟨v, h2, Z1, ρ2, ?_, e2.trans f2, f3, .of f4⟩
            show Fs.Res.ok (Fs.mat v h2).1 (Fs.mat v h2).2 = _
            rw [hm]
    · have ev : evE F (.lay e) σv hv = if fresh e = true then (evE F e σv hv).bind layW else .bad := by
        cases e <;> first | (simp only [evE]; done) | skip
        rename_i b es
        cases b <;> first | (simp only [evE]; done) | exact absurd ⟨_, rfl⟩ hd
      rw [ev]
      by_cases hf : fresh e = true
      · rw [if_pos hf]
        simp only [Fs.evE]
        have q := sE o e R re
        cases hr : evE F e σv hv with
        | bad => trivial
        | ex x hv1 =>
          rw [hr] at q
          obtain ⟨y, h1, Z1, ρ1, e1, e2, e3, e4⟩ := q
          rw [e1]
          exact ⟨y, h1, Z1, ρ1, rfl, e2, e3, e4⟩
        | ok w hv1 =>
          rw [hr] at q
          obtain ⟨v, h1, Z1, ρ1, e1, e2, e3, e4⟩ := q
          have nr := fresh_tl hf e1
          rw [e1]
          exact (lay_rel e3 e4 nr).ext e2
      · rw [if_neg hf]; trivial
  | .lc own elt tg it c, σv, σ, Z, ρ, hv, h, R, re => by
    simp only [evE, Fs.evE]
    have qi := sI o it R re
    cases hr : evI F it σv hv with
    | bad => trivial
    | ex x hv1 =>
      rw [hr] at qi
      obtain ⟨y, h1, Z1, ρ1, e1, e2, e3, e4⟩ := qi
      rw [e1]
      exact ⟨y, h1, Z1, ρ1, rfl, e2, e3, e4⟩
    | ok a hv1 =>
      obtain ⟨w, bk⟩ := a
      rw [hr] at qi
      obtain ⟨w', d, h1, Z1, ρ1, e1, R1, wr, hb⟩ := qi
      rw [e1]
      have lowZ : Low Z ρ Z1 ρ1 := by
        cases bk with
        | no => exact hb.2.low
        | un n => obtain ⟨m, _, _, e⟩ := hb; exact e.low
        | fd => rcases hb with ⟨_, e⟩ | ⟨m, u, _, _, _, rfl, rfl⟩
                · exact e.low
                · exact ⟨fun _ _ e => e, fun _ _ e => e⟩
      have re1 : RV Z1 ρ1 σv σ := re.low lowZ
      have step : LStep Z1 ρ1 h1 (stepV F own elt tg c σv) (stepO G own elt tg c σ) := by
        unfold stepV stepO
        intro Z2 ρ2 hv2 h2 x v e2 R2 rx
        simp only
        cases ha : asgT hv2 tg x (wipeE σv own) with
        | none => trivial
        | some σv' =>
          obtain ⟨σ', a1, a2⟩ := asg_rel R2 tg rx (RV.wipe2 own (re1.low e2.low)) ha
          rw [a1]
          simp only
          refine (sC o c R2 a2).bind fun k k' hv3 h3 Z3 ρ3 e3 R3 q => ?_
          cases (show k' = k from q)
          cases k with
          | false => exact RR.ok R3 rfl
          | true =>
            rw [if_pos rfl, if_pos rfl]
            refine (sE o elt R3 (a2.low e3.low)).bind fun u u' hv4 h4 Z4 ρ4 e4 R4 r4 => ?_
            obtain ⟨Z5, e5, R5, r5⟩ := mat_ok R4 r4
            exact ⟨some (Fs.mat u' h4).1, (Fs.mat u' h4).2, Z5, ρ4, rfl, e5, R5, _, rfl, r5⟩
      have key := lcR_sim R1 wr step
      have fin : ∀ {r : Res (List W)} {r' : Fs.Res (List Fs.Val)}, RR (fun Z ρ ws vs => RWs Z ρ ws vs) Z ρ h r r' → RR RX Z ρ h (r.bind fun acc h2 => .ok (.fl acc) h2) (r'.bind fun acc h2 => .ok (.tl acc) h2) := fun q => q.bind fun ws vs hv2 h2 Z2 ρ2 e2 R2 q => RR.ok R2 (.tl q)
      have goal : RR (fun Z ρ ws vs => RWs Z ρ ws vs) Z ρ h (match (generalizing := false) bk with
          | .un n => unlkE n (lcR w (stepV F own elt tg c σv) hv1)
          | _ => (lcR w (stepV F own elt tg c σv) hv1).nox) (match (generalizing := false) d with
          | some n => Fs.unlkE n (Fs.lcGo w' (stepO G own elt tg c σ) (Fs.itLen h1 w' + 1) 0 [] h1)
          | none => (Fs.lcGo w' (stepO G own elt tg c σ) (Fs.itLen h1 w' + 1) 0 [] h1).nox) := by
        replace key : okR (fun Z ρ ws vs => RWs Z ρ ws vs) Z1 ρ1 h1 (lcR w (stepV F own elt tg c σv) hv1) (Fs.lcGo w' (stepO G own elt tg c σ) (Fs.itLen h1 w' + 1) 0 [] h1) := key
        generalize lcR w (stepV F own elt tg c σv) hv1 = r at key ⊢
        generalize Fs.lcGo w' (stepO G own elt tg c σ) (Fs.itLen h1 w' + 1) 0 [] h1 = r' at key ⊢
        cases bk with
        | no =>
          obtain ⟨rfl, e⟩ := hb
          exact (nox_rel key).ext e
        | un n =>
          obtain ⟨m, rfl, hm, e⟩ := hb
          exact (unlkE_rel (Q := fun Z ρ ws vs => RWs Z ρ ws vs) (fun _ _ _ _ _ _ l q => RWs.low l _ _ q) hm key).ext e
        | fd =>
          rcases hb with ⟨rfl, e⟩ | ⟨m, u, rfl, hz, hl, rfl, rfl⟩
          · exact (nox_rel key).ext e
          · cases r with
            | bad => trivial
            | ex _ _ => trivial
            | ok ws hv2 =>
              obtain ⟨vs, h2, Z2, ρ2, f1, f2, f3, f4⟩ := key
              obtain ⟨h3, g1, g2, g3⟩ := (lock_fz R hz hl).2 Z2 ρ2 hv2 h2 f2 f3
              refine ⟨vs, h3, Z2, ρ2, ?_, g3, g2, f4⟩
              rw [f1]
              simp only [Fs.unlkE, g1]
      exact fin goal
theorem sT (o : OR F G) : ∀ (e : E) {σv : Evn} {σ : Fs.Evn} {Z : Zm} {ρ : List Nat} {hv : Hep} {h : Fs.Hep}, SR Z ρ hv h → RV Z ρ σv σ → RR EQ Z ρ h (evT F e σv hv) (Fs.evT G e σ h)
  | .and a b, σv, σ, Z, ρ, hv, h, R, re => by
    simp only [evT, Fs.evT]
    refine (sT o a R re).bind fun k k' hv3 h3 Z3 ρ3 e3 R3 q => ?_
    cases (show k' = k from q)
    cases k with
    | false => exact RR.ok R3 rfl
    | true => exact sT o b R3 (re.low e3.low)
  | .or a b, σv, σ, Z, ρ, hv, h, R, re => by
    simp only [evT, Fs.evT]
    refine (sT o a R re).bind fun k k' hv3 h3 Z3 ρ3 e3 R3 q => ?_
    cases (show k' = k from q)
    cases k with
    | true => exact RR.ok R3 rfl
    | false => exact sT o b R3 (re.low e3.low)
  | .not a, σv, σ, Z, ρ, hv, h, R, re => by
    simp only [evT, Fs.evT]
    refine (sT o a R re).bind fun k k' hv3 h3 Z3 ρ3 e3 R3 q => ?_
    cases (show k' = k from q)
    exact RR.ok R3 rfl
  | .var i, σv, σ, Z, ρ, hv, h, R, re => by simp only [evT, Fs.evT]; exact (sE o (.var i) R re).bind fun u v hv1 h1 Z1 ρ1 e1 R1 r1 => RR.of R1 fun c e => ⟨c, tru_rel R1 r1 e, rfl⟩
  | .non, σv, σ, Z, ρ, hv, h, R, re => by simp only [evT, Fs.evT]; exact (sE o .non R re).bind fun u v hv1 h1 Z1 ρ1 e1 R1 r1 => RR.of R1 fun c e => ⟨c, tru_rel R1 r1 e, rfl⟩
  | .bl i, σv, σ, Z, ρ, hv, h, R, re => by simp only [evT, Fs.evT]; exact (sE o (.bl i) R re).bind fun u v hv1 h1 Z1 ρ1 e1 R1 r1 => RR.of R1 fun c e => ⟨c, tru_rel R1 r1 e, rfl⟩
  | .int i, σv, σ, Z, ρ, hv, h, R, re => by simp only [evT, Fs.evT]; exact (sE o (.int i) R re).bind fun u v hv1 h1 Z1 ρ1 e1 R1 r1 => RR.of R1 fun c e => ⟨c, tru_rel R1 r1 e, rfl⟩
  | .str i, σv, σ, Z, ρ, hv, h, R, re => by simp only [evT, Fs.evT]; exact (sE o (.str i) R re).bind fun u v hv1 h1 Z1 ρ1 e1 R1 r1 => RR.of R1 fun c e => ⟨c, tru_rel R1 r1 e, rfl⟩
  | .gint x i, σv, σ, Z, ρ, hv, h, R, re => by simp only [evT, Fs.evT]; exact (sE o (.gint x i) R re).bind fun u v hv1 h1 Z1 ρ1 e1 R1 r1 => RR.of R1 fun c e => ⟨c, tru_rel R1 r1 e, rfl⟩
  | .gstr x i, σv, σ, Z, ρ, hv, h, R, re => by simp only [evT, Fs.evT]; exact (sE o (.gstr x i) R re).bind fun u v hv1 h1 Z1 ρ1 e1 R1 r1 => RR.of R1 fun c e => ⟨c, tru_rel R1 r1 e, rfl⟩
  | .bin x a b, σv, σ, Z, ρ, hv, h, R, re => by simp only [evT, Fs.evT]; exact (sE o (.bin x a b) R re).bind fun u v hv1 h1 Z1 ρ1 e1 R1 r1 => RR.of R1 fun c e => ⟨c, tru_rel R1 r1 e, rfl⟩
  | .neg a, σv, σ, Z, ρ, hv, h, R, re => by simp only [evT, Fs.evT]; exact (sE o (.neg a) R re).bind fun u v hv1 h1 Z1 ρ1 e1 R1 r1 => RR.of R1 fun c e => ⟨c, tru_rel R1 r1 e, rfl⟩
  | .cmp x a b, σv, σ, Z, ρ, hv, h, R, re => by simp only [evT, Fs.evT]; exact (sE o (.cmp x a b) R re).bind fun u v hv1 h1 Z1 ρ1 e1 R1 r1 => RR.of R1 fun c e => ⟨c, tru_rel R1 r1 e, rfl⟩
  | .chain x p a b c, σv, σ, Z, ρ, hv, h, R, re => by simp only [evT, Fs.evT]; exact (sE o (.chain x p a b c) R re).bind fun u v hv1 h1 Z1 ρ1 e1 R1 r1 => RR.of R1 fun c e => ⟨c, tru_rel R1 r1 e, rfl⟩
  | .tup es, σv, σ, Z, ρ, hv, h, R, re => by simp only [evT, Fs.evT]; exact (sE o (.tup es) R re).bind fun u v hv1 h1 Z1 ρ1 e1 R1 r1 => RR.of R1 fun c e => ⟨c, tru_rel R1 r1 e, rfl⟩
  | .lst es, σv, σ, Z, ρ, hv, h, R, re => by simp only [evT, Fs.evT]; exact (sE o (.lst es) R re).bind fun u v hv1 h1 Z1 ρ1 e1 R1 r1 => RR.of R1 fun c e => ⟨c, tru_rel R1 r1 e, rfl⟩
  | .dnew t, σv, σ, Z, ρ, hv, h, R, re => by simp only [evT, Fs.evT]; exact (sE o (.dnew t) R re).bind fun u v hv1 h1 Z1 ρ1 e1 R1 r1 => RR.of R1 fun c e => ⟨c, tru_rel R1 r1 e, rfl⟩
  | .disp a b, σv, σ, Z, ρ, hv, h, R, re => by simp only [evT, Fs.evT]; exact (sE o (.disp a b) R re).bind fun u v hv1 h1 Z1 ρ1 e1 R1 r1 => RR.of R1 fun c e => ⟨c, tru_rel R1 r1 e, rfl⟩
  | .idx a b, σv, σ, Z, ρ, hv, h, R, re => by simp only [evT, Fs.evT]; exact (sE o (.idx a b) R re).bind fun u v hv1 h1 Z1 ρ1 e1 R1 r1 => RR.of R1 fun c e => ⟨c, tru_rel R1 r1 e, rfl⟩
  | .sl a b c, σv, σ, Z, ρ, hv, h, R, re => by simp only [evT, Fs.evT]; exact (sE o (.sl a b c) R re).bind fun u v hv1 h1 Z1 ρ1 e1 R1 r1 => RR.of R1 fun c e => ⟨c, tru_rel R1 r1 e, rfl⟩
  | .rev a, σv, σ, Z, ρ, hv, h, R, re => by simp only [evT, Fs.evT]; exact (sE o (.rev a) R re).bind fun u v hv1 h1 Z1 ρ1 e1 R1 r1 => RR.of R1 fun c e => ⟨c, tru_rel R1 r1 e, rfl⟩
  | .fld a b c, σv, σ, Z, ρ, hv, h, R, re => by simp only [evT, Fs.evT]; exact (sE o (.fld a b c) R re).bind fun u v hv1 h1 Z1 ρ1 e1 R1 r1 => RR.of R1 fun c e => ⟨c, tru_rel R1 r1 e, rfl⟩
  | .call a b, σv, σ, Z, ρ, hv, h, R, re => by simp only [evT, Fs.evT]; exact (sE o (.call a b) R re).bind fun u v hv1 h1 Z1 ρ1 e1 R1 r1 => RR.of R1 fun c e => ⟨c, tru_rel R1 r1 e, rfl⟩
  | .make a b, σv, σ, Z, ρ, hv, h, R, re => by simp only [evT, Fs.evT]; exact (sE o (.make a b) R re).bind fun u v hv1 h1 Z1 ρ1 e1 R1 r1 => RR.of R1 fun c e => ⟨c, tru_rel R1 r1 e, rfl⟩
  | .meth a b c d, σv, σ, Z, ρ, hv, h, R, re => by simp only [evT, Fs.evT]; exact (sE o (.meth a b c d) R re).bind fun u v hv1 h1 Z1 ρ1 e1 R1 r1 => RR.of R1 fun c e => ⟨c, tru_rel R1 r1 e, rfl⟩
  | .blt a b, σv, σ, Z, ρ, hv, h, R, re => by simp only [evT, Fs.evT]; exact (sE o (.blt a b) R re).bind fun u v hv1 h1 Z1 ρ1 e1 R1 r1 => RR.of R1 fun c e => ⟨c, tru_rel R1 r1 e, rfl⟩
  | .bm a b c, σv, σ, Z, ρ, hv, h, R, re => by simp only [evT, Fs.evT]; exact (sE o (.bm a b c) R re).bind fun u v hv1 h1 Z1 ρ1 e1 R1 r1 => RR.of R1 fun c e => ⟨c, tru_rel R1 r1 e, rfl⟩
  | .isc a b c d, σv, σ, Z, ρ, hv, h, R, re => by simp only [evT, Fs.evT]; exact (sE o (.isc a b c d) R re).bind fun u v hv1 h1 Z1 ρ1 e1 R1 r1 => RR.of R1 fun c e => ⟨c, tru_rel R1 r1 e, rfl⟩
  | .isi a b, σv, σ, Z, ρ, hv, h, R, re => by simp only [evT, Fs.evT]; exact (sE o (.isi a b) R re).bind fun u v hv1 h1 Z1 ρ1 e1 R1 r1 => RR.of R1 fun c e => ⟨c, tru_rel R1 r1 e, rfl⟩
  | .rng a, σv, σ, Z, ρ, hv, h, R, re => by simp only [evT, Fs.evT]; exact (sE o (.rng a) R re).bind fun u v hv1 h1 Z1 ρ1 e1 R1 r1 => RR.of R1 fun c e => ⟨c, tru_rel R1 r1 e, rfl⟩
  | .sitems a, σv, σ, Z, ρ, hv, h, R, re => by simp only [evT, Fs.evT]; exact (sE o (.sitems a) R re).bind fun u v hv1 h1 Z1 ρ1 e1 R1 r1 => RR.of R1 fun c e => ⟨c, tru_rel R1 r1 e, rfl⟩
  | .lc a b c d e', σv, σ, Z, ρ, hv, h, R, re => by simp only [evT, Fs.evT]; exact (sE o (.lc a b c d e') R re).bind fun u v hv1 h1 Z1 ρ1 e1 R1 r1 => RR.of R1 fun c e => ⟨c, tru_rel R1 r1 e, rfl⟩
  | .lay a, σv, σ, Z, ρ, hv, h, R, re => by simp only [evT, Fs.evT]; exact (sE o (.lay a) R re).bind fun u v hv1 h1 Z1 ρ1 e1 R1 r1 => RR.of R1 fun c e => ⟨c, tru_rel R1 r1 e, rfl⟩
theorem sEs (o : OR F G) : ∀ (es : Es) {σv : Evn} {σ : Fs.Evn} {Z : Zm} {ρ : List Nat} {hv : Hep} {h : Fs.Hep}, SR Z ρ hv h → RV Z ρ σv σ → RR RWs Z ρ h (evEs F es σv hv) (Fs.evEs G es σ h)
  | .nil, σv, σ, Z, ρ, hv, h, R, re => by simp only [evEs, Fs.evEs]; exact RR.ok R RWs.nil
  | .cons e es, σv, σ, Z, ρ, hv, h, R, re => by
    simp only [evEs, Fs.evEs]
    refine (sE o e R re).bind fun u v hv1 h1 Z1 ρ1 e1 R1 r1 => ?_
    obtain ⟨Z2, e2, R2, r2⟩ := mat_ok R1 r1
    exact ((sEs o es R2 ((re.low e1.low).low e2.low)).bind fun us vs hv3 h3 Z3 ρ3 e3 R3 r3 => RR.ok R3 (RWs.cons (RW.low e3.low _ _ r2) r3)).ext e2
theorem sEr (o : OR F G) : ∀ (es : Es) {σv : Evn} {σ : Fs.Evn} {Z : Zm} {ρ : List Nat} {hv : Hep} {h : Fs.Hep}, SR Z ρ hv h → RV Z ρ σv σ → RR RXs Z ρ h (evEs F es σv hv) (Fs.evEr G es σ h)
  | .nil, σv, σ, Z, ρ, hv, h, R, re => by simp only [evEs, Fs.evEr]; exact RR.ok R rfl
  | .cons e es, σv, σ, Z, ρ, hv, h, R, re => by
    simp only [evEs, Fs.evEr]
    exact (sE o e R re).bind fun u v hv1 h1 Z1 ρ1 e1 R1 r1 => (sEr o es R1 (re.low e1.low)).bind fun us vs hv3 h3 Z3 ρ3 e3 R3 r3 => RR.ok R3 ⟨v, vs, rfl, r1.low e3.low, r3⟩
theorem sO (o : OR F G) : ∀ (e : Oe) {σv : Evn} {σ : Fs.Evn} {Z : Zm} {ρ : List Nat} {hv : Hep} {h : Fs.Hep}, SR Z ρ hv h → RV Z ρ σv σ → RR EQ Z ρ h (evO F e σv hv) (Fs.evO G e σ h)
  | .none, σv, σ, Z, ρ, hv, h, R, re => by simp only [evO, Fs.evO]; exact RR.ok R rfl
  | .some e, σv, σ, Z, ρ, hv, h, R, re => by
    simp only [evO, Fs.evO]
    refine (sE o e R re).bind fun u v hv1 h1 Z1 ρ1 e1 R1 r1 => ?_
    cases u <;> first | trivial | skip
    cases r1.i_int
    exact RR.ok R1 rfl
theorem sC (o : OR F G) : ∀ (e : Oe) {σv : Evn} {σ : Fs.Evn} {Z : Zm} {ρ : List Nat} {hv : Hep} {h : Fs.Hep}, SR Z ρ hv h → RV Z ρ σv σ → RR EQ Z ρ h (evC F e σv hv) (Fs.evC G e σ h)
  | .none, σv, σ, Z, ρ, hv, h, R, re => by simp only [evC, Fs.evC]; exact RR.ok R rfl
  | .some e, σv, σ, Z, ρ, hv, h, R, re => by
    simp only [evC, Fs.evC]
    exact sT o e R re
theorem sI (o : OR F G) : ∀ (it : I) {σv : Evn} {σ : Fs.Evn} {Z : Zm} {ρ : List Nat} {hv : Hep} {h : Fs.Hep}, SR Z ρ hv h → RV Z ρ σv σ → RI Z ρ h (evI F it σv hv) (Fs.evI G it σ h)
  | .of e, σv, σ, Z, ρ, hv, h, R, re => by
    rw [evI_of, fevI_of]
    cases hu : evE F e σv hv with
    | bad => trivial
    | ex x hv1 =>
      have p := sE o e R re
      rw [hu] at p
      obtain ⟨y, h1, Z1, ρ1, e1, e2, e3, e4⟩ := p
      rw [e1]
      exact ⟨y, h1, Z1, ρ1, rfl, e2, e3, e4⟩
    | ok u hv1 =>
      obtain ⟨v, h1, e1, q⟩ := it_sim (w := .keys) (els := fun u h1 => (Res.of (wkOf h1 u) h1).bind fun w h2 => .ok (w, .no) h2) (els' := fun u h1 => match Fs.keysL h1 u with
        | some xs => .ok (.fix xs, none) h1
        | none => (Fs.Res.of (Fs.wkOf h1 u) h1).bind fun w h2 => .ok (w, none) h2) R re (fun Z ρ hv h R re => sE o e R re) hu (fun Z1 ρ1 h1 v ex R1 r1 hf => by
          cases hw : wkOf hv1 u with
          | none => trivial
          | some w =>
            rcases wk_rel R1 r1 hw with ⟨k1, _, w', k2, k3⟩ | ⟨vs, _, k2, k3⟩
            · simp only [k1, k2]
              exact (ri_ok R1 k3).ext ex (fun w hv z => by cases z)
            · simp only [k2]
              exact (ri_ok R1 k3).ext ex (fun w hv z => by cases z)) (fun m vs e => by
          have e : Fs.keysL h (.ref m) = some vs := e
          simp only [e])
      rw [e1]
      exact q
  | .rng es, σv, σ, Z, ρ, hv, h, R, re => by
    simp only [evI, Fs.evI]
    refine ri_bind (sEs o es R re) (fun a hv w hv' => by cases rngO a <;> (intro z; cases z)) fun u v hv1 h1 Z1 ρ1 e1 R1 r1 => ?_
    cases hw : rngO u with
    | none => trivial
    | some xs =>
      obtain ⟨us, f1, f2⟩ := rng_rel r1 hw
      rw [f1]
      exact ri_ok R1 (wr_of f2)
  | .enum e, σv, σ, Z, ρ, hv, h, R, re => by
    simp only [evI, Fs.evI]
    refine ri_bind (sE o e R re) (fun a hv w hv' => by cases enumOf hv a <;> (intro z; cases z)) fun u v hv1 h1 Z1 ρ1 e1 R1 r1 => ?_
    cases hw : enumOf hv1 u with
    | none => trivial
    | some w =>
      obtain ⟨s, f1, f2⟩ := enum_rel R1 r1 hw
      rw [f1]
      exact ri_ok R1 f2
  | .zip a b, σv, σ, Z, ρ, hv, h, R, re => by
    simp only [evI, Fs.evI]
    refine ri_bind (sE o a R re) (fun a hv w hv' => by cases evE F b σv hv <;> first | (intro z; cases z; done) | (rename_i u2 h2; show (Res.of (zipOf h2 a u2) h2).bind _ ≠ _; cases zipOf h2 a u2 <;> (intro z; cases z))) fun u v hv1 h1 Z1 ρ1 e1 R1 r1 => ?_
    refine ri_bind (sE o b R1 (re.low e1.low)) (fun a hv w hv' => by cases zipOf hv u a <;> (intro z; cases z)) fun u2 v2 hv2 h2 Z2 ρ2 e2 R2 r2 => ?_
    cases hw : zipOf hv2 u u2 with
    | none => trivial
    | some w =>
      obtain ⟨s, t, f1, f2, f3⟩ := zip_rel R2 (r1.low e2.low) r2 hw
      rw [f1]
      simp only [Fs.Res.of, Fs.Res.bind, f2]
      exact ri_ok R2 f3
  | .items e, σv, σ, Z, ρ, hv, h, R, re => by
    rw [evI_it, fevI_it]
    cases hu : evE F e σv hv with
    | bad => trivial
    | ex x hv1 => trivial
    | ok u hv1 =>
      obtain ⟨v, h1, e1, q⟩ := it_sim (w := .items) (els := fun _ _ => .bad) (els' := fun u h1 => (Fs.Res.of (Fs.itemsL h1 u) h1).bind fun xs h2 => .ok (.fix xs, none) h2) R re (fun Z ρ hv h R re => sE o e R re) hu (fun Z1 ρ1 h1 v ex R1 r1 hf => trivial) (fun m vs e => by
          have e : Fs.itemsL h (.ref m) = some vs := e
          simp only [e]
          rfl)
      rw [e1]
      exact q
  | .values e, σv, σ, Z, ρ, hv, h, R, re => by
    rw [evI_va, fevI_va]
    cases hu : evE F e σv hv with
    | bad => trivial
    | ex x hv1 => trivial
    | ok u hv1 =>
      obtain ⟨v, h1, e1, q⟩ := it_sim (w := .vals) (els := fun _ _ => .bad) (els' := fun u h1 => (Fs.Res.of (Fs.valsL h1 u) h1).bind fun xs h2 => .ok (.fix xs, none) h2) R re (fun Z ρ hv h R re => sE o e R re) hu (fun Z1 ρ1 h1 v ex R1 r1 hf => trivial) (fun m vs e => by
          have e : Fs.valsL h (.ref m) = some vs := e
          simp only [e]
          rfl)
      rw [e1]
      exact q
end
end
end Fw
set_option Elab.async false
set_option linter.all false
set_option maxRecDepth 100000
set_option maxHeartbeats 8000000
set_option autoImplicit false
set_option relaxedAutoImplicit false
namespace Fw
open PySem L2
open Fs (lim keyOf keysOf kVal look put drp setF Bop Cop Ty Tn isTn cut Blt Mt Tg E Es Oe I S Ss Def)
section
variable {F : Orc} {G : Fs.Orc}
def fstepO (G : Fs.Orc) (tg : Tg) (b : Ss) : Fs.Val → Fs.Evn → Fs.Hep → Fs.SRes := fun x σ h => match Fs.asgT h tg x σ with
  | some σ' => Fs.exSs G b σ' h
  | none => .bad
theorem unlkS_rel {Z : Zm} {ρ : List Nat} {h : Fs.Hep} {n m : Nat} {r : SRes} {r' : Fs.SRes} (hm : ρ[n]? = some m) (p : RS Z ρ h r r') : RS Z ρ h (unlkS n r) (Fs.unlkS m r') := by
  cases r with
  | bad => trivial
  | ex _ _ _ => trivial
  | nx a hv' =>
    obtain ⟨b, h', Z', ρ', rfl, e2, e3, e4⟩ := p
    unfold unlkS
    simp only
    cases hu : unlockD n hv' with
    | none => trivial
    | some hv2 =>
      obtain ⟨hl, l1, l2, l3⟩ := unlock_obj e3 (e2.low.at_ _ _ hm) hu
      exact ⟨b, hl, Z', ρ', by unfold Fs.unlkS; simp only [l1], e2.trans l2, l3, e4⟩
  | rt a hv' =>
    obtain ⟨b, h', Z', ρ', rfl, e2, e3, e4⟩ := p
    unfold unlkS
    simp only
    cases hu : unlockD n hv' with
    | none => trivial
    | some hv2 =>
      obtain ⟨hl, l1, l2, l3⟩ := unlock_obj e3 (e2.low.at_ _ _ hm) hu
      exact ⟨b, hl, Z', ρ', by unfold Fs.unlkS; simp only [l1], e2.trans l2, l3, e4⟩
theorem noxS_rel {Z : Zm} {ρ : List Nat} {h : Fs.Hep} {r : SRes} {r' : Fs.SRes} (p : RS Z ρ h r r') : RS Z ρ h (noxS r) r' := by
  cases r with
  | bad => trivial
  | ex _ _ _ => trivial
  | nx a hv' => exact p
  | rt a hv' => exact p
mutual
theorem sS (o : OR F G) : ∀ (s : S) {σv : Evn} {σ : Fs.Evn} {Z : Zm} {ρ : List Nat} {hv : Hep} {h : Fs.Hep}, SR Z ρ hv h → RV Z ρ σv σ → RS Z ρ h (exS F s σv hv) (Fs.exS G s σ h)
  | .expr e, σv, σ, Z, ρ, hv, h, R, re => by
    simp only [exS, Fs.exS]
    exact (sE o e R re).sb re fun a b hv1 h1 Z1 ρ1 e1 R1 re1 q => ⟨σ, h1, Z1, ρ1, rfl, .refl, R1, re1⟩
  | .asg tg e, σv, σ, Z, ρ, hv, h, R, re => by
    simp only [exS, Fs.exS]
    refine (sE o e R re).sb re fun a b hv1 h1 Z1 ρ1 e1 R1 re1 q => ?_
    obtain ⟨Z2, e2, R2, r2⟩ := mat_ok R1 q
    cases ha : asgT hv1 tg a σv with
    | none => trivial
    | some σv' =>
      obtain ⟨σ', a1, a2⟩ := asg_rel R2 tg r2 (re1.low e2.low) ha
      simp only [a1]
      exact ⟨σ', _, Z2, ρ1, rfl, e2, R2, a2⟩
  | .aug i e, σv, σ, Z, ρ, hv, h, R, re => by
    simp only [exS, Fs.exS]
    cases q : σv[i]? with
    | none => trivial
    | some ow =>
      cases ow with
      | none => trivial
      | some w =>
        obtain ⟨v, hh1, hh2⟩ := re.2 i w q
        rw [hh1]
        simp only
        refine (sE o e R re).sb re fun a b hv1 h1 Z1 ρ1 e1 R1 re1 q1 => ?_
        cases w <;> first | trivial | skip
        cases a <;> first | trivial | skip
        cases hh2.i_int
        cases q1.i_int
        exact ⟨_, h1, Z1, ρ1, rfl, .refl, R1, re1.set RW.mk_int⟩
  | .seti a i e, σv, σ, Z, ρ, hv, h, R, re => by
    simp only [exS, Fs.exS]
    refine (sE o e R re).sb re fun w v hv1 h1 Z1 ρ1 e1 R1 re1 q => ?_
    obtain ⟨Z2, e2, R2, r2⟩ := mat_ok R1 q
    refine RS.ext e2 ((sE o a R2 (re1.low e2.low)).sb (re1.low e2.low) fun u u' hv3 h3 Z3 ρ3 e3 R3 re3 q3 => ?_)
    refine (sE o i R3 re3).sb re3 fun k k' hv4 h4 Z4 ρ4 e4 R4 re4 q4 => ?_
    cases hs : setI hv4 u k w with
    | none => trivial
    | some hv5 =>
      obtain ⟨h5, f1, f2, f3⟩ := setI_rel R4 (q3.low e4.low) q4 (RW.low e4.low _ _ (RW.low e3.low _ _ r2)) hs
      simp only [f1]
      exact ⟨σ, h5, Z4, ρ4, rfl, f2, f3, re4⟩
  | .setf a c f e, σv, σ, Z, ρ, hv, h, R, re => by
    simp only [exS, Fs.exS]
    refine (sE o e R re).sb re fun w v hv1 h1 Z1 ρ1 e1 R1 re1 q => ?_
    obtain ⟨Z2, e2, R2, r2⟩ := mat_ok R1 q
    refine RS.ext e2 ((sE o a R2 (re1.low e2.low)).sb (re1.low e2.low) fun u u' hv3 h3 Z3 ρ3 e3 R3 re3 q3 => ?_)
    cases hs : setFO hv3 u c f w with
    | none => trivial
    | some hv5 =>
      obtain ⟨h5, f1, f2, f3⟩ := setFO_rel R3 q3 (RW.low e3.low _ _ r2) hs
      simp only [f1]
      exact ⟨σ, h5, Z3, ρ3, rfl, f2, f3, re3⟩
  | .ret e, σv, σ, Z, ρ, hv, h, R, re => by
    simp only [exS, Fs.exS]
    refine (sE o e R re).sb re fun a b hv1 h1 Z1 ρ1 e1 R1 re1 q => ?_
    obtain ⟨Z2, e2, R2, r2⟩ := mat_ok R1 q
    exact ⟨_, _, Z2, ρ1, rfl, e2, R2, r2⟩
  | .retN, σv, σ, Z, ρ, hv, h, R, re => by
    simp only [exS, Fs.exS]
    exact ⟨_, _, Z, ρ, rfl, .refl, R, RW.mk_non⟩
  | .pass, σv, σ, Z, ρ, hv, h, R, re => by
    simp only [exS, Fs.exS]
    exact ⟨_, _, Z, ρ, rfl, .refl, R, re⟩
  | .never, σv, σ, Z, ρ, hv, h, R, re => by
    simp only [exS]
    trivial
  | .wipe l, σv, σ, Z, ρ, hv, h, R, re => by
    simp only [exS, Fs.exS]
    exact ⟨_, _, Z, ρ, rfl, .refl, R, re.wipe l⟩
  | .ifs t a b, σv, σ, Z, ρ, hv, h, R, re => by
    simp only [exS, Fs.exS]
    refine (sT o t R re).sb re fun k k' hv1 h1 Z1 ρ1 e1 R1 re1 q => ?_
    cases (show k' = k from q)
    cases k with
    | true => exact sSs o a R1 re1
    | false => exact sSs o b R1 re1
  | .whl t b, σv, σ, Z, ρ, hv, h, R, re => by
    simp only [exS, Fs.exS]
    exact wh_sim (fun Z ρ hv h σv σ R re => sT o t R re) (fun Z ρ hv h σv σ R re => sSs o b R re) 100000 Z ρ σv σ hv h R re
  | .for_ tg it b, σv, σ, Z, ρ, hv, h, R, re => by
    simp only [exS, Fs.exS]
    have qi := sI o it R re
    cases hr : evI F it σv hv with
    | bad => trivial
    | ex x hv1 =>
      rw [hr] at qi
      obtain ⟨y, h1, Z1, ρ1, e1, e2, e3, e4⟩ := qi
      rw [e1]
      exact ⟨y, σ, h1, Z1, ρ1, rfl, e2, e3, e4, re.low e2.low⟩
    | ok a hv1 =>
      obtain ⟨w, bk⟩ := a
      rw [hr] at qi
      obtain ⟨w', d, h1, Z1, ρ1, e1, R1, wr, hb⟩ := qi
      rw [e1]
      have lowZ : Low Z ρ Z1 ρ1 := by
        cases bk with
        | no => exact hb.2.low
        | un n => obtain ⟨m, _, _, e⟩ := hb; exact e.low
        | fd => rcases hb with ⟨_, e⟩ | ⟨m, u, _, _, _, rfl, rfl⟩
                · exact e.low
                · exact ⟨fun _ _ e => e, fun _ _ e => e⟩
      have re1 : RV Z1 ρ1 σv σ := re.low lowZ
      have step : FStep Z1 ρ1 h1 (fstepV F tg b) (fstepO G tg b) := by
        unfold fstepV fstepO
        intro Z2 ρ2 hv2 h2 x v σv2 σ2 e2 R2 rx re2
        simp only
        cases ha : asgT hv2 tg x σv2 with
        | none => trivial
        | some σv' =>
          obtain ⟨σ', a1, a2⟩ := asg_rel R2 tg rx re2 ha
          simp only [a1]
          exact sSs o b R2 a2
      have key : RS Z1 ρ1 h1 (forR w (fstepV F tg b) σv hv1) (Fs.forGo w' (fstepO G tg b) (Fs.itLen h1 w' + 1) 0 σ h1) := forR_sim R1 re1 wr step
      have goal : RS Z ρ h (match (generalizing := false) bk with
          | .un n => unlkS n (forR w (fstepV F tg b) σv hv1)
          | .fd => noxS (forR w (fstepV F tg b) σv hv1)
          | .no => forR w (fstepV F tg b) σv hv1) (match (generalizing := false) d with
          | some n => Fs.unlkS n (Fs.forGo w' (fstepO G tg b) (Fs.itLen h1 w' + 1) 0 σ h1)
          | none => Fs.forGo w' (fstepO G tg b) (Fs.itLen h1 w' + 1) 0 σ h1) := by
        generalize forR w (fstepV F tg b) σv hv1 = r at key ⊢
        generalize Fs.forGo w' (fstepO G tg b) (Fs.itLen h1 w' + 1) 0 σ h1 = r' at key ⊢
        cases bk with
        | no =>
          obtain ⟨rfl, e⟩ := hb
          exact key.ext e
        | un n =>
          obtain ⟨m, rfl, hm, e⟩ := hb
          exact (unlkS_rel hm key).ext e
        | fd =>
          rcases hb with ⟨rfl, e⟩ | ⟨m, u, rfl, hz, hl, rfl, rfl⟩
          · exact (noxS_rel key).ext e
          · cases r with
            | bad => trivial
            | ex _ _ _ => trivial
            | nx a hv2 =>
              obtain ⟨vs, h2, Z2, ρ2, f1, f2, f3, f4⟩ := key
              obtain ⟨h3, g1, g2, g3⟩ := (lock_fz R hz hl).2 Z2 ρ2 hv2 h2 f2 f3
              refine ⟨vs, h3, Z2, ρ2, ?_, g3, g2, f4⟩
              rw [f1]
              simp only [Fs.unlkS, g1]
            | rt a hv2 =>
              obtain ⟨vs, h2, Z2, ρ2, f1, f2, f3, f4⟩ := key
              obtain ⟨h3, g1, g2, g3⟩ := (lock_fz R hz hl).2 Z2 ρ2 hv2 h2 f2 f3
              refine ⟨vs, h3, Z2, ρ2, ?_, g3, g2, f4⟩
              rw [f1]
              simp only [Fs.unlkS, g1]
      exact goal
  | .raise c, σv, σ, Z, ρ, hv, h, R, re => by
    simp only [exS, Fs.exS]
    exact ⟨_, _, _, Z, ρ, rfl, .refl, R, ⟨rfl, rfl⟩, re⟩
  | .tryE b c sub non i j, σv, σ, Z, ρ, hv, h, R, re => by
    have q := sSs o b R re
    simp only [exS, Fs.exS]
    cases hr : exSs F b σv hv with
    | bad => trivial
    | nx a hv2 =>
      rw [hr] at q
      obtain ⟨a2, h2, Z2, ρ2, e1, q⟩ := q
      rw [e1]
      exact ⟨a2, h2, Z2, ρ2, rfl, q⟩
    | rt a hv2 =>
      rw [hr] at q
      obtain ⟨a2, h2, Z2, ρ2, e1, q⟩ := q
      rw [e1]
      exact ⟨a2, h2, Z2, ρ2, rfl, q⟩
    | ex x s hv2 =>
      rw [hr] at q
      obtain ⟨y, s2, h2, Z2, ρ2, e1, e2, R2, ry, rv⟩ := q
      rw [e1]
      simp only
      by_cases hc : x.cls ∈ sub ∧ x.fs = [] ∧ i ≠ j ∧ i < s.length ∧ j < s.length
      · have hl : s2.length = s.length := rv.1.symm
        have hy : y.fs = [] := by
          have := ry.2
          rw [hc.2.1] at this
          exact this
        rw [if_pos hc, if_pos (show y.cls ∈ sub ∧ y.fs = [] ∧ i ≠ j ∧ i < s2.length ∧ j < s2.length from ⟨by rw [ry.1]; exact hc.1, hy, hc.2.2.1, by rw [hl]; exact hc.2.2.2.1, by rw [hl]; exact hc.2.2.2.2⟩)]
        obtain ⟨a1, a2, a3⟩ := R2.obj (ov := .exc x.cls) (o := .exc y.cls []) (by rw [ry.1]; rfl)
        exact ⟨_, _, _, _, rfl, e2.trans a2, a1, by
          have q := (rv.low a2.low).set (i := j) (w := .ref hv2.length) (v := .ref h2.length) (by unfold RW; exact ⟨_, rfl, a3⟩)
          have := RV.wipe2 [i] q
          exact this⟩
      · rw [if_neg hc]
        trivial
theorem sSs (o : OR F G) : ∀ (ss : Ss) {σv : Evn} {σ : Fs.Evn} {Z : Zm} {ρ : List Nat} {hv : Hep} {h : Fs.Hep}, SR Z ρ hv h → RV Z ρ σv σ → RS Z ρ h (exSs F ss σv hv) (Fs.exSs G ss σ h)
  | .nil, σv, σ, Z, ρ, hv, h, R, re => by
    simp only [exSs, Fs.exSs]
    exact ⟨_, _, Z, ρ, rfl, .refl, R, re⟩
  | .cons s ss, σv, σ, Z, ρ, hv, h, R, re => by
    simp only [exSs, Fs.exSs]
    exact (sS o s R re).sq fun σv1 σ1 hv1 h1 Z1 ρ1 e1 R1 re1 => sSs o ss R1 re1
end
end
end Fw
set_option Elab.async false
set_option linter.all false
set_option maxRecDepth 100000
set_option maxHeartbeats 8000000
set_option autoImplicit false
set_option relaxedAutoImplicit false
namespace Fw
open PySem L2
open Fs (lim keyOf keysOf kVal look put drp setF Bop Cop Ty Tn isTn cut Blt Mt Tg E Es Oe I S Ss Def)
/-! ### what a call leaves -/
/-- all objects in it stand below n -/
inductive CL (n : Nat) : W → Prop
  | non : CL n .non
  | bl (b : Bool) : CL n (.bl b)
  | int (i : Int) : CL n (.int i)
  | str (s : Str) : CL n (.str s)
  | tup (xs : List W) (f : ∀ x ∈ xs, CL n x) : CL n (.tup xs)
  | ref (m : Nat) (f : m < n) : CL n (.ref m)
  | fl (xs : List W) (f : ∀ x ∈ xs, CL n x) : CL n (.fl xs)
  | fk (kvs : List (Key × W)) (f : ∀ kv ∈ kvs, CL n kv.2) : CL n (.fk kvs)
  | ft (kvs : List (List Key × W)) (f : ∀ kv ∈ kvs, CL n kv.2) : CL n (.ft kvs)
theorem clean_cl {n : Nat} : ∀ (k : Nat) {w : W}, clean n k w = true → CL n w
  | 0, w, h => by unfold clean at h; cases h
  | k + 1, w, h => by
    cases w with
    | non => exact .non
    | bl b => exact .bl b
    | int i => exact .int i
    | str s => exact .str s
    | ref m => simp only [clean, decide_eq_true_eq] at h; exact .ref m h
    | tup xs => simp only [clean, List.all_eq_true] at h; exact .tup xs fun x hx => clean_cl k (h x hx)
    | fl xs => simp only [clean, List.all_eq_true] at h; exact .fl xs fun x hx => clean_cl k (h x hx)
    | fk xs => simp only [clean, List.all_eq_true] at h; exact .fk xs fun x hx => clean_cl k (h x hx)
    | ft xs => simp only [clean, List.all_eq_true] at h; exact .ft xs fun x hx => clean_cl k (h x hx)
def CLo (n : Nat) : Ob → Prop
  | .lst xs => ∀ x ∈ xs, CL n x
  | .ro xs => ∀ x ∈ xs, CL n x
  | .dK _ kvs => ∀ kv ∈ kvs, CL n kv.2
  | .dT _ kvs => ∀ kv ∈ kvs, CL n kv.2
  | .ins _ fs => ∀ kv ∈ fs, CL n kv.2
  | .exc _ => True
theorem cleanOb_cl {n : Nat} {o : Ob} (h : cleanOb n o = true) : CLo n o := by
  cases o <;> first | trivial | (simp only [cleanOb, List.all_eq_true] at h; exact fun x hx => clean_cl 12 (h x hx))
section
variable {Z Z' : Zm} {ρ ρ' : List Nat} {hv hv' : Hep} {h h' : Fs.Hep}
theorem RWs.mem : ∀ {xs : List W} {vs : List Fs.Val}, RWs Z ρ xs vs → ∀ x ∈ xs, ∃ v, RW Z ρ x v
  | [], _, _, x, hx => nomatch hx
  | y :: ys, _, r, x, hx => by
    obtain ⟨v, s, rfl, h1, h2⟩ := r.inv_cons
    rcases List.mem_cons.mp hx with rfl | hx
    · exact ⟨v, h1⟩
    · exact RWs.mem h2 x hx
theorem RK.mem {κ : Type} : ∀ {l : List (κ × W)} {m : List (κ × Fs.Val)}, RK Z ρ l m → ∀ kv ∈ l, ∃ v, RW Z ρ kv.2 v
  | [], _, _, x, hx => nomatch hx
  | y :: ys, _, r, x, hx => by
    obtain ⟨v, s, rfl, h1, h2⟩ := r
    rcases List.mem_cons.mp hx with rfl | hx
    · exact ⟨v, h1⟩
    · exact RK.mem h2 x hx
theorem sz_pair {κ : Type} [SizeOf κ] {kvs : List (κ × W)} {kv : κ × W} (hm : kv ∈ kvs) : sizeOf kv.2 < sizeOf kvs := by
  have h1 := List.sizeOf_lt_of_mem hm
  have h2 : sizeOf kv = 1 + sizeOf kv.1 + sizeOf kv.2 := by cases kv; rfl
  omega
/-- what stands is below the heap's end -/
theorem rw_cl (R : SR Z ρ hv h) : ∀ (k : Nat) {w : W} {v : Fs.Val}, sizeOf w ≤ k → RW Z ρ w v → CL hv.length w
  | 0, w, v, hk, r => by cases w <;> (simp at hk)
  | k + 1, w, v, hk, r => by
    cases w with
    | non => exact .non
    | bl b => exact .bl b
    | int i => exact .int i
    | str s => exact .str s
    | ref m =>
      obtain ⟨a, rfl, ha⟩ := r.i_ref
      exact .ref m (by rw [← R.len]; exact (List.getElem?_eq_some_iff.mp ha).1)
    | tup xs =>
      obtain ⟨vs, rfl, h2⟩ := r.i_tup
      refine .tup xs fun x hx => ?_
      obtain ⟨v, hv⟩ := h2.mem x hx
      have := List.sizeOf_lt_of_mem hx
      simp at hk
      exact rw_cl R k (by omega) hv
    | fl xs =>
      obtain ⟨m, rfl, hm⟩ := r.i_fl
      obtain ⟨vs, _, h2⟩ := R.at_fl hm
      refine .fl xs fun x hx => ?_
      obtain ⟨v, hv⟩ := h2.mem x hx
      have := List.sizeOf_lt_of_mem hx
      simp at hk
      exact rw_cl R k (by omega) hv
    | fk xs =>
      obtain ⟨m, rfl, hm⟩ := r.i_fk
      obtain ⟨_, vs, _, h2⟩ := R.at_fk hm
      refine .fk xs fun x hx => ?_
      obtain ⟨v, hv⟩ := h2.mem x hx
      have := sz_pair hx
      simp at hk
      exact rw_cl R k (by omega) hv
    | ft xs =>
      obtain ⟨m, rfl, hm⟩ := r.i_ft
      obtain ⟨_, vs, _, h2⟩ := R.at_ft hm
      refine .ft xs fun x hx => ?_
      obtain ⟨v, hv⟩ := h2.mem x hx
      have := sz_pair hx
      simp at hk
      exact rw_cl R k (by omega) hv
theorem ro_cl (R : SR Z ρ hv h) {o : Ob} {u : Fs.Ob} (r : RO Z ρ o u) : CLo hv.length o := by
  cases o with
  | lst xs => obtain ⟨vs, rfl, h2⟩ := r; exact fun x hx => by obtain ⟨v, hv⟩ := h2.mem x hx; exact rw_cl R _ (Nat.le_refl _) hv
  | ro xs => obtain ⟨vs, rfl, h2⟩ := r; exact fun x hx => by obtain ⟨v, hv⟩ := h2.mem x hx; exact rw_cl R _ (Nat.le_refl _) hv
  | dK _ xs => obtain ⟨vs, rfl, h2⟩ := r; exact fun x hx => by obtain ⟨v, hv⟩ := h2.mem x hx; exact rw_cl R _ (Nat.le_refl _) hv
  | dT _ xs => obtain ⟨vs, rfl, h2⟩ := r; exact fun x hx => by obtain ⟨v, hv⟩ := h2.mem x hx; exact rw_cl R _ (Nat.le_refl _) hv
  | ins _ xs => obtain ⟨vs, rfl, h2⟩ := r; exact fun x hx => by obtain ⟨v, hv⟩ := h2.mem x hx; exact rw_cl R _ (Nat.le_refl _) hv
  | exc _ => trivial
/-! ### more turns give the same -/
theorem mapM_mono {α β : Type} {f g : α → Option β} (hfg : ∀ a b, f a = some b → g a = some b) : ∀ {xs : List α} {ys : List β}, xs.mapM f = some ys → xs.mapM g = some ys
  | [], ys, e => by simpa using e
  | x :: xs, ys, e => by
    rw [List.mapM_cons] at e ⊢
    obtain ⟨d, e1, e2⟩ := bind_some e
    obtain ⟨ds, e3, e4⟩ := bind_some e2
    rw [hfg x d e1, mapM_mono hfg e3]
    exact e4
theorem clean_mono {n : Nat} : ∀ (k : Nat) {w : W}, clean n k w = true → clean n (k + 1) w = true
  | 0, w, h => by unfold clean at h; cases h
  | k + 1, w, h => by
    cases w with
    | tup xs => simp only [clean, List.all_eq_true] at h ⊢; exact fun x hx => clean_mono k (h x hx)
    | fl xs => simp only [clean, List.all_eq_true] at h ⊢; exact fun x hx => clean_mono k (h x hx)
    | fk xs => simp only [clean, List.all_eq_true] at h ⊢; exact fun x hx => clean_mono k (h x hx)
    | ft xs => simp only [clean, List.all_eq_true] at h ⊢; exact fun x hx => clean_mono k (h x hx)
    | _ => exact h
theorem frz_mono {n e : Nat} : ∀ (k : Nat) {w w' : W}, frz hv n e k w = some w' → frz hv n e (k + 1) w = some w'
  | 0, w, w', h => by unfold frz at h; cases h
  | k + 1, w, w', h => by
    cases w with
    | tup xs =>
      simp only [frz] at h ⊢
      obtain ⟨ys, e1, e2⟩ := map_some h
      rw [mapM_mono (fun a b => frz_mono k) e1]
      exact congrArg some e2
    | ref m =>
      rw [frz] at h ⊢
      by_cases h1 : m < n
      · rw [if_pos h1] at h ⊢; exact h
      · rw [if_neg h1] at h ⊢
        by_cases h2 : m = e
        · rw [if_pos h2] at h; cases h
        · rw [if_neg h2] at h ⊢
          split at h
          · obtain ⟨ys, e1, e2⟩ := map_some h
            rw [mapM_mono (fun a b => frz_mono k) e1]
            exact congrArg some e2
          · obtain ⟨ys, e1, e2⟩ := map_some h
            rw [mapM_mono (g := fun kv => (frz hv n e (k + 1) kv.2).map (kv.1, ·)) (fun a b z => by
              obtain ⟨c, z1, z2⟩ := map_some z
              rw [frz_mono k z1]
              exact congrArg some z2) e1]
            exact congrArg some e2
          · obtain ⟨ys, e1, e2⟩ := map_some h
            rw [mapM_mono (g := fun kv => (frz hv n e (k + 1) kv.2).map (kv.1, ·)) (fun a b z => by
              obtain ⟨c, z1, z2⟩ := map_some z
              rw [frz_mono k z1]
              exact congrArg some z2) e1]
            exact congrArg some e2
          · cases h
    | _ =>
      simp only [frz] at h ⊢
      split at h
      · rename_i hc
        rw [if_pos (clean_mono _ hc)]
        exact h
      · cases h
theorem frz_le {n e : Nat} {w w' : W} {k : Nat} (h : frz hv n e k w = some w') : ∀ j, frz hv n e (k + j) w = some w'
  | 0 => h
  | j + 1 => frz_mono _ (frz_le h j)
/-! ### the state behind a call -/
open Classical in
/-- frozen: what is clean, and the objects of the call -/
noncomputable def cutZ (Z : Zm) (ρ' : List Nat) (hv' : Hep) (n e : Nat) : Zm := fun m =>
  if hq : ∃ q, n ≤ q ∧ q ≠ e ∧ ρ'[q]? = some m then frz hv' n e 12 (.ref hq.choose) else match Z m with
    | some w => if CL n w then some w else none
    | none => none
theorem cutZ_old {n e : Nat} {m : Nat} {w : W} (R : SR Z ρ' hv' h') (hz : Z m = some w) (c : CL n w) : cutZ Z ρ' hv' n e m = some w := by
  unfold cutZ
  rw [dif_neg (fun ⟨q, _, _, hq⟩ => by rw [R.ap q m hq] at hz; cases hz)]
  simp only [hz, if_pos c]
theorem cutZ_new {n e q m : Nat} {w : W} (R : SR Z ρ' hv' h') (hq : ρ'[q]? = some m) (h1 : n ≤ q) (h2 : q ≠ e) (hf : frz hv' n e 12 (.ref q) = some w) : cutZ Z ρ' hv' n e m = some w := by
  unfold cutZ
  have hex : ∃ q, n ≤ q ∧ q ≠ e ∧ ρ'[q]? = some m := ⟨q, h1, h2, hq⟩
  rw [dif_pos hex]
  have := R.nd hex.choose q m hex.choose_spec.2.2 hq
  rw [this]
  exact hf
theorem cutZ_inv {n e m : Nat} {w : W} (hz : cutZ Z ρ' hv' n e m = some w) : (∃ q, n ≤ q ∧ q ≠ e ∧ ρ'[q]? = some m ∧ frz hv' n e 12 (.ref q) = some w) ∨ (Z m = some w ∧ CL n w) := by
  unfold cutZ at hz
  split at hz
  · rename_i hq
    exact .inl ⟨hq.choose, hq.choose_spec.1, hq.choose_spec.2.1, hq.choose_spec.2.2, hz⟩
  · split at hz
    · rename_i w' hw
      split at hz
      · rename_i hc
        cases hz
        exact .inr ⟨hw, hc⟩
      · cases hz
    · cases hz
/-- clean values stand -/
theorem cut_clean {n e : Nat} {ρ0 : List Nat} (R : SR Z ρ' hv' h') (h0 : ∀ i, i < n → ρ0[i]? = ρ'[i]?) : ∀ (k : Nat) {w : W} {v : Fs.Val}, sizeOf w ≤ k → CL n w → RW Z ρ' w v → RW (cutZ Z ρ' hv' n e) ρ0 w v
  | 0, w, v, hk, c, r => by cases w <;> (simp at hk)
  | k + 1, w, v, hk, c, r => by
    cases w with
    | non => cases r.i_non; exact RW.mk_non
    | bl b => cases r.i_bl; exact RW.mk_bl
    | int i => cases r.i_int; exact RW.mk_int
    | str s => cases r.i_str; exact RW.mk_str
    | ref m =>
      obtain ⟨a, rfl, ha⟩ := r.i_ref
      cases c with
      | ref _ hm =>
        unfold RW
        exact ⟨a, rfl, by rw [h0 m hm]; exact ha⟩
    | tup xs =>
      obtain ⟨vs, rfl, h2⟩ := r.i_tup
      cases c with
      | tup _ f =>
        refine RW.mk_tup ?_
        have hk' : ∀ x ∈ xs, sizeOf x ≤ k := fun x hx => by
          have := List.sizeOf_lt_of_mem hx
          simp at hk
          omega
        clear hk r
        induction xs generalizing vs with
        | nil => cases h2.inv_nil; exact RWs.nil
        | cons x xs ih =>
          obtain ⟨v, s, rfl, r1, r2⟩ := h2.inv_cons
          exact RWs.cons (cut_clean R h0 k (hk' x (by simp)) (f x (by simp)) r1) (ih s r2 (fun y hy => f y (by simp [hy])) fun y hy => hk' y (by simp [hy]))
    | fl xs =>
      obtain ⟨m, rfl, hm⟩ := r.i_fl
      unfold RW
      exact ⟨m, rfl, cutZ_old R hm c⟩
    | fk xs =>
      obtain ⟨m, rfl, hm⟩ := r.i_fk
      unfold RW
      exact ⟨m, rfl, cutZ_old R hm c⟩
    | ft xs =>
      obtain ⟨m, rfl, hm⟩ := r.i_ft
      unfold RW
      exact ⟨m, rfl, cutZ_old R hm c⟩
/-- frozen values stand -/
theorem cut_frz {n e : Nat} {ρ0 : List Nat} (R : SR Z ρ' hv' h') (h0 : ∀ i, i < n → ρ0[i]? = ρ'[i]?) : ∀ (k : Nat), k ≤ 12 → ∀ {w w' : W} {v : Fs.Val}, frz hv' n e k w = some w' → RW Z ρ' w v → RW (cutZ Z ρ' hv' n e) ρ0 w' v
  | 0, _, w, w', v, hf, r => by unfold frz at hf; cases hf
  | k + 1, hk, w, w', v, hf, r => by
    have lst : ∀ {xs ys : List W} {vs : List Fs.Val}, xs.mapM (frz hv' n e k) = some ys → RWs Z ρ' xs vs → RWs (cutZ Z ρ' hv' n e) ρ0 ys vs := by
      intro xs
      induction xs with
      | nil => intro ys vs e1 r; cases r.inv_nil; cases e1; exact RWs.nil
      | cons x xs ih =>
        intro ys vs e1 r
        obtain ⟨v, s, rfl, r1, r2⟩ := r.inv_cons
        rw [List.mapM_cons] at e1
        obtain ⟨d, e2, e3⟩ := bind_some e1
        obtain ⟨ds, e4, e5⟩ := bind_some e3
        cases e5
        exact RWs.cons (cut_frz R h0 k (by omega) e2 r1) (ih e4 r2)
    cases w with
    | tup xs =>
      simp only [frz] at hf
      obtain ⟨ys, e1, e2⟩ := map_some hf
      obtain ⟨vs, rfl, h2⟩ := r.i_tup
      rw [← e2]
      exact RW.mk_tup (lst e1 h2)
    | ref m =>
      obtain ⟨a, rfl, ha⟩ := r.i_ref
      have hf0 := hf
      rw [frz] at hf
      by_cases h1 : m < n
      · rw [if_pos h1] at hf
        cases hf
        unfold RW
        exact ⟨a, rfl, by rw [h0 m h1]; exact ha⟩
      · rw [if_neg h1] at hf
        by_cases h2 : m = e
        · rw [if_pos h2] at hf; cases hf
        · have h12 : frz hv' n e 12 (.ref m) = some w' := by
            have := frz_le hf0 (12 - (k + 1))
            rw [show k + 1 + (12 - (k + 1)) = 12 by omega] at this
            exact this
          have hz := cutZ_new R ha (by omega) h2 h12
          rw [if_neg h2] at hf
          split at hf
          · obtain ⟨ys, e1, e2⟩ := map_some hf
            rw [← e2] at hz ⊢
            unfold RW
            exact ⟨a, rfl, hz⟩
          · obtain ⟨ys, e1, e2⟩ := map_some hf
            rw [← e2] at hz ⊢
            unfold RW
            exact ⟨a, rfl, hz⟩
          · obtain ⟨ys, e1, e2⟩ := map_some hf
            rw [← e2] at hz ⊢
            unfold RW
            exact ⟨a, rfl, hz⟩
          · cases hf
    | _ =>
      simp only [frz] at hf
      split at hf
      · rename_i hc
        cases hf
        exact cut_clean R h0 _ (Nat.le_refl _) (clean_cl _ hc) r
      · cases hf
theorem cut_clean_s {n e : Nat} {ρ0 : List Nat} (R : SR Z ρ' hv' h') (h0 : ∀ i, i < n → ρ0[i]? = ρ'[i]?) : ∀ {xs : List W} {vs : List Fs.Val}, (∀ x ∈ xs, CL n x) → RWs Z ρ' xs vs → RWs (cutZ Z ρ' hv' n e) ρ0 xs vs
  | [], _, _, r => by cases r.inv_nil; exact RWs.nil
  | x :: xs, _, f, r => by
    obtain ⟨v, s, rfl, r1, r2⟩ := r.inv_cons
    exact RWs.cons (cut_clean R h0 _ (Nat.le_refl _) (f x (by simp)) r1) (cut_clean_s R h0 (fun y hy => f y (by simp [hy])) r2)
theorem cut_clean_k {κ : Type} {n e : Nat} {ρ0 : List Nat} (R : SR Z ρ' hv' h') (h0 : ∀ i, i < n → ρ0[i]? = ρ'[i]?) : ∀ {xs : List (κ × W)} {vs : List (κ × Fs.Val)}, (∀ kv ∈ xs, CL n kv.2) → RK Z ρ' xs vs → RK (cutZ Z ρ' hv' n e) ρ0 xs vs
  | [], _, _, r => by cases r; rfl
  | x :: xs, _, f, r => by
    obtain ⟨v, s, rfl, r1, r2⟩ := r
    exact ⟨v, s, rfl, cut_clean R h0 _ (Nat.le_refl _) (f x (by simp)) r1, cut_clean_k R h0 (fun y hy => f y (by simp [hy])) r2⟩
theorem cut_frz_s {n e k : Nat} {ρ0 : List Nat} (R : SR Z ρ' hv' h') (h0 : ∀ i, i < n → ρ0[i]? = ρ'[i]?) (hk : k ≤ 12) : ∀ {xs ys : List W} {vs : List Fs.Val}, xs.mapM (frz hv' n e k) = some ys → RWs Z ρ' xs vs → RWs (cutZ Z ρ' hv' n e) ρ0 ys vs
  | [], ys, _, e1, r => by cases r.inv_nil; cases e1; exact RWs.nil
  | x :: xs, ys, _, e1, r => by
    obtain ⟨v, s, rfl, r1, r2⟩ := r.inv_cons
    rw [List.mapM_cons] at e1
    obtain ⟨d, e2, e3⟩ := bind_some e1
    obtain ⟨ds, e4, e5⟩ := bind_some e3
    cases e5
    exact RWs.cons (cut_frz R h0 k hk e2 r1) (cut_frz_s R h0 hk e4 r2)
theorem cut_frz_k {κ : Type} {n e k : Nat} {ρ0 : List Nat} (R : SR Z ρ' hv' h') (h0 : ∀ i, i < n → ρ0[i]? = ρ'[i]?) (hk : k ≤ 12) : ∀ {xs ys : List (κ × W)} {vs : List (κ × Fs.Val)}, xs.mapM (fun kv => (frz hv' n e k kv.2).map (kv.1, ·)) = some ys → RK Z ρ' xs vs → RK (cutZ Z ρ' hv' n e) ρ0 ys vs
  | [], ys, _, e1, r => by cases r; cases e1; rfl
  | x :: xs, ys, _, e1, r => by
    obtain ⟨v, s, rfl, r1, r2⟩ := r
    rw [List.mapM_cons] at e1
    obtain ⟨d, e2, e3⟩ := bind_some e1
    obtain ⟨ds, e4, e5⟩ := bind_some e3
    obtain ⟨c, e6, e7⟩ := map_some e2
    cases e5
    cases e7
    exact ⟨v, s, rfl, cut_frz R h0 k hk e6 r1, cut_frz_k R h0 hk e4 r2⟩
theorem cut_ob {n e : Nat} {ρ0 : List Nat} (R : SR Z ρ' hv' h') (h0 : ∀ i, i < n → ρ0[i]? = ρ'[i]?) {o : Ob} {u : Fs.Ob} (c : CLo n o) (r : RO Z ρ' o u) : RO (cutZ Z ρ' hv' n e) ρ0 o u := by
  cases o with
  | lst xs => obtain ⟨vs, rfl, h2⟩ := r; exact ⟨vs, rfl, cut_clean_s R h0 c h2⟩
  | ro xs => obtain ⟨vs, rfl, h2⟩ := r; exact ⟨vs, rfl, cut_clean_s R h0 c h2⟩
  | dK _ xs => obtain ⟨vs, rfl, h2⟩ := r; exact ⟨vs, rfl, cut_clean_k R h0 c h2⟩
  | dT _ xs => obtain ⟨vs, rfl, h2⟩ := r; exact ⟨vs, rfl, cut_clean_k R h0 c h2⟩
  | ins _ xs => obtain ⟨vs, rfl, h2⟩ := r; exact ⟨vs, rfl, cut_clean_k R h0 c h2⟩
  | exc _ => exact r
/-- the frozen part behind a cut -/
theorem cut_fz {n e : Nat} {ρ0 : List Nat} (R : SR Z ρ' hv' h') (h0 : ∀ i, i < n → ρ0[i]? = ρ'[i]?) : ∀ (m : Nat) w, cutZ Z ρ' hv' n e m = some w → ∃ u, h'[m]? = some u ∧ RZ (cutZ Z ρ' hv' n e) ρ0 w u := by
  intro m w hz
  rcases cutZ_inv hz with ⟨q, hq, hqe, hm, hf⟩ | ⟨hz, hc⟩
  · obtain ⟨o, ho⟩ := R.rat hm
    obtain ⟨u, hu, ro⟩ := R.at_ref hm ho
    refine ⟨u, hu, ?_⟩
    rw [frz, if_neg (by omega), if_neg hqe, ho] at hf
    cases o with
    | lst xs =>
      obtain ⟨ys, e1, e2⟩ := map_some hf
      obtain ⟨vs, rfl, h2⟩ := ro
      rw [← e2]
      exact ⟨vs, rfl, cut_frz_s R h0 (by omega) e1 h2⟩
    | dK fz xs =>
      obtain ⟨ys, e1, e2⟩ := map_some hf
      obtain ⟨vs, rfl, h2⟩ := ro
      rw [← e2]
      exact ⟨fz, vs, rfl, cut_frz_k R h0 (by omega) e1 h2⟩
    | dT fz xs =>
      obtain ⟨ys, e1, e2⟩ := map_some hf
      obtain ⟨vs, rfl, h2⟩ := ro
      rw [← e2]
      exact ⟨fz, vs, rfl, cut_frz_k R h0 (by omega) e1 h2⟩
    | ro xs => cases hf
    | ins c xs => cases hf
    | exc c => cases hf
  · obtain ⟨u, hu, rz⟩ := R.fz m w hz
    refine ⟨u, hu, ?_⟩
    cases w with
    | fl xs => cases hc with | fl _ f => obtain ⟨vs, rfl, h2⟩ := rz; exact ⟨vs, rfl, cut_clean_s R h0 f h2⟩
    | fk xs => cases hc with | fk _ f => obtain ⟨fz, vs, rfl, h2⟩ := rz; exact ⟨fz, vs, rfl, cut_clean_k R h0 f h2⟩
    | ft xs => cases hc with | ft _ f => obtain ⟨fz, vs, rfl, h2⟩ := rz; exact ⟨fz, vs, rfl, cut_clean_k R h0 f h2⟩
    | _ => exact rz.elim
/-- what stood ahead of the call is below its end -/
theorem zcl (R0 : SR Z ρ hv h) {m : Nat} {w : W} (hz : Z m = some w) : CL hv.length w := by
  obtain ⟨u, hu, rz⟩ := R0.fz m w hz
  cases w with
  | fl xs => exact rw_cl R0 _ (Nat.le_refl _) (v := .ref m) (by unfold RW; exact ⟨m, rfl, hz⟩)
  | fk xs => exact rw_cl R0 _ (Nat.le_refl _) (v := .ref m) (by unfold RW; exact ⟨m, rfl, hz⟩)
  | ft xs => exact rw_cl R0 _ (Nat.le_refl _) (v := .ref m) (by unfold RW; exact ⟨m, rfl, hz⟩)
  | _ => exact rz.elim
/-- the state behind a call whose objects are let go -/
theorem cut_state {Z0 : Zm} {e : Nat} (R0 : SR Z0 ρ hv h) (ex : Ext Z0 ρ h Z ρ' h') (R : SR Z ρ' hv' h') (old : Old hv hv') :
    SR (cutZ Z ρ' hv' hv.length e) ρ (hv'.take hv.length) h' ∧ Ext Z0 ρ h (cutZ Z ρ' hv' hv.length e) ρ h' ∧ (∀ i, i < hv.length → ρ[i]? = ρ'[i]?) ∧ hv.length ≤ hv'.length := by
  obtain ⟨t, ht⟩ := ex.pre
  have hle : hv.length ≤ hv'.length := by
    rw [← R0.len, ← R.len, ht]
    simp
  have h0 : ∀ i, i < hv.length → ρ[i]? = ρ'[i]? := fun i hi => by
    rw [ht, List.getElem?_append_left (by rw [R0.len]; exact hi)]
  refine ⟨⟨by rw [R0.len]; simp [hle], fun i o m e1 e2 => ?_, R0.nd, fun i m e2 => ?_, fun m w hz => cut_fz R h0 m w hz⟩, ⟨⟨[], by simp⟩, fun m w hz => cutZ_old R (ex.zs m w hz) (zcl R0 hz), ex.kp, ex.len, fun m w hz => ?_, fun _ _ e => .inl e⟩, h0, hle⟩
  · have hi : i < hv.length := by rw [← R0.len]; exact (List.getElem?_eq_some_iff.mp e2).1
    rw [List.getElem?_take_of_lt hi] at e1
    have e2' : ρ'[i]? = some m := by rw [← h0 i hi]; exact e2
    obtain ⟨u, hu, ro⟩ := R.at_ref e2' e1
    refine ⟨u, hu, cut_ob R h0 ?_ ro⟩
    rcases old i hi with ho | ⟨o', ho, hc⟩
    · rw [e1] at ho
      obtain ⟨u0, _, ro0⟩ := R0.at_ref e2 ho.symm
      exact ro_cl R0 ro0
    · rw [e1] at ho
      cases ho
      exact cleanOb_cl hc
  · have hi : i < hv.length := by rw [← R0.len]; exact (List.getElem?_eq_some_iff.mp e2).1
    have e2' : ρ'[i]? = some m := by rw [← h0 i hi]; exact e2
    cases q : cutZ Z ρ' hv' hv.length e m with
    | none => rfl
    | some w =>
      rcases cutZ_inv q with ⟨k, hk, _, hm, _⟩ | ⟨hz, _⟩
      · have := R.nd i k m e2' hm
        omega
      · rw [R.ap i m e2'] at hz; cases hz
  · rcases cutZ_inv hz with ⟨q, hq, _, hm, _⟩ | ⟨hz, _⟩
    · rcases ex.nr q m hm with z | z
      · have : q < ρ.length := (List.getElem?_eq_some_iff.mp z).1
        rw [R0.len] at this
        omega
      · exact .inr z
    · exact ex.nz m w hz
/-- .. whose one object is kept -/
theorem cut_keep {Z0 : Zm} {q m : Nat} {o o' : Ob} (R0 : SR Z0 ρ hv h) (ex : Ext Z0 ρ h Z ρ' h') (R : SR Z ρ' hv' h') (old : Old hv hv') (hq : hv.length ≤ q) (hm : ρ'[q]? = some m) (ho : hv'[q]? = some o) (hf : frzOb hv' hv.length q o = some o') :
    SR (cutZ Z ρ' hv' hv.length q) (ρ ++ [m]) (hv'.take hv.length ++ [o']) h' ∧ Ext Z0 ρ h (cutZ Z ρ' hv' hv.length q) (ρ ++ [m]) h' := by
  obtain ⟨S0, E0, h0, hle⟩ := cut_state (e := q) R0 ex R old
  have hlen : (hv'.take hv.length).length = hv.length := by simp [hle]
  have lw : Low (cutZ Z ρ' hv' hv.length q) ρ (cutZ Z ρ' hv' hv.length q) (ρ ++ [m]) := ⟨fun n k e => by rw [List.getElem?_append_left (List.getElem?_eq_some_iff.mp e).1]; exact e, fun _ _ e => e⟩
  have h0' : ∀ i, i < hv.length → (ρ ++ [m])[i]? = ρ'[i]? := fun i hi => by
    rw [List.getElem?_append_left (by rw [R0.len]; exact hi)]
    exact h0 i hi
  have hml : h.length ≤ m := by
    rcases ex.nr q m hm with z | z
    · have : q < ρ.length := (List.getElem?_eq_some_iff.mp z).1
      rw [R0.len] at this
      omega
    · exact z
  have cas : ∀ {i k : Nat}, (ρ ++ [m])[i]? = some k → ρ[i]? = some k ∨ (i = hv.length ∧ k = m) := fun {i k} e => by
    by_cases hi : i < ρ.length
    · rw [List.getElem?_append_left hi] at e
      exact .inl e
    · have l1 : i < (ρ ++ [m]).length := (List.getElem?_eq_some_iff.mp e).1
      rw [List.length_append, List.length_singleton] at l1
      have : i = ρ.length := by omega
      subst this
      rw [List.getElem?_append_right (Nat.le_refl _)] at e
      simp at e
      exact .inr ⟨R0.len, e.symm⟩
  refine ⟨⟨by simp [R0.len, hle], fun i u k e1 e2 => ?_, fun i j k e1 e2 => ?_, fun i k e => ?_, fun k w hz => ?_⟩, ⟨⟨_, rfl⟩, E0.zs, E0.kp, E0.len, E0.nz, fun i k e => (cas e).elim .inl fun z => .inr (by rw [z.2]; exact hml)⟩⟩
  · rcases cas e2 with e2 | ⟨rfl, rfl⟩
    · have hi : i < hv.length := by rw [← R0.len]; exact (List.getElem?_eq_some_iff.mp e2).1
      rw [List.getElem?_append_left (by rw [hlen]; exact hi)] at e1
      obtain ⟨u', a, b⟩ := S0.ob i u k e1 e2
      exact ⟨u', a, b.low lw⟩
    · rw [List.getElem?_append_right (by rw [hlen]; exact Nat.le_refl _), hlen] at e1
      simp at e1
      subst e1
      obtain ⟨u, hu, ro⟩ := R.at_ref hm ho
      refine ⟨u, hu, ?_⟩
      cases o with
      | lst xs =>
        obtain ⟨ys, e1, e2⟩ := map_some hf
        obtain ⟨vs, rfl, h2⟩ := ro
        rw [← e2]
        exact ⟨vs, rfl, cut_frz_s R h0' (by omega) e1 h2⟩
      | dK fz xs =>
        obtain ⟨ys, e1, e2⟩ := map_some hf
        obtain ⟨vs, rfl, h2⟩ := ro
        rw [← e2]
        exact ⟨vs, rfl, cut_frz_k R h0' (by omega) e1 h2⟩
      | dT fz xs =>
        obtain ⟨ys, e1, e2⟩ := map_some hf
        obtain ⟨vs, rfl, h2⟩ := ro
        rw [← e2]
        exact ⟨vs, rfl, cut_frz_k R h0' (by omega) e1 h2⟩
      | ro xs => cases hf
      | ins c xs => cases hf
      | exc c => cases hf
  · rcases cas e1 with f1 | ⟨rfl, rfl⟩
    · rcases cas e2 with f2 | ⟨rfl, rfl⟩
      · exact R0.nd i j k f1 f2
      · have := R0.rlt f1; omega
    · rcases cas e2 with f2 | ⟨rfl, _⟩
      · have := R0.rlt f2; omega
      · rfl
  · rcases cas e with e | ⟨rfl, rfl⟩
    · exact S0.ap i k e
    · cases z : cutZ Z ρ' hv' hv.length q k with
      | none => rfl
      | some w =>
        rcases cutZ_inv z with ⟨j, _, hj, hm', _⟩ | ⟨hz, _⟩
        · exact absurd (R.nd j q k hm' hm) hj
        · rw [R.ap q k hm] at hz; cases hz
  · obtain ⟨u, a, b⟩ := cut_fz R h0' k w hz
    exact ⟨u, a, b⟩
theorem cut_sim {Z0 : Zm} {md : Nat} {r : Res W} {r' : Fs.Res Fs.Val} (R0 : SR Z0 ρ hv h) (p : RR RW Z0 ρ h r r') : RR RW Z0 ρ h (cutV md hv r) r' := by
  cases r with
  | bad => trivial
  | ok w hv' =>
    unfold cutV
    simp only
    by_cases h0 : md = 0
    · rw [if_pos h0]; exact p
    · rw [if_neg h0]
      obtain ⟨v, h', Z, ρ', rfl, ex, R, rw'⟩ := p
      by_cases ho : Old hv hv'
      · rw [if_pos ho]
        by_cases h1 : md = 1
        · rw [if_pos h1]
          obtain ⟨S0, E0, hh0, hle⟩ := cut_state (e := hv'.length) R0 ex R ho
          cases hf : frz hv' hv.length hv'.length 12 w with
          | none => trivial
          | some w' => exact ⟨v, h', _, _, rfl, E0, S0, cut_frz R hh0 12 (Nat.le_refl _) hf rw'⟩
        · rw [if_neg h1]
          cases w <;> first | trivial | skip
          rename_i q
          simp only
          by_cases hq : hv.length ≤ q
          · rw [if_pos hq]
            obtain ⟨m, rfl, hm⟩ := rw'.i_ref
            cases hqo : (hv'[q]?).bind (frzOb hv' hv.length q) with
            | none => trivial
            | some o' =>
              obtain ⟨o, ho1, hf⟩ := bind_some hqo
              obtain ⟨a, b⟩ := cut_keep R0 ex R ho hq hm ho1 hf
              refine ⟨_, h', _, _, rfl, b, a, ?_⟩
              unfold RW
              exact ⟨m, rfl, by rw [← R0.len]; simp⟩
          · rw [if_neg hq]; trivial
      · rw [if_neg ho]; trivial
  | ex x hv' =>
    unfold cutV
    simp only
    by_cases h0 : md = 0
    · rw [if_pos h0]; exact p
    · rw [if_neg h0]
      obtain ⟨y, h', Z, ρ', rfl, ex, R, ry⟩ := p
      by_cases ho : Old hv hv'
      · rw [if_pos ho]
        obtain ⟨S0, E0, hh0, hle⟩ := cut_state (e := hv'.length) R0 ex R ho
        cases hf : x.fs.mapM fun kv => (frz hv' hv.length hv'.length 12 kv.2).map (kv.1, ·) with
        | none => trivial
        | some fs => exact ⟨y, h', _, _, rfl, E0, S0, ry.1, cut_frz_k R hh0 (Nat.le_refl _) hf ry.2⟩
      · rw [if_neg ho]; trivial
/-! ### all calls -/
theorem call_sim (T : List (Str × Def)) (md : List (Str × Nat)) : ∀ n : Nat, OR (callV T md n) (Fs.callF T n)
  | 0 => fun f ws hv Z ρ h vs R r => trivial
  | n + 1 => fun f ws hv Z ρ h vs R r => by
    unfold callV Fs.callF
    cases hl : T.lookup f with
    | none => trivial
    | some d =>
      simp only
      by_cases hp : ws.length = d.ps.length
      · rw [if_pos hp, if_pos (by rw [← r.length]; exact hp)]
        refine cut_sim R ?_
        have re : RV Z ρ (ws.map some ++ List.replicate (d.ns.length - ws.length) none) (vs.map some ++ List.replicate (d.ns.length - vs.length) none) := by
          refine ⟨by simp [r.length], fun i w e => ?_⟩
          by_cases hi : i < ws.length
          · rw [List.getElem?_append_left (by simpa using hi), List.getElem?_map] at e
            cases q : ws[i]? with
            | none => rw [q] at e; cases e
            | some x =>
              rw [q] at e
              cases e
              obtain ⟨v, h1, h2⟩ := r.at q
              exact ⟨v, by rw [List.getElem?_append_left (by rw [List.length_map, ← r.length]; exact hi), List.getElem?_map, h1]; rfl, h2⟩
          · rw [List.getElem?_append_right (by simpa using hi), List.getElem?_replicate] at e
            split at e <;> cases e
        have key := sSs (call_sim T md n) d.body R re
        cases hr : exSs (callV T md n) d.body (ws.map some ++ List.replicate (d.ns.length - ws.length) none) hv with
        | bad => trivial
        | nx σ hv' =>
          rw [hr] at key
          obtain ⟨σ', h', Z', ρ', e1, e2, e3, e4⟩ := key
          rw [e1]
          exact ⟨_, h', Z', ρ', rfl, e2, e3, RW.mk_non⟩
        | rt w hv' =>
          rw [hr] at key
          obtain ⟨v, h', Z', ρ', e1, e2, e3, e4⟩ := key
          rw [e1]
          exact ⟨v, h', Z', ρ', rfl, e2, e3, e4⟩
        | ex x σ hv' =>
          rw [hr] at key
          obtain ⟨y, σ', h', Z', ρ', e1, e2, e3, e4, e5⟩ := key
          rw [e1]
          exact ⟨y, h', Z', ρ', rfl, e2, e3, e4⟩
      · rw [if_neg hp]; trivial
/-- MAIN: what the value evaluator says of a law, the heap evaluator says -/
theorem law_of {T : List (Str × Def)} {md : List (Str × Nat)} {n : Nat} {ns : List Int} (hl : ∃ hv', callV T md n "law" [.ref 0] [.ro (ns.map W.int)] = .ok (.bl true) hv') : ∃ h, Fs.callF T n "law" [.ref 0] [.ro (ns.map Fs.Val.int)] = .ok (.bl true) h := by
  obtain ⟨hv', e⟩ := hl
  have R : SR (fun _ => none) [0] [Ob.ro (ns.map W.int)] [Fs.Ob.ro (ns.map Fs.Val.int)] := by
    have one : ∀ {n m : Nat}, ([0] : List Nat)[n]? = some m → n = 0 ∧ m = 0 := fun {n m} e => by
      cases n with
      | zero => cases e; exact ⟨rfl, rfl⟩
      | succ n => cases e
    refine ⟨rfl, fun n o m e1 e2 => ?_, fun i j m e1 e2 => ?_, fun _ _ _ => rfl, fun _ _ e => nomatch e⟩
    · obtain ⟨rfl, rfl⟩ := one e2
      cases e1
      exact ⟨_, rfl, _, rfl, RWs.mapE (fun _ => RW.mk_int) ns⟩
    · rw [(one e1).1, (one e2).1]
  have q := call_sim T md n "law" [.ref 0] _ _ _ _ [.ref 0] R (RWs.cons (by unfold RW; exact ⟨0, rfl, rfl⟩) RWs.nil)
  rw [e] at q
  obtain ⟨v, h', Z', ρ', e1, _, _, r⟩ := q
  cases r.i_bl
  exact ⟨h', e1⟩
end
end Fw
set_option Elab.async false
set_option linter.all false
set_option maxRecDepth 100000
set_option maxHeartbeats 4000000
set_option autoImplicit false
set_option relaxedAutoImplicit false
namespace Fw
open PySem L2
open Fs (lim keyOf keysOf kVal look put drp setF Bop Cop Ty Tn isTn cut Blt Mt Tg E Es Oe I S Ss Def)
/-! ### the evaluator, shape by shape -/
theorem bind_ok {α β : Type} {a : α} {h : Hep} {f : α → Hep → Res β} : (Res.ok a h).bind f = f a h := rfl
theorem bind_ex {α β : Type} {x : Ex} {h : Hep} {f : α → Hep → Res β} : (Res.ex x h : Res α).bind f = .ex x h := rfl
theorem of_some {α : Type} {a : α} {h : Hep} : Res.of (some a) h = .ok a h := rfl
theorem sb_ok {α : Type} {a : α} {h : Hep} {σ : Evn} {f : α → Hep → SRes} : (Res.ok a h).sb σ f = f a h := rfl
theorem sb_ex {α : Type} {x : Ex} {h : Hep} {σ : Evn} {f : α → Hep → SRes} : (Res.ex x h : Res α).sb σ f = .ex x σ h := rfl
theorem sq_nx {σ : Evn} {h : Hep} {f : Evn → Hep → SRes} : (SRes.nx σ h).sq f = f σ h := rfl
theorem sq_rt {v : W} {h : Hep} {f : Evn → Hep → SRes} : (SRes.rt v h).sq f = .rt v h := rfl
theorem sq_ex {x : Ex} {σ : Evn} {h : Hep} {f : Evn → Hep → SRes} : (SRes.ex x σ h).sq f = .ex x σ h := rfl
theorem ret_rt {v : W} {h : Hep} : retOf (.rt v h) = .ok v h := rfl
theorem ret_nx {σ : Evn} {h : Hep} : retOf (.nx σ h) = .ok .non h := rfl
theorem ret_ex {x : Ex} {σ : Evn} {h : Hep} : retOf (.ex x σ h) = .ex x h := rfl
theorem resO_some {α : Type} {a : α} {h : Hep} : resO (some (a, h)) = .ok a h := rfl
section
variable {h : Hep} {u v w : W} {i j : Int} {a b : Str} {p q : Bool} {xs ys : List W} {n : Nat} {kvs : List (Key × W)} {tvs : List (List Key × W)} {σ : Evn}
theorem bop_add : bop h .add u v = addO h u v := rfl
theorem add_int : addO h (.int i) (.int j) = some (.int (i + j)) := rfl
theorem add_str : addO h (.str a) (.str b) = if a.length + b.length ≤ 16777216 then some (.str (a ++ b)) else none := rfl
theorem add_tup : addO h (.tup xs) (.tup ys) = if xs.length + ys.length ≤ 16777216 then some (.tup (xs ++ ys)) else none := rfl
theorem add_fl : addO h (.fl xs) (.fl ys) = if xs.length + ys.length ≤ 16777216 then some (.fl (xs ++ ys)) else none := rfl
theorem bop_sub : bop h .sub (.int i) (.int j) = some (.int (i - j)) := rfl
theorem bop_mul : bop h .mul (.int i) (.int j) = if i.natAbs.log2 + j.natAbs.log2 < 4000000 then some (.int (i * j)) else none := rfl
theorem bop_mulL : bop h .mul (.fl xs) (.int j) = if 0 ≤ j ∧ j < 2 ^ 62 ∧ xs.length * j.toNat ≤ 16777216 then some (.fl (List.replicate j.toNat xs).flatten) else none := rfl
theorem bop_fdiv : bop h .fdiv (.int i) (.int j) = if 0 < j ∧ j.natAbs.log2 < 9000 then some (.int (i / j)) else none := rfl
theorem bop_mod : bop h .mod (.int i) (.int j) = if 0 < j then some (.int (i % j)) else none := rfl
theorem bop_pow : bop h .pow (.int i) (.int j) = if 0 ≤ j ∧ j ≤ 1000000 ∧ i.natAbs < 2 ^ 64 then some (.int (i ^ j.toNat)) else none := rfl
theorem cop_eq : cop h .eq u v = eqO h u v := rfl
theorem cop_ne : cop h .ne u v = (eqO h u v).map (!·) := rfl
theorem eq_int : eqO h (.int i) (.int j) = some (decide (i = j)) := rfl
theorem eq_str : eqO h (.str a) (.str b) = some (decide (a = b)) := rfl
theorem eq_bl : eqO h (.bl p) (.bl q) = some (decide (p = q)) := rfl
theorem cop_lt : cop h .lt u v = ltO h u v := rfl
theorem lt_int : ltO h (.int i) (.int j) = some (decide (i < j)) := rfl
theorem cop_gt : cop h .gt (.int i) (.int j) = some (decide (j < i)) := rfl
theorem cop_le : cop h .le (.int i) (.int j) = some (decide (i ≤ j)) := rfl
theorem cop_ge : cop h .ge (.int i) (.int j) = some (decide (j ≤ i)) := rfl
theorem cop_in : cop h .in_ u v = inO h u v := rfl
theorem cop_nin : cop h .nin u v = (inO h u v).map (!·) := rfl
theorem cop_is : cop h .is_ u v = isO u v := rfl
theorem cop_isn : cop h .isn u v = (isO u v).map (!·) := rfl
theorem is_non : isO u .non = some (isNon u) := by cases u <;> rfl
theorem is_bl : isO (.bl p) (.bl q) = some (decide (p = q)) := rfl
theorem in_fk : inO h u (.fk kvs) = (keyW u).map fun k => (look kvs k).isSome := rfl
theorem in_ft : inO h u (.ft tvs) = (keysW u).map fun k => (look tvs k).isSome := rfl
theorem in_ref : inO h u (.ref n) = match h[n]? with
    | some (.dK _ kvs) => (keyW u).map fun k => (look kvs k).isSome
    | some (.dT _ kvs) => (keysW u).map fun k => (look kvs k).isSome
    | some (.lst xs) => inL h u xs
    | _ => none := rfl
theorem in_fl : inO h u (.fl xs) = inL h u xs := rfl
theorem in_tu : inO h u (.tup xs) = inL h u xs := rfl
theorem non_non : isNon .non = true := rfl
theorem non_bl : isNon (.bl p) = false := rfl
theorem non_int : isNon (.int i) = false := rfl
theorem non_str : isNon (.str a) = false := rfl
theorem non_tup : isNon (.tup xs) = false := rfl
theorem non_fl : isNon (.fl xs) = false := rfl
theorem non_ref : isNon (.ref n) = false := rfl
theorem key_int : keyW (.int i) = some (.inl i) := rfl
theorem key_str : keyW (.str a) = some (.inr a) := rfl
theorem tru_bl : tru h (.bl p) = some p := rfl
theorem tru_int : tru h (.int i) = some (i != 0) := rfl
theorem tru_non : tru h .non = some false := rfl
theorem tru_tup : tru h (.tup xs) = some (!xs.isEmpty) := rfl
theorem tru_fl : tru h (.fl xs) = some (!xs.isEmpty) := rfl
theorem tru_str : tru h (.str a) = if a.length ≤ 16777216 then some (!decide (a.length = 0)) else none := rfl
theorem ty_non : tyN h .non = some .none := rfl
theorem ty_bl : tyN h (.bl p) = some .bool := rfl
theorem ty_int : tyN h (.int i) = some .int := rfl
theorem ty_str : tyN h (.str a) = some .str := rfl
theorem ty_tup : tyN h (.tup xs) = some .tuple := rfl
theorem ty_fl : tyN h (.fl xs) = some .list := rfl
theorem ty_fk : tyN h (.fk kvs) = some .dict := rfl
theorem ty_ref : tyN h (.ref n) = match h[n]? with
    | some (.lst _) => some .list
    | some (.dK ..) => some .dict
    | some (.dT false _) => some .dict
    | _ => none := rfl
theorem blt_len : bltF h .len [v] = lenV h v := rfl
theorem blt_list : bltF h .list [v] = listV h v := rfl
theorem blt_tuple : bltF h .tuple [v] = tupleV h v := rfl
theorem blt_sorted : bltF h .sorted [v] = sortedV h v := rfl
theorem blt_sum : bltF h .sum [v] = sumV h v := rfl
theorem blt_all : bltF h .all [v] = allV h v := rfl
theorem blt_any : bltF h .any [v] = anyV h v := rfl
theorem blt_int : bltF h .int [v] = intV h v := rfl
theorem blt_str : bltF h .str [v] = strV h v := rfl
theorem blt_max : bltF h .max [.int i, .int j] = some (.int (if j > i then j else i)) := rfl
theorem blt_min : bltF h .min [.int i, .int j] = some (.int (if j < i then j else i)) := rfl
theorem blt_dict : bltF h .dict [v] = dictB h [v] := rfl
theorem len_tup : lenV h (.tup xs) = some (.int xs.length) := rfl
theorem len_fl : lenV h (.fl xs) = some (.int xs.length) := rfl
theorem len_fk : lenV h (.fk kvs) = some (.int kvs.length) := rfl
theorem len_ft : lenV h (.ft tvs) = some (.int tvs.length) := rfl
theorem len_str : lenV h (.str a) = if a.length ≤ 16777216 then some (.int a.length) else none := rfl
theorem len_ref : lenV h (.ref n) = match h[n]? with
    | some (.dK _ kvs) => some (.int kvs.length)
    | some (.dT _ kvs) => some (.int kvs.length)
    | some (.ro xs) => some (.int xs.length)
    | some (.lst xs) => some (.int xs.length)
    | _ => none := rfl
theorem list_tup : listV h (.tup xs) = some (.fl xs) := rfl
theorem list_fl : listV h (.fl xs) = some (.fl xs) := rfl
theorem list_ref : listV h (.ref n) = match h[n]? with
    | some (.dT _ kvs) => some (.fl (kvs.map fun kv => .tup (kv.1.map kW)))
    | some (.dK false kvs) => some (.fl (kvs.map fun kv => kW kv.1))
    | some (.lst xs) => some (.fl xs)
    | _ => none := rfl
theorem tuple_fl : tupleV h (.fl xs) = some (.tup xs) := rfl
theorem tuple_tup : tupleV h (.tup xs) = some (.tup xs) := rfl
theorem sorted_fl : sortedV h (.fl xs) = (sortO h xs).map .fl := rfl
theorem sum_fl : sumV h (.fl xs) = (isIn xs).map fun ns => .int ns.sum := rfl
theorem all_fl : allV h (.fl xs) = (isBl xs).map fun bs => .bl (bs.all id) := rfl
theorem any_fl : anyV h (.fl xs) = (isBl xs).map fun bs => .bl (bs.any id) := rfl
theorem int_int : intV h (.int i) = some (.int i) := rfl
theorem int_bl : intV h (.bl p) = some (.int (if p = true then 1 else 0)) := rfl
theorem int_str : intV h (.str a) = if a.length ≤ 640 then (PySem.intText? a).map .int else none := rfl
theorem str_int : strV h (.int i) = if i.natAbs.log2 < 1920 then some (.str (toString i)) else none := rfl
theorem ix_tup : ixO h (.tup xs) (.int j) = atI xs j := rfl
theorem ix_fl : ixO h (.fl xs) (.int j) = atI xs j := rfl
theorem ix_fk : ixO h (.fk kvs) u = (keyW u).bind (look kvs) := rfl
theorem ix_ft : ixO h (.ft tvs) u = (keysW u).bind (look tvs) := rfl
theorem ix_str : ixO h (.str a) (.int j) = if a.length ≤ 16777216 then (atI a.cps.toList j).map fun c => .str ⟨#[c]⟩ else none := rfl
theorem ix_ref : ixO h (.ref n) u = match h[n]? with
    | some (.lst xs) => match u with
      | .int j => atI xs j
      | _ => none
    | some (.ro xs) => match u with
      | .int j => atI xs j
      | _ => none
    | some (.dK _ kvs) => (keyW u).bind (look kvs)
    | some (.dT _ kvs) => (keysW u).bind (look kvs)
    | _ => none := rfl
theorem sl_tup {lo hi : Option Int} : slO h (.tup xs) lo hi = some (.tup (cut xs lo hi)) := rfl
theorem sl_fl {lo hi : Option Int} : slO h (.fl xs) lo hi = some (.fl (cut xs lo hi)) := rfl
theorem sl_str {lo hi : Option Int} : slO h (.str a) lo hi = if a.length ≤ 16777216 then some (.str (cutS a lo hi)) else none := rfl
theorem l_fl : lstOf h (.fl xs) = some xs := rfl
theorem l_ref : lstOf h (.ref n) = match h[n]? with
    | some (.lst xs) => some xs
    | _ => none := rfl
theorem rv_append : recv h .append v = isL h v := rfl
theorem rv_extend : recv h .extend v = isL h v := rfl
theorem rv_pop : recv h .pop v = isL h v := rfl
theorem rv_reverse : recv h .reverse v = isL h v := rfl
theorem rv_get : recv h .get v = ((dkOf h v).isSome || (dtOf h v).isSome) := rfl
theorem rv_popD : recv h .popD v = isD h v := rfl
theorem rv_join : recv h .join (.str a) = true := rfl
theorem rv_split : recv h .split (.str a) = true := rfl
theorem rv_start : recv h .startswith (.str a) = true := rfl
theorem rv_lower : recv h .lower (.str a) = true := rfl
theorem isL_ref : isL h (.ref n) = match h[n]? with
    | some (.lst _) => true
    | _ => false := rfl
theorem isD_ref : isD h (.ref n) = match h[n]? with
    | some (.dK false _) => true
    | some (.dT false _) => true
    | _ => false := rfl
theorem dk_fk : dkOf h (.fk kvs) = some kvs := rfl
theorem dk_ft : dkOf h (.ft tvs) = none := rfl
theorem dk_ref : dkOf h (.ref n) = match h[n]? with
    | some (.dK _ kvs) => some kvs
    | _ => none := rfl
theorem dt_ft : dtOf h (.ft tvs) = some tvs := rfl
theorem dt_fk : dtOf h (.fk kvs) = none := rfl
theorem dt_ref : dtOf h (.ref n) = match h[n]? with
    | some (.dT _ kvs) => some kvs
    | _ => none := rfl
theorem mt_append : mtF h .append (.ref n) [v] = match h[n]? with
    | some (.lst xs) => if xs.length < 16777216 then some (.non, h.set n (.lst (xs ++ [v]))) else none
    | _ => none := rfl
theorem mt_extend : mtF h .extend (.ref n) [v] = match h[n]?, lstOf h v with
    | some (.lst xs), some ys => if xs.length + ys.length ≤ 16777216 then some (.non, h.set n (.lst (xs ++ ys))) else none
    | _, _ => none := rfl
theorem mt_pop0 : mtF h .pop (.ref n) [] = match h[n]? with
    | some (.lst xs) => (xs[xs.length - 1]?).map fun y => (y, h.set n (.lst xs.dropLast))
    | _ => none := rfl
theorem mt_pop : mtF h .pop (.ref n) [.int i] = match h[n]? with
    | some (.lst xs) => if i.natAbs < 4611686018427387904 then (ixN xs.length i).bind fun k => (xs[k]?).map fun y => (y, h.set n (.lst (xs.eraseIdx k))) else none
    | _ => none := rfl
theorem mt_popD : mtF h .popD (.ref n) [v] = match h[n]? with
    | some (.dK false kvs) => (keyW v).bind fun k => (look kvs k).map fun y => (y, h.set n (.dK false (drp kvs k)))
    | _ => none := rfl
theorem mt_reverse : mtF h .reverse (.ref n) [] = match h[n]? with
    | some (.lst xs) => some (.non, h.set n (.lst xs.reverse))
    | _ => none := rfl
theorem mt_get : mtF h .get u [v, w] = match dkOf h u with
    | some kvs => (keyW v).map fun k => ((look kvs k).getD w, h)
    | none => match dtOf h u with
      | some kvs => (keysW v).map fun k => ((look kvs k).getD w, h)
      | none => none := rfl
theorem mt_join : mtF h .join (.str a) [v] = ((lstOf h v).bind isSt).bind fun ys => if (ys.map (·.length)).sum + ys.length * a.length ≤ 16777216 then some (.str (Txt.join a ys), h) else none := rfl
theorem mt_split : mtF h .split (.str a) [.str b] = if (b.length == 0) = false ∧ a.length + 2 ≤ 16777216 then some (.fl ((Txt.split a b).map .str), h) else none := rfl
theorem mt_start : mtF h .startswith (.str a) [.str b] = some (.bl (Txt.startswith a b), h) := rfl
theorem mt_lower : mtF h .lower (.str a) [] = if a.length ≤ 5592405 then some (.str (Txt.lower a), h) else none := rfl
theorem seti_ref : setI h (.ref n) v w = match h[n]? with
    | some (.lst xs) => match v with
      | .int i => (ixN xs.length i).map fun k => h.set n (.lst (xs.set k w))
      | _ => none
    | some (.dK false kvs) => (keyW v).bind fun k => if kvs.length < 16777216 then some (h.set n (.dK false (put kvs k w))) else none
    | some (.dT false kvs) => (keysW v).bind fun k => if kvs.length < 16777216 then some (h.set n (.dT false (put kvs k w))) else none
    | _ => none := rfl
theorem asg_nm {i : Nat} : asgT h (.nm i) v σ = if i < σ.length then some (σ.set i (some v)) else none := by unfold asgT; rfl
theorem asg_tup {ts : List Tg} : asgT h (.tp ts) (.tup xs) σ = asgT.asgTs h ts xs σ := by unfold asgT; rfl
theorem asg_fl {ts : List Tg} : asgT h (.tp ts) (.fl xs) σ = asgT.asgTs h ts xs σ := by unfold asgT; rfl
theorem asgs_nil : asgT.asgTs h [] [] σ = some σ := by unfold asgT.asgTs; rfl
theorem asgs_cons {t : Tg} {ts : List Tg} : asgT.asgTs h (t :: ts) (v :: xs) σ = (asgT h t v σ).bind (asgT.asgTs h ts xs) := by rw [asgT.asgTs]
theorem wipe_nil : wipeE σ [] = σ := rfl
theorem wipe_cons {i : Nat} {l : List Nat} : wipeE σ (i :: l) = (wipeE σ l).set i none := rfl
theorem lay_fl : layW (.fl xs) h = .ok (.ref h.length) (h ++ [.lst xs]) := rfl
theorem lay_fk : layD (.fk kvs) h = .ok (.ref h.length) (h ++ [.dK false kvs]) := rfl
theorem lay_ft : layD (.ft tvs) h = .ok (.ref h.length) (h ++ [.dT false tvs]) := rfl
end
end Fw
set_option Elab.async false
set_option linter.all false
set_option maxRecDepth 100000
set_option maxHeartbeats 4000000
set_option autoImplicit false
set_option relaxedAutoImplicit false
namespace Fw
open PySem L2
open PySem.W (Datum DatumOrd Tup)
open Fs (lim keyOf keysOf kVal look put drp setF Bop Cop Ty Tn isTn cut Blt Mt Tg E Es Oe I S Ss Def)
/-! ### values with a Lean type -/
class Enc (α : Type) [DecidableEq α] [DatumOrd α] where
  enc : α → W
  rd_enc : ∀ (h : Hep) (k : Nat) (a : α), Datum.depth α < k → rd h k (enc a) = some (Datum.toD a)
  cl_enc : ∀ (n k : Nat) (a : α), Datum.depth α < k → clean n k (enc a) = true
open Enc (enc)
theorem mapM_map {α β γ : Type} {f : β → Option γ} {g : α → β} {t : α → γ} : ∀ {xs : List α}, (∀ x ∈ xs, f (g x) = some (t x)) → (xs.map g).mapM f = some (xs.map t)
  | [], _ => rfl
  | x :: xs, hf => by
    rw [List.map_cons, List.mapM_cons, hf x (by simp), mapM_map fun y hy => hf y (by simp [hy])]
    rfl
instance : Enc Int where
  enc := .int
  rd_enc h k a hk := by cases k with | zero => cases hk | succ k => rfl
  cl_enc n k a hk := by cases k with | zero => cases hk | succ k => rfl
instance : Enc Bool where
  enc := .bl
  rd_enc h k a hk := by cases k with | zero => cases hk | succ k => rfl
  cl_enc n k a hk := by cases k with | zero => cases hk | succ k => rfl
instance : Enc Str where
  enc := .str
  rd_enc h k a hk := by cases k with | zero => cases hk | succ k => rfl
  cl_enc n k a hk := by cases k with | zero => cases hk | succ k => rfl
section
variable {α β : Type} [DecidableEq α] [DatumOrd α] [Enc α] [DecidableEq β] [DatumOrd β] [Enc β]
/-- a tuple of things of one type -/
def tupW (xs : List α) : W := .tup (xs.map enc)
/-- a list -/
def lsW (xs : List α) : W := .fl (xs.map enc)
def prW (p : α × β) : W := .tup [enc p.1, enc p.2]
theorem rd_map {h : Hep} {k : Nat} (hk : Datum.depth α < k) (xs : List α) : (xs.map enc).mapM (rd h k) = some (xs.map Datum.toD) := mapM_map fun x _ => Enc.rd_enc h k x hk
theorem cl_map {n k : Nat} (hk : Datum.depth α < k) (xs : List α) : (xs.map enc).all (clean n k) = true := by
  rw [List.all_map, List.all_eq_true]
  exact fun x _ => Enc.cl_enc n k x hk
instance : Enc (Tup α) where
  enc t := tupW t.items
  rd_enc h k a hk := by
    cases k with
    | zero => cases hk
    | succ k =>
      have hk' : Datum.depth α < k := Nat.lt_of_succ_lt_succ hk
      show ((a.items.map enc).mapM (rd h k)).map PyData.tuple = _
      rw [rd_map hk']
      rfl
  cl_enc n k a hk := by
    cases k with
    | zero => cases hk
    | succ k => exact cl_map (Nat.lt_of_succ_lt_succ hk) a.items
instance : Enc (List α) where
  enc := lsW
  rd_enc h k a hk := by
    cases k with
    | zero => cases hk
    | succ k =>
      have hk' : Datum.depth α < k := Nat.lt_of_succ_lt_succ hk
      show ((a.map enc).mapM (rd h k)).map PyData.list = _
      rw [rd_map hk']
      rfl
  cl_enc n k a hk := by
    cases k with
    | zero => cases hk
    | succ k => exact cl_map (Nat.lt_of_succ_lt_succ hk) a
instance : Enc (α × β) where
  enc := prW
  rd_enc h k a hk := by
    cases k with
    | zero => cases hk
    | succ k =>
      have hk' : max (Datum.depth α) (Datum.depth β) < k := Nat.lt_of_succ_lt_succ hk
      have h1 : Datum.depth α < k := Nat.lt_of_le_of_lt (Nat.le_max_left _ _) hk'
      have h2 : Datum.depth β < k := Nat.lt_of_le_of_lt (Nat.le_max_right _ _) hk'
      show (([enc a.1, enc a.2] : List W).mapM (rd h k)).map PyData.tuple = _
      rw [List.mapM_cons, List.mapM_cons, Enc.rd_enc h k a.1 h1, Enc.rd_enc h k a.2 h2]
      rfl
  cl_enc n k a hk := by
    cases k with
    | zero => cases hk
    | succ k =>
      have hk' : max (Datum.depth α) (Datum.depth β) < k := Nat.lt_of_succ_lt_succ hk
      have h1 : Datum.depth α < k := Nat.lt_of_le_of_lt (Nat.le_max_left _ _) hk'
      have h2 : Datum.depth β < k := Nat.lt_of_le_of_lt (Nat.le_max_right _ _) hk'
      show ([enc a.1, enc a.2] : List W).all (clean n k) = true
      simp [Enc.cl_enc n k a.1 h1, Enc.cl_enc n k a.2 h2]
theorem enc_int (i : Int) : enc i = W.int i := rfl
theorem enc_bl (i : Bool) : enc i = W.bl i := rfl
theorem enc_str (i : Str) : enc i = W.str i := rfl
theorem enc_tup (t : Tup α) : enc t = tupW t.items := rfl
theorem enc_ls (t : List α) : enc t = lsW t := rfl
theorem enc_pr (t : α × β) : enc t = W.tup [enc t.1, enc t.2] := rfl
/-! ### comparisons -/
theorem eqO_rd {h : Hep} {u v : W} {d e : PyData} (hu : rd h 12 u = some d) (hv : rd h 12 v = some e) : eqO h u v = some (PyData.eqv d e) := by
  unfold eqO
  split
  · cases hu; cases hv; rw [PyData.eqv]; rename_i i j; by_cases hij : i = j <;> simp [hij]
  · cases hu; cases hv; rw [PyData.eqv]; rename_i i j; by_cases hij : i = j <;> simp [hij]
  · cases hu; cases hv; rw [PyData.eqv]; rename_i i j; by_cases hij : i = j <;> simp [hij]
  · rw [hu, hv]
theorem eq_enc {h : Hep} (hd : Datum.depth α < 12) (a b : α) : eqO h (enc a) (enc b) = some (decide (a = b)) := by
  rw [eqO_rd (Enc.rd_enc h 12 a hd) (Enc.rd_enc h 12 b hd), Datum.eqv]
theorem inL_enc {h : Hep} (hd : Datum.depth α < 11) (a : α) (xs : List α) : inL h (enc a) (xs.map enc) = some (decide (a ∈ xs)) := by
  unfold inL
  rw [Enc.rd_enc h 12 a (Nat.lt_succ_of_lt hd), rd_map hd]
  simp only [PySem.W.any_datum]
theorem in_ls {h : Hep} (hd : Datum.depth α < 11) (a : α) (xs : List α) : inO h (enc a) (lsW xs) = some (decide (a ∈ xs)) := inL_enc hd a xs
theorem in_tup {h : Hep} (hd : Datum.depth α < 11) (a : α) (xs : List α) : inO h (enc a) (tupW xs) = some (decide (a ∈ xs)) := inL_enc hd a xs
theorem lt_tup {h : Hep} (hd : Datum.depth α < 11) (a b : List α) : ltO h (tupW a) (tupW b) = some (PySem.W.listLt a b) := by
  have ha := Enc.rd_enc h 12 (Tup.mk a) (show Datum.depth α + 1 < 12 by omega)
  have hb := Enc.rd_enc h 12 (Tup.mk b) (show Datum.depth α + 1 < 12 by omega)
  show (match rd h 12 (enc (Tup.mk a)), rd h 12 (enc (Tup.mk b)) with
    | some d, some e => if PySem.W.alike d e = true then some (PySem.W.dataLt d e) else none
    | _, _ => none) = _
  rw [ha, hb]
  simp only
  rw [if_pos (DatumOrd.alike _ _), DatumOrd.lt_eq]
  rfl
/-! ### sorting -/
def leD (a b : α) : Bool := !DatumOrd.lt b a
theorem encD_enc {h : Hep} (hd : Datum.depth α < 12) (a : α) : encD h (enc a) = Datum.toD a := by
  unfold encD
  rw [Enc.rd_enc h 12 a hd]
  rfl
theorem sort_enc {h : Hep} (hd : Datum.depth α < 12) (xs : List α) (hl : xs.length ≤ lim) (hk : (∀ a ∈ xs, Fs.isTupC (Datum.toD a) = true) ∨ ∀ a ∈ xs, Fs.isPlainD (Datum.toD a) = true) : sortO h (xs.map enc) = some ((xs.mergeSort leD).map enc) := by
  have hs : sortable h (xs.map enc) = true := by
    unfold sortable
    simp only [Bool.and_eq_true, Bool.or_eq_true, List.all_eq_true, List.mem_map, forall_exists_index, and_imp, forall_apply_eq_imp_iff₂]
    refine ⟨⟨fun a _ => by rw [Enc.rd_enc h 12 a hd]; rfl, fun a _ b _ => by rw [encD_enc hd, encD_enc hd]; exact DatumOrd.alike a b⟩, ?_⟩
    exact hk.imp (fun k a ha => by rw [encD_enc hd]; exact k a ha) fun k a ha => by rw [encD_enc hd]; exact k a ha
  unfold sortO
  rw [if_pos ⟨hs, by simpa using hl⟩]
  rw [List.map_mergeSort (s := PySem.W.dataLe false (encD h)) (f := enc)]
  intro a _ b _
  have e1 : PySem.W.dataLe false (encD h) (enc a) (enc b) = !PySem.W.dataLt (encD h (enc b)) (encD h (enc a)) := rfl
  rw [e1, encD_enc hd, encD_enc hd, DatumOrd.lt_eq]
  rfl
/-! ### what a call leaves -/
theorem Old.refl {h : Hep} : Old h h := fun i _ => .inl rfl
theorem Old.app {h g : Hep} : Old h (h ++ g) := fun i hi => .inl (List.getElem?_append_left hi)
theorem Old.set {h g : Hep} {p : Nat} {o : Ob} (ho : cleanOb h.length o = true) : Old h (h.set p o ++ g) := fun i hi => by
  rw [List.getElem?_append_left (by simpa using hi)]
  by_cases hp : p = i
  · subst hp
    exact .inr ⟨o, List.getElem?_set_self hi, ho⟩
  · rw [List.getElem?_set_ne hp]
    exact .inl rfl
theorem mapM_self {α : Type} {f : α → Option α} : ∀ {xs : List α}, (∀ x ∈ xs, f x = some x) → xs.mapM f = some xs
  | [], _ => rfl
  | x :: xs, hf => by
    rw [List.mapM_cons, hf x (by simp), mapM_self fun y hy => hf y (by simp [hy])]
    rfl
theorem clean_up {m n : Nat} (hmn : m ≤ n) : ∀ (k : Nat) {w : W}, clean m k w = true → clean n k w = true
  | 0, w, h => by unfold clean at h; cases h
  | k + 1, w, h => by
    cases w with
    | tup xs => simp only [clean, List.all_eq_true] at h ⊢; exact fun x hx => clean_up hmn k (h x hx)
    | fl xs => simp only [clean, List.all_eq_true] at h ⊢; exact fun x hx => clean_up hmn k (h x hx)
    | fk xs => simp only [clean, List.all_eq_true] at h ⊢; exact fun x hx => clean_up hmn k (h x hx)
    | ft xs => simp only [clean, List.all_eq_true] at h ⊢; exact fun x hx => clean_up hmn k (h x hx)
    | ref m' => simp only [clean, decide_eq_true_eq] at h ⊢; omega
    | _ => rfl
theorem frz_clean {h : Hep} {n e : Nat} : ∀ (k : Nat) {w : W}, clean n k w = true → frz h n e k w = some w
  | 0, w, hc => by unfold clean at hc; cases hc
  | k + 1, w, hc => by
    cases w with
    | tup xs =>
      simp only [clean, List.all_eq_true] at hc
      simp only [frz]
      rw [mapM_self fun x hx => frz_clean k (hc x hx)]
      rfl
    | ref m =>
      simp only [clean, decide_eq_true_eq] at hc
      simp only [frz, if_pos hc]
    | _ => simp only [frz]; rw [if_pos hc]
theorem frz_mapM {h : Hep} {n e k : Nat} {xs : List W} (hc : xs.all (clean n k) = true) : xs.mapM (frz h n e k) = some xs := by
  rw [List.all_eq_true] at hc
  exact mapM_self fun x hx => frz_clean k (hc x hx)
/-- a new list, told -/
theorem frz_lst {h : Hep} {n e q k : Nat} {xs : List W} (hq : h[q]? = some (.lst xs)) (h1 : n ≤ q) (h2 : q ≠ e) (hc : xs.all (clean n k) = true) : frz h n e (k + 1) (.ref q) = some (.fl xs) := by
  rw [frz, if_neg (by omega), if_neg h2, hq]
  simp only [frz_mapM hc, Option.map_some]
theorem frz_kvs {κ : Type} {h : Hep} {n e k : Nat} {kvs : List (κ × W)} (hc : (kvs.all fun kv => clean n k kv.2) = true) : (kvs.mapM fun kv => (frz h n e k kv.2).map (kv.1, ·)) = some kvs := by
  rw [List.all_eq_true] at hc
  exact mapM_self fun x hx => by rw [frz_clean k (hc x hx)]; rfl
theorem frz_dK {h : Hep} {n e q k : Nat} {fz : Bool} {kvs : List (Key × W)} (hq : h[q]? = some (.dK fz kvs)) (h1 : n ≤ q) (h2 : q ≠ e) (hc : (kvs.all fun kv => clean n k kv.2) = true) : frz h n e (k + 1) (.ref q) = some (.fk kvs) := by
  rw [frz, if_neg (by omega), if_neg h2, hq]
  simp only [frz_kvs hc, Option.map_some]
theorem frz_dT {h : Hep} {n e q k : Nat} {fz : Bool} {kvs : List (List Key × W)} (hq : h[q]? = some (.dT fz kvs)) (h1 : n ≤ q) (h2 : q ≠ e) (hc : (kvs.all fun kv => clean n k kv.2) = true) : frz h n e (k + 1) (.ref q) = some (.ft kvs) := by
  rw [frz, if_neg (by omega), if_neg h2, hq]
  simp only [frz_kvs hc, Option.map_some]
theorem cut0 {h : Hep} {r : Res W} : cutV 0 h r = r := by
  unfold cutV
  cases r <;> simp
theorem cut1 {h h' : Hep} {w w' : W} (old : Old h h') (hf : frz h' h.length h'.length 12 w = some w') : cutV 1 h (.ok w h') = .ok w' (h'.take h.length) := by
  unfold cutV
  simp only [if_neg (show ¬ (1 = 0) by omega), if_pos old, if_true, hf]
/-- new objects only -/
theorem cut1_app {h g : Hep} {w w' : W} (hf : frz (h ++ g) h.length (h ++ g).length 12 w = some w') : cutV 1 h (.ok w (h ++ g)) = .ok w' h := by
  rw [cut1 Old.app hf, List.take_left]
theorem cut1_c {h g : Hep} {w : W} (hc : clean h.length 12 w = true) : cutV 1 h (.ok w (h ++ g)) = .ok w h := cut1_app (frz_clean 12 hc)
/-- one object written, new ones besides -/
theorem cut1_set {h g : Hep} {p : Nat} {o : Ob} {w w' : W} (ho : cleanOb h.length o = true) (hf : frz (h.set p o ++ g) h.length (h.set p o ++ g).length 12 w = some w') : cutV 1 h (.ok w (h.set p o ++ g)) = .ok w' (h.set p o) := by
  rw [cut1 (Old.set ho) hf]
  have : (h.set p o).length = h.length := by simp
  rw [← this, List.take_left]
theorem cut2 {h h' : Hep} {q : Nat} {o o' : Ob} (old : Old h h') (hq : h.length ≤ q) (ho : h'[q]? = some o) (hf : frzOb h' h.length q o = some o') : cutV 2 h (.ok (.ref q) h') = .ok (.ref h.length) (h'.take h.length ++ [o']) := by
  unfold cutV
  simp only [if_neg (show ¬ (2 = 0) by omega), if_neg (show ¬ (2 = 1) by omega), if_pos old, if_pos hq, ho, Option.bind_some, hf]
theorem frzOb_lst {h : Hep} {n e : Nat} {xs : List W} (hc : xs.all (clean n 12) = true) : frzOb h n e (.lst xs) = some (.lst xs) := by
  simp only [frzOb, frz_mapM hc, Option.map_some]
end
/-! ### calls -/
theorem call_eq {T : List (Str × Def)} {md : List (Str × Nat)} {n : Nat} {f : Str} {vs : List W} {h : Hep} {d : Def} (hl : T.lookup f = some d) (hp : vs.length = d.ps.length) :
    callV T md (n + 1) f vs h = cutV ((md.lookup f).getD 0) h (retOf (exSs (callV T md n) d.body (vs.map some ++ List.replicate (d.ns.length - vs.length) none) h)) := by
  unfold callV
  rw [hl]
  simp only
  rw [if_pos hp]
/-! ### loops -/
def lcE (bk : Bk) (r : Res (List W)) : Res (List W) := match bk with
  | .un n => unlkE n r
  | _ => r.nox
theorem evE_lc {F : Orc} {own : List Nat} {elt : E} {tg : Tg} {it : I} {c : Oe} {σ : Evn} {h : Hep} : evE F (.lc own elt tg it c) σ h = (evI F it σ h).bind fun wd h1 => (lcE wd.2 (lcR wd.1 (stepV F own elt tg c σ) h1)).bind fun acc h2 => .ok (.fl acc) h2 := by
  simp only [evE]
  rfl
def forE (bk : Bk) (r : SRes) : SRes := match bk with
  | .un n => unlkS n r
  | .fd => noxS r
  | .no => r
theorem exS_for {F : Orc} {tg : Tg} {it : I} {b : Ss} {σ : Evn} {h : Hep} : exS F (.for_ tg it b) σ h = (evI F it σ h).sb σ fun wd h1 => forE wd.2 (forR wd.1 (fstepV F tg b) σ h1) := by
  simp only [exS]
  rfl
section
variable {α β : Type} {g : α → W}
theorem lcL_filter {step : W → Hep → Res (Option W)} {f : α → Option W} {h : Hep} : ∀ {xs : List α}, (∀ x ∈ xs, step (g x) h = .ok (f x) h) → lcL step (xs.map g) h = .ok (xs.filterMap f) h
  | [], _ => rfl
  | x :: xs, hs => by
    rw [List.map_cons, lcL, hs x (by simp), bind_ok, lcL_filter fun y hy => hs y (by simp [hy]), bind_ok, List.filterMap_cons]
    cases f x <;> rfl
theorem lcL_map {step : W → Hep → Res (Option W)} {f : α → W} {h : Hep} {xs : List α} (hs : ∀ x ∈ xs, step (g x) h = .ok (some (f x)) h) : lcL step (xs.map g) h = .ok (xs.map f) h := by
  rw [lcL_filter hs]
  congr 1
  exact List.filterMap_eq_map ▸ rfl
/-- with a state -/
theorem lcL_inv {step : W → Hep → Res (Option W)} {e : β → W} {Inv : List β → Hep → Prop} : ∀ {xs done : List α} {acc : List β} {h : Hep}, (∀ d x r acc h, done ++ xs = d ++ x :: r → acc.length = d.length → Inv acc h → ∃ y h', step (g x) h = .ok (some (e y)) h' ∧ Inv (acc ++ [y]) h') → acc.length = done.length → Inv acc h →
    ∃ ys h', lcL step (xs.map g) h = .ok (ys.map e) h' ∧ Inv (acc ++ ys) h' ∧ ys.length = xs.length
  | [], done, acc, h, _, _, i => ⟨[], h, rfl, by simpa using i, rfl⟩
  | x :: xs, done, acc, h, hs, hl, i => by
    obtain ⟨y, h1, e1, i1⟩ := hs done x xs acc h rfl hl i
    obtain ⟨ys, h2, e2, i2, l⟩ := lcL_inv (xs := xs) (done := done ++ [x]) (fun d z r acc h e => hs d z r acc h (by rw [← e]; simp)) (by simp [hl]) i1
    refine ⟨y :: ys, h2, ?_, by simpa using i2, by simp [l]⟩
    rw [List.map_cons, lcL, e1, bind_ok, e2, bind_ok]
    rfl
theorem lcR_fix {step : W → Hep → Res (Option W)} {xs : List W} {h : Hep} (hl : xs.length ≤ lim) : lcR (.fix xs) step h = lcL step xs h := by
  unfold lcR
  simp only [if_pos hl]
/-- a state that goes on -/
theorem forL_fold {σ : Type} {step : W → Evn → Hep → SRes} {S : σ → Evn} {H : σ → Hep} {f : σ → α → σ} : ∀ {xs : List α} {s : σ}, (∀ x ∈ xs, ∀ s, step (g x) (S s) (H s) = .nx (S (f s x)) (H (f s x))) → forL step (xs.map g) (S s) (H s) = .nx (S (xs.foldl f s)) (H (xs.foldl f s))
  | [], s, _ => rfl
  | x :: xs, s, hs => by
    rw [List.map_cons, forL, hs x (by simp), List.foldl_cons]
    exact forL_fold fun y hy => hs y (by simp [hy])
/-- one that goes on, or tells -/
theorem forL_find {step : W → Evn → Hep → SRes} {σ : Evn} {h : Hep} {p : α → Bool} {v : W} : ∀ {xs : List α}, (∀ x ∈ xs, step (g x) σ h = if p x = true then .rt v h else .nx σ h) → forL step (xs.map g) σ h = if xs.any p = true then .rt v h else .nx σ h
  | [], _ => rfl
  | x :: xs, hs => by
    rw [List.map_cons, forL, hs x (by simp), List.any_cons]
    by_cases hp : p x = true
    · rw [if_pos hp, hp]; rfl
    · rw [if_neg hp]
      have : p x = false := by simpa using hp
      rw [this, Bool.false_or]
      exact forL_find fun y hy => hs y (by simp [hy])
theorem forL_inv {step : W → Evn → Hep → SRes} {Inv : List α → Evn → Hep → Prop} : ∀ {xs done : List α} {σ : Evn} {h : Hep}, (∀ d x r σ h, done ++ xs = d ++ x :: r → Inv d σ h → ∃ σ' h', step (g x) σ h = .nx σ' h' ∧ Inv (d ++ [x]) σ' h') → Inv done σ h →
    ∃ σ' h', forL step (xs.map g) σ h = .nx σ' h' ∧ Inv (done ++ xs) σ' h'
  | [], done, σ, h, _, i => ⟨σ, h, rfl, by simpa using i⟩
  | x :: xs, done, σ, h, hs, i => by
    obtain ⟨σ1, h1, e1, i1⟩ := hs done x xs σ h rfl i
    obtain ⟨σ2, h2, e2, i2⟩ := forL_inv (xs := xs) (done := done ++ [x]) (fun d y r σ h e => hs d y r σ h (by rw [← e]; simp)) i1
    refine ⟨σ2, h2, ?_, by simpa using i2⟩
    rw [List.map_cons, forL, e1]
    exact e2
/-- one that goes on, or tells, with a state -/
theorem forL_or {step : W → Evn → Hep → SRes} {Inv : List α → Evn → Hep → Prop} {Q : W → Hep → Prop} : ∀ {xs done : List α} {σ : Evn} {h : Hep}, (∀ d x r σ h, done ++ xs = d ++ x :: r → Inv d σ h → (∃ σ' h', step (g x) σ h = .nx σ' h' ∧ Inv (d ++ [x]) σ' h') ∨ ∃ v h', step (g x) σ h = .rt v h' ∧ Q v h') → Inv done σ h →
    (∃ σ' h', forL step (xs.map g) σ h = .nx σ' h' ∧ Inv (done ++ xs) σ' h') ∨ ∃ v h', forL step (xs.map g) σ h = .rt v h' ∧ Q v h'
  | [], done, σ, h, _, i => .inl ⟨σ, h, rfl, by simpa using i⟩
  | x :: xs, done, σ, h, hs, i => by
    rcases hs done x xs σ h rfl i with ⟨σ1, h1, e1, i1⟩ | ⟨v, h1, e1, q⟩
    · rcases forL_or (xs := xs) (done := done ++ [x]) (fun d y r σ h e => hs d y r σ h (by rw [← e]; simp)) i1 with ⟨σ2, h2, e2, i2⟩ | ⟨v, h2, e2, q⟩
      · refine .inl ⟨σ2, h2, ?_, by simpa using i2⟩
        rw [List.map_cons, forL, e1]
        exact e2
      · refine .inr ⟨v, h2, ?_, q⟩
        rw [List.map_cons, forL, e1]
        exact e2
    · refine .inr ⟨v, h1, ?_, q⟩
      rw [List.map_cons, forL, e1]
      rfl
end
/-! ### ranges -/
theorem rng1 {n : Int} (h : n.natAbs < 2 ^ 62) : rngO [.int n] = some ((List.range n.toNat).map fun (i : Nat) => W.int (i : Int)) := by
  simp only [rngO, if_pos h, Int.zero_add]
theorem rng2 {a b : Int} (h : a.natAbs < 2 ^ 62 ∧ b.natAbs < 2 ^ 62) : rngO [.int a, .int b] = some ((List.range (b - a).toNat).map fun (i : Nat) => W.int (a + (i : Int))) := by
  simp only [rngO, if_pos h]
/-- the ints below -/
def ri (n : Nat) : List Int := (List.range n).map fun (i : Nat) => (i : Int)
theorem ri_len (n : Nat) : (ri n).length = n := by simp [ri]
theorem ri_nodup (n : Nat) : (ri n).Nodup := by
  unfold ri
  exact List.Pairwise.map _ (fun a b h => by omega) (List.nodup_range (n := n))
theorem ri_mem {n : Nat} {x : Int} : x ∈ ri n ↔ 0 ≤ x ∧ x < n := by
  unfold ri
  rw [List.mem_map]
  constructor
  · rintro ⟨a, ha, rfl⟩
    have := List.mem_range.mp ha
    omega
  · rintro ⟨h0, h1⟩
    exact ⟨x.toNat, List.mem_range.mpr (by omega), by omega⟩
theorem rng1' {n : Int} (h : n.natAbs < 2 ^ 62) : rngO [.int n] = some ((ri n.toNat).map enc) := by
  rw [rng1 h, ri, List.map_map]
  rfl
theorem rng2' {a b : Int} (h : a.natAbs < 2 ^ 62 ∧ b.natAbs < 2 ^ 62) : rngO [.int a, .int b] = some (((ri (b - a).toNat).map fun i => a + i).map enc) := by
  rw [rng2 h, ri, List.map_map, List.map_map]
  rfl
theorem rngL1 {n : Int} (h : n.natAbs < 2 ^ 62 ∧ n.toNat ≤ lim) : rngL [.int n] = some (lsW (ri n.toNat)) := by
  simp only [rngL, if_pos h, Int.zero_add]
  show some (W.fl ((List.range n.toNat).map fun (i : Nat) => W.int (i : Int))) = some (W.fl ((ri n.toNat).map enc))
  rw [ri, List.map_map]
  rfl
/-! ### loops and comprehensions, told -/
section
variable {F : Orc} {tg : Tg} {it : I} {b : Ss} {σ : Evn} {h h1 h2 : Hep} {xs vs : List W} {own : List Nat} {elt : E} {c : Oe}
theorem for_ok (hI : evI F it σ h = .ok (.fix xs, .no) h1) : exS F (.for_ tg it b) σ h = forL (fstepV F tg b) xs σ h1 := by
  rw [exS_for, hI]
  rfl
theorem for_fd (hI : evI F it σ h = .ok (.fix xs, .fd) h1) : exS F (.for_ tg it b) σ h = noxS (forL (fstepV F tg b) xs σ h1) := by
  rw [exS_for, hI]
  rfl
theorem for_un {n : Nat} (hI : evI F it σ h = .ok (.fix xs, .un n) h1) : exS F (.for_ tg it b) σ h = unlkS n (forL (fstepV F tg b) xs σ h1) := by
  rw [exS_for, hI]
  rfl
theorem lc_ok (hI : evI F it σ h = .ok (.fix xs, .no) h1) (hl : xs.length ≤ lim) (hr : lcL (stepV F own elt tg c σ) xs h1 = .ok vs h2) : evE F (.lc own elt tg it c) σ h = .ok (.fl vs) h2 := by
  rw [evE_lc, hI, bind_ok, lcR_fix hl, hr]
  rfl
theorem lc_fd (hI : evI F it σ h = .ok (.fix xs, .fd) h1) (hl : xs.length ≤ lim) (hr : lcL (stepV F own elt tg c σ) xs h1 = .ok vs h2) : evE F (.lc own elt tg it c) σ h = .ok (.fl vs) h2 := by
  rw [evE_lc, hI, bind_ok, lcR_fix hl, hr]
  rfl
theorem lc_un {n : Nat} {h3 : Hep} (hI : evI F it σ h = .ok (.fix xs, .un n) h1) (hl : xs.length ≤ lim) (hr : lcL (stepV F own elt tg c σ) xs h1 = .ok vs h2) (hu : unlockD n h2 = some h3) : evE F (.lc own elt tg it c) σ h = .ok (.fl vs) h3 := by
  rw [evE_lc, hI, bind_ok, lcR_fix hl, hr]
  simp only [lcE, unlkE, hu, bind_ok]
theorem i_fl {i : Nat} (e : σ[i]? = some (some (.fl xs))) : evI F (.of (.var i)) σ h = .ok (.fix xs, .no) h := by
  simp only [evI, evE, e, isFD, dictOf, wkOf, Res.of, Res.bind, Bool.false_eq_true, if_false]
theorem i_tup {i : Nat} (e : σ[i]? = some (some (.tup xs))) : evI F (.of (.var i)) σ h = .ok (.fix xs, .no) h := by
  simp only [evI, evE, e, isFD, dictOf, wkOf, Res.of, Res.bind, Bool.false_eq_true, if_false]
theorem i_str {i : Nat} {s : Str} (e : σ[i]? = some (some (.str s))) : evI F (.of (.var i)) σ h = .ok (.fix (signs s), .no) h := by
  simp only [evI, evE, e, isFD, dictOf, wkOf, Res.of, Res.bind, Bool.false_eq_true, if_false]
theorem i_rng {es : Es} {ns : List W} (e : evEs F es σ h = .ok ns h1) (r : rngO ns = some xs) : evI F (.rng es) σ h = .ok (.fix xs, .no) h1 := by
  simp only [evI, e, r, Res.of, Res.bind]
/-- an object that is a dict -/
theorem i_dT {i q : Nat} {kvs : List (List Key × W)} (e : σ[i]? = some (some (.ref q))) (hq : h[q]? = some (.dT false kvs)) : evI F (.of (.var i)) σ h = .ok (.fix (tkeys kvs), .un q) (h.set q (.dT true kvs)) := by
  have hl := (List.getElem?_eq_some_iff.mp hq).1
  simp only [evI, evE, e, isFD, dictOf, hq, lockD, Bool.false_eq_true, if_false, if_true]
  have : walkD (h.set q (.dT true kvs)) .keys q = some (tkeys kvs) := by
    unfold walkD
    rw [List.getElem?_set_self hl]
  rw [this]
  rfl
end
theorem unlock_dT {h : Hep} {q : Nat} {kvs : List (List Key × W)} (hq : h[q]? = some (.dT true kvs)) : unlockD q h = some (h.set q (.dT false kvs)) := by
  simp only [unlockD, hq]
theorem set_id {α : Type} {l : List α} {i : Nat} {a : α} (h : l[i]? = some a) : l.set i a = l := by
  obtain ⟨hl, rfl⟩ := List.getElem?_eq_some_iff.mp h
  exact List.set_getElem_self hl
theorem set_app {α : Type} {l g : List α} {i : Nat} {a : α} (h : i < l.length) : (l ++ g).set i a = l.set i a ++ g := List.set_append_left _ _ h
theorem set_end {α : Type} {l g : List α} {a b : α} : (l ++ b :: g).set l.length a = l ++ a :: g := by
  rw [List.set_append_right _ _ (Nat.le_refl _), Nat.sub_self]
  rfl
theorem get_app {α : Type} {l g : List α} {i : Nat} (h : i < l.length) : (l ++ g)[i]? = l[i]? := List.getElem?_append_left h
theorem get_end {α : Type} {l g : List α} {b : α} : (l ++ b :: g)[l.length]? = some b := by
  rw [List.getElem?_append_right (Nat.le_refl _), Nat.sub_self]
  rfl
end Fw
set_option Elab.async false
set_option linter.all false
set_option maxRecDepth 100000
set_option maxHeartbeats 4000000
namespace Fw
open Enc (enc)
open PySem L2
open Fs (lim Tg E Es Oe I S Ss)
/-! ### walks over a list object -/
theorem itAt_live {h : Hep} {q i : Nat} {xs : List W} (hq : h[q]? = some (.lst xs)) : itAt h (.lst q) i = some xs[i]? := by
  simp [itAt, srcAt, hq]
theorem itLen_live {h : Hep} {q : Nat} {xs : List W} (hq : h[q]? = some (.lst xs)) : itLen h (.lst q) = xs.length := by
  simp [itLen, srcAt, hq]
theorem forGo_live {q : Nat} {xs : List W} {step : W → Evn → Hep → SRes} {Inv : Evn → Hep → Prop} (hk : ∀ x ∈ xs, ∀ σ h σ' h', Inv σ h → step x σ h = .nx σ' h' → Inv σ' h') (hi : ∀ σ h, Inv σ h → h[q]? = some (.lst xs)) :
    ∀ (k i : Nat) (σ : Evn) (h : Hep), i + k = xs.length → Inv σ h → forGo (.lst q) step (k + 1) i σ h = forL step (xs.drop i) σ h
  | 0, i, σ, h, e, h0 => by
    have : xs[i]? = none := List.getElem?_eq_none (by omega)
    rw [forGo, itAt_live (hi σ h h0), this, List.drop_eq_nil_of_le (by omega)]
    rfl
  | k + 1, i, σ, h, e, h0 => by
    have hlt : i < xs.length := by omega
    rw [forGo, itAt_live (hi σ h h0), List.getElem?_eq_getElem hlt, List.drop_eq_getElem_cons hlt, forL]
    show (step xs[i] σ h).sq _ = _
    cases q1 : step xs[i] σ h with
    | nx σ' h' => exact forGo_live hk hi k (i + 1) σ' h' (by omega) (hk _ (List.getElem_mem hlt) σ h σ' h' h0 q1)
    | rt v h' => rfl
    | ex x σ' h' => rfl
    | bad => rfl
theorem forR_live {q : Nat} {xs : List W} {step : W → Evn → Hep → SRes} {σ : Evn} {h : Hep} (Inv : Evn → Hep → Prop) (hk : ∀ x ∈ xs, ∀ σ h σ' h', Inv σ h → step x σ h = .nx σ' h' → Inv σ' h') (hi : ∀ σ h, Inv σ h → h[q]? = some (.lst xs)) (h0 : Inv σ h) :
    forR (.lst q) step σ h = forL step xs σ h := by
  show forGo (.lst q) step (itLen h (.lst q) + 1) 0 σ h = _
  rw [itLen_live (hi σ h h0), forGo_live hk hi xs.length 0 σ h (by omega) h0]
  rfl
theorem lcGo_live {q : Nat} {xs : List W} {step : W → Hep → Res (Option W)} {h : Hep} {f : W → Option W} (hq : h[q]? = some (.lst xs)) (hl : xs.length ≤ lim) (hs : ∀ x ∈ xs, step x h = .ok (f x) h) :
    ∀ (k i : Nat) (acc : List W), i + k = xs.length → acc.length ≤ i → lcGo (.lst q) step (k + 1) i acc h = .ok (acc ++ (xs.drop i).filterMap f) h
  | 0, i, acc, e, ha => by
    have : xs[i]? = none := List.getElem?_eq_none (by omega)
    rw [lcGo, itAt_live hq, this, List.drop_eq_nil_of_le (by omega)]
    simp
  | k + 1, i, acc, e, ha => by
    have hlt : i < xs.length := by omega
    rw [lcGo, itAt_live hq, List.getElem?_eq_getElem hlt, List.drop_eq_getElem_cons hlt]
    show (match step xs[i] h with
      | .ok none h' => lcGo (.lst q) step (k + 1) (i + 1) acc h'
      | .ok (some v) h' => if acc.length < lim then lcGo (.lst q) step (k + 1) (i + 1) (acc ++ [v]) h' else .bad
      | _ => .bad) = _
    rw [hs _ (List.getElem_mem hlt), List.filterMap_cons]
    cases f xs[i] with
    | none => exact lcGo_live hq hl hs k (i + 1) acc (by omega) (by omega)
    | some v =>
      show (if acc.length < lim then _ else _) = _
      rw [if_pos (by omega), lcGo_live hq hl hs k (i + 1) (acc ++ [v]) (by omega) (by simp; omega)]
      simp
theorem lcR_live {q : Nat} {xs : List W} {step : W → Hep → Res (Option W)} {h : Hep} {f : W → Option W} (hq : h[q]? = some (.lst xs)) (hl : xs.length ≤ lim) (hs : ∀ x ∈ xs, step x h = .ok (f x) h) : lcR (.lst q) step h = .ok (xs.filterMap f) h := by
  show lcGo (.lst q) step (itLen h (.lst q) + 1) 0 [] h = _
  rw [itLen_live hq, lcGo_live hq hl hs xs.length 0 [] (by omega) (Nat.le_refl _)]
  rfl
theorem i_ref {F : Orc} {σ : Evn} {h : Hep} {xs : List W} {i q : Nat} (e : σ[i]? = some (some (.ref q))) (hq : h[q]? = some (.lst xs)) : evI F (.of (.var i)) σ h = .ok (.lst q, .no) h := by
  simp [evI, evE, e, isFD, dictOf, hq, wkOf, Res.of, Res.bind]
theorem for_lv {F : Orc} {σ : Evn} {h h1 : Hep} {tg : Tg} {it : I} {b : Ss} {w : Wk} (hI : evI F it σ h = .ok (w, .no) h1) : exS F (.for_ tg it b) σ h = forR w (fstepV F tg b) σ h1 := by
  rw [exS_for, hI]
  rfl
theorem lc_lv {F : Orc} {σ : Evn} {h h1 h2 : Hep} {own : List Nat} {elt : E} {tg : Tg} {it : I} {c : Oe} {w : Wk} {vs : List W} (hI : evI F it σ h = .ok (w, .no) h1) (hr : lcR w (stepV F own elt tg c σ) h1 = .ok vs h2) : evE F (.lc own elt tg it c) σ h = .ok (.fl vs) h2 := by
  rw [evE_lc, hI]
  show (lcE .no (lcR w _ h1)).bind _ = _
  rw [hr]
  rfl
end Fw
set_option Elab.async false
set_option linter.all false
set_option maxRecDepth 100000
set_option maxHeartbeats 4000000
namespace Fw
open Enc (enc)
open PySem L2
open PySem.W (Datum DatumOrd Tup)
open Fs (lim)
/-! ### texts -/
abbrev tsI (i : Int) : Str := Str.ofString (toString i)
def lotT (b : Str) (lot : List Int) : Str := if lot = [] then "-" else Txt.join b (lot.map tsI)
theorem log_w {i : Int} (h : i.natAbs < 10 ^ 20) : i.natAbs.log2 < 1920 := by
  by_cases z : i.natAbs = 0
  · rw [z]; decide
  · have : i.natAbs.log2 < 67 := (Nat.log2_lt z).mpr (Nat.lt_trans h (by decide))
    omega
theorem isSt_map (l : List Str) : isSt (l.map W.str) = some l := by
  have := mapM_map (f := fun | W.str i => some i | _ => none) (g := W.str) (t := id) (xs := l) (fun x _ => rfl)
  rw [List.map_id] at this
  exact this
theorem isBl_map (l : List Bool) : isBl (l.map W.bl) = some l := by
  have := mapM_map (f := fun | W.bl i => some i | _ => none) (g := W.bl) (t := id) (xs := l) (fun x _ => rfl)
  rw [List.map_id] at this
  exact this
theorem isIn_map (l : List Int) : isIn (l.map W.int) = some l := by
  have := mapM_map (f := fun | W.int i => some i | _ => none) (g := W.int) (t := id) (xs := l) (fun x _ => rfl)
  rw [List.map_id] at this
  exact this
theorem sum_le {α : Type} (f : α → Nat) (c : Nat) : ∀ l : List α, (∀ x ∈ l, f x ≤ c) → (l.map f).sum ≤ c * l.length
  | [], _ => by simp
  | x :: r, h => by
    have h1 := h x (List.mem_cons_self ..)
    have h2 := sum_le f c r fun y hy => h y (List.mem_cons_of_mem _ hy)
    simp only [List.map_cons, List.sum_cons, List.length_cons]
    rw [Nat.mul_add]
    omega
theorem ts_nat {i : Int} (h : 0 ≤ i) : TL.tl (tsI i) = TL.numL i.toNat := by
  obtain ⟨n, rfl⟩ := Int.eq_ofNat_of_zero_le h
  exact TL.tl_num n
theorem ts_neg (n : Nat) (h : 0 < n) : TL.tl (tsI (-(n : Int))) = 45 :: TL.numL n := by
  have e : toString (-(n : Int)) = "-" ++ toString n := by
    cases n with
    | zero => cases h
    | succ k => rfl
  show TL.tl (Str.ofString (toString (-(n : Int)))) = _
  rw [e, TL.tl_ofString]
  have e2 := TL.tl_num n
  have e3 : toString ((n : Nat) : Int) = toString n := rfl
  rw [e3, TL.tl_ofString] at e2
  rw [String.toList_append, List.map_append, e2]
  rfl
theorem worth_cases (w : Int) : (∃ n : Nat, w = n ∧ TL.tl (tsI w) = TL.numL n) ∨ ∃ n : Nat, 0 < n ∧ w = -(n : Int) ∧ TL.tl (tsI w) = 45 :: TL.numL n := by
  by_cases h : 0 ≤ w
  · left
    obtain ⟨n, rfl⟩ := Int.eq_ofNat_of_zero_le h
    exact ⟨n, rfl, TL.tl_num n⟩
  · right
    obtain ⟨n, hn⟩ := Int.eq_ofNat_of_zero_le (show 0 ≤ -w by omega)
    have e : w = -(n : Int) := by omega
    subst e
    exact ⟨n, by omega, rfl, ts_neg n (by omega)⟩
theorem worth_len {w : Int} (h : w.natAbs < 10 ^ 20) : (tsI w).length ≤ 21 := by
  rw [TL.len_tl]
  rcases worth_cases w with ⟨n, rfl, e⟩ | ⟨n, _, rfl, e⟩
  · rw [e]
    exact Nat.le_succ_of_le (TL.numL_len (by decide) (by omega))
  · rw [e, List.length_cons]
    exact Nat.succ_le_succ (TL.numL_len (by decide) (by omega))
theorem joinL_len (S : List Nat) : ∀ ps : List (List Nat), (TL.joinL S ps).length ≤ (ps.map (·.length)).sum + ps.length * S.length
  | [] => by simp [TL.joinL]
  | [p] => by simp [TL.joinL]
  | p :: z :: r => by
    have ih := joinL_len S (z :: r)
    show (p ++ (S ++ TL.joinL S (z :: r))).length ≤ _
    simp only [List.length_append, List.map_cons, List.sum_cons, List.length_cons] at ih ⊢
    rw [Nat.add_mul (r.length + 1) 1, Nat.one_mul]
    omega
theorem tl_tj (y : Str) (ps : List Str) : TL.tl (Txt.join y ps) = TL.joinL (TL.tl y) (ps.map TL.tl) := by rw [TL.join_eq, TL.tl_join]
theorem join_len (y : Str) (ps : List Str) : (Txt.join y ps).length ≤ (ps.map (·.length)).sum + ps.length * y.length := by
  have h := joinL_len (TL.tl y) (ps.map TL.tl)
  rw [TL.len_tl, tl_tj]
  refine Nat.le_trans h ?_
  have e : (ps.map TL.tl).map (·.length) = ps.map (·.length) := by
    rw [List.map_map]
    apply List.map_congr_left
    intro p _
    exact (TL.len_tl p).symm
  rw [e, List.length_map, ← TL.len_tl]
  exact Nat.le_refl _
theorem app_len (a b : Str) : (a ++ b).length = a.length + b.length := by
  rw [TL.len_tl, TL.tl_append, List.length_append, ← TL.len_tl, ← TL.len_tl]
/-- things that are told by at most twenty figures -/
def Fig20 (lot : List Int) : Prop := ∀ x ∈ lot, 0 ≤ x ∧ x < 10 ^ 20
theorem lots_sum (lot : List Int) (hl : Fig20 lot) : ((lot.map tsI).map (·.length)).sum ≤ 21 * lot.length := by
  rw [List.map_map]
  exact sum_le (fun i => (tsI i).length) 21 lot fun x hx => worth_len (by have := hl x hx; omega)
theorem lotT_len {b : Str} (hb : b.length = 1) (lot : List Int) (hl : Fig20 lot) : (lotT b lot).length ≤ 22 * lot.length + 1 := by
  unfold lotT
  split
  · have : ("-" : Str).length = 1 := by decide
    omega
  · have h1 := join_len b (lot.map tsI)
    have h2 := lots_sum lot hl
    rw [hb, List.length_map] at h1
    omega
def memT (q : List Int × Int) : Str := lotT " " q.1 ++ ":" ++ tsI q.2
def famT (f : List (List Int × Int)) : Str := Txt.join "; " (f.map memT)
/-! ### figures -/
def dig (c : Nat) : Bool := decide (48 ≤ c) && decide (c ≤ 57)
def figB (most : Int) (t : Str) : Bool := decide (1 ≤ t.length) && decide ((t.length : Int) ≤ most) && (TL.tl t).all dig && (decide (t = "0") || decide ((TL.tl t).head? ≠ some 48))
theorem in_figs (h : Hep) (c : Nat) : inO h (.str ⟨#[c]⟩) (.str "0123456789") = some (dig c) := by
  show some (!(Builtin.Str.occurrences ("0123456789" : Str) ⟨#[c]⟩ 0 ("0123456789" : Str).length 1).isEmpty) = some (dig c)
  rw [StrLaws.found_one]
  congr 1
  have : ("0123456789" : Str).cps.toList = [48, 49, 50, 51, 52, 53, 54, 55, 56, 57] := by decide +kernel
  rw [this]
  unfold dig
  rw [← Bool.decide_and]
  apply decide_eq_decide.mpr
  simp only [List.mem_cons, List.not_mem_nil, or_false]
  omega
theorem signs_len (t : Str) : (signs t).length = t.length := by simp [signs, Str.length]
theorem num_head (n : Nat) : n = 0 ∨ ∃ c, (TL.numL n).head? = some c ∧ c ≠ 48 := by
  induction n using Nat.strongRecOn with
  | _ n ih =>
    by_cases h : n < 10
    · rw [TL.numL_lt h]
      by_cases z : n = 0
      · exact .inl z
      · exact .inr ⟨48 + n, rfl, by omega⟩
    · rcases ih (n / 10) (by omega) with z | ⟨c, hc, hne⟩
      · omega
      · refine .inr ⟨c, ?_, hne⟩
        rw [TL.numL_step (by omega)]
        cases q : TL.numL (n / 10) with
        | nil => rw [q] at hc; cases hc
        | cons x xs => rw [q] at hc; exact hc
theorem dig_num (n : Nat) : (TL.numL n).all dig = true := by
  rw [List.all_eq_true]
  intro c hc
  have := TL.numL_digits n c hc
  unfold dig
  simp only [Bool.and_eq_true, decide_eq_true_eq]
  exact this
theorem tl_inj {a b : Str} (h : TL.tl a = TL.tl b) : a = b := by
  have := TL.map_tl_inj (l := [a]) (m := [b]) (by simp [h])
  simpa using this
/-- a number's text is figures -/
theorem fig_num {n : Nat} {most : Nat} (h : n < 10 ^ most) (hm : 0 < most) : figB most (tsI n) = true := by
  have e := TL.tl_num n
  have hl := TL.numL_len hm h
  have hne := TL.numL_ne n
  have l1 : 1 ≤ (TL.numL n).length := by
    cases q : TL.numL n with
    | nil => exact absurd q hne
    | cons _ _ => simp
  have e' : TL.tl (tsI (n : Int)) = TL.numL n := e
  unfold figB
  rw [TL.len_tl, e']
  simp only [Bool.and_eq_true, Bool.or_eq_true, decide_eq_true_eq]
  refine ⟨⟨⟨l1, by omega⟩, dig_num n⟩, ?_⟩
  rcases num_head n with rfl | ⟨c, hc, hne⟩
  · left
    rfl
  · right
    rw [hc]
    intro z
    cases z
    exact hne rfl
/-- int(..) of a number's text -/
theorem int_of {n : Nat} (h : n < 10 ^ 20) : PySem.intText? (tsI n) = some (n : Int) := TL.int_num (Nat.le_trans (TL.numL_len (k := 20) (by decide) h) (by decide))
end Fw
set_option Elab.async false
set_option linter.all false
set_option maxRecDepth 100000
set_option maxHeartbeats 0
namespace Hd
open PySem PySem.Spec PyProof.Rows L2
def top (i : Nat) : Stmt := PySem.Challenge.pw_fewstand_k80_many_lots_written.main.body.getD i (.Pass ⟨0, 0, 0, 0⟩)
def d0 : He.DefD := ⟨("is_whole", none), "is_whole", "is_whole", defArgs (top 5), defBody (top 5), defScope (top 5), [], []⟩
def d1 : He.DefD := ⟨("is_within", none), "is_within", "is_within", defArgs (top 6), defBody (top 6), defScope (top 6), [], []⟩
def d2 : He.DefD := ⟨("is_rising", none), "is_rising", "is_rising", defArgs (top 9), defBody (top 9), defScope (top 9), [], []⟩
def d3 : He.DefD := ⟨("is_lot", none), "is_lot", "is_lot", defArgs (top 10), defBody (top 10), defScope (top 10), [], []⟩
def d4 : He.DefD := ⟨("are_figures", none), "are_figures", "are_figures", defArgs (top 15), defBody (top 15), defScope (top 15), [], []⟩
def d5 : He.DefD := ⟨("is_worth_text", none), "is_worth_text", "is_worth_text", defArgs (top 16), defBody (top 16), defScope (top 16), [], []⟩
def d6 : He.DefD := ⟨("show_things", none), "show_things", "show_things", defArgs (top 17), defBody (top 17), defScope (top 17), [], []⟩
def d7 : He.DefD := ⟨("show_family", none), "show_family", "show_family", defArgs (top 18), defBody (top 18), defScope (top 18), [], []⟩
def d8 : He.DefD := ⟨("things_of", none), "things_of", "things_of", defArgs (top 19), defBody (top 19), defScope (top 19), [], []⟩
def d9 : He.DefD := ⟨("read_lot", none), "read_lot", "read_lot", defArgs (top 20), defBody (top 20), defScope (top 20), [], []⟩
def d10 : He.DefD := ⟨("read_family", none), "read_family", "read_family", defArgs (top 21), defBody (top 21), defScope (top 21), [], []⟩
def d11 : He.DefD := ⟨("_law_pool", none), "_law_pool", "_law_pool", defArgs (top 23), defBody (top 23), defScope (top 23), [], []⟩
def d12 : He.DefD := ⟨("_law_take", none), "_law_take", "_law_take", defArgs (top 24), defBody (top 24), defScope (top 24), [], []⟩
def d13 : He.DefD := ⟨("_law_some", none), "_law_some", "_law_some", defArgs (top 25), defBody (top 25), defScope (top 25), [], []⟩
def d14 : He.DefD := ⟨("_law_worth", none), "_law_worth", "_law_worth", defArgs (top 26), defBody (top 26), defScope (top 26), [], []⟩
def d15 : He.DefD := ⟨("_law_family", none), "_law_family", "_law_family", defArgs (top 27), defBody (top 27), defScope (top 27), [], []⟩
def d16 : He.DefD := ⟨("_law_things_text", none), "_law_things_text", "_law_things_text", defArgs (top 28), defBody (top 28), defScope (top 28), [], []⟩
def d17 : He.DefD := ⟨("_law_shown", none), "_law_shown", "_law_shown", defArgs (top 29), defBody (top 29), defScope (top 29), [], []⟩
def d18 : He.DefD := ⟨("_law_lots", none), "_law_lots", "_law_lots", defArgs (top 30), defBody (top 30), defScope (top 30), [], []⟩
def d19 : He.DefD := ⟨("_law_filled", none), "_law_filled", "_law_filled", defArgs (top 31), defBody (top 31), defScope (top 31), [], []⟩
def d20 : He.DefD := ⟨("_law_refused", none), "_law_refused", "_law_refused", defArgs (top 32), defBody (top 32), defScope (top 32), [], []⟩
def d21 : He.DefD := ⟨("law", none), "law", "law", defArgs (top 33), defBody (top 33), defScope (top 33), [], []⟩
def fn : List He.DefD := [d0, d1, d2, d3, d4, d5, d6, d7, d8, d9, d10, d11, d12, d13, d14, d15, d16, d17, d18, d19, d20, d21]
def exl : List (PySem.Str × List PySem.Str × List PySem.Str) := [("LotError", ["NoText"], []), ("NoFamily", [], ["NoText"]), ("ValueError", ["NoText"], []), ("NoText", ["NoText"], [])]
def fa : List He.Fa := [.glo "is_whole", .glo "is_within", .glo "is_rising", .glo "is_lot", .glo "are_figures", .glo "is_worth_text", .glo "show_things", .glo "show_family", .glo "things_of", .glo "read_lot", .glo "read_family", .glo "_law_pool", .glo "_law_take", .glo "_law_some", .glo "_law_worth", .glo "_law_family", .glo "_law_things_text", .glo "_law_shown", .glo "_law_lots", .glo "_law_filled", .glo "_law_refused", .glo "law", .glo "LotError", .glo "NoText", .glo "NoFamily", .free "len", .free "list", .free "tuple", .free "sorted", .free "sum", .free "max", .free "min", .free "all", .free "any", .free "dict", .free "int", .free "str", .free "repr", .free "range", .free "enumerate", .free "zip", .free "isinstance", .free "bool", .free "set", .int "MOST_LOTS" 200, .str "FIGURES" "0123456789", .int "MOST_FIGURES" 20, .str "NOTHING" "-", .exc "NoText", .free "ValueError"]
abbrev R : PySem.W.OpenRow := PySem.W.OpenLaw.row PySem.Challenge.rw_fewstand_k80_many_lots_written
abbrev hk : PySem.W.Hook := He.hookX 5 fa fn [] [] (Fs.exAll exl)
def ob (s : PySem.W.SharedT) : He.AlX := He.obsX 5 fa fn [] [] (Fs.exAll exl) (HandSHeadRun.getT s)
theorem ob_eq (s : PySem.W.SharedT) : ob s = hk.obs s.abs := He.obsX_eq (HandSHeadRun.getT_eq s)
def ln0 : List PySem.Str := ["LotError", "NoText", "NoFamily", "is_whole", "is_within", "MOST_LOTS", "is_rising", "is_lot", "FIGURES", "MOST_FIGURES", "NOTHING", "are_figures", "is_worth_text", "show_things", "show_family", "things_of", "read_lot", "read_family", "_law_pool", "_law_take", "_law_some", "_law_worth", "_law_family", "_law_things_text", "_law_shown", "_law_lots", "_law_filled", "_law_refused"]
def lns : List PySem.Str := ln0
theorem run (w : World) : HandSHeadRun.RunEq R (PySem.W.view R.prog [33]) hk ob 4000 lns w := by
  intro os
  kernel_rfl
end Hd
set_option Elab.async false
set_option linter.all false
set_option maxRecDepth 100000
namespace Ast
open PySem
open Fs (S Ss E Es Def)
def s_is_whole_0 : S := (.ret (.and (.isi (.var 0) .int) (.not (.isi (.var 0) .bool))))
def p_is_whole : Def := ⟨["thing"], ["thing"], (.cons s_is_whole_0 .nil)⟩
def s_is_within_0 : S := (.ret (.and (.call "is_whole" (.cons (.var 0) .nil)) (.chain .le .le (.var 1) (.var 0) (.var 2))))
def p_is_within : Def := ⟨["thing", "least", "most"], ["thing", "least", "most"], (.cons s_is_within_0 .nil)⟩
def s_is_rising_0 : S := (.ret (.bl false))
def b_is_rising_0 : Ss := (.cons s_is_rising_0 .nil)
def s_is_rising_1 : S := (.ifs (.not (.isi (.var 1) .tuple)) b_is_rising_0 .nil)
def s_is_rising_2 : S := (.asg (.nm 2) (.neg (.int 1)))
def s_is_rising_3 : S := (.ret (.bl false))
def b_is_rising_1 : Ss := (.cons s_is_rising_3 .nil)
def s_is_rising_4 : S := (.ifs (.not (.call "is_within" (.cons (.var 3) (.cons (.bin .add (.var 2) (.int 1)) (.cons (.bin .sub (.var 0) (.int 1)) .nil))))) b_is_rising_1 .nil)
def s_is_rising_5 : S := (.asg (.nm 2) (.var 3))
def s_is_rising_6 : S := (.wipe [3])
def b_is_rising_2 : Ss := (.cons s_is_rising_4 (.cons s_is_rising_5 (.cons s_is_rising_6 .nil)))
def s_is_rising_7 : S := (.for_ (.nm 3) (.of (.var 1)) b_is_rising_2)
def s_is_rising_8 : S := (.ret (.bl true))
def p_is_rising : Def := ⟨["many", "thing"], ["many", "thing", "last", "one"], (.cons s_is_rising_1 (.cons s_is_rising_2 (.cons s_is_rising_7 (.cons s_is_rising_8 .nil))))⟩
def s_is_lot_0 : S := (.ret (.and (.call "is_rising" (.cons (.var 0) (.cons (.var 2) .nil))) (.cmp .eq (.blt .len (.cons (.var 2) .nil)) (.var 1))))
def p_is_lot : Def := ⟨["many", "size", "thing"], ["many", "size", "thing"], (.cons s_is_lot_0 .nil)⟩
def c_are_figures_0 : E := (.lc [2] (.cmp .in_ (.var 2) (.gstr "FIGURES" "0123456789")) (.nm 2) (.of (.var 0)) .none)
def s_are_figures_0 : S := (.ret (.bl false))
def b_are_figures_0 : Ss := (.cons s_are_figures_0 .nil)
def s_are_figures_1 : S := (.ifs (.or (.not (.chain .le .le (.int 1) (.blt .len (.cons (.var 0) .nil)) (.var 1))) (.not (.blt .all (.cons c_are_figures_0 .nil)))) b_are_figures_0 .nil)
def s_are_figures_2 : S := (.ret (.or (.cmp .eq (.var 0) (.str "0")) (.cmp .ne (.idx (.var 0) (.int 0)) (.str "0"))))
def p_are_figures : Def := ⟨["text", "most"], ["text", "most", "sign"], (.cons s_are_figures_1 (.cons s_are_figures_2 .nil))⟩
def s_is_worth_text_0 : S := (.ret (.and (.call "are_figures" (.cons (.sl (.var 0) (.some (.int 1)) .none) (.cons (.gint "MOST_FIGURES" 20) .nil))) (.cmp .ne (.var 0) (.str "-0"))))
def b_is_worth_text_0 : Ss := (.cons s_is_worth_text_0 .nil)
def s_is_worth_text_1 : S := (.ifs (.bm .startswith (.var 0) (.cons (.str "-") .nil)) b_is_worth_text_0 .nil)
def s_is_worth_text_2 : S := (.ret (.call "are_figures" (.cons (.var 0) (.cons (.gint "MOST_FIGURES" 20) .nil))))
def p_is_worth_text : Def := ⟨["text"], ["text"], (.cons s_is_worth_text_1 (.cons s_is_worth_text_2 .nil))⟩
def s_show_things_0 : S := (.ret (.gstr "NOTHING" "-"))
def b_show_things_0 : Ss := (.cons s_show_things_0 .nil)
def s_show_things_1 : S := (.ifs (.cmp .eq (.var 0) (.tup .nil)) b_show_things_0 .nil)
def c_show_things_0 : E := (.lc [2] (.blt .str (.cons (.var 2) .nil)) (.nm 2) (.of (.var 0)) .none)
def s_show_things_2 : S := (.ret (.bm .join (.var 1) (.cons c_show_things_0 .nil)))
def p_show_things : Def := ⟨["things", "between"], ["things", "between", "thing"], (.cons s_show_things_1 (.cons s_show_things_2 .nil))⟩
def c_show_family_0 : E := (.lc [1, 2] (.bin .add (.bin .add (.call "show_things" (.cons (.var 1) (.cons (.str " ") .nil))) (.str ":")) (.blt .str (.cons (.var 2) .nil))) (.tp [(.nm 1), (.nm 2)]) (.of (.var 0)) .none)
def s_show_family_0 : S := (.ret (.bm .join (.str "; ") (.cons c_show_family_0 .nil)))
def p_show_family : Def := ⟨["family"], ["family", "lot", "worth"], (.cons s_show_family_0 .nil)⟩
def s_things_of_0 : S := (.ret (.tup .nil))
def b_things_of_0 : Ss := (.cons s_things_of_0 .nil)
def s_things_of_1 : S := (.ifs (.cmp .eq (.var 0) (.gstr "NOTHING" "-")) b_things_of_0 .nil)
def s_things_of_2 : S := (.asg (.nm 3) (.bm .split (.var 0) (.cons (.var 1) .nil)))
def c_things_of_0 : E := (.lc [4] (.call "are_figures" (.cons (.var 4) (.cons (.var 2) .nil))) (.nm 4) (.of (.var 3)) .none)
def s_things_of_3 : S := (.ret .non)
def b_things_of_1 : Ss := (.cons s_things_of_3 .nil)
def s_things_of_4 : S := (.ifs (.not (.blt .all (.cons c_things_of_0 .nil))) b_things_of_1 .nil)
def c_things_of_1 : E := (.lc [4] (.blt .int (.cons (.var 4) .nil)) (.nm 4) (.of (.var 3)) .none)
def s_things_of_5 : S := (.ret (.blt .tuple (.cons c_things_of_1 .nil)))
def p_things_of : Def := ⟨["text", "between", "most"], ["text", "between", "most", "words", "word"], (.cons s_things_of_1 (.cons s_things_of_2 (.cons s_things_of_4 (.cons s_things_of_5 .nil))))⟩
def s_read_lot_0 : S := (.asg (.nm 3) (.bm .split (.var 2) (.cons (.str ":") .nil)))
def s_read_lot_1 : S := (.raise "NoText")
def b_read_lot_0 : Ss := (.cons s_read_lot_1 .nil)
def s_read_lot_2 : S := (.ifs (.or (.cmp .ne (.blt .len (.cons (.var 3) .nil)) (.int 2)) (.not (.call "is_worth_text" (.cons (.idx (.var 3) (.int 1)) .nil)))) b_read_lot_0 .nil)
def s_read_lot_3 : S := (.asg (.nm 4) (.call "things_of" (.cons (.idx (.var 3) (.int 0)) (.cons (.str " ") (.cons (.gint "MOST_FIGURES" 20) .nil)))))
def s_read_lot_4 : S := (.raise "NoText")
def b_read_lot_1 : Ss := (.cons s_read_lot_4 .nil)
def s_read_lot_5 : S := (.ifs (.or (.cmp .is_ (.var 4) .non) (.not (.call "is_lot" (.cons (.var 0) (.cons (.var 1) (.cons (.var 4) .nil)))))) b_read_lot_1 .nil)
def s_read_lot_6 : S := (.ret (.tup (.cons (.var 4) (.cons (.blt .int (.cons (.idx (.var 3) (.int 1)) .nil)) .nil))))
def p_read_lot : Def := ⟨["many", "size", "text"], ["many", "size", "text", "words", "lot"], (.cons s_read_lot_0 (.cons s_read_lot_2 (.cons s_read_lot_3 (.cons s_read_lot_5 (.cons s_read_lot_6 .nil)))))⟩
def s_read_family_0 : S := (.raise "NoText")
def b_read_family_0 : Ss := (.cons s_read_family_0 .nil)
def s_read_family_1 : S := (.ifs (.not (.isi (.var 2) .str)) b_read_family_0 .nil)
def s_read_family_2 : S := (.ret (.lay (.lst .nil)))
def b_read_family_1 : Ss := (.cons s_read_family_2 .nil)
def s_read_family_3 : S := (.ifs (.cmp .eq (.var 2) (.str "")) b_read_family_1 .nil)
def c_read_family_0 : E := (.lc [4] (.call "read_lot" (.cons (.var 0) (.cons (.var 1) (.cons (.var 4) .nil)))) (.nm 4) (.of (.bm .split (.var 2) (.cons (.str "; ") .nil))) .none)
def s_read_family_4 : S := (.asg (.nm 3) (.lay c_read_family_0))
def s_read_family_5 : S := (.raise "NoText")
def b_read_family_2 : Ss := (.cons s_read_family_5 .nil)
def s_read_family_6 : S := (.ifs (.or (.cmp .gt (.blt .len (.cons (.var 3) .nil)) (.gint "MOST_LOTS" 200)) (.cmp .ne (.blt .len (.cons (.blt .dict (.cons (.var 3) .nil)) .nil)) (.blt .len (.cons (.var 3) .nil)))) b_read_family_2 .nil)
def s_read_family_7 : S := (.ret (.var 3))
def p_read_family : Def := ⟨["many", "size", "text"], ["many", "size", "text", "found", "part"], (.cons s_read_family_1 (.cons s_read_family_3 (.cons s_read_family_4 (.cons s_read_family_6 (.cons s_read_family_7 .nil)))))⟩
def s_law_pool_0 : S := (.asg (.nm 2) (.int 0))
def s_law_pool_1 : S := (.asg (.nm 2) (.idx (.var 0) (.var 1)))
def b_law_pool_0 : Ss := (.cons s_law_pool_1 .nil)
def s_law_pool_2 : S := (.ifs (.cmp .lt (.var 1) (.blt .len (.cons (.var 0) .nil))) b_law_pool_0 .nil)
def s_law_pool_3 : S := (.asg (.nm 3) (.bin .mod (.bin .mul (.bin .add (.bin .add (.bin .mod (.var 2) (.int 2147483629)) (.bin .mul (.bin .mul (.int 7919) (.var 1)) (.var 1))) (.int 8001)) (.int 48271)) (.int 2147483647)))
def s_law_pool_4 : S := (.ret (.lay (.lst (.cons (.bin .mul (.var 2) (.blt .int (.cons (.cmp .ge (.var 2) (.bin .pow (.int 10) (.int 18))) .nil))) (.cons (.var 3) .nil)))))
def p_law_pool : Def := ⟨["_law_script", "_law_k"], ["_law_script", "_law_k", "_law_cell", "_law_seed"], (.cons s_law_pool_0 (.cons s_law_pool_2 (.cons s_law_pool_3 (.cons s_law_pool_4 .nil))))⟩
def s_law_take_0 : S := (.asg (.nm 2) (.bin .mod (.idx (.var 0) (.int 0)) (.var 1)))
def s_law_take_1 : S := (.seti (.var 0) (.int 0) (.bin .fdiv (.idx (.var 0) (.int 0)) (.var 1)))
def s_law_take_2 : S := (.ret (.var 2))
def b_law_take_0 : Ss := (.cons s_law_take_0 (.cons s_law_take_1 (.cons s_law_take_2 .nil)))
def s_law_take_3 : S := (.ifs (.cmp .gt (.idx (.var 0) (.int 0)) (.int 0)) b_law_take_0 .nil)
def s_law_take_4 : S := (.seti (.var 0) (.int 1) (.bin .mod (.bin .add (.bin .mul (.idx (.var 0) (.int 1)) (.int 48271)) (.int 11)) (.int 2147483647)))
def s_law_take_5 : S := (.ret (.bin .mod (.bin .fdiv (.bin .mod (.bin .mul (.idx (.var 0) (.int 1)) (.idx (.var 0) (.int 1))) (.int 2147483629)) (.int 64)) (.var 1)))
def p_law_take : Def := ⟨["_law_pool_here", "_law_many"], ["_law_pool_here", "_law_many", "_law_found"], (.cons s_law_take_3 (.cons s_law_take_4 (.cons s_law_take_5 .nil)))⟩
def s_law_some_0 : S := (.asg (.nm 3) (.lay (.rng (.cons (.var 1) .nil))))
def c_law_some_0 : E := (.lc [4] (.bm .pop (.var 3) (.cons (.call "_law_take" (.cons (.var 0) (.cons (.blt .len (.cons (.var 3) .nil)) .nil))) .nil)) (.nm 4) (.rng (.cons (.blt .min (.cons (.var 2) (.cons (.var 1) .nil))) .nil)) .none)
def s_law_some_1 : S := (.ret (.blt .tuple (.cons (.blt .sorted (.cons c_law_some_0 .nil)) .nil)))
def p_law_some : Def := ⟨["_law_pool_here", "_law_many", "_law_size"], ["_law_pool_here", "_law_many", "_law_size", "_law_left", "_law_turn"], (.cons s_law_some_0 (.cons s_law_some_1 .nil))⟩
def s_law_worth_0 : S := (.ret (.idx (.lst (.cons (.call "_law_take" (.cons (.var 0) (.cons (.int 3) .nil))) (.cons (.bin .sub (.call "_law_take" (.cons (.var 0) (.cons (.int 21) .nil))) (.int 10)) (.cons (.bin .sub (.call "_law_take" (.cons (.var 0) (.cons (.bin .pow (.int 10) (.int 18)) .nil))) (.bin .mul (.int 5) (.bin .pow (.int 10) (.int 17)))) .nil)))) (.call "_law_take" (.cons (.var 0) (.cons (.int 3) .nil)))))
def p_law_worth : Def := ⟨["_law_pool_here"], ["_law_pool_here"], (.cons s_law_worth_0 .nil)⟩
def s_law_family_0 : S := (.asg (.nm 4) (.dnew true))
def s_law_family_1 : S := (.asg (.nm 6) (.call "_law_some" (.cons (.var 0) (.cons (.var 1) (.cons (.var 2) .nil)))))
def s_law_family_2 : S := (.seti (.var 4) (.var 6) (.call "_law_worth" (.cons (.var 0) .nil)))
def b_law_family_0 : Ss := (.cons s_law_family_2 .nil)
def s_law_family_3 : S := (.ifs (.cmp .eq (.blt .len (.cons (.var 6) .nil)) (.var 2)) b_law_family_0 .nil)
def s_law_family_4 : S := (.wipe [5, 6])
def b_law_family_1 : Ss := (.cons s_law_family_1 (.cons s_law_family_3 (.cons s_law_family_4 .nil)))
def s_law_family_5 : S := (.for_ (.nm 5) (.rng (.cons (.call "_law_take" (.cons (.var 0) (.cons (.bin .add (.var 3) (.int 1)) .nil))) .nil)) b_law_family_1)
def c_law_family_0 : E := (.lc [6] (.tup (.cons (.var 6) (.cons (.idx (.var 4) (.var 6)) .nil))) (.nm 6) (.of (.var 4)) .none)
def s_law_family_6 : S := (.ret c_law_family_0)
def p_law_family : Def := ⟨["_law_pool_here", "_law_many", "_law_size", "_law_most"], ["_law_pool_here", "_law_many", "_law_size", "_law_most", "_law_found", "_law_turn", "_law_lot"], (.cons s_law_family_0 (.cons s_law_family_5 (.cons s_law_family_6 .nil)))⟩
def c_law_things_text_0 : E := (.lc [2] (.blt .str (.cons (.var 2) .nil)) (.nm 2) (.of (.var 0)) .none)
def s_law_things_text_0 : S := (.ret (.idx (.lst (.cons (.bm .join (.var 1) (.cons c_law_things_text_0 .nil)) (.cons (.str "-") .nil))) (.blt .int (.cons (.cmp .eq (.var 0) (.tup .nil)) .nil))))
def p_law_things_text : Def := ⟨["_law_things", "_law_between"], ["_law_things", "_law_between", "_law_thing"], (.cons s_law_things_text_0 .nil)⟩
def c_law_shown_0 : E := (.lc [1, 2] (.bin .add (.bin .add (.call "_law_things_text" (.cons (.var 1) (.cons (.str " ") .nil))) (.str ":")) (.blt .str (.cons (.var 2) .nil))) (.tp [(.nm 1), (.nm 2)]) (.of (.var 0)) .none)
def s_law_shown_0 : S := (.ret (.bm .join (.str "; ") (.cons c_law_shown_0 .nil)))
def p_law_shown : Def := ⟨["_law_family_here"], ["_law_family_here", "_law_lot", "_law_worth_here"], (.cons s_law_shown_0 .nil)⟩
def s_law_lots_0 : S := (.asg (.nm 3) (.dnew true))
def s_law_lots_1 : S := (.asg (.nm 5) (.call "_law_pool" (.cons (.var 0) (.cons (.var 4) .nil))))
def s_law_lots_2 : S := (.wipe [4])
def s_law_lots_3 : S := (.seti (.var 3) (.call "_law_some" (.cons (.var 5) (.cons (.var 1) (.cons (.var 2) .nil)))) (.bin .mod (.call "_law_worth" (.cons (.var 5) .nil)) (.int 1000)))
def s_law_lots_4 : S := (.wipe [6])
def b_law_lots_0 : Ss := (.cons s_law_lots_3 (.cons s_law_lots_4 .nil))
def s_law_lots_5 : S := (.for_ (.nm 6) (.rng (.cons (.int 3) .nil)) b_law_lots_0)
def s_law_lots_6 : S := (.wipe [4, 5, 6])
def b_law_lots_1 : Ss := (.cons s_law_lots_1 (.cons s_law_lots_2 (.cons s_law_lots_5 (.cons s_law_lots_6 .nil))))
def s_law_lots_7 : S := (.for_ (.nm 4) (.rng (.cons (.int 1) (.cons (.blt .min (.cons (.blt .len (.cons (.var 0) .nil)) (.cons (.int 63) .nil))) .nil))) b_law_lots_1)
def c_law_lots_0 : E := (.lc [7] (.tup (.cons (.var 7) (.cons (.idx (.var 3) (.var 7)) .nil))) (.nm 7) (.of (.var 3)) .none)
def s_law_lots_8 : S := (.ret c_law_lots_0)
def p_law_lots : Def := ⟨["_law_script", "_law_many", "_law_size"], ["_law_script", "_law_many", "_law_size", "_law_found", "_law_k", "_law_pool_here", "_law_turn", "_law_lot"], (.cons s_law_lots_0 (.cons s_law_lots_7 (.cons s_law_lots_8 .nil)))⟩
def s_law_filled_0 : S := (.asg (.nm 4) (.lay (.blt .dict (.cons (.var 0) .nil))))
def s_law_filled_1 : S := (.wipe [0])
def s_law_filled_2 : S := (.wipe [1])
def s_law_filled_3 : S := (.asg (.nm 8) (.tup (.cons (.var 7) (.cons (.var 6) (.cons (.var 5) .nil)))))
def s_law_filled_4 : S := (.asg (.nm 8) (.tup (.cons (.var 6) (.cons (.var 5) .nil))))
def b_law_filled_0 : Ss := (.cons s_law_filled_4 .nil)
def s_law_filled_5 : S := (.ifs (.cmp .lt (.var 2) (.int 3)) b_law_filled_0 .nil)
def s_law_filled_6 : S := (.seti (.var 4) (.var 8) (.bm .get (.var 4) (.cons (.var 8) (.cons (.int 7) .nil))))
def b_law_filled_1 : Ss := (.cons s_law_filled_6 .nil)
def s_law_filled_7 : S := (.ifs (.cmp .lt (.blt .len (.cons (.var 4) .nil)) (.var 3)) b_law_filled_1 .nil)
def s_law_filled_8 : S := (.wipe [7, 8])
def b_law_filled_2 : Ss := (.cons s_law_filled_3 (.cons s_law_filled_5 (.cons s_law_filled_7 (.cons s_law_filled_8 .nil))))
def s_law_filled_9 : S := (.for_ (.nm 7) (.rng (.cons (.var 6) .nil)) b_law_filled_2)
def s_law_filled_10 : S := (.wipe [6, 7, 8])
def b_law_filled_3 : Ss := (.cons s_law_filled_9 (.cons s_law_filled_10 .nil))
def s_law_filled_11 : S := (.for_ (.nm 6) (.rng (.cons (.var 5) .nil)) b_law_filled_3)
def s_law_filled_12 : S := (.wipe [5, 6, 7, 8])
def b_law_filled_4 : Ss := (.cons s_law_filled_2 (.cons s_law_filled_11 (.cons s_law_filled_12 .nil)))
def s_law_filled_13 : S := (.for_ (.nm 5) (.rng (.cons (.var 1) .nil)) b_law_filled_4)
def c_law_filled_0 : E := (.lc [8] (.tup (.cons (.var 8) (.cons (.idx (.var 4) (.var 8)) .nil))) (.nm 8) (.of (.var 4)) .none)
def s_law_filled_14 : S := (.ret c_law_filled_0)
def p_law_filled : Def := ⟨["_law_family_here", "_law_many", "_law_size", "_law_most"], ["_law_family_here", "_law_many", "_law_size", "_law_most", "_law_found", "_law_one", "_law_other", "_law_third", "_law_lot"], (.cons s_law_filled_0 (.cons s_law_filled_1 (.cons s_law_filled_13 (.cons s_law_filled_14 .nil))))⟩
def s_law_refused_0 : S := (.asg (.nm 3) .non)
def s_law_refused_1 : S := (.expr (.call "read_family" (.cons (.var 0) (.cons (.var 1) (.cons (.var 2) .nil)))))
def b_law_refused_0 : Ss := (.cons s_law_refused_1 .nil)
def s_law_refused_2 : S := (.tryE b_law_refused_0 "LotError" ["NoText"] [] 4 3)
def s_law_refused_3 : S := (.ret (.and (.isc (.var 3) "NoText" ["NoText"] []) (.and (.isc (.var 3) "ValueError" ["NoText"] []) (.not (.isc (.var 3) "NoFamily" [] ["NoText"])))))
def p_law_refused : Def := ⟨["_law_many", "_law_size", "_law_text"], ["_law_many", "_law_size", "_law_text", "_law_error", "e"], (.cons s_law_refused_0 (.cons s_law_refused_2 (.cons s_law_refused_3 .nil)))⟩
def s_law_0 : S := (.asg (.nm 1) (.call "_law_pool" (.cons (.var 0) (.cons (.int 0) .nil))))
def s_law_1 : S := (.asg (.nm 2) (.bin .add (.int 22) (.call "_law_take" (.cons (.var 1) (.cons (.int 9) .nil)))))
def s_law_2 : S := (.asg (.nm 3) (.bin .add (.int 2) (.call "_law_take" (.cons (.var 1) (.cons (.int 2) .nil)))))
def s_law_3 : S := (.asg (.nm 4) (.call "_law_lots" (.cons (.var 0) (.cons (.var 2) (.cons (.var 3) .nil)))))
def s_law_4 : S := (.wipe [0, 1])
def s_law_5 : S := (.asg (.nm 6) (.call "_law_shown" (.cons (.var 5) .nil)))
def s_law_6 : S := (.ret (.bl false))
def b_law_0 : Ss := (.cons s_law_6 .nil)
def s_law_7 : S := (.ifs (.or (.cmp .ne (.call "read_family" (.cons (.var 2) (.cons (.var 3) (.cons (.var 6) .nil)))) (.var 5)) (.cmp .ne (.call "show_family" (.cons (.call "read_family" (.cons (.var 2) (.cons (.var 3) (.cons (.var 6) .nil)))) .nil)) (.var 6))) b_law_0 .nil)
def s_law_8 : S := (.ret (.bl false))
def b_law_1 : Ss := (.cons s_law_8 .nil)
def s_law_9 : S := (.ifs (.and (.cmp .ne (.var 5) (.lst .nil)) (.not (.call "_law_refused" (.cons (.var 2) (.cons (.var 3) (.cons (.bin .add (.bin .add (.var 6) (.str "; ")) (.call "_law_shown" (.cons (.sl (.var 5) (.some (.neg (.int 1))) .none) .nil))) .nil)))))) b_law_1 .nil)
def s_law_10 : S := (.wipe [5, 6])
def b_law_2 : Ss := (.cons s_law_5 (.cons s_law_7 (.cons s_law_9 (.cons s_law_10 .nil))))
def s_law_11 : S := (.for_ (.nm 5) (.of (.lst (.cons (.var 4) (.cons (.call "_law_filled" (.cons (.var 4) (.cons (.var 2) (.cons (.var 3) (.cons (.int 200) .nil))))) .nil)))) b_law_2)
def s_law_12 : S := (.asg (.nm 7) (.call "_law_filled" (.cons (.var 4) (.cons (.var 2) (.cons (.var 3) (.cons (.int 201) .nil))))))
def s_law_13 : S := (.ret (.and (.cmp .eq (.blt .len (.cons (.var 7) .nil)) (.int 201)) (.call "_law_refused" (.cons (.var 2) (.cons (.var 3) (.cons (.call "_law_shown" (.cons (.var 7) .nil)) .nil))))))
def p_law : Def := ⟨["_law_script"], ["_law_script", "_law_pool_here", "_law_many", "_law_size", "_law_family_here", "_law_some_here", "_law_text", "_law_beyond"], (.cons s_law_0 (.cons s_law_1 (.cons s_law_2 (.cons s_law_3 (.cons s_law_4 (.cons s_law_11 (.cons s_law_12 (.cons s_law_13 .nil))))))))⟩
def prog : List (Str × Def) := [("is_whole", p_is_whole), ("is_within", p_is_within), ("is_rising", p_is_rising), ("is_lot", p_is_lot), ("are_figures", p_are_figures), ("is_worth_text", p_is_worth_text), ("show_things", p_show_things), ("show_family", p_show_family), ("things_of", p_things_of), ("read_lot", p_read_lot), ("read_family", p_read_family), ("_law_pool", p_law_pool), ("_law_take", p_law_take), ("_law_some", p_law_some), ("_law_worth", p_law_worth), ("_law_family", p_law_family), ("_law_things_text", p_law_things_text), ("_law_shown", p_law_shown), ("_law_lots", p_law_lots), ("_law_filled", p_law_filled), ("_law_refused", p_law_refused), ("law", p_law)]
def mds : List (Str × Nat) := [("_law_some", 1), ("_law_lots", 1), ("_law_filled", 1)]
end Ast
set_option maxHeartbeats 4000000
namespace Fs
open PySem PySem.Spec PyProof.Rows L2
open Ast
def tab : Tab := ⟨prog, ["is_whole", "is_within", "is_rising", "is_lot", "are_figures", "is_worth_text", "show_things", "show_family", "things_of", "read_lot", "read_family", "_law_pool", "_law_take", "_law_some", "_law_worth", "_law_family", "_law_things_text", "_law_shown", "_law_lots", "_law_filled", "_law_refused", "law"], [], [("MOST_LOTS", 200), ("MOST_FIGURES", 20)], [("FIGURES", "0123456789"), ("NOTHING", "-")], Hd.exl, ["NoText"]⟩
theorem ck_0 : (C8.scC p_is_whole.ns p_is_whole.ps Hd.d0.scope && isSs tab p_is_whole.ns Hd.d0.scope p_is_whole.body Hd.d0.body) = true := by kernel_rfl
theorem ck_1 : (C8.scC p_is_within.ns p_is_within.ps Hd.d1.scope && isSs tab p_is_within.ns Hd.d1.scope p_is_within.body Hd.d1.body) = true := by kernel_rfl
theorem ck_2 : (C8.scC p_is_rising.ns p_is_rising.ps Hd.d2.scope && isSs tab p_is_rising.ns Hd.d2.scope p_is_rising.body Hd.d2.body) = true := by kernel_rfl
theorem ck_3 : (C8.scC p_is_lot.ns p_is_lot.ps Hd.d3.scope && isSs tab p_is_lot.ns Hd.d3.scope p_is_lot.body Hd.d3.body) = true := by kernel_rfl
theorem ck_4 : (C8.scC p_are_figures.ns p_are_figures.ps Hd.d4.scope && isSs tab p_are_figures.ns Hd.d4.scope p_are_figures.body Hd.d4.body) = true := by kernel_rfl
theorem ck_5 : (C8.scC p_is_worth_text.ns p_is_worth_text.ps Hd.d5.scope && isSs tab p_is_worth_text.ns Hd.d5.scope p_is_worth_text.body Hd.d5.body) = true := by kernel_rfl
theorem ck_6 : (C8.scC p_show_things.ns p_show_things.ps Hd.d6.scope && isSs tab p_show_things.ns Hd.d6.scope p_show_things.body Hd.d6.body) = true := by kernel_rfl
theorem ck_7 : (C8.scC p_show_family.ns p_show_family.ps Hd.d7.scope && isSs tab p_show_family.ns Hd.d7.scope p_show_family.body Hd.d7.body) = true := by kernel_rfl
theorem ck_8 : (C8.scC p_things_of.ns p_things_of.ps Hd.d8.scope && isSs tab p_things_of.ns Hd.d8.scope p_things_of.body Hd.d8.body) = true := by kernel_rfl
theorem ck_9 : (C8.scC p_read_lot.ns p_read_lot.ps Hd.d9.scope && isSs tab p_read_lot.ns Hd.d9.scope p_read_lot.body Hd.d9.body) = true := by kernel_rfl
theorem ck_10 : (C8.scC p_read_family.ns p_read_family.ps Hd.d10.scope && isSs tab p_read_family.ns Hd.d10.scope p_read_family.body Hd.d10.body) = true := by kernel_rfl
theorem ck_11 : (C8.scC p_law_pool.ns p_law_pool.ps Hd.d11.scope && isSs tab p_law_pool.ns Hd.d11.scope p_law_pool.body Hd.d11.body) = true := by kernel_rfl
theorem ck_12 : (C8.scC p_law_take.ns p_law_take.ps Hd.d12.scope && isSs tab p_law_take.ns Hd.d12.scope p_law_take.body Hd.d12.body) = true := by kernel_rfl
theorem ck_13 : (C8.scC p_law_some.ns p_law_some.ps Hd.d13.scope && isSs tab p_law_some.ns Hd.d13.scope p_law_some.body Hd.d13.body) = true := by kernel_rfl
theorem ck_14 : (C8.scC p_law_worth.ns p_law_worth.ps Hd.d14.scope && isSs tab p_law_worth.ns Hd.d14.scope p_law_worth.body Hd.d14.body) = true := by kernel_rfl
theorem ck_15 : (C8.scC p_law_family.ns p_law_family.ps Hd.d15.scope && isSs tab p_law_family.ns Hd.d15.scope p_law_family.body Hd.d15.body) = true := by kernel_rfl
theorem ck_16 : (C8.scC p_law_things_text.ns p_law_things_text.ps Hd.d16.scope && isSs tab p_law_things_text.ns Hd.d16.scope p_law_things_text.body Hd.d16.body) = true := by kernel_rfl
theorem ck_17 : (C8.scC p_law_shown.ns p_law_shown.ps Hd.d17.scope && isSs tab p_law_shown.ns Hd.d17.scope p_law_shown.body Hd.d17.body) = true := by kernel_rfl
theorem ck_18 : (C8.scC p_law_lots.ns p_law_lots.ps Hd.d18.scope && isSs tab p_law_lots.ns Hd.d18.scope p_law_lots.body Hd.d18.body) = true := by kernel_rfl
theorem ck_19 : (C8.scC p_law_filled.ns p_law_filled.ps Hd.d19.scope && isSs tab p_law_filled.ns Hd.d19.scope p_law_filled.body Hd.d19.body) = true := by kernel_rfl
theorem ck_20 : (C8.scC p_law_refused.ns p_law_refused.ps Hd.d20.scope && isSs tab p_law_refused.ns Hd.d20.scope p_law_refused.body Hd.d20.body) = true := by kernel_rfl
theorem ck_21 : (C8.scC p_law.ns p_law.ps Hd.d21.scope && isSs tab p_law.ns Hd.d21.scope p_law.body Hd.d21.body) = true := by kernel_rfl
theorem top_ok {K : PySem.W.Frag} {h : Heap} {mg : Str → Option Value} (X : K.In h) (G : h.Ns mainGlobals mg) (c : He.SaysD Hd.fa Hd.fn K) (cx : exAll Hd.exl K = true) (free_ve : mg "ValueError" = none) : Top tab (He.ga K) K mg where
  fn := by
    intro f d hf hl
    have hf : f = "is_whole" ∨ f = "is_within" ∨ f = "is_rising" ∨ f = "is_lot" ∨ f = "are_figures" ∨ f = "is_worth_text" ∨ f = "show_things" ∨ f = "show_family" ∨ f = "things_of" ∨ f = "read_lot" ∨ f = "read_family" ∨ f = "_law_pool" ∨ f = "_law_take" ∨ f = "_law_some" ∨ f = "_law_worth" ∨ f = "_law_family" ∨ f = "_law_things_text" ∨ f = "_law_shown" ∨ f = "_law_lots" ∨ f = "_law_filled" ∨ f = "_law_refused" ∨ f = "law" := by
      have z : f ∈ (["is_whole", "is_within", "is_rising", "is_lot", "are_figures", "is_worth_text", "show_things", "show_family", "things_of", "read_lot", "read_family", "_law_pool", "_law_take", "_law_some", "_law_worth", "_law_family", "_law_things_text", "_law_shown", "_law_lots", "_law_filled", "_law_refused", "law"] : List Str) := hf
      simpa only [List.mem_cons, List.not_mem_nil, or_false] using z
    rcases hf with rfl | rfl | rfl | rfl | rfl | rfl | rfl | rfl | rfl | rfl | rfl | rfl | rfl | rfl | rfl | rfl | rfl | rfl | rfl | rfl | rfl | rfl
    · have e : tab.fns.lookup ("is_whole" : Str) = some p_is_whole := by kernel_rfl
      cases e.symm.trans hl
      obtain ⟨fd, F⟩ := c.def_ 0 (d := Hd.d0) rfl
      exact ⟨_, fd, _, _, _, F, He.glo_ok X G (c.fact 0 (f := .glo "is_whole") rfl), F.bindsN (fun _ _ _ _ _ _ us hl => match us, hl with | [_], _ => rfl), (and2 ck_0).1, (and2 ck_0).2⟩
    · have e : tab.fns.lookup ("is_within" : Str) = some p_is_within := by kernel_rfl
      cases e.symm.trans hl
      obtain ⟨fd, F⟩ := c.def_ 1 (d := Hd.d1) rfl
      exact ⟨_, fd, _, _, _, F, He.glo_ok X G (c.fact 1 (f := .glo "is_within") rfl), F.bindsN (fun _ _ _ _ _ _ us hl => match us, hl with | [_, _, _], _ => rfl), (and2 ck_1).1, (and2 ck_1).2⟩
    · have e : tab.fns.lookup ("is_rising" : Str) = some p_is_rising := by kernel_rfl
      cases e.symm.trans hl
      obtain ⟨fd, F⟩ := c.def_ 2 (d := Hd.d2) rfl
      exact ⟨_, fd, _, _, _, F, He.glo_ok X G (c.fact 2 (f := .glo "is_rising") rfl), F.bindsN (fun _ _ _ _ _ _ us hl => match us, hl with | [_, _], _ => rfl), (and2 ck_2).1, (and2 ck_2).2⟩
    · have e : tab.fns.lookup ("is_lot" : Str) = some p_is_lot := by kernel_rfl
      cases e.symm.trans hl
      obtain ⟨fd, F⟩ := c.def_ 3 (d := Hd.d3) rfl
      exact ⟨_, fd, _, _, _, F, He.glo_ok X G (c.fact 3 (f := .glo "is_lot") rfl), F.bindsN (fun _ _ _ _ _ _ us hl => match us, hl with | [_, _, _], _ => rfl), (and2 ck_3).1, (and2 ck_3).2⟩
    · have e : tab.fns.lookup ("are_figures" : Str) = some p_are_figures := by kernel_rfl
      cases e.symm.trans hl
      obtain ⟨fd, F⟩ := c.def_ 4 (d := Hd.d4) rfl
      exact ⟨_, fd, _, _, _, F, He.glo_ok X G (c.fact 4 (f := .glo "are_figures") rfl), F.bindsN (fun _ _ _ _ _ _ us hl => match us, hl with | [_, _], _ => rfl), (and2 ck_4).1, (and2 ck_4).2⟩
    · have e : tab.fns.lookup ("is_worth_text" : Str) = some p_is_worth_text := by kernel_rfl
      cases e.symm.trans hl
      obtain ⟨fd, F⟩ := c.def_ 5 (d := Hd.d5) rfl
      exact ⟨_, fd, _, _, _, F, He.glo_ok X G (c.fact 5 (f := .glo "is_worth_text") rfl), F.bindsN (fun _ _ _ _ _ _ us hl => match us, hl with | [_], _ => rfl), (and2 ck_5).1, (and2 ck_5).2⟩
    · have e : tab.fns.lookup ("show_things" : Str) = some p_show_things := by kernel_rfl
      cases e.symm.trans hl
      obtain ⟨fd, F⟩ := c.def_ 6 (d := Hd.d6) rfl
      exact ⟨_, fd, _, _, _, F, He.glo_ok X G (c.fact 6 (f := .glo "show_things") rfl), F.bindsN (fun _ _ _ _ _ _ us hl => match us, hl with | [_, _], _ => rfl), (and2 ck_6).1, (and2 ck_6).2⟩
    · have e : tab.fns.lookup ("show_family" : Str) = some p_show_family := by kernel_rfl
      cases e.symm.trans hl
      obtain ⟨fd, F⟩ := c.def_ 7 (d := Hd.d7) rfl
      exact ⟨_, fd, _, _, _, F, He.glo_ok X G (c.fact 7 (f := .glo "show_family") rfl), F.bindsN (fun _ _ _ _ _ _ us hl => match us, hl with | [_], _ => rfl), (and2 ck_7).1, (and2 ck_7).2⟩
    · have e : tab.fns.lookup ("things_of" : Str) = some p_things_of := by kernel_rfl
      cases e.symm.trans hl
      obtain ⟨fd, F⟩ := c.def_ 8 (d := Hd.d8) rfl
      exact ⟨_, fd, _, _, _, F, He.glo_ok X G (c.fact 8 (f := .glo "things_of") rfl), F.bindsN (fun _ _ _ _ _ _ us hl => match us, hl with | [_, _, _], _ => rfl), (and2 ck_8).1, (and2 ck_8).2⟩
    · have e : tab.fns.lookup ("read_lot" : Str) = some p_read_lot := by kernel_rfl
      cases e.symm.trans hl
      obtain ⟨fd, F⟩ := c.def_ 9 (d := Hd.d9) rfl
      exact ⟨_, fd, _, _, _, F, He.glo_ok X G (c.fact 9 (f := .glo "read_lot") rfl), F.bindsN (fun _ _ _ _ _ _ us hl => match us, hl with | [_, _, _], _ => rfl), (and2 ck_9).1, (and2 ck_9).2⟩
    · have e : tab.fns.lookup ("read_family" : Str) = some p_read_family := by kernel_rfl
      cases e.symm.trans hl
      obtain ⟨fd, F⟩ := c.def_ 10 (d := Hd.d10) rfl
      exact ⟨_, fd, _, _, _, F, He.glo_ok X G (c.fact 10 (f := .glo "read_family") rfl), F.bindsN (fun _ _ _ _ _ _ us hl => match us, hl with | [_, _, _], _ => rfl), (and2 ck_10).1, (and2 ck_10).2⟩
    · have e : tab.fns.lookup ("_law_pool" : Str) = some p_law_pool := by kernel_rfl
      cases e.symm.trans hl
      obtain ⟨fd, F⟩ := c.def_ 11 (d := Hd.d11) rfl
      exact ⟨_, fd, _, _, _, F, He.glo_ok X G (c.fact 11 (f := .glo "_law_pool") rfl), F.bindsN (fun _ _ _ _ _ _ us hl => match us, hl with | [_, _], _ => rfl), (and2 ck_11).1, (and2 ck_11).2⟩
    · have e : tab.fns.lookup ("_law_take" : Str) = some p_law_take := by kernel_rfl
      cases e.symm.trans hl
      obtain ⟨fd, F⟩ := c.def_ 12 (d := Hd.d12) rfl
      exact ⟨_, fd, _, _, _, F, He.glo_ok X G (c.fact 12 (f := .glo "_law_take") rfl), F.bindsN (fun _ _ _ _ _ _ us hl => match us, hl with | [_, _], _ => rfl), (and2 ck_12).1, (and2 ck_12).2⟩
    · have e : tab.fns.lookup ("_law_some" : Str) = some p_law_some := by kernel_rfl
      cases e.symm.trans hl
      obtain ⟨fd, F⟩ := c.def_ 13 (d := Hd.d13) rfl
      exact ⟨_, fd, _, _, _, F, He.glo_ok X G (c.fact 13 (f := .glo "_law_some") rfl), F.bindsN (fun _ _ _ _ _ _ us hl => match us, hl with | [_, _, _], _ => rfl), (and2 ck_13).1, (and2 ck_13).2⟩
    · have e : tab.fns.lookup ("_law_worth" : Str) = some p_law_worth := by kernel_rfl
      cases e.symm.trans hl
      obtain ⟨fd, F⟩ := c.def_ 14 (d := Hd.d14) rfl
      exact ⟨_, fd, _, _, _, F, He.glo_ok X G (c.fact 14 (f := .glo "_law_worth") rfl), F.bindsN (fun _ _ _ _ _ _ us hl => match us, hl with | [_], _ => rfl), (and2 ck_14).1, (and2 ck_14).2⟩
    · have e : tab.fns.lookup ("_law_family" : Str) = some p_law_family := by kernel_rfl
      cases e.symm.trans hl
      obtain ⟨fd, F⟩ := c.def_ 15 (d := Hd.d15) rfl
      exact ⟨_, fd, _, _, _, F, He.glo_ok X G (c.fact 15 (f := .glo "_law_family") rfl), F.bindsN (fun _ _ _ _ _ _ us hl => match us, hl with | [_, _, _, _], _ => rfl), (and2 ck_15).1, (and2 ck_15).2⟩
    · have e : tab.fns.lookup ("_law_things_text" : Str) = some p_law_things_text := by kernel_rfl
      cases e.symm.trans hl
      obtain ⟨fd, F⟩ := c.def_ 16 (d := Hd.d16) rfl
      exact ⟨_, fd, _, _, _, F, He.glo_ok X G (c.fact 16 (f := .glo "_law_things_text") rfl), F.bindsN (fun _ _ _ _ _ _ us hl => match us, hl with | [_, _], _ => rfl), (and2 ck_16).1, (and2 ck_16).2⟩
    · have e : tab.fns.lookup ("_law_shown" : Str) = some p_law_shown := by kernel_rfl
      cases e.symm.trans hl
      obtain ⟨fd, F⟩ := c.def_ 17 (d := Hd.d17) rfl
      exact ⟨_, fd, _, _, _, F, He.glo_ok X G (c.fact 17 (f := .glo "_law_shown") rfl), F.bindsN (fun _ _ _ _ _ _ us hl => match us, hl with | [_], _ => rfl), (and2 ck_17).1, (and2 ck_17).2⟩
    · have e : tab.fns.lookup ("_law_lots" : Str) = some p_law_lots := by kernel_rfl
      cases e.symm.trans hl
      obtain ⟨fd, F⟩ := c.def_ 18 (d := Hd.d18) rfl
      exact ⟨_, fd, _, _, _, F, He.glo_ok X G (c.fact 18 (f := .glo "_law_lots") rfl), F.bindsN (fun _ _ _ _ _ _ us hl => match us, hl with | [_, _, _], _ => rfl), (and2 ck_18).1, (and2 ck_18).2⟩
    · have e : tab.fns.lookup ("_law_filled" : Str) = some p_law_filled := by kernel_rfl
      cases e.symm.trans hl
      obtain ⟨fd, F⟩ := c.def_ 19 (d := Hd.d19) rfl
      exact ⟨_, fd, _, _, _, F, He.glo_ok X G (c.fact 19 (f := .glo "_law_filled") rfl), F.bindsN (fun _ _ _ _ _ _ us hl => match us, hl with | [_, _, _, _], _ => rfl), (and2 ck_19).1, (and2 ck_19).2⟩
    · have e : tab.fns.lookup ("_law_refused" : Str) = some p_law_refused := by kernel_rfl
      cases e.symm.trans hl
      obtain ⟨fd, F⟩ := c.def_ 20 (d := Hd.d20) rfl
      exact ⟨_, fd, _, _, _, F, He.glo_ok X G (c.fact 20 (f := .glo "_law_refused") rfl), F.bindsN (fun _ _ _ _ _ _ us hl => match us, hl with | [_, _, _], _ => rfl), (and2 ck_20).1, (and2 ck_20).2⟩
    · have e : tab.fns.lookup ("law" : Str) = some p_law := by kernel_rfl
      cases e.symm.trans hl
      obtain ⟨fd, F⟩ := c.def_ 21 (d := Hd.d21) rfl
      exact ⟨_, fd, _, _, _, F, He.glo_ok X G (c.fact 21 (f := .glo "law") rfl), F.bindsN (fun _ _ _ _ _ _ us hl => match us, hl with | [_], _ => rfl), (and2 ck_21).1, (and2 ck_21).2⟩
  cl := fun _ _ _ h => by cases h
  ex := by
    intro c' sub non h
    have q := exAll_at cx h
    have h : c' = "LotError" ∨ c' = "NoFamily" ∨ c' = "ValueError" ∨ c' = "NoText" := by
      have z : (c', sub, non) ∈ Hd.exl := h
      simp only [Hd.exl, List.mem_cons, List.not_mem_nil, or_false] at z
      rcases z with z | z | z | z
      · cases z
        exact .inl rfl
      · cases z
        exact .inr (.inl rfl)
      · cases z
        exact .inr (.inr (.inl rfl))
      · cases z
        exact .inr (.inr (.inr (rfl)))
    rcases h with rfl | rfl | rfl | rfl
    · exact exFact_ok q (.inl ⟨by decide, He.glo_ok X G (c.fact 22 (f := .glo "LotError") rfl)⟩)
    · exact exFact_ok q (.inl ⟨by decide, He.glo_ok X G (c.fact 24 (f := .glo "NoFamily") rfl)⟩)
    · exact exFact_ok q (.inr ⟨rfl, free_ve, by decide +kernel⟩)
    · exact exFact_ok q (.inl ⟨by decide, He.glo_ok X G (c.fact 23 (f := .glo "NoText") rfl)⟩)
  rz := by
    intro c' h
    have h : c' = "NoText" := by
      have z : c' ∈ (["NoText"] : List Str) := h
      simpa only [List.mem_cons, List.not_mem_nil, or_false] using z
    rcases h with rfl
    · obtain ⟨r1, r2, r3, r4⟩ := He.exc_ok (c.fact 48 (f := .exc "NoText") rfl)
      exact ⟨He.glo_ok X G (c.fact 23 (f := .glo "NoText") rfl), r1, r2, r3, r4⟩
  ci := by
    intro x i h
    have h : (x, i) = (("MOST_LOTS" : Str), 200) ∨ (x, i) = (("MOST_FIGURES" : Str), 20) := by
      have z : (x, i) ∈ ([("MOST_LOTS", 200), ("MOST_FIGURES", 20)] : List (Str × Int)) := h
      simpa only [List.mem_cons, List.not_mem_nil, or_false] using z
    rcases h with h | h
    · cases h
      exact He.int_ok X G (c.fact 44 (f := .int "MOST_LOTS" 200) rfl)
    · cases h
      exact He.int_ok X G (c.fact 46 (f := .int "MOST_FIGURES" 20) rfl)
  cs := by
    intro x i h
    have h : (x, i) = (("FIGURES" : Str), ("0123456789" : Str)) ∨ (x, i) = (("NOTHING" : Str), ("-" : Str)) := by
      have z : (x, i) ∈ ([("FIGURES", "0123456789"), ("NOTHING", "-")] : List (Str × Str)) := h
      simpa only [List.mem_cons, List.not_mem_nil, or_false] using z
    rcases h with h | h
    · cases h
      exact He.str_ok X G (c.fact 45 (f := .str "FIGURES" "0123456789") rfl)
    · cases h
      exact He.str_ok X G (c.fact 47 (f := .str "NOTHING" "-") rfl)
  free := by
    intro x hx
    have hx : x = "len" ∨ x = "list" ∨ x = "tuple" ∨ x = "sorted" ∨ x = "sum" ∨ x = "max" ∨ x = "min" ∨ x = "all" ∨ x = "any" ∨ x = "dict" ∨ x = "int" ∨ x = "str" ∨ x = "repr" ∨ x = "range" ∨ x = "enumerate" ∨ x = "zip" ∨ x = "isinstance" ∨ x = "bool" ∨ x = "set" := by simpa only [List.mem_cons, List.not_mem_nil, or_false] using hx
    rcases hx with rfl | rfl | rfl | rfl | rfl | rfl | rfl | rfl | rfl | rfl | rfl | rfl | rfl | rfl | rfl | rfl | rfl | rfl | rfl
    · exact He.free_ok X G (c.fact 25 (f := .free "len") rfl)
    · exact He.free_ok X G (c.fact 26 (f := .free "list") rfl)
    · exact He.free_ok X G (c.fact 27 (f := .free "tuple") rfl)
    · exact He.free_ok X G (c.fact 28 (f := .free "sorted") rfl)
    · exact He.free_ok X G (c.fact 29 (f := .free "sum") rfl)
    · exact He.free_ok X G (c.fact 30 (f := .free "max") rfl)
    · exact He.free_ok X G (c.fact 31 (f := .free "min") rfl)
    · exact He.free_ok X G (c.fact 32 (f := .free "all") rfl)
    · exact He.free_ok X G (c.fact 33 (f := .free "any") rfl)
    · exact He.free_ok X G (c.fact 34 (f := .free "dict") rfl)
    · exact He.free_ok X G (c.fact 35 (f := .free "int") rfl)
    · exact He.free_ok X G (c.fact 36 (f := .free "str") rfl)
    · exact He.free_ok X G (c.fact 37 (f := .free "repr") rfl)
    · exact He.free_ok X G (c.fact 38 (f := .free "range") rfl)
    · exact He.free_ok X G (c.fact 39 (f := .free "enumerate") rfl)
    · exact He.free_ok X G (c.fact 40 (f := .free "zip") rfl)
    · exact He.free_ok X G (c.fact 41 (f := .free "isinstance") rfl)
    · exact He.free_ok X G (c.fact 42 (f := .free "bool") rfl)
    · exact He.free_ok X G (c.fact 43 (f := .free "set") rfl)
theorem facts {fuel : Nat} {P : Program} {w : World} {K : PySem.W.Frag} {h : Heap} {mg : Str → Option Value} {f : Addr} (X : K.In h) (G : h.Ns mainGlobals mg) (hfa : mg ("law" : Str) = some (.ref f)) (c : He.SaysD Hd.fa Hd.fn K) (cx : exAll Hd.exl K = true) :
    ∃ fd : FuncData, (∀ (s : Shared) (v : Value), BindsTo s fd ⟨[v], []⟩ [("_law_script", v)]) ∧ ∀ base : Heap, K.In base → base.Ns mainGlobals mg → FnOk P w K mg base (L2.CX P w) (2 * fuel) f fd ["_law_script"] (spR K (He.ga K) (callF tab.fns fuel) "law" ["_law_script"]) := by
  obtain ⟨fd, F⟩ := c.def_ 21 (d := Hd.d21) rfl
  have e := hfa.symm.trans (He.glo_ok X G (c.fact 21 (f := .glo "law") rfl))
  cases e
  have b := FunD.bindsA (ps := ["_law_script"]) F fun _ _ _ _ _ _ us hl => match us, hl with | [_], _ => rfl
  refine ⟨fd, fun s v => b s [v] rfl, fun base _ _ => ?_⟩
  exact fn_all (top_ok X G c cx (He.free_ok X G (c.fact 49 (f := .free "ValueError") rfl))) fuel "law" "law" "law" p_law (by kernel_rfl) _ fd _ _ _ F (and2 ck_21).1 (and2 ck_21).2
end Fs
/-- MAIN: what is left is the law of the plain evaluator -/
abbrev Fs.Plain (fuel most : Nat) : Prop := ∀ ns : List Int, ns.length ≤ most → (∀ z ∈ ns, PySem.Builtin.Int.intBits z ≤ 1048576) → ∃ h, Fs.callF Fs.tab.fns fuel "law" [.ref 0] [.ro (ns.map Fs.Val.int)] = .ok (.bl true) h
section
open PySem PySem.W PySem.Calls PyProof.Rows
theorem Fs.holds (plain : Fs.Plain 30 63) : PySem.Challenge.rw_fewstand_k80_many_lots_written.Holds := by
  w_on; o_law
  refine HandSHeadRun.head_any (r := OpenLaw.row PySem.Challenge.rw_fewstand_k80_many_lots_written) (q := view (OpenLaw.row PySem.Challenge.rw_fewstand_k80_many_lots_written).prog [33]) (H := Hd.hk) (ob := Hd.ob) (M := 4000) (loose := Hd.lns) (d := HandSHeadRun.topDef (OpenLaw.row PySem.Challenge.rw_fewstand_k80_many_lots_written).prog 33) (kwd := []) Hd.ob_eq
    (by kernel_rfl) (fun s => by kernel_rfl) Hd.run (by kernel_rfl) (by kernel_rfl) (by kernel_rfl) (by rfl) (by first | assumption | decide +kernel) (by decide +kernel) ⟨rfl, rfl, rfl, rfl, rfl, by decide +kernel⟩ ?hw ?hc
  case hw => w_witness2
  case hc =>
    refine Fs.walk_end (l := PySem.Challenge.rw_fewstand_k80_many_lots_written) (n := 63) (k := 2 * 30) (x := "_law_script") rfl (by decide) (by kernel_rfl) ⟨rfl, by decide, by decide⟩ ?F
    intro w mg fa h Y G hmg0
    obtain ⟨K, KX, c⟩ := Y
    have hmg : mg ("law" : PySem.Str) = some (.ref fa) := by
      have e : (HandSHeadRun.topDef (OpenLaw.row PySem.Challenge.rw_fewstand_k80_many_lots_written).prog 33).name = ("law" : PySem.Str) := by kernel_rfl
      rw [← e]
      exact hmg0
    obtain ⟨fd, hb, hF⟩ := Fs.facts (fuel := 30) (P := (PySem.Challenge.rw_fewstand_k80_many_lots_written).prog) (w := w) KX G hmg c.t.d c.more
    exact ⟨K, fd, _, KX, hb, fun H a ns hl hz hO hS => Fs.law_sp rfl hO hS (plain ns hl hz), hF⟩
end
set_option Elab.async false
set_option linter.all false
set_option maxRecDepth 100000
set_option maxHeartbeats 4000000
namespace Fw
open Enc (enc)
open PySem L2
open PySem.W (Datum DatumOrd Tup)
open Fs (lim keyOf keysOf kVal look put drp setF Bop Cop Ty Tn isTn cut Blt Mt Tg E Es Oe I S Ss Def)
open Ast
noncomputable def CV (n : Nat) : Orc := callV prog mds n
theorem call0 {n : Nat} {f : Str} {vs : List W} {h : Hep} {d : Def} (hl : prog.lookup f = some d) (hm : mds.lookup f = none) (hp : vs.length = d.ps.length) :
    CV (n + 1) f vs h = retOf (exSs (CV n) d.body (vs.map some ++ List.replicate (d.ns.length - vs.length) none) h) := by
  unfold CV
  rw [call_eq hl hp, hm]
  exact cut0
theorem call1 {n : Nat} {f : Str} {vs : List W} {h : Hep} {d : Def} (hl : prog.lookup f = some d) (hm : mds.lookup f = some 1) (hp : vs.length = d.ps.length) :
    CV (n + 1) f vs h = cutV 1 h (retOf (exSs (CV n) d.body (vs.map some ++ List.replicate (d.ns.length - vs.length) none) h)) := by
  unfold CV
  rw [call_eq hl hp, hm]
  rfl
theorem f_is_whole (n : Nat) (i : Int) (h : Hep) : CV (n + 1) "is_whole" [.int i] h = .ok (.bl true) h := by
  rw [call0 (d := p_is_whole) (by kernel_rfl) (by kernel_rfl) rfl]
  simp [Ast.s_is_whole_0, Ast.p_is_whole, Fs.lim, exSs, exS, evE, evEs, evT, evO, evC, evI, isi, Fs.isTn, fresh, bind_ok, bind_ex, of_some, sb_ok, sb_ex, sq_nx, sq_rt, sq_ex, ret_rt, ret_nx, ret_ex, resO_some, bop_add, add_int, add_str, add_tup, add_fl, bop_sub, bop_mul, bop_mulL, bop_fdiv, bop_mod, bop_pow, cop_eq, cop_ne, eq_int, eq_str, eq_bl, cop_lt, lt_int, cop_gt, cop_le, cop_ge, cop_in, cop_nin, cop_is, cop_isn, is_non, is_bl, in_fk, in_ft, in_ref, in_fl, in_tu, non_non, non_bl, non_int, non_str, non_tup, non_fl, non_ref, key_int, key_str, tru_bl, tru_int, tru_non, tru_tup, tru_fl, tru_str, ty_non, ty_bl, ty_int, ty_str, ty_tup, ty_fl, ty_fk, ty_ref, blt_len, blt_list, blt_tuple, blt_sorted, blt_sum, blt_all, blt_any, blt_int, blt_str, blt_max, blt_min, blt_dict, len_tup, len_fl, len_fk, len_ft, len_str, len_ref, list_tup, list_fl, list_ref, tuple_fl, tuple_tup, sorted_fl, sum_fl, all_fl, any_fl, int_int, int_bl, int_str, str_int, ix_tup, ix_fl, ix_fk, ix_ft, ix_str, ix_ref, sl_tup, sl_fl, sl_str, l_fl, l_ref, rv_append, rv_extend, rv_pop, rv_reverse, rv_get, rv_popD, rv_join, rv_split, rv_start, rv_lower, isL_ref, isD_ref, dk_fk, dk_ft, dk_ref, dt_ft, dt_fk, dt_ref, mt_append, mt_extend, mt_pop0, mt_pop, mt_popD, mt_reverse, mt_get, mt_join, mt_split, mt_start, mt_lower, seti_ref, asg_nm, asg_tup, asg_fl, asgs_nil, asgs_cons, wipe_nil, wipe_cons, lay_fl, lay_fk, lay_ft]
theorem f_is_within (n : Nat) (i a b : Int) (h : Hep) : CV (n + 2) "is_within" [.int i, .int a, .int b] h = .ok (.bl (decide (a ≤ i) && decide (i ≤ b))) h := by
  have e := f_is_whole n i h
  rw [call0 (d := p_is_within) (by kernel_rfl) (by kernel_rfl) rfl]
  by_cases h1 : a ≤ i <;> simp [Ast.s_is_within_0, Ast.p_is_within, Fs.lim, exSs, exS, evE, evEs, evT, evO, evC, evI, isi, Fs.isTn, fresh, bind_ok, bind_ex, of_some, sb_ok, sb_ex, sq_nx, sq_rt, sq_ex, ret_rt, ret_nx, ret_ex, resO_some, bop_add, add_int, add_str, add_tup, add_fl, bop_sub, bop_mul, bop_mulL, bop_fdiv, bop_mod, bop_pow, cop_eq, cop_ne, eq_int, eq_str, eq_bl, cop_lt, lt_int, cop_gt, cop_le, cop_ge, cop_in, cop_nin, cop_is, cop_isn, is_non, is_bl, in_fk, in_ft, in_ref, in_fl, in_tu, non_non, non_bl, non_int, non_str, non_tup, non_fl, non_ref, key_int, key_str, tru_bl, tru_int, tru_non, tru_tup, tru_fl, tru_str, ty_non, ty_bl, ty_int, ty_str, ty_tup, ty_fl, ty_fk, ty_ref, blt_len, blt_list, blt_tuple, blt_sorted, blt_sum, blt_all, blt_any, blt_int, blt_str, blt_max, blt_min, blt_dict, len_tup, len_fl, len_fk, len_ft, len_str, len_ref, list_tup, list_fl, list_ref, tuple_fl, tuple_tup, sorted_fl, sum_fl, all_fl, any_fl, int_int, int_bl, int_str, str_int, ix_tup, ix_fl, ix_fk, ix_ft, ix_str, ix_ref, sl_tup, sl_fl, sl_str, l_fl, l_ref, rv_append, rv_extend, rv_pop, rv_reverse, rv_get, rv_popD, rv_join, rv_split, rv_start, rv_lower, isL_ref, isD_ref, dk_fk, dk_ft, dk_ref, dt_ft, dt_fk, dt_ref, mt_append, mt_extend, mt_pop0, mt_pop, mt_popD, mt_reverse, mt_get, mt_join, mt_split, mt_start, mt_lower, seti_ref, asg_nm, asg_tup, asg_fl, asgs_nil, asgs_cons, wipe_nil, wipe_cons, lay_fl, lay_fk, lay_ft, e, h1]
/-! ### is_rising -/
def risB (m : Int) : Int → List Int → Bool
  | _, [] => true
  | last, x :: r => decide (last + 1 ≤ x) && decide (x ≤ m - 1) && risB m x r
theorem f_is_rising (n : Nat) (h : Hep) (m : Int) (lot : List Int) : CV (n + 3) "is_rising" [.int m, tupW lot] h = .ok (.bl (risB m (-1) lot)) h := by
  have key : ∀ (l : List Int) (last : Int), forL (fstepV (CV (n + 2)) (.nm 3) b_is_rising_2) (l.map enc) [some (.int m), some (tupW lot), some (.int last), none] h = (if risB m last l = true then .nx [some (.int m), some (tupW lot), some (.int (l.getLast?.getD last)), none] h else .rt (.bl false) h) := by
    intro l
    induction l with
    | nil => intro last; simp [forL, risB]
    | cons x r ih =>
      intro last
      have e := f_is_within n x (last + 1) (m - 1) h
      have st : fstepV (CV (n + 2)) (.nm 3) b_is_rising_2 (enc x) [some (.int m), some (tupW lot), some (.int last), none] h = if (decide (last + 1 ≤ x) && decide (x ≤ m - 1)) = true then .nx [some (.int m), some (tupW lot), some (.int x), none] h else .rt (.bl false) h := by
        cases hb : (decide (last + 1 ≤ x) && decide (x ≤ m - 1)) <;> (rw [hb] at e; simp [fstepV, enc_int, Ast.s_is_rising_0, Ast.b_is_rising_0, Ast.s_is_rising_1, Ast.s_is_rising_2, Ast.s_is_rising_3, Ast.b_is_rising_1, Ast.s_is_rising_4, Ast.s_is_rising_5, Ast.s_is_rising_6, Ast.b_is_rising_2, Ast.s_is_rising_7, Ast.s_is_rising_8, Ast.p_is_rising, Fs.lim, exSs, exS, evE, evEs, evT, evO, evC, evI, isi, Fs.isTn, fresh, bind_ok, bind_ex, of_some, sb_ok, sb_ex, sq_nx, sq_rt, sq_ex, ret_rt, ret_nx, ret_ex, resO_some, bop_add, add_int, add_str, add_tup, add_fl, bop_sub, bop_mul, bop_mulL, bop_fdiv, bop_mod, bop_pow, cop_eq, cop_ne, eq_int, eq_str, eq_bl, cop_lt, lt_int, cop_gt, cop_le, cop_ge, cop_in, cop_nin, cop_is, cop_isn, is_non, is_bl, in_fk, in_ft, in_ref, in_fl, in_tu, non_non, non_bl, non_int, non_str, non_tup, non_fl, non_ref, key_int, key_str, tru_bl, tru_int, tru_non, tru_tup, tru_fl, tru_str, ty_non, ty_bl, ty_int, ty_str, ty_tup, ty_fl, ty_fk, ty_ref, blt_len, blt_list, blt_tuple, blt_sorted, blt_sum, blt_all, blt_any, blt_int, blt_str, blt_max, blt_min, blt_dict, len_tup, len_fl, len_fk, len_ft, len_str, len_ref, list_tup, list_fl, list_ref, tuple_fl, tuple_tup, sorted_fl, sum_fl, all_fl, any_fl, int_int, int_bl, int_str, str_int, ix_tup, ix_fl, ix_fk, ix_ft, ix_str, ix_ref, sl_tup, sl_fl, sl_str, l_fl, l_ref, rv_append, rv_extend, rv_pop, rv_reverse, rv_get, rv_popD, rv_join, rv_split, rv_start, rv_lower, isL_ref, isD_ref, dk_fk, dk_ft, dk_ref, dt_ft, dt_fk, dt_ref, mt_append, mt_extend, mt_pop0, mt_pop, mt_popD, mt_reverse, mt_get, mt_join, mt_split, mt_start, mt_lower, seti_ref, asg_nm, asg_tup, asg_fl, asgs_nil, asgs_cons, wipe_nil, wipe_cons, lay_fl, lay_fk, lay_ft, e])
      rw [List.map_cons, forL, st, risB]
      cases hb : (decide (last + 1 ≤ x) && decide (x ≤ m - 1)) with
      | false => simp [sq_rt]
      | true =>
        simp only [if_true, Bool.true_and]
        show forL _ _ _ _ = _
        rw [ih]
        cases r with
        | nil => simp
        | cons y r => simp [List.getLast?_cons]
  have ef : exS (CV (n + 2)) s_is_rising_7 [some (.int m), some (tupW lot), some (.int (-1)), none] h = _ := (for_ok (i_tup (xs := lot.map enc) rfl)).trans (key lot (-1))
  rw [call0 (d := p_is_rising) (by kernel_rfl) (by kernel_rfl) rfl]
  have ht : tyN h (tupW lot) = some .tuple := rfl
  generalize tupW lot = L at ef ht ⊢
  cases hb : risB m (-1) lot <;> (rw [hb] at ef; simp [Ast.s_is_rising_0, Ast.b_is_rising_0, Ast.s_is_rising_1, Ast.s_is_rising_2, Ast.s_is_rising_3, Ast.b_is_rising_1, Ast.s_is_rising_4, Ast.s_is_rising_5, Ast.s_is_rising_6, Ast.b_is_rising_2, Ast.s_is_rising_8, Ast.p_is_rising, Fs.lim, exSs, exS, evE, evEs, evT, evO, evC, evI, isi, Fs.isTn, fresh, bind_ok, bind_ex, of_some, sb_ok, sb_ex, sq_nx, sq_rt, sq_ex, ret_rt, ret_nx, ret_ex, resO_some, bop_add, add_int, add_str, add_tup, add_fl, bop_sub, bop_mul, bop_mulL, bop_fdiv, bop_mod, bop_pow, cop_eq, cop_ne, eq_int, eq_str, eq_bl, cop_lt, lt_int, cop_gt, cop_le, cop_ge, cop_in, cop_nin, cop_is, cop_isn, is_non, is_bl, in_fk, in_ft, in_ref, in_fl, in_tu, non_non, non_bl, non_int, non_str, non_tup, non_fl, non_ref, key_int, key_str, tru_bl, tru_int, tru_non, tru_tup, tru_fl, tru_str, ty_non, ty_bl, ty_int, ty_str, ty_tup, ty_fl, ty_fk, ty_ref, blt_len, blt_list, blt_tuple, blt_sorted, blt_sum, blt_all, blt_any, blt_int, blt_str, blt_max, blt_min, blt_dict, len_tup, len_fl, len_fk, len_ft, len_str, len_ref, list_tup, list_fl, list_ref, tuple_fl, tuple_tup, sorted_fl, sum_fl, all_fl, any_fl, int_int, int_bl, int_str, str_int, ix_tup, ix_fl, ix_fk, ix_ft, ix_str, ix_ref, sl_tup, sl_fl, sl_str, l_fl, l_ref, rv_append, rv_extend, rv_pop, rv_reverse, rv_get, rv_popD, rv_join, rv_split, rv_start, rv_lower, isL_ref, isD_ref, dk_fk, dk_ft, dk_ref, dt_ft, dt_fk, dt_ref, mt_append, mt_extend, mt_pop0, mt_pop, mt_popD, mt_reverse, mt_get, mt_join, mt_split, mt_start, mt_lower, seti_ref, asg_nm, asg_tup, asg_fl, asgs_nil, asgs_cons, wipe_nil, wipe_cons, lay_fl, lay_fk, lay_ft, ef, ht])
/-! ### the pool -/
def PoolO (o : Ob) : Prop := ∃ a b : Int, o = .lst [.int a, .int b] ∧ 0 ≤ a ∧ 0 ≤ b ∧ b < 2147483647
def Pool (h : Hep) (p : Nat) : Prop := ∃ o, h[p]? = some o ∧ PoolO o
theorem Pool.lt {h : Hep} {p : Nat} (a : Pool h p) : p < h.length := by
  obtain ⟨o, e, _⟩ := a
  exact (List.getElem?_eq_some_iff.mp e).1
theorem Pool.set {h : Hep} {p : Nat} {o : Ob} (hp : p < h.length) (a : PoolO o) : Pool (h.set p o) p := ⟨o, List.getElem?_set_self hp, a⟩
theorem Pool.app {h g : Hep} {p : Nat} (a : Pool h p) : Pool (h ++ g) p := by
  have := a.lt
  obtain ⟨o, e, r⟩ := a
  exact ⟨o, by rw [get_app this]; exact e, r⟩
theorem PoolO.clean {n : Nat} {o : Ob} (a : PoolO o) : cleanOb n o = true := by
  obtain ⟨a, b, rfl, _⟩ := a
  rfl
theorem log_small {i : Int} (h : i.natAbs < 2 ^ 64) : i.natAbs.log2 < 64 := by
  by_cases z : i.natAbs = 0
  · rw [z]; decide
  · exact (Nat.log2_lt z).mpr h
theorem f_take (n : Nat) (h : Hep) (p : Nat) (m : Int) (hp : Pool h p) (h0 : 0 < m) (h1 : m ≤ 10 ^ 18) :
    ∃ r o, CV (n + 1) "_law_take" [.ref p, .int m] h = .ok (.int r) (h.set p o) ∧ 0 ≤ r ∧ r < m ∧ PoolO o := by
  have hl := hp.lt
  obtain ⟨o, hh, a, b, rfl, ha, hb, hb2⟩ := hp
  have hm : m.natAbs.log2 < 64 := log_small (by omega)
  have hs : ∀ o, (h.set p o)[p]? = some o := fun o => List.getElem?_set_self hl
  rw [call0 (d := p_law_take) (by kernel_rfl) (by kernel_rfl) rfl]
  by_cases hz : 0 < a
  · refine ⟨a % m, .lst [.int (a / m), .int b], ?_, Int.emod_nonneg _ (by omega), Int.emod_lt_of_pos _ h0, ⟨a / m, b, rfl, Int.ediv_nonneg ha (by omega), hb, hb2⟩⟩
    simp [Ast.s_law_take_0, Ast.s_law_take_1, Ast.s_law_take_2, Ast.b_law_take_0, Ast.s_law_take_3, Ast.s_law_take_4, Ast.s_law_take_5, Ast.p_law_take, Fs.lim, exSs, exS, evE, evEs, evT, evO, evC, evI, isi, Fs.isTn, fresh, bind_ok, bind_ex, of_some, sb_ok, sb_ex, sq_nx, sq_rt, sq_ex, ret_rt, ret_nx, ret_ex, resO_some, bop_add, add_int, add_str, add_tup, add_fl, bop_sub, bop_mul, bop_mulL, bop_fdiv, bop_mod, bop_pow, cop_eq, cop_ne, eq_int, eq_str, eq_bl, cop_lt, lt_int, cop_gt, cop_le, cop_ge, cop_in, cop_nin, cop_is, cop_isn, is_non, is_bl, in_fk, in_ft, in_ref, in_fl, in_tu, non_non, non_bl, non_int, non_str, non_tup, non_fl, non_ref, key_int, key_str, tru_bl, tru_int, tru_non, tru_tup, tru_fl, tru_str, ty_non, ty_bl, ty_int, ty_str, ty_tup, ty_fl, ty_fk, ty_ref, blt_len, blt_list, blt_tuple, blt_sorted, blt_sum, blt_all, blt_any, blt_int, blt_str, blt_max, blt_min, blt_dict, len_tup, len_fl, len_fk, len_ft, len_str, len_ref, list_tup, list_fl, list_ref, tuple_fl, tuple_tup, sorted_fl, sum_fl, all_fl, any_fl, int_int, int_bl, int_str, str_int, ix_tup, ix_fl, ix_fk, ix_ft, ix_str, ix_ref, sl_tup, sl_fl, sl_str, l_fl, l_ref, rv_append, rv_extend, rv_pop, rv_reverse, rv_get, rv_popD, rv_join, rv_split, rv_start, rv_lower, isL_ref, isD_ref, dk_fk, dk_ft, dk_ref, dt_ft, dt_fk, dt_ref, mt_append, mt_extend, mt_pop0, mt_pop, mt_popD, mt_reverse, mt_get, mt_join, mt_split, mt_start, mt_lower, seti_ref, asg_nm, asg_tup, asg_fl, asgs_nil, asgs_cons, wipe_nil, wipe_cons, lay_fl, lay_fk, lay_ft, hh, hz, h0, L2.atI, L2.ixN, show m.natAbs.log2 < 9000 by omega]
  · have ea : a = 0 := by omega
    subst ea
    have l1 : b.natAbs.log2 + Nat.log2 48271 < 4000000 := by
      have := log_small (i := b) (by omega)
      have : Nat.log2 48271 < 64 := (Nat.log2_lt (by decide)).mpr (by decide)
      omega
    have b0 : 0 ≤ (b * 48271 + 11) % 2147483647 := Int.emod_nonneg _ (by decide)
    have b1 : (b * 48271 + 11) % 2147483647 < 2147483647 := Int.emod_lt_of_pos _ (by decide)
    generalize hb' : (b * 48271 + 11) % 2147483647 = b' at b0 b1
    have l2 : b'.natAbs.log2 + b'.natAbs.log2 < 4000000 := by
      have := log_small (i := b') (by omega)
      omega
    refine ⟨b' * b' % 2147483629 / 64 % m, .lst [.int 0, .int b'], ?_, Int.emod_nonneg _ (by omega), Int.emod_lt_of_pos _ h0, ⟨0, b', rfl, by decide, b0, b1⟩⟩
    simp [Ast.s_law_take_0, Ast.s_law_take_1, Ast.s_law_take_2, Ast.b_law_take_0, Ast.s_law_take_3, Ast.s_law_take_4, Ast.s_law_take_5, Ast.p_law_take, Fs.lim, exSs, exS, evE, evEs, evT, evO, evC, evI, isi, Fs.isTn, fresh, bind_ok, bind_ex, of_some, sb_ok, sb_ex, sq_nx, sq_rt, sq_ex, ret_rt, ret_nx, ret_ex, resO_some, bop_add, add_int, add_str, add_tup, add_fl, bop_sub, bop_mul, bop_mulL, bop_fdiv, bop_mod, bop_pow, cop_eq, cop_ne, eq_int, eq_str, eq_bl, cop_lt, lt_int, cop_gt, cop_le, cop_ge, cop_in, cop_nin, cop_is, cop_isn, is_non, is_bl, in_fk, in_ft, in_ref, in_fl, in_tu, non_non, non_bl, non_int, non_str, non_tup, non_fl, non_ref, key_int, key_str, tru_bl, tru_int, tru_non, tru_tup, tru_fl, tru_str, ty_non, ty_bl, ty_int, ty_str, ty_tup, ty_fl, ty_fk, ty_ref, blt_len, blt_list, blt_tuple, blt_sorted, blt_sum, blt_all, blt_any, blt_int, blt_str, blt_max, blt_min, blt_dict, len_tup, len_fl, len_fk, len_ft, len_str, len_ref, list_tup, list_fl, list_ref, tuple_fl, tuple_tup, sorted_fl, sum_fl, all_fl, any_fl, int_int, int_bl, int_str, str_int, ix_tup, ix_fl, ix_fk, ix_ft, ix_str, ix_ref, sl_tup, sl_fl, sl_str, l_fl, l_ref, rv_append, rv_extend, rv_pop, rv_reverse, rv_get, rv_popD, rv_join, rv_split, rv_start, rv_lower, isL_ref, isD_ref, dk_fk, dk_ft, dk_ref, dt_ft, dt_fk, dt_ref, mt_append, mt_extend, mt_pop0, mt_pop, mt_popD, mt_reverse, mt_get, mt_join, mt_split, mt_start, mt_lower, seti_ref, asg_nm, asg_tup, asg_fl, asgs_nil, asgs_cons, wipe_nil, wipe_cons, lay_fl, lay_fk, lay_ft, hh, h0, L2.atI, L2.ixN, l1, hb', l2, hs, show Nat.log2 64 < 9000 from Nat.lt_trans ((Nat.log2_lt (k := 64) (by decide)).mpr (by decide)) (by decide)]
theorem atI_nat {α : Type} (xs : List α) (k : Nat) (hk : k < xs.length) : L2.atI xs (k : Int) = xs[k]? := by
  unfold L2.atI L2.ixN
  rw [if_pos (by omega), if_pos (by omega)]
  rfl
theorem log_bits {z : Int} (h : Builtin.Int.intBits z ≤ 1048576) : z.natAbs.log2 ≤ 1048576 := by
  unfold Builtin.Int.intBits at h
  split at h
  · rename_i e
    have : z = 0 := by simpa using e
    subst this
    decide
  · omega
theorem f_pool (n : Nat) (h : Hep) (ns : List Int) (k : Nat) (h0 : h[0]? = some (.ro (ns.map W.int))) (hb : ∀ z ∈ ns, Builtin.Int.intBits z ≤ 1048576) (hk : k ≤ 70) :
    ∃ o, CV (n + 1) "_law_pool" [.ref 0, .int k] h = .ok (.ref h.length) (h ++ [o]) ∧ PoolO o := by
  have fin : ∀ c : Int, c.natAbs.log2 ≤ 1048576 → ∃ a b : Int, 0 ≤ a ∧ 0 ≤ b ∧ b < 2147483647 ∧ (c.natAbs.log2 + (if (10 : Int) ^ 18 ≤ c then (1 : Int) else 0).natAbs.log2 < 4000000) ∧ c * (if (10 : Int) ^ 18 ≤ c then (1 : Int) else 0) = a ∧
      (Nat.log2 7919 + k.log2 < 4000000) ∧ ((7919 * (k : Int)).natAbs.log2 + k.log2 < 4000000) ∧ ((c % 2147483629 + 7919 * (k : Int) * k + 8001).natAbs.log2 + Nat.log2 48271 < 4000000) ∧ (c % 2147483629 + 7919 * (k : Int) * k + 8001) * 48271 % 2147483647 = b := by
    intro c hc
    have k1 : k.log2 < 64 := by
      have := log_small (i := (k : Int)) (by omega)
      simpa using this
    have k2 : Nat.log2 48271 < 64 := (Nat.log2_lt (by decide)).mpr (by decide)
    have k3 : Nat.log2 7919 < 64 := (Nat.log2_lt (by decide)).mpr (by decide)
    have k4 : (7919 * (k : Int)).natAbs.log2 < 64 := log_small (by omega)
    have hkk : (k : Int) * k ≤ 4900 := by
      have : k * k ≤ 70 * 70 := Nat.mul_le_mul hk hk
      exact_mod_cast this
    have hkk0 : 0 ≤ (k : Int) * k := Int.mul_nonneg (by omega) (by omega)
    have e7 : 7919 * (k : Int) * k = 7919 * ((k : Int) * k) := Int.mul_assoc _ _ _
    have c0 : 0 ≤ c % 2147483629 := Int.emod_nonneg _ (by decide)
    have c1 : c % 2147483629 < 2147483629 := Int.emod_lt_of_pos _ (by decide)
    have k5 : (c % 2147483629 + 7919 * (k : Int) * k + 8001).natAbs.log2 < 64 := log_small (by omega)
    refine ⟨_, _, ?_, Int.emod_nonneg _ (by decide), Int.emod_lt_of_pos _ (by decide), ?_, rfl, by omega, by omega, by omega, rfl⟩
    · split
      · omega
      · omega
    · split
      · have : (1 : Int).natAbs.log2 = 0 := by decide
        omega
      · have : (0 : Int).natAbs.log2 = 0 := by decide
        omega
  have fetch : ∃ c : Int, c.natAbs.log2 ≤ 1048576 ∧ ((k < ns.length ∧ L2.atI (ns.map W.int) (k : Int) = some (.int c)) ∨ (¬ k < ns.length ∧ c = 0)) := by
    by_cases hl : k < ns.length
    · refine ⟨ns[k], log_bits (hb _ (List.getElem_mem hl)), .inl ⟨hl, ?_⟩⟩
      rw [atI_nat _ _ (by simpa using hl), List.getElem?_map, List.getElem?_eq_getElem hl]
      rfl
    · exact ⟨0, by decide, .inr ⟨hl, rfl⟩⟩
  obtain ⟨c, hc, hf⟩ := fetch
  obtain ⟨a, b, ha, hb0, hb1, l1, ea, l2, l3, l4, eb⟩ := fin c hc
  refine ⟨.lst [.int a, .int b], ?_, ⟨a, b, rfl, ha, hb0, hb1⟩⟩
  rw [call0 (d := p_law_pool) (by kernel_rfl) (by kernel_rfl) rfl]
  rcases hf with ⟨hl, hat⟩ | ⟨hl, rfl⟩
  · have hl' : (k : Int) < (ns.length : Int) := by exact_mod_cast hl
    simp [Ast.s_law_pool_0, Ast.s_law_pool_1, Ast.b_law_pool_0, Ast.s_law_pool_2, Ast.s_law_pool_3, Ast.s_law_pool_4, Ast.p_law_pool, Fs.lim, exSs, exS, evE, evEs, evT, evO, evC, evI, isi, Fs.isTn, fresh, bind_ok, bind_ex, of_some, sb_ok, sb_ex, sq_nx, sq_rt, sq_ex, ret_rt, ret_nx, ret_ex, resO_some, bop_add, add_int, add_str, add_tup, add_fl, bop_sub, bop_mul, bop_mulL, bop_fdiv, bop_mod, bop_pow, cop_eq, cop_ne, eq_int, eq_str, eq_bl, cop_lt, lt_int, cop_gt, cop_le, cop_ge, cop_in, cop_nin, cop_is, cop_isn, is_non, is_bl, in_fk, in_ft, in_ref, in_fl, in_tu, non_non, non_bl, non_int, non_str, non_tup, non_fl, non_ref, key_int, key_str, tru_bl, tru_int, tru_non, tru_tup, tru_fl, tru_str, ty_non, ty_bl, ty_int, ty_str, ty_tup, ty_fl, ty_fk, ty_ref, blt_len, blt_list, blt_tuple, blt_sorted, blt_sum, blt_all, blt_any, blt_int, blt_str, blt_max, blt_min, blt_dict, len_tup, len_fl, len_fk, len_ft, len_str, len_ref, list_tup, list_fl, list_ref, tuple_fl, tuple_tup, sorted_fl, sum_fl, all_fl, any_fl, int_int, int_bl, int_str, str_int, ix_tup, ix_fl, ix_fk, ix_ft, ix_str, ix_ref, sl_tup, sl_fl, sl_str, l_fl, l_ref, rv_append, rv_extend, rv_pop, rv_reverse, rv_get, rv_popD, rv_join, rv_split, rv_start, rv_lower, isL_ref, isD_ref, dk_fk, dk_ft, dk_ref, dt_ft, dt_fk, dt_ref, mt_append, mt_extend, mt_pop0, mt_pop, mt_popD, mt_reverse, mt_get, mt_join, mt_split, mt_start, mt_lower, seti_ref, asg_nm, asg_tup, asg_fl, asgs_nil, asgs_cons, wipe_nil, wipe_cons, lay_fl, lay_fk, lay_ft, h0, hl', hat, l2, l3, l4, eb]
    by_cases hq : (10 : Int) ^ 18 ≤ c <;> simp [hq] at l1 ea ⊢ <;> simp [Fs.lim, exSs, exS, evE, evEs, evT, evO, evC, evI, isi, Fs.isTn, fresh, bind_ok, bind_ex, of_some, sb_ok, sb_ex, sq_nx, sq_rt, sq_ex, ret_rt, ret_nx, ret_ex, resO_some, bop_add, add_int, add_str, add_tup, add_fl, bop_sub, bop_mul, bop_mulL, bop_fdiv, bop_mod, bop_pow, cop_eq, cop_ne, eq_int, eq_str, eq_bl, cop_lt, lt_int, cop_gt, cop_le, cop_ge, cop_in, cop_nin, cop_is, cop_isn, is_non, is_bl, in_fk, in_ft, in_ref, in_fl, in_tu, non_non, non_bl, non_int, non_str, non_tup, non_fl, non_ref, key_int, key_str, tru_bl, tru_int, tru_non, tru_tup, tru_fl, tru_str, ty_non, ty_bl, ty_int, ty_str, ty_tup, ty_fl, ty_fk, ty_ref, blt_len, blt_list, blt_tuple, blt_sorted, blt_sum, blt_all, blt_any, blt_int, blt_str, blt_max, blt_min, blt_dict, len_tup, len_fl, len_fk, len_ft, len_str, len_ref, list_tup, list_fl, list_ref, tuple_fl, tuple_tup, sorted_fl, sum_fl, all_fl, any_fl, int_int, int_bl, int_str, str_int, ix_tup, ix_fl, ix_fk, ix_ft, ix_str, ix_ref, sl_tup, sl_fl, sl_str, l_fl, l_ref, rv_append, rv_extend, rv_pop, rv_reverse, rv_get, rv_popD, rv_join, rv_split, rv_start, rv_lower, isL_ref, isD_ref, dk_fk, dk_ft, dk_ref, dt_ft, dt_fk, dt_ref, mt_append, mt_extend, mt_pop0, mt_pop, mt_popD, mt_reverse, mt_get, mt_join, mt_split, mt_start, mt_lower, seti_ref, asg_nm, asg_tup, asg_fl, asgs_nil, asgs_cons, wipe_nil, wipe_cons, lay_fl, lay_fk, lay_ft, l1, ea]
  · have hl' : ¬ (k : Int) < (ns.length : Int) := by exact_mod_cast hl
    simp at l4 eb ea
    subst ea
    clear l1
    simp [Ast.s_law_pool_0, Ast.s_law_pool_1, Ast.b_law_pool_0, Ast.s_law_pool_2, Ast.s_law_pool_3, Ast.s_law_pool_4, Ast.p_law_pool, Fs.lim, exSs, exS, evE, evEs, evT, evO, evC, evI, isi, Fs.isTn, fresh, bind_ok, bind_ex, of_some, sb_ok, sb_ex, sq_nx, sq_rt, sq_ex, ret_rt, ret_nx, ret_ex, resO_some, bop_add, add_int, add_str, add_tup, add_fl, bop_sub, bop_mul, bop_mulL, bop_fdiv, bop_mod, bop_pow, cop_eq, cop_ne, eq_int, eq_str, eq_bl, cop_lt, lt_int, cop_gt, cop_le, cop_ge, cop_in, cop_nin, cop_is, cop_isn, is_non, is_bl, in_fk, in_ft, in_ref, in_fl, in_tu, non_non, non_bl, non_int, non_str, non_tup, non_fl, non_ref, key_int, key_str, tru_bl, tru_int, tru_non, tru_tup, tru_fl, tru_str, ty_non, ty_bl, ty_int, ty_str, ty_tup, ty_fl, ty_fk, ty_ref, blt_len, blt_list, blt_tuple, blt_sorted, blt_sum, blt_all, blt_any, blt_int, blt_str, blt_max, blt_min, blt_dict, len_tup, len_fl, len_fk, len_ft, len_str, len_ref, list_tup, list_fl, list_ref, tuple_fl, tuple_tup, sorted_fl, sum_fl, all_fl, any_fl, int_int, int_bl, int_str, str_int, ix_tup, ix_fl, ix_fk, ix_ft, ix_str, ix_ref, sl_tup, sl_fl, sl_str, l_fl, l_ref, rv_append, rv_extend, rv_pop, rv_reverse, rv_get, rv_popD, rv_join, rv_split, rv_start, rv_lower, isL_ref, isD_ref, dk_fk, dk_ft, dk_ref, dt_ft, dt_fk, dt_ref, mt_append, mt_extend, mt_pop0, mt_pop, mt_popD, mt_reverse, mt_get, mt_join, mt_split, mt_start, mt_lower, seti_ref, asg_nm, asg_tup, asg_fl, asgs_nil, asgs_cons, wipe_nil, wipe_cons, lay_fl, lay_fk, lay_ft, h0, hl', l2, l3, l4, eb]
/-! ### lots -/
def Rising (m : Int) (lot : List Int) : Prop := lot.Pairwise (· < ·) ∧ ∀ x ∈ lot, 0 ≤ x ∧ x < m
theorem ixN_ok {len : Nat} {r : Int} (h0 : 0 ≤ r) (h1 : r < len) : L2.ixN len r = some r.toNat := by
  unfold L2.ixN
  rw [if_pos h0, if_pos h1]
theorem erase_perm {α : Type} : ∀ {l : List α} {k : Nat} (h : k < l.length), (l[k] :: l.eraseIdx k).Perm l
  | x :: xs, 0, _ => List.Perm.refl _
  | x :: xs, k + 1, h => by
    have hk : k < xs.length := by simpa using h
    have ih := erase_perm (l := xs) (k := k) hk
    simp only [List.getElem_cons_succ, List.eraseIdx_cons_succ]
    exact (List.Perm.swap x (xs[k]'hk) _).trans (ih.cons x)
theorem map_erase {α β : Type} {f : α → β} : ∀ {l : List α} {k : Nat}, (l.map f).eraseIdx k = (l.eraseIdx k).map f
  | [], _ => rfl
  | _ :: _, 0 => rfl
  | x :: xs, k + 1 => by simp [map_erase]
theorem sort_ints {h : Hep} (xs : List Int) (hl : xs.length ≤ lim) : sortO h (xs.map enc) = some ((xs.mergeSort fun a b => decide (a ≤ b)).map enc) := by
  rw [sort_enc (show Datum.depth Int < 12 by decide) xs hl (.inr fun a _ => rfl)]
  have : (leD : Int → Int → Bool) = fun a b => decide (a ≤ b) := by
    funext a b
    show (!decide (b < a)) = _
    by_cases hab : a ≤ b <;> simp [hab] <;> omega
  rw [this]
theorem sorted_strict {xs : List Int} (nd : xs.Nodup) : (xs.mergeSort fun a b => decide (a ≤ b)).Pairwise (· < ·) := by
  have ps := List.pairwise_mergeSort (le := fun (a b : Int) => decide (a ≤ b)) (by intro a b c; simp; omega) (by intro a b; simp; omega) xs
  have nd' : (xs.mergeSort fun a b => decide (a ≤ b)).Nodup := (List.mergeSort_perm _ _).nodup_iff.mpr nd
  refine (List.Pairwise.and ps nd').imp fun {a b} hab => ?_
  have h1 : a ≤ b := by simpa using hab.1
  have h2 : a ≠ b := hab.2
  omega
theorem f_some (n : Nat) (h : Hep) (p : Nat) (m s : Int) (hp : Pool h p) (hm : 0 ≤ m ∧ m ≤ 1000) (hs : 0 ≤ s ∧ s ≤ 1000) :
    ∃ lot o, CV (n + 2) "_law_some" [.ref p, .int m, .int s] h = .ok (tupW lot) (h.set p o) ∧ Rising m lot ∧ (lot.length : Int) = min s m ∧ PoolO o := by
  have hpl := hp.lt
  have e0 : exS (CV (n + 1)) s_law_some_0 [some (.ref p), some (.int m), some (.int s), none, none] h = .nx [some (.ref p), some (.int m), some (.int s), some (.ref h.length), none] (h ++ [.lst ((ri m.toNat).map enc)]) := by
    have c1 := rngL1 (n := m) ⟨by omega, by unfold Fs.lim; omega⟩
    unfold lsW at c1
    simp [s_law_some_0, Fs.lim, exSs, exS, evE, evEs, evT, evO, evC, evI, isi, Fs.isTn, fresh, bind_ok, bind_ex, of_some, sb_ok, sb_ex, sq_nx, sq_rt, sq_ex, ret_rt, ret_nx, ret_ex, resO_some, bop_add, add_int, add_str, add_tup, add_fl, bop_sub, bop_mul, bop_mulL, bop_fdiv, bop_mod, bop_pow, cop_eq, cop_ne, eq_int, eq_str, eq_bl, cop_lt, lt_int, cop_gt, cop_le, cop_ge, cop_in, cop_nin, cop_is, cop_isn, is_non, is_bl, in_fk, in_ft, in_ref, in_fl, in_tu, non_non, non_bl, non_int, non_str, non_tup, non_fl, non_ref, key_int, key_str, tru_bl, tru_int, tru_non, tru_tup, tru_fl, tru_str, ty_non, ty_bl, ty_int, ty_str, ty_tup, ty_fl, ty_fk, ty_ref, blt_len, blt_list, blt_tuple, blt_sorted, blt_sum, blt_all, blt_any, blt_int, blt_str, blt_max, blt_min, blt_dict, len_tup, len_fl, len_fk, len_ft, len_str, len_ref, list_tup, list_fl, list_ref, tuple_fl, tuple_tup, sorted_fl, sum_fl, all_fl, any_fl, int_int, int_bl, int_str, str_int, ix_tup, ix_fl, ix_fk, ix_ft, ix_str, ix_ref, sl_tup, sl_fl, sl_str, l_fl, l_ref, rv_append, rv_extend, rv_pop, rv_reverse, rv_get, rv_popD, rv_join, rv_split, rv_start, rv_lower, isL_ref, isD_ref, dk_fk, dk_ft, dk_ref, dt_ft, dt_fk, dt_ref, mt_append, mt_extend, mt_pop0, mt_pop, mt_popD, mt_reverse, mt_get, mt_join, mt_split, mt_start, mt_lower, seti_ref, asg_nm, asg_tup, asg_fl, asgs_nil, asgs_cons, wipe_nil, wipe_cons, lay_fl, lay_fk, lay_ft, c1]
  have eI : ∀ h1, evI (CV (n + 1)) (.rng (.cons (.blt .min (.cons (.var 2) (.cons (.var 1) .nil))) .nil)) [some (.ref p), some (.int m), some (.int s), some (.ref h.length), none] h1 = .ok (.fix ((ri (min s m).toNat).map enc), .no) h1 := fun h1 => by
    have c2 : (if m < s then m else s) = min s m := by omega
    refine i_rng (ns := [.int (min s m)]) ?_ (rng1' (by omega))
    simp [Fs.lim, exSs, exS, evE, evEs, evT, evO, evC, evI, isi, Fs.isTn, fresh, bind_ok, bind_ex, of_some, sb_ok, sb_ex, sq_nx, sq_rt, sq_ex, ret_rt, ret_nx, ret_ex, resO_some, bop_add, add_int, add_str, add_tup, add_fl, bop_sub, bop_mul, bop_mulL, bop_fdiv, bop_mod, bop_pow, cop_eq, cop_ne, eq_int, eq_str, eq_bl, cop_lt, lt_int, cop_gt, cop_le, cop_ge, cop_in, cop_nin, cop_is, cop_isn, is_non, is_bl, in_fk, in_ft, in_ref, in_fl, in_tu, non_non, non_bl, non_int, non_str, non_tup, non_fl, non_ref, key_int, key_str, tru_bl, tru_int, tru_non, tru_tup, tru_fl, tru_str, ty_non, ty_bl, ty_int, ty_str, ty_tup, ty_fl, ty_fk, ty_ref, blt_len, blt_list, blt_tuple, blt_sorted, blt_sum, blt_all, blt_any, blt_int, blt_str, blt_max, blt_min, blt_dict, len_tup, len_fl, len_fk, len_ft, len_str, len_ref, list_tup, list_fl, list_ref, tuple_fl, tuple_tup, sorted_fl, sum_fl, all_fl, any_fl, int_int, int_bl, int_str, str_int, ix_tup, ix_fl, ix_fk, ix_ft, ix_str, ix_ref, sl_tup, sl_fl, sl_str, l_fl, l_ref, rv_append, rv_extend, rv_pop, rv_reverse, rv_get, rv_popD, rv_join, rv_split, rv_start, rv_lower, isL_ref, isD_ref, dk_fk, dk_ft, dk_ref, dt_ft, dt_fk, dt_ref, mt_append, mt_extend, mt_pop0, mt_pop, mt_popD, mt_reverse, mt_get, mt_join, mt_split, mt_start, mt_lower, seti_ref, asg_nm, asg_tup, asg_fl, asgs_nil, asgs_cons, wipe_nil, wipe_cons, lay_fl, lay_fk, lay_ft, c2]
  obtain ⟨o0, hp0, po0⟩ := hp
  obtain ⟨done, h2, eL, ⟨left, o2, rfl, i2, i3⟩, hlen⟩ := lcL_inv (g := enc) (e := enc) (xs := ri (min s m).toNat) (done := []) (acc := ([] : List Int)) (h := h ++ [.lst ((ri m.toNat).map enc)])
    (step := stepV (CV (n + 1)) [4] (.bm .pop (.var 3) (.cons (.call "_law_take" (.cons (.var 0) (.cons (.blt .len (.cons (.var 3) .nil)) .nil))) .nil)) (.nm 4) .none [some (.ref p), some (.int m), some (.int s), some (.ref h.length), none])
    (Inv := fun acc h' => ∃ left o, h' = h.set p o ++ [.lst (left.map enc)] ∧ (acc ++ left).Perm (ri m.toNat) ∧ PoolO o) (by
      rintro d x r acc h' hd ha ⟨left, o, rfl, i2, i3⟩
      have hd2 := congrArg List.length hd
      have hlen := i2.length_eq
      simp only [List.nil_append, List.length_append, List.length_cons, ri_len] at hd2 hlen
      have hlp : (h.set p o).length = h.length := by simp
      obtain ⟨k, o', e, k0, k1, p'⟩ := f_take n (h.set p o ++ [.lst (left.map enc)]) p (left.length : Int) (Pool.app (Pool.set hpl i3)) (by omega) (by omega)
      have hk : k.toNat < left.length := by omega
      rw [set_app (by simpa using hpl), List.set_set] at e
      have g1 : (h.set p o ++ [Ob.lst (left.map enc)])[h.length]? = some (.lst (left.map enc)) := by rw [← hlp]; exact get_end
      have g2 : (h.set p o' ++ [Ob.lst (left.map enc)])[h.length]? = some (.lst (left.map enc)) := by
        have : (h.set p o').length = h.length := by simp
        rw [← this]; exact get_end
      have g3 : ∀ x, (h.set p o' ++ [Ob.lst (left.map enc)]).set h.length x = h.set p o' ++ [x] := fun x => by
        have : (h.set p o').length = h.length := by simp
        rw [← this]; exact set_end
      have i1 := ixN_ok (len := left.length) k0 k1
      have kk : k.natAbs < 4611686018427387904 := by omega
      refine ⟨left[k.toNat], _, ?_, left.eraseIdx k.toNat, o', rfl, ?_, p'⟩
      · simp [stepV, enc_int, Fs.lim, exSs, exS, evE, evEs, evT, evO, evC, evI, isi, Fs.isTn, fresh, bind_ok, bind_ex, of_some, sb_ok, sb_ex, sq_nx, sq_rt, sq_ex, ret_rt, ret_nx, ret_ex, resO_some, bop_add, add_int, add_str, add_tup, add_fl, bop_sub, bop_mul, bop_mulL, bop_fdiv, bop_mod, bop_pow, cop_eq, cop_ne, eq_int, eq_str, eq_bl, cop_lt, lt_int, cop_gt, cop_le, cop_ge, cop_in, cop_nin, cop_is, cop_isn, is_non, is_bl, in_fk, in_ft, in_ref, in_fl, in_tu, non_non, non_bl, non_int, non_str, non_tup, non_fl, non_ref, key_int, key_str, tru_bl, tru_int, tru_non, tru_tup, tru_fl, tru_str, ty_non, ty_bl, ty_int, ty_str, ty_tup, ty_fl, ty_fk, ty_ref, blt_len, blt_list, blt_tuple, blt_sorted, blt_sum, blt_all, blt_any, blt_int, blt_str, blt_max, blt_min, blt_dict, len_tup, len_fl, len_fk, len_ft, len_str, len_ref, list_tup, list_fl, list_ref, tuple_fl, tuple_tup, sorted_fl, sum_fl, all_fl, any_fl, int_int, int_bl, int_str, str_int, ix_tup, ix_fl, ix_fk, ix_ft, ix_str, ix_ref, sl_tup, sl_fl, sl_str, l_fl, l_ref, rv_append, rv_extend, rv_pop, rv_reverse, rv_get, rv_popD, rv_join, rv_split, rv_start, rv_lower, isL_ref, isD_ref, dk_fk, dk_ft, dk_ref, dt_ft, dt_fk, dt_ref, mt_append, mt_extend, mt_pop0, mt_pop, mt_popD, mt_reverse, mt_get, mt_join, mt_split, mt_start, mt_lower, seti_ref, asg_nm, asg_tup, asg_fl, asgs_nil, asgs_cons, wipe_nil, wipe_cons, lay_fl, lay_fk, lay_ft, g1, e, popM, g2, i1, map_erase, kk, List.getElem?_eq_getElem hk, g3]
      · rw [List.append_assoc]
        exact (List.Perm.append_left acc (erase_perm hk)).trans i2) rfl ⟨ri m.toNat, o0, by rw [set_id hp0], by simp, po0⟩
  have hc : evE (CV (n + 1)) c_law_some_0 [some (.ref p), some (.int m), some (.int s), some (.ref h.length), none] (h ++ [.lst ((ri m.toNat).map enc)]) = .ok (lsW done) (h.set p o2 ++ [.lst (left.map enc)]) :=
    lc_ok (eI _) (by simp [ri_len, Fs.lim]; omega) eL
  have so := sort_ints (h := h.set p o2 ++ [.lst (left.map enc)]) done (by rw [hlen, ri_len]; simp [Fs.lim]; omega)
  have hnd : (done ++ left).Nodup := i2.nodup_iff.mpr (ri_nodup _)
  refine ⟨done.mergeSort fun a b => decide (a ≤ b), o2, ?_, ⟨sorted_strict (List.nodup_append.mp hnd).1, fun x hx => ?_⟩, ?_, i3⟩
  · rw [call1 (d := p_law_some) (by kernel_rfl) (by kernel_rfl) rfl]
    show cutV 1 h (retOf (exSs (CV (n + 1)) (.cons s_law_some_0 (.cons s_law_some_1 .nil)) [some (.ref p), some (.int m), some (.int s), none, none] h)) = _
    have e1 : exS (CV (n + 1)) s_law_some_1 [some (.ref p), some (.int m), some (.int s), some (.ref h.length), none] (h ++ [.lst ((ri m.toNat).map enc)]) = .rt (tupW (done.mergeSort fun a b => decide (a ≤ b))) (h.set p o2 ++ [.lst (left.map enc)]) := by
      have e2 : sortedV (h.set p o2 ++ [.lst (left.map enc)]) (lsW done) = some (.fl ((done.mergeSort fun a b => decide (a ≤ b)).map enc)) := by
        unfold sortedV lsW
        simp only [lstOf, Option.bind_some, so, Option.map_some]
      simp [s_law_some_1, Fs.lim, exSs, exS, evE, evEs, evT, evO, evC, evI, isi, Fs.isTn, fresh, bind_ok, bind_ex, of_some, sb_ok, sb_ex, sq_nx, sq_rt, sq_ex, ret_rt, ret_nx, ret_ex, resO_some, bop_add, add_int, add_str, add_tup, add_fl, bop_sub, bop_mul, bop_mulL, bop_fdiv, bop_mod, bop_pow, cop_eq, cop_ne, eq_int, eq_str, eq_bl, cop_lt, lt_int, cop_gt, cop_le, cop_ge, cop_in, cop_nin, cop_is, cop_isn, is_non, is_bl, in_fk, in_ft, in_ref, in_fl, in_tu, non_non, non_bl, non_int, non_str, non_tup, non_fl, non_ref, key_int, key_str, tru_bl, tru_int, tru_non, tru_tup, tru_fl, tru_str, ty_non, ty_bl, ty_int, ty_str, ty_tup, ty_fl, ty_fk, ty_ref, blt_len, blt_list, blt_tuple, blt_sorted, blt_sum, blt_all, blt_any, blt_int, blt_str, blt_max, blt_min, blt_dict, len_tup, len_fl, len_fk, len_ft, len_str, len_ref, list_tup, list_fl, list_ref, tuple_fl, tuple_tup, sorted_fl, sum_fl, all_fl, any_fl, int_int, int_bl, int_str, str_int, ix_tup, ix_fl, ix_fk, ix_ft, ix_str, ix_ref, sl_tup, sl_fl, sl_str, l_fl, l_ref, rv_append, rv_extend, rv_pop, rv_reverse, rv_get, rv_popD, rv_join, rv_split, rv_start, rv_lower, isL_ref, isD_ref, dk_fk, dk_ft, dk_ref, dt_ft, dt_fk, dt_ref, mt_append, mt_extend, mt_pop0, mt_pop, mt_popD, mt_reverse, mt_get, mt_join, mt_split, mt_start, mt_lower, seti_ref, asg_nm, asg_tup, asg_fl, asgs_nil, asgs_cons, wipe_nil, wipe_cons, lay_fl, lay_fk, lay_ft, hc, e2, tupleV]
      rfl
    rw [show exSs (CV (n + 1)) (.cons s_law_some_0 (.cons s_law_some_1 .nil)) [some (.ref p), some (.int m), some (.int s), none, none] h = .rt (tupW (done.mergeSort fun a b => decide (a ≤ b))) (h.set p o2 ++ [.lst (left.map enc)]) by
      simp only [exSs, e0, SRes.sq, e1]]
    exact cut1_set i3.clean (frz_clean 12 (Enc.cl_enc _ 12 (Tup.mk (done.mergeSort fun a b => decide (a ≤ b))) (by decide)))
  · have := i2.mem_iff.mp (List.mem_append_left left ((List.mergeSort_perm _ _).mem_iff.mp hx))
    have := ri_mem.mp this
    omega
  · rw [List.length_mergeSort, hlen, ri_len]
    omega
end Fw
set_option Elab.async false
set_option linter.all false
set_option maxRecDepth 100000
set_option maxHeartbeats 4000000
namespace Fw
open Enc (enc)
open PySem L2
open PySem.W (Datum DatumOrd Tup)
open Fs (lim keyOf keysOf kVal look put drp setF Bop Cop Ty Tn isTn cut Blt Mt Tg E Es Oe I S Ss Def)
open Ast
theorem f_worth (n : Nat) (h : Hep) (p : Nat) (hp : Pool h p) : ∃ w o, CV (n + 2) "_law_worth" [.ref p] h = .ok (.int w) (h.set p o) ∧ PoolO o := by
  have hpl := hp.lt
  obtain ⟨r1, o1, e1, a1, b1, p1⟩ := f_take n h p 3 hp (by decide) (by decide)
  obtain ⟨r2, o2, e2, a2, b2, p2⟩ := f_take n (h.set p o1) p 21 (Pool.set hpl p1) (by decide) (by decide)
  rw [List.set_set] at e2
  obtain ⟨r3, o3, e3, a3, b3, p3⟩ := f_take n (h.set p o2) p 1000000000000000000 (Pool.set hpl p2) (by decide) (by decide)
  rw [List.set_set] at e3
  obtain ⟨r4, o4, e4, a4, b4, p4⟩ := f_take n (h.set p o3) p 3 (Pool.set hpl p3) (by decide) (by decide)
  rw [List.set_set] at e4
  have hr : r4 = 0 ∨ r4 = 1 ∨ r4 = 2 := by omega
  have key : ∀ w, L2.atI [W.int r1, .int (r2 - 10), .int (r3 - 500000000000000000)] r4 = some (.int w) → CV (n + 2) "_law_worth" [.ref p] h = .ok (.int w) (h.set p o4) := by
    intro w hw
    rw [call0 (d := p_law_worth) (by kernel_rfl) (by kernel_rfl) rfl]
    have l1 : Nat.log2 5 + Nat.log2 100000000000000000 < 4000000 := by
      have k1 : Nat.log2 5 < 64 := (Nat.log2_lt (by decide)).mpr (by decide)
      have k2 : Nat.log2 100000000000000000 < 64 := (Nat.log2_lt (by decide)).mpr (by decide)
      omega
    simp [Ast.s_law_worth_0, Ast.p_law_worth, Fs.lim, exSs, exS, evE, evEs, evT, evO, evC, evI, isi, Fs.isTn, fresh, bind_ok, bind_ex, of_some, sb_ok, sb_ex, sq_nx, sq_rt, sq_ex, ret_rt, ret_nx, ret_ex, resO_some, bop_add, add_int, add_str, add_tup, add_fl, bop_sub, bop_mul, bop_mulL, bop_fdiv, bop_mod, bop_pow, cop_eq, cop_ne, eq_int, eq_str, eq_bl, cop_lt, lt_int, cop_gt, cop_le, cop_ge, cop_in, cop_nin, cop_is, cop_isn, is_non, is_bl, in_fk, in_ft, in_ref, in_fl, in_tu, non_non, non_bl, non_int, non_str, non_tup, non_fl, non_ref, key_int, key_str, tru_bl, tru_int, tru_non, tru_tup, tru_fl, tru_str, ty_non, ty_bl, ty_int, ty_str, ty_tup, ty_fl, ty_fk, ty_ref, blt_len, blt_list, blt_tuple, blt_sorted, blt_sum, blt_all, blt_any, blt_int, blt_str, blt_max, blt_min, blt_dict, len_tup, len_fl, len_fk, len_ft, len_str, len_ref, list_tup, list_fl, list_ref, tuple_fl, tuple_tup, sorted_fl, sum_fl, all_fl, any_fl, int_int, int_bl, int_str, str_int, ix_tup, ix_fl, ix_fk, ix_ft, ix_str, ix_ref, sl_tup, sl_fl, sl_str, l_fl, l_ref, rv_append, rv_extend, rv_pop, rv_reverse, rv_get, rv_popD, rv_join, rv_split, rv_start, rv_lower, isL_ref, isD_ref, dk_fk, dk_ft, dk_ref, dt_ft, dt_fk, dt_ref, mt_append, mt_extend, mt_pop0, mt_pop, mt_popD, mt_reverse, mt_get, mt_join, mt_split, mt_start, mt_lower, seti_ref, asg_nm, asg_tup, asg_fl, asgs_nil, asgs_cons, wipe_nil, wipe_cons, lay_fl, lay_fk, lay_ft, e1, e2, e3, e4, l1, hw]
  rcases hr with rfl | rfl | rfl
  · exact ⟨r1, o4, key _ rfl, p4⟩
  · exact ⟨r2 - 10, o4, key _ rfl, p4⟩
  · exact ⟨r3 - 500000000000000000, o4, key _ rfl, p4⟩
/-! ### families -/
abbrev Fam := List (List Int × Int)
/-- lots with worths, as data -/
def fd (f : Fam) : List (Tup Int × Int) := f.map fun q => (⟨q.1⟩, q.2)
def famW (f : Fam) : W := lsW (fd f)
def IsFam (m s : Int) (f : Fam) : Prop := (∀ q ∈ f, Rising m q.1 ∧ (q.1.length : Int) = s ∧ q.2.natAbs < 10 ^ 20) ∧ (f.map (·.1)).Nodup
def kLot (lot : List Int) : List L2.Key := lot.map Sum.inl
def kvsF (f : Fam) : List (List L2.Key × W) := f.map fun q => (kLot q.1, .int q.2)
theorem keys_lot (lot : List Int) : keysW (tupW lot) = some (kLot lot) := by
  unfold keysW tupW kLot
  exact mapM_map fun x _ => rfl
theorem kLot_inj {a b : List Int} (h : kLot a = kLot b) : a = b := List.map_inj_right (fun x y e => by simpa using e) |>.mp h
def putFm (f : Fam) (lot : List Int) (w : Int) : Fam := if (f.any fun q => decide (q.1 = lot)) = true then f.map fun q => if q.1 = lot then (q.1, w) else q else f ++ [(lot, w)]
theorem any_kvs (f : Fam) (lot : List Int) : ((kvsF f).any fun kv => decide (kv.1 = kLot lot)) = f.any fun q => decide (q.1 = lot) := by
  unfold kvsF
  rw [List.any_map]
  congr 1
  funext q
  by_cases h : q.1 = lot
  · simp [h]
  · have : kLot q.1 ≠ kLot lot := fun e => h (kLot_inj e)
    simp [h, this]
theorem put_kvs (f : Fam) (lot : List Int) (w : Int) : put (kvsF f) (kLot lot) (.int w) = kvsF (putFm f lot w) := by
  unfold Fs.put putFm
  rw [any_kvs]
  split
  · unfold kvsF
    rw [List.map_map, List.map_map]
    congr 1
    funext q
    simp only [Function.comp]
    by_cases h : q.1 = lot
    · rw [if_pos (by rw [h]), if_pos h]
    · rw [if_neg (fun e => h (kLot_inj e)), if_neg h]
  · unfold kvsF
    rw [List.map_append]
    rfl
theorem putFm_keys (f : Fam) (lot : List Int) (w : Int) : (putFm f lot w).map (·.1) = if (f.any fun q => decide (q.1 = lot)) = true then f.map (·.1) else f.map (·.1) ++ [lot] := by
  unfold putFm
  split
  · rw [List.map_map]
    congr 1
    funext q
    simp only [Function.comp]
    split <;> rfl
  · simp
theorem putFm_fam {m s : Int} {f : Fam} {lot : List Int} {w : Int} (hf : IsFam m s f) (hl : Rising m lot) (hs : (lot.length : Int) = s) (hw : w.natAbs < 10 ^ 20) : IsFam m s (putFm f lot w) ∧ (putFm f lot w).length ≤ f.length + 1 := by
  refine ⟨⟨fun q hq => ?_, ?_⟩, ?_⟩
  · unfold putFm at hq
    split at hq
    · obtain ⟨q', hq', rfl⟩ := List.mem_map.mp hq
      obtain ⟨h1, h2, h3⟩ := hf.1 q' hq'
      split
      · exact ⟨h1, h2, hw⟩
      · exact ⟨h1, h2, h3⟩
    · rcases List.mem_append.mp hq with h | h
      · exact hf.1 q h
      · have : q = (lot, w) := by simpa using h
        subst this
        exact ⟨hl, hs, hw⟩
  · rw [putFm_keys]
    split
    · exact hf.2
    · rename_i hn
      rw [List.nodup_append]
      refine ⟨hf.2, by simp, fun a ha b hb e => ?_⟩
      have hb' : b = lot := by simpa using hb
      subst e
      subst hb'
      obtain ⟨q, hq, rfl⟩ := List.mem_map.mp ha
      exact hn (List.any_eq_true.mpr ⟨q, hq, by simp⟩)
  · unfold putFm
    split <;> simp
theorem look_kvs {f : Fam} (nd : (f.map (·.1)).Nodup) {q : List Int × Int} (hq : q ∈ f) : look (kvsF f) (kLot q.1) = some (.int q.2) := by
  induction f with
  | nil => cases hq
  | cons a r ih =>
    rw [List.map_cons, List.nodup_cons] at nd
    unfold Fs.look kvsF at ih ⊢
    rw [List.map_cons, List.find?_cons]
    rcases List.mem_cons.mp hq with rfl | hr
    · simp
    · have hne : a.1 ≠ q.1 := fun e => nd.1 (e ▸ List.mem_map_of_mem hr)
      have : kLot a.1 ≠ kLot q.1 := fun e => hne (kLot_inj e)
      simp only [this, decide_false]
      exact ih nd.2 hr
theorem kW_lot (lot : List Int) : (kLot lot).map kW = lot.map enc := by
  unfold kLot
  rw [List.map_map]
  rfl
theorem tkeys_F (f : Fam) : tkeys (kvsF f) = f.map fun q => tupW q.1 := by
  unfold tkeys kvsF
  rw [List.map_map]
  apply List.map_congr_left
  intro q _
  simp only [Function.comp, kW_lot]
  rfl
theorem kvsF_len (f : Fam) : (kvsF f).length = f.length := by simp [kvsF]
end Fw
set_option Elab.async false
set_option linter.all false
set_option maxRecDepth 100000
set_option maxHeartbeats 4000000
namespace Fw
open Enc (enc)
open PySem L2
open PySem.W (Datum DatumOrd Tup)
open Fs (lim keyOf keysOf kVal look put drp setF Bop Cop Ty Tn isTn cut Blt Mt Tg E Es Oe I S Ss Def)
open Ast
theorem lots_in (n : Nat) (h : Hep) (junk : List Ob) (s0 : W) (m s : Int) (p : Nat) (hp : p = h.length + (junk.length + 1)) (hm : 0 ≤ m ∧ m ≤ 1000) (hs : 0 ≤ s ∧ s ≤ m) (f : Fam) (o : Ob) (po : PoolO o) (hf : IsFam m s f) (hl : f.length ≤ 1000) :
    ∃ f' o', forL (fstepV (CV (n + 3)) (.nm 6) b_law_lots_0) ((ri 3).map enc) [some s0, some (.int m), some (.int s), some (.ref h.length), none, some (.ref p), none, none] (h ++ .dT false (kvsF f) :: junk ++ [o]) =
      .nx [some s0, some (.int m), some (.int s), some (.ref h.length), none, some (.ref p), none, none] (h ++ .dT false (kvsF f') :: junk ++ [o']) ∧ PoolO o' ∧ IsFam m s f' ∧ f'.length ≤ f.length + 3 := by
  have lp : ∀ x, (h ++ x :: junk).length = p := fun x => by simp [hp]
  have gp : ∀ x o, (h ++ x :: junk ++ [o])[p]? = some o := fun x o => by rw [← lp x]; exact get_end
  have sp : ∀ x o o', (h ++ x :: junk ++ [o]).set p o' = h ++ x :: junk ++ [o'] := fun x o o' => by rw [← lp x]; exact set_end
  have lt : ∀ x, h.length < (h ++ x :: junk).length := fun x => by simp
  have gD : ∀ x o, (h ++ x :: junk ++ [o])[h.length]? = some x := fun x o => by rw [get_app (lt x)]; exact get_end
  have sD : ∀ x y o, (h ++ x :: junk ++ [o]).set h.length y = h ++ y :: junk ++ [o] := fun x y o => by rw [set_app (lt x), set_end]
  obtain ⟨σ2, h2, e2, f', o', rfl, rfl, q1, q2, q3⟩ := forL_inv (g := (enc : Int → W)) (xs := ri 3) (done := []) (σ := [some s0, some (.int m), some (.int s), some (.ref h.length), none, some (.ref p), none, none]) (h := h ++ .dT false (kvsF f) :: junk ++ [o])
    (step := fstepV (CV (n + 3)) (.nm 6) b_law_lots_0)
    (Inv := fun d σ h' => ∃ f' o', σ = [some s0, some (.int m), some (.int s), some (.ref h.length), none, some (.ref p), none, none] ∧ h' = h ++ .dT false (kvsF f') :: junk ++ [o'] ∧ PoolO o' ∧ IsFam m s f' ∧ f'.length ≤ f.length + d.length) (by
      rintro d x rr σ h' hd ⟨f1, o1, rfl, rfl, i1, i2, i3⟩
      have hd2 := congrArg List.length hd
      simp only [List.nil_append, List.length_append, List.length_cons, ri_len] at hd2
      obtain ⟨w, o2, e2, p2⟩ := f_worth (n + 1) (h ++ .dT false (kvsF f1) :: junk ++ [o1]) p ⟨o1, gp _ _, i1⟩
      rw [sp] at e2
      obtain ⟨lot, o3, e3, k1, k2, p3⟩ := f_some (n + 1) (h ++ .dT false (kvsF f1) :: junk ++ [o2]) p m s ⟨o2, gp _ _, p2⟩ hm ⟨hs.1, by omega⟩
      rw [sp] at e3
      have kl := keys_lot lot
      generalize tupW lot = L at e3 kl
      have w0 : 0 ≤ w % 1000 := Int.emod_nonneg _ (by decide)
      have w1 : w % 1000 < 1000 := Int.emod_lt_of_pos _ (by decide)
      obtain ⟨f1', f2'⟩ := putFm_fam (w := w % 1000) i2 k1 (by omega) (by omega)
      have c2 : (kvsF f1).length < 16777216 := by rw [kvsF_len]; omega
      have pk := put_kvs f1 lot (w % 1000)
      refine ⟨_, _, ?_, putFm f1 lot (w % 1000), o3, rfl, rfl, p3, f1', by simp; omega⟩
      have g := gD (.dT false (kvsF f1)) o3
      have s' := sD (.dT false (kvsF f1)) (.dT false (kvsF (putFm f1 lot (w % 1000)))) o3
      simp only [List.append_assoc, List.cons_append] at g s' e2 e3
      simp [fstepV, enc_int, Ast.s_law_lots_0, Ast.s_law_lots_1, Ast.s_law_lots_2, Ast.s_law_lots_3, Ast.s_law_lots_4, Ast.b_law_lots_0, Ast.s_law_lots_5, Ast.s_law_lots_6, Ast.b_law_lots_1, Ast.s_law_lots_7, Ast.s_law_lots_8, Ast.p_law_lots, Fs.lim, exSs, exS, evE, evEs, evT, evO, evC, evI, isi, Fs.isTn, fresh, bind_ok, bind_ex, of_some, sb_ok, sb_ex, sq_nx, sq_rt, sq_ex, ret_rt, ret_nx, ret_ex, resO_some, bop_add, add_int, add_str, add_tup, add_fl, bop_sub, bop_mul, bop_mulL, bop_fdiv, bop_mod, bop_pow, cop_eq, cop_ne, eq_int, eq_str, eq_bl, cop_lt, lt_int, cop_gt, cop_le, cop_ge, cop_in, cop_nin, cop_is, cop_isn, is_non, is_bl, in_fk, in_ft, in_ref, in_fl, in_tu, non_non, non_bl, non_int, non_str, non_tup, non_fl, non_ref, key_int, key_str, tru_bl, tru_int, tru_non, tru_tup, tru_fl, tru_str, ty_non, ty_bl, ty_int, ty_str, ty_tup, ty_fl, ty_fk, ty_ref, blt_len, blt_list, blt_tuple, blt_sorted, blt_sum, blt_all, blt_any, blt_int, blt_str, blt_max, blt_min, blt_dict, len_tup, len_fl, len_fk, len_ft, len_str, len_ref, list_tup, list_fl, list_ref, tuple_fl, tuple_tup, sorted_fl, sum_fl, all_fl, any_fl, int_int, int_bl, int_str, str_int, ix_tup, ix_fl, ix_fk, ix_ft, ix_str, ix_ref, sl_tup, sl_fl, sl_str, l_fl, l_ref, rv_append, rv_extend, rv_pop, rv_reverse, rv_get, rv_popD, rv_join, rv_split, rv_start, rv_lower, isL_ref, isD_ref, dk_fk, dk_ft, dk_ref, dt_ft, dt_fk, dt_ref, mt_append, mt_extend, mt_pop0, mt_pop, mt_popD, mt_reverse, mt_get, mt_join, mt_split, mt_start, mt_lower, seti_ref, asg_nm, asg_tup, asg_fl, asgs_nil, asgs_cons, wipe_nil, wipe_cons, lay_fl, lay_fk, lay_ft, e2, e3, g, kl, c2, pk, s']) ⟨f, o, rfl, rfl, po, hf, Nat.le_refl _⟩
  refine ⟨f', o', e2, q1, q2, ?_⟩
  rw [List.nil_append, ri_len] at q3
  exact q3
theorem f_lots (n : Nat) (h : Hep) (ns : List Int) (m s : Int) (h0 : h[0]? = some (.ro (ns.map W.int))) (hn : ns.length ≤ 63) (hb : ∀ z ∈ ns, Builtin.Int.intBits z ≤ 1048576) (hm : 0 ≤ m ∧ m ≤ 1000) (hs : 0 ≤ s ∧ s ≤ m) :
    ∃ f, CV (n + 4) "_law_lots" [.ref 0, .int m, .int s] h = .ok (famW f) h ∧ IsFam m s f ∧ f.length ≤ 186 := by
  have hpos : 0 < h.length := (List.getElem?_eq_some_iff.mp h0).1
  have e0 : exS (CV (n + 3)) s_law_lots_0 [some (.ref 0), some (.int m), some (.int s), none, none, none, none, none] h = .nx [some (.ref 0), some (.int m), some (.int s), some (.ref h.length), none, none, none, none] (h ++ [.dT false (kvsF [])]) := by
    simp [s_law_lots_0, Fs.lim, exSs, exS, evE, evEs, evT, evO, evC, evI, isi, Fs.isTn, fresh, bind_ok, bind_ex, of_some, sb_ok, sb_ex, sq_nx, sq_rt, sq_ex, ret_rt, ret_nx, ret_ex, resO_some, bop_add, add_int, add_str, add_tup, add_fl, bop_sub, bop_mul, bop_mulL, bop_fdiv, bop_mod, bop_pow, cop_eq, cop_ne, eq_int, eq_str, eq_bl, cop_lt, lt_int, cop_gt, cop_le, cop_ge, cop_in, cop_nin, cop_is, cop_isn, is_non, is_bl, in_fk, in_ft, in_ref, in_fl, in_tu, non_non, non_bl, non_int, non_str, non_tup, non_fl, non_ref, key_int, key_str, tru_bl, tru_int, tru_non, tru_tup, tru_fl, tru_str, ty_non, ty_bl, ty_int, ty_str, ty_tup, ty_fl, ty_fk, ty_ref, blt_len, blt_list, blt_tuple, blt_sorted, blt_sum, blt_all, blt_any, blt_int, blt_str, blt_max, blt_min, blt_dict, len_tup, len_fl, len_fk, len_ft, len_str, len_ref, list_tup, list_fl, list_ref, tuple_fl, tuple_tup, sorted_fl, sum_fl, all_fl, any_fl, int_int, int_bl, int_str, str_int, ix_tup, ix_fl, ix_fk, ix_ft, ix_str, ix_ref, sl_tup, sl_fl, sl_str, l_fl, l_ref, rv_append, rv_extend, rv_pop, rv_reverse, rv_get, rv_popD, rv_join, rv_split, rv_start, rv_lower, isL_ref, isD_ref, dk_fk, dk_ft, dk_ref, dt_ft, dt_fk, dt_ref, mt_append, mt_extend, mt_pop0, mt_pop, mt_popD, mt_reverse, mt_get, mt_join, mt_split, mt_start, mt_lower, seti_ref, asg_nm, asg_tup, asg_fl, asgs_nil, asgs_cons, wipe_nil, wipe_cons, lay_fl, lay_fk, lay_ft, kvsF]
  have hz : ∀ r, (h ++ r)[0]? = some (.ro (ns.map W.int)) := fun r => by rw [get_app hpos]; exact h0
  have ln : ∀ r, lenV (h ++ r) (.ref 0) = some (.int ns.length) := fun r => by simp [lenV, hz]
  have eI : evI (CV (n + 3)) (.rng (.cons (.int 1) (.cons (.blt .min (.cons (.blt .len (.cons (.var 0) .nil)) (.cons (.int 63) .nil))) .nil))) [some (.ref 0), some (.int m), some (.int s), some (.ref h.length), none, none, none, none] (h ++ [.dT false (kvsF [])]) = .ok (.fix (((ri (ns.length - 1)).map fun i => 1 + i).map enc), .no) (h ++ [.dT false (kvsF [])]) := by
    have e2 : (if (63 : Int) < (ns.length : Int) then (63 : Int) else (ns.length : Int)) = (ns.length : Int) := by rw [if_neg (by omega)]
    have := i_rng (F := CV (n + 3)) (es := (.cons (.int 1) (.cons (.blt .min (.cons (.blt .len (.cons (.var 0) .nil)) (.cons (.int 63) .nil))) .nil))) (σ := [some (.ref 0), some (.int m), some (.int s), some (.ref h.length), none, none, none, none]) (h := h ++ [.dT false (kvsF [])]) (h1 := h ++ [.dT false (kvsF [])]) (ns := [.int 1, .int (ns.length : Int)]) (by simp only [Fs.lim, exSs, exS, evE, evEs, evT, evO, evC, evI, isi, Fs.isTn, fresh, bind_ok, bind_ex, of_some, sb_ok, sb_ex, sq_nx, sq_rt, sq_ex, ret_rt, ret_nx, ret_ex, resO_some, bop_add, add_int, add_str, add_tup, add_fl, bop_sub, bop_mul, bop_mulL, bop_fdiv, bop_mod, bop_pow, cop_eq, cop_ne, eq_int, eq_str, eq_bl, cop_lt, lt_int, cop_gt, cop_le, cop_ge, cop_in, cop_nin, cop_is, cop_isn, is_non, is_bl, in_fk, in_ft, in_ref, in_fl, in_tu, non_non, non_bl, non_int, non_str, non_tup, non_fl, non_ref, key_int, key_str, tru_bl, tru_int, tru_non, tru_tup, tru_fl, tru_str, ty_non, ty_bl, ty_int, ty_str, ty_tup, ty_fl, ty_fk, ty_ref, blt_len, blt_list, blt_tuple, blt_sorted, blt_sum, blt_all, blt_any, blt_int, blt_str, blt_max, blt_min, blt_dict, len_tup, len_fl, len_fk, len_ft, len_str, len_ref, list_tup, list_fl, list_ref, tuple_fl, tuple_tup, sorted_fl, sum_fl, all_fl, any_fl, int_int, int_bl, int_str, str_int, ix_tup, ix_fl, ix_fk, ix_ft, ix_str, ix_ref, sl_tup, sl_fl, sl_str, l_fl, l_ref, rv_append, rv_extend, rv_pop, rv_reverse, rv_get, rv_popD, rv_join, rv_split, rv_start, rv_lower, isL_ref, isD_ref, dk_fk, dk_ft, dk_ref, dt_ft, dt_fk, dt_ref, mt_append, mt_extend, mt_pop0, mt_pop, mt_popD, mt_reverse, mt_get, mt_join, mt_split, mt_start, mt_lower, seti_ref, asg_nm, asg_tup, asg_fl, asgs_nil, asgs_cons, wipe_nil, wipe_cons, lay_fl, lay_fk, lay_ft, List.getElem?_cons_zero, hz, List.length_map, e2]) (rng2' (a := 1) (b := (ns.length : Int)) ⟨by decide, by omega⟩)
    rw [this]
    have : ((ns.length : Int) - 1).toNat = ns.length - 1 := by omega
    rw [this]
  obtain ⟨σ2, h2, e2, f, junk, rfl, rfl, q1, q2⟩ := forL_inv (g := (enc : Int → W)) (xs := (ri (ns.length - 1)).map fun i => 1 + i) (done := []) (σ := [some (.ref 0), some (.int m), some (.int s), some (.ref h.length), none, none, none, none]) (h := h ++ [.dT false (kvsF [])])
    (step := fstepV (CV (n + 3)) (.nm 4) b_law_lots_1)
    (Inv := fun d σ h' => ∃ f junk, σ = [some (.ref 0), some (.int m), some (.int s), some (.ref h.length), none, none, none, none] ∧ h' = h ++ .dT false (kvsF f) :: junk ∧ IsFam m s f ∧ f.length ≤ 3 * d.length) (by
      rintro d x rr σ h' hd ⟨f1, junk, rfl, rfl, i1, i2⟩
      have hx : x ∈ (ri (ns.length - 1)).map fun i => 1 + i := by rw [show (ri (ns.length - 1)).map (fun i => 1 + i) = d ++ x :: rr from hd]; simp
      have hd2 := congrArg List.length hd
      simp only [List.nil_append, List.length_append, List.length_cons, List.length_map, ri_len] at hd2
      obtain ⟨y, hy, rfl⟩ := List.mem_map.mp hx
      have hy' := ri_mem.mp hy
      obtain ⟨k, rfl⟩ := Int.eq_ofNat_of_zero_le hy'.1
      obtain ⟨o, e1, p1⟩ := f_pool (n + 2) (h ++ .dT false (kvsF f1) :: junk) ns (1 + k) (hz _) hb (by omega)
      have hp : (h ++ Ob.dT false (kvsF f1) :: junk).length = h.length + (junk.length + 1) := by simp
      rw [hp] at e1
      obtain ⟨f2, o2, e2, p2, j1, j2⟩ := lots_in n h junk (.ref 0) m s _ rfl hm hs f1 o p1 i1 (by omega)
      have lo : exS (CV (n + 3)) s_law_lots_5 [some (.ref 0), some (.int m), some (.int s), some (.ref h.length), none, some (.ref (h.length + (junk.length + 1))), none, none] (h ++ .dT false (kvsF f1) :: junk ++ [o]) = _ := (for_ok (i_rng (ns := [.int 3]) (by simp [Fs.lim, exSs, exS, evE, evEs, evT, evO, evC, evI, isi, Fs.isTn, fresh, bind_ok, bind_ex, of_some, sb_ok, sb_ex, sq_nx, sq_rt, sq_ex, ret_rt, ret_nx, ret_ex, resO_some, bop_add, add_int, add_str, add_tup, add_fl, bop_sub, bop_mul, bop_mulL, bop_fdiv, bop_mod, bop_pow, cop_eq, cop_ne, eq_int, eq_str, eq_bl, cop_lt, lt_int, cop_gt, cop_le, cop_ge, cop_in, cop_nin, cop_is, cop_isn, is_non, is_bl, in_fk, in_ft, in_ref, in_fl, in_tu, non_non, non_bl, non_int, non_str, non_tup, non_fl, non_ref, key_int, key_str, tru_bl, tru_int, tru_non, tru_tup, tru_fl, tru_str, ty_non, ty_bl, ty_int, ty_str, ty_tup, ty_fl, ty_fk, ty_ref, blt_len, blt_list, blt_tuple, blt_sorted, blt_sum, blt_all, blt_any, blt_int, blt_str, blt_max, blt_min, blt_dict, len_tup, len_fl, len_fk, len_ft, len_str, len_ref, list_tup, list_fl, list_ref, tuple_fl, tuple_tup, sorted_fl, sum_fl, all_fl, any_fl, int_int, int_bl, int_str, str_int, ix_tup, ix_fl, ix_fk, ix_ft, ix_str, ix_ref, sl_tup, sl_fl, sl_str, l_fl, l_ref, rv_append, rv_extend, rv_pop, rv_reverse, rv_get, rv_popD, rv_join, rv_split, rv_start, rv_lower, isL_ref, isD_ref, dk_fk, dk_ft, dk_ref, dt_ft, dt_fk, dt_ref, mt_append, mt_extend, mt_pop0, mt_pop, mt_popD, mt_reverse, mt_get, mt_join, mt_split, mt_start, mt_lower, seti_ref, asg_nm, asg_tup, asg_fl, asgs_nil, asgs_cons, wipe_nil, wipe_cons, lay_fl, lay_fk, lay_ft]) (rng1' (n := 3) (by decide)))).trans e2
      refine ⟨_, h ++ .dT false (kvsF f2) :: (junk ++ [o2]), ?_, f2, junk ++ [o2], rfl, rfl, j1, by simp; omega⟩
      simp only [List.append_assoc, List.cons_append] at lo e1
      have hc : ((1 + k : Nat) : Int) = 1 + (k : Int) := by omega
      rw [hc] at e1
      simp [fstepV, enc_int, Ast.s_law_lots_0, Ast.s_law_lots_1, Ast.s_law_lots_2, Ast.s_law_lots_3, Ast.s_law_lots_4, Ast.b_law_lots_0, Ast.s_law_lots_6, Ast.b_law_lots_1, Ast.s_law_lots_7, Ast.s_law_lots_8, Ast.p_law_lots, Fs.lim, exSs, exS, evE, evEs, evT, evO, evC, evI, isi, Fs.isTn, fresh, bind_ok, bind_ex, of_some, sb_ok, sb_ex, sq_nx, sq_rt, sq_ex, ret_rt, ret_nx, ret_ex, resO_some, bop_add, add_int, add_str, add_tup, add_fl, bop_sub, bop_mul, bop_mulL, bop_fdiv, bop_mod, bop_pow, cop_eq, cop_ne, eq_int, eq_str, eq_bl, cop_lt, lt_int, cop_gt, cop_le, cop_ge, cop_in, cop_nin, cop_is, cop_isn, is_non, is_bl, in_fk, in_ft, in_ref, in_fl, in_tu, non_non, non_bl, non_int, non_str, non_tup, non_fl, non_ref, key_int, key_str, tru_bl, tru_int, tru_non, tru_tup, tru_fl, tru_str, ty_non, ty_bl, ty_int, ty_str, ty_tup, ty_fl, ty_fk, ty_ref, blt_len, blt_list, blt_tuple, blt_sorted, blt_sum, blt_all, blt_any, blt_int, blt_str, blt_max, blt_min, blt_dict, len_tup, len_fl, len_fk, len_ft, len_str, len_ref, list_tup, list_fl, list_ref, tuple_fl, tuple_tup, sorted_fl, sum_fl, all_fl, any_fl, int_int, int_bl, int_str, str_int, ix_tup, ix_fl, ix_fk, ix_ft, ix_str, ix_ref, sl_tup, sl_fl, sl_str, l_fl, l_ref, rv_append, rv_extend, rv_pop, rv_reverse, rv_get, rv_popD, rv_join, rv_split, rv_start, rv_lower, isL_ref, isD_ref, dk_fk, dk_ft, dk_ref, dt_ft, dt_fk, dt_ref, mt_append, mt_extend, mt_pop0, mt_pop, mt_popD, mt_reverse, mt_get, mt_join, mt_split, mt_start, mt_lower, seti_ref, asg_nm, asg_tup, asg_fl, asgs_nil, asgs_cons, wipe_nil, wipe_cons, lay_fl, lay_fk, lay_ft, e1, lo]) ⟨[], [], rfl, rfl, ⟨fun q hq => (by cases hq), List.nodup_nil⟩, Nat.le_refl _⟩
  have hlen : f.length ≤ 186 := by
    rw [List.nil_append, List.length_map, ri_len] at q2
    omega
  have ef := (for_ok (tg := .nm 4) (b := b_law_lots_1) eI).trans e2
  have g1 : (h ++ Ob.dT false (kvsF f) :: junk)[h.length]? = some (.dT false (kvsF f)) := get_end
  have g3 : ∀ x y, (h ++ x :: junk).set h.length y = h ++ y :: junk := fun x y => set_end
  have g4 : ∀ x, (h ++ x :: junk)[h.length]? = some x := fun x => get_end
  have eL := lcL_map (g := fun q : List Int × Int => tupW q.1) (f := fun q => enc ((⟨q.1⟩ : Tup Int), q.2)) (xs := f) (h := (h ++ Ob.dT false (kvsF f) :: junk).set h.length (Ob.dT true (kvsF f)))
    (step := stepV (CV (n + 3)) [7] (.tup (.cons (.var 7) (.cons (.idx (.var 3) (.var 7)) .nil))) (.nm 7) .none [some (.ref 0), some (.int m), some (.int s), some (.ref h.length), none, none, none, none]) (by
      intro q hq
      rw [g3]
      have kl := keys_lot q.1
      have lk := look_kvs q1.2 hq
      show _ = Res.ok (some (W.tup [tupW q.1, .int q.2])) _
      generalize tupW q.1 = L at kl
      simp [stepV, Fs.lim, exSs, exS, evE, evEs, evT, evO, evC, evI, isi, Fs.isTn, fresh, bind_ok, bind_ex, of_some, sb_ok, sb_ex, sq_nx, sq_rt, sq_ex, ret_rt, ret_nx, ret_ex, resO_some, bop_add, add_int, add_str, add_tup, add_fl, bop_sub, bop_mul, bop_mulL, bop_fdiv, bop_mod, bop_pow, cop_eq, cop_ne, eq_int, eq_str, eq_bl, cop_lt, lt_int, cop_gt, cop_le, cop_ge, cop_in, cop_nin, cop_is, cop_isn, is_non, is_bl, in_fk, in_ft, in_ref, in_fl, in_tu, non_non, non_bl, non_int, non_str, non_tup, non_fl, non_ref, key_int, key_str, tru_bl, tru_int, tru_non, tru_tup, tru_fl, tru_str, ty_non, ty_bl, ty_int, ty_str, ty_tup, ty_fl, ty_fk, ty_ref, blt_len, blt_list, blt_tuple, blt_sorted, blt_sum, blt_all, blt_any, blt_int, blt_str, blt_max, blt_min, blt_dict, len_tup, len_fl, len_fk, len_ft, len_str, len_ref, list_tup, list_fl, list_ref, tuple_fl, tuple_tup, sorted_fl, sum_fl, all_fl, any_fl, int_int, int_bl, int_str, str_int, ix_tup, ix_fl, ix_fk, ix_ft, ix_str, ix_ref, sl_tup, sl_fl, sl_str, l_fl, l_ref, rv_append, rv_extend, rv_pop, rv_reverse, rv_get, rv_popD, rv_join, rv_split, rv_start, rv_lower, isL_ref, isD_ref, dk_fk, dk_ft, dk_ref, dt_ft, dt_fk, dt_ref, mt_append, mt_extend, mt_pop0, mt_pop, mt_popD, mt_reverse, mt_get, mt_join, mt_split, mt_start, mt_lower, seti_ref, asg_nm, asg_tup, asg_fl, asgs_nil, asgs_cons, wipe_nil, wipe_cons, lay_fl, lay_fk, lay_ft, g4, kl, lk])
  have hc : evE (CV (n + 3)) c_law_lots_0 [some (.ref 0), some (.int m), some (.int s), some (.ref h.length), none, none, none, none] (h ++ .dT false (kvsF f) :: junk) = .ok (famW f) (h ++ .dT false (kvsF f) :: junk) := by
    have := lc_un (own := [7]) (elt := .tup (.cons (.var 7) (.cons (.idx (.var 3) (.var 7)) .nil))) (tg := .nm 7) (c := .none) (i_dT (i := 3) (q := h.length) (kvs := kvsF f) (h := h ++ .dT false (kvsF f) :: junk) (F := CV (n + 3)) (σ := [some (.ref 0), some (.int m), some (.int s), some (.ref h.length), none, none, none, none]) rfl g1) (by rw [tkeys_F]; simp [Fs.lim]; omega) (by rw [tkeys_F]; exact eL) (unlock_dT (by rw [g3]; exact g4 _))
    rw [g3, g3] at this
    refine this.trans ?_
    unfold famW lsW fd
    rw [List.map_map]
    rfl
  refine ⟨f, ?_, q1, hlen⟩
  rw [call1 (d := p_law_lots) (by kernel_rfl) (by kernel_rfl) rfl]
  rw [show retOf (exSs (CV (n + 3)) p_law_lots.body _ h) = .ok (famW f) (h ++ .dT false (kvsF f) :: junk) by
    show retOf (exSs (CV (n + 3)) (.cons s_law_lots_0 (.cons s_law_lots_7 (.cons s_law_lots_8 .nil))) [some (.ref 0), some (.int m), some (.int s), none, none, none, none, none] h) = _
    have ef' : exS (CV (n + 3)) s_law_lots_7 [some (.ref 0), some (.int m), some (.int s), some (.ref h.length), none, none, none, none] (h ++ [.dT false (kvsF [])]) = _ := ef
    simp only [exSs, e0, SRes.sq, ef']
    simp [s_law_lots_8, Fs.lim, exSs, exS, evE, evEs, evT, evO, evC, evI, isi, Fs.isTn, fresh, bind_ok, bind_ex, of_some, sb_ok, sb_ex, sq_nx, sq_rt, sq_ex, ret_rt, ret_nx, ret_ex, resO_some, bop_add, add_int, add_str, add_tup, add_fl, bop_sub, bop_mul, bop_mulL, bop_fdiv, bop_mod, bop_pow, cop_eq, cop_ne, eq_int, eq_str, eq_bl, cop_lt, lt_int, cop_gt, cop_le, cop_ge, cop_in, cop_nin, cop_is, cop_isn, is_non, is_bl, in_fk, in_ft, in_ref, in_fl, in_tu, non_non, non_bl, non_int, non_str, non_tup, non_fl, non_ref, key_int, key_str, tru_bl, tru_int, tru_non, tru_tup, tru_fl, tru_str, ty_non, ty_bl, ty_int, ty_str, ty_tup, ty_fl, ty_fk, ty_ref, blt_len, blt_list, blt_tuple, blt_sorted, blt_sum, blt_all, blt_any, blt_int, blt_str, blt_max, blt_min, blt_dict, len_tup, len_fl, len_fk, len_ft, len_str, len_ref, list_tup, list_fl, list_ref, tuple_fl, tuple_tup, sorted_fl, sum_fl, all_fl, any_fl, int_int, int_bl, int_str, str_int, ix_tup, ix_fl, ix_fk, ix_ft, ix_str, ix_ref, sl_tup, sl_fl, sl_str, l_fl, l_ref, rv_append, rv_extend, rv_pop, rv_reverse, rv_get, rv_popD, rv_join, rv_split, rv_start, rv_lower, isL_ref, isD_ref, dk_fk, dk_ft, dk_ref, dt_ft, dt_fk, dt_ref, mt_append, mt_extend, mt_pop0, mt_pop, mt_popD, mt_reverse, mt_get, mt_join, mt_split, mt_start, mt_lower, seti_ref, asg_nm, asg_tup, asg_fl, asgs_nil, asgs_cons, wipe_nil, wipe_cons, lay_fl, lay_fk, lay_ft, hc]]
  exact cut1_app (frz_clean 12 (Enc.cl_enc _ 12 (fd f) (by decide)))
end Fw
set_option Elab.async false
set_option linter.all false
set_option maxRecDepth 100000
set_option maxHeartbeats 4000000
namespace Fw
open Enc (enc)
open PySem L2
open PySem.W (Datum DatumOrd Tup)
open Fs (lim keyOf keysOf kVal look put drp setF Bop Cop Ty Tn isTn cut Blt Mt Tg E Es Oe I S Ss Def)
open Ast
theorem isPr_F (f : Fam) : isPr ((fd f).map enc) = some (f.map fun q => (tupW q.1, W.int q.2)) := by
  unfold isPr fd
  rw [List.map_map]
  exact mapM_map fun q _ => rfl
theorem fold_putF : ∀ (f g : Fam), ((g ++ f).map (·.1)).Nodup → (kvsF f).foldl (fun acc kv => put acc kv.1 kv.2) (kvsF g) = kvsF (g ++ f)
  | [], g, _ => by simp [kvsF]
  | q :: r, g, nd => by
    have e : putFm g q.1 q.2 = g ++ [q] := by
      unfold putFm
      rw [if_neg]
      intro ha
      obtain ⟨p, hp, e⟩ := List.any_eq_true.mp ha
      rw [List.map_append, List.nodup_append] at nd
      exact nd.2.2 p.1 (List.mem_map_of_mem hp) q.1 (by simp) (by simpa using e)
    show (kvsF r).foldl _ (put (kvsF g) (kLot q.1) (.int q.2)) = _
    rw [put_kvs, e, fold_putF r (g ++ [q]) (by simpa using nd)]
    simp
theorem newD_G (f : Fam) : newD (f.map fun q => (tupW q.1, W.int q.2)) = some (.ft ((kvsF f).foldl (fun acc kv => put acc kv.1 kv.2) [])) := by
  unfold newD
  by_cases hne : f = []
  · subst hne
    rfl
  · have e1 : (f.map fun q => (tupW q.1, W.int q.2)).mapM (fun p => (keyW p.1).map (·, p.2)) = none := by
      cases f with
      | nil => exact absurd rfl hne
      | cons q r => simp [keyW, tupW]
    have e2 : (f.map fun q => (tupW q.1, W.int q.2)).mapM (fun p => (keysW p.1).map (·, p.2)) = some (kvsF f) := mapM_map fun q _ => by
      show (keysW (tupW q.1)).map _ = _
      rw [keys_lot]
      rfl
    rw [if_neg (by simpa using hne), e1, e2]
theorem newD_F {f : Fam} (nd : (f.map (·.1)).Nodup) : newD (f.map fun q => (tupW q.1, W.int q.2)) = some (.ft (kvsF f)) := by
  rw [newD_G]
  have := fold_putF f [] (by simpa using nd)
  rw [show kvsF [] = [] from rfl] at this
  rw [this]
  rfl
/-! ### filled up -/
theorem look_no {f : Fam} {lot : List Int} (h : (f.any fun q => decide (q.1 = lot)) = false) : look (kvsF f) (kLot lot) = none := by
  unfold Fs.look kvsF
  rw [List.find?_map]
  have : f.find? ((fun kv : List L2.Key × W => decide (kv.1 = kLot lot)) ∘ fun q : List Int × Int => (kLot q.1, W.int q.2)) = none := by
    rw [List.find?_eq_none]
    intro q hq he
    have he : kLot q.1 = kLot lot := by simpa using he
    have := List.any_eq_false.mp h q hq
    exact this (by simpa using kLot_inj he)
  rw [this]
  rfl
theorem get_lot {m s : Int} {f : Fam} (hf : IsFam m s f) (lot : List Int) : ∃ w : Int, (look (kvsF f) (kLot lot)).getD (.int 7) = .int w ∧ w.natAbs < 10 ^ 20 := by
  cases h : f.any fun q => decide (q.1 = lot) with
  | false => exact ⟨7, by rw [look_no h]; rfl, by decide⟩
  | true =>
    obtain ⟨q, hq, e⟩ := List.any_eq_true.mp h
    have e : q.1 = lot := by simpa using e
    subst e
    exact ⟨q.2, by rw [look_kvs hf.2 hq]; rfl, (hf.1 q hq).2.2⟩
/-- filled to most, but for what is covered -/
def Fil (m s : Int) (most : Nat) (C : List Int → Prop) (f : Fam) : Prop := IsFam m s f ∧ f.length ≤ most ∧ (f.length < most → ∀ lot, C lot → lot ∈ f.map (·.1))
theorem put_mem {f : Fam} {lot l : List Int} {w : Int} : l ∈ (putFm f lot w).map (·.1) ↔ l ∈ f.map (·.1) ∨ l = lot := by
  rw [putFm_keys]
  split
  · rename_i h
    obtain ⟨q, hq, e⟩ := List.any_eq_true.mp h
    have e : q.1 = lot := by simpa using e
    constructor
    · exact .inl
    · rintro (h | rfl)
      · exact h
      · rw [← e]
        exact List.mem_map_of_mem hq
  · simp
theorem Fil.put {m s : Int} {most : Nat} {C : List Int → Prop} {f : Fam} (h : Fil m s most C f) {lot : List Int} {w : Int} (hlt : f.length < most) (hl : Rising m lot) (hs : (lot.length : Int) = s) (hw : w.natAbs < 10 ^ 20) : Fil m s most (fun l => C l ∨ l = lot) (putFm f lot w) := by
  obtain ⟨a, b⟩ := putFm_fam (w := w) h.1 hl hs hw
  refine ⟨a, by omega, fun h2 l hc => put_mem.mpr ?_⟩
  rcases hc with hc | rfl
  · exact .inl (h.2.2 hlt l hc)
  · exact .inr rfl
theorem Fil.skip {m s : Int} {most : Nat} {C : List Int → Prop} {f : Fam} (h : Fil m s most C f) {D : List Int → Prop} (hge : ¬ f.length < most) : Fil m s most D f := ⟨h.1, h.2.1, fun h2 => absurd h2 hge⟩
theorem Fil.imp {m s : Int} {most : Nat} {C D : List Int → Prop} {f : Fam} (h : Fil m s most C f) (i : ∀ l, D l → C l) : Fil m s most D f := ⟨h.1, h.2.1, fun h2 l hl => h.2.2 h2 l (i l hl)⟩
def lotOf (s t o one : Int) : List Int := if s < 3 then [o, one] else [t, o, one]
theorem lotOf_ok {m s t o one : Int} (hs : s = 2 ∨ s = 3) (h0 : 0 ≤ t) (h1 : t < o) (h2 : o < one) (h3 : one < m) : Rising m (lotOf s t o one) ∧ ((lotOf s t o one).length : Int) = s := by
  unfold lotOf Rising
  rcases hs with rfl | rfl <;> simp <;> omega
def SF (u : Option W) (s most : Int) (D : Nat) (one other : Option W) : Evn := [none, u, some (.int s), some (.int most), some (.ref D), one, other, none, none]
theorem fill_in (n : Nat) (h : Hep) (u : Option W) (m s : Int) (most : Nat) (hmost : most ≤ 1000) (one other : Int) (hs : s = 2 ∨ s = 3) (h2 : other < one) (h3 : one < m) (C : List Int → Prop) (f : Fam) (hf : Fil m s most C f) :
    ∃ f', forL (fstepV (CV n) (.nm 7) b_law_filled_2) ((ri other.toNat).map enc) (SF u s most h.length (some (.int one)) (some (.int other))) (h ++ [.dT false (kvsF f)]) = .nx (SF u s most h.length (some (.int one)) (some (.int other))) (h ++ [.dT false (kvsF f')]) ∧
      Fil m s most (fun l => C l ∨ ∃ t, 0 ≤ t ∧ t < other ∧ l = lotOf s t other one) f' := by
  obtain ⟨σ2, h2', e2, f', rfl, rfl, q1⟩ := forL_inv (g := (enc : Int → W)) (xs := ri other.toNat) (done := []) (σ := SF u s most h.length (some (.int one)) (some (.int other))) (h := h ++ [.dT false (kvsF f)])
    (step := fstepV (CV n) (.nm 7) b_law_filled_2)
    (Inv := fun d σ h' => ∃ f', σ = SF u s most h.length (some (.int one)) (some (.int other)) ∧ h' = h ++ [.dT false (kvsF f')] ∧ Fil m s most (fun l => C l ∨ ∃ t, t ∈ d ∧ l = lotOf s t other one) f') (by
      rintro d t rr σ h' hd ⟨f1, rfl, rfl, i1⟩
      have ht : t ∈ ri other.toNat := by rw [show ri other.toNat = d ++ t :: rr from hd]; simp
      have ht := ri_mem.mp ht
      have ht2 : t < other := by omega
      obtain ⟨r1, r2⟩ := lotOf_ok hs ht.1 ht2 h2 h3
      obtain ⟨w, ew, hw⟩ := get_lot i1.1 (lotOf s t other one)
      have kl := keys_lot (lotOf s t other one)
      have pk := put_kvs f1 (lotOf s t other one) w
      have len := kvsF_len f1
      have g1 : ∀ x : Ob, (h ++ [x])[h.length]? = some x := fun x => get_end
      have g3 : ∀ x y : Ob, (h ++ [x]).set h.length y = h ++ [y] := fun x y => set_end
      have c2 : f1.length < 16777216 := by have := i1.2.1; omega
      have run : ∀ L, tupW (lotOf s t other one) = L → fstepV (CV n) (.nm 7) b_law_filled_2 (.int t) (SF u s most h.length (some (.int one)) (some (.int other))) (h ++ [.dT false (kvsF f1)]) =
          if f1.length < most then .nx (SF u s most h.length (some (.int one)) (some (.int other))) (h ++ [.dT false (kvsF (putFm f1 (lotOf s t other one) w))]) else .nx (SF u s most h.length (some (.int one)) (some (.int other))) (h ++ [.dT false (kvsF f1)]) := by
        rintro L rfl
        rcases hs with rfl | rfl
        · rw [show lotOf 2 t other one = [other, one] from rfl] at *
          rw [show tupW [other, one] = W.tup [.int other, .int one] from rfl] at kl
          by_cases hlt : f1.length < most
          · have hlt' : (f1.length : Int) < (most : Int) := by omega
            simp [fstepV, SF, Ast.s_law_filled_0, Ast.s_law_filled_1, Ast.s_law_filled_2, Ast.s_law_filled_3, Ast.s_law_filled_4, Ast.b_law_filled_0, Ast.s_law_filled_5, Ast.s_law_filled_6, Ast.b_law_filled_1, Ast.s_law_filled_7, Ast.s_law_filled_8, Ast.b_law_filled_2, Ast.s_law_filled_9, Ast.s_law_filled_10, Ast.b_law_filled_3, Ast.s_law_filled_11, Ast.s_law_filled_12, Ast.b_law_filled_4, Ast.s_law_filled_13, Ast.s_law_filled_14, Ast.p_law_filled, Fs.lim, exSs, exS, evE, evEs, evT, evO, evC, evI, isi, Fs.isTn, fresh, bind_ok, bind_ex, of_some, sb_ok, sb_ex, sq_nx, sq_rt, sq_ex, ret_rt, ret_nx, ret_ex, resO_some, bop_add, add_int, add_str, add_tup, add_fl, bop_sub, bop_mul, bop_mulL, bop_fdiv, bop_mod, bop_pow, cop_eq, cop_ne, eq_int, eq_str, eq_bl, cop_lt, lt_int, cop_gt, cop_le, cop_ge, cop_in, cop_nin, cop_is, cop_isn, is_non, is_bl, in_fk, in_ft, in_ref, in_fl, in_tu, non_non, non_bl, non_int, non_str, non_tup, non_fl, non_ref, key_int, key_str, tru_bl, tru_int, tru_non, tru_tup, tru_fl, tru_str, ty_non, ty_bl, ty_int, ty_str, ty_tup, ty_fl, ty_fk, ty_ref, blt_len, blt_list, blt_tuple, blt_sorted, blt_sum, blt_all, blt_any, blt_int, blt_str, blt_max, blt_min, blt_dict, len_tup, len_fl, len_fk, len_ft, len_str, len_ref, list_tup, list_fl, list_ref, tuple_fl, tuple_tup, sorted_fl, sum_fl, all_fl, any_fl, int_int, int_bl, int_str, str_int, ix_tup, ix_fl, ix_fk, ix_ft, ix_str, ix_ref, sl_tup, sl_fl, sl_str, l_fl, l_ref, rv_append, rv_extend, rv_pop, rv_reverse, rv_get, rv_popD, rv_join, rv_split, rv_start, rv_lower, isL_ref, isD_ref, dk_fk, dk_ft, dk_ref, dt_ft, dt_fk, dt_ref, mt_append, mt_extend, mt_pop0, mt_pop, mt_popD, mt_reverse, mt_get, mt_join, mt_split, mt_start, mt_lower, seti_ref, asg_nm, asg_tup, asg_fl, asgs_nil, asgs_cons, wipe_nil, wipe_cons, lay_fl, lay_fk, lay_ft, g1, len, hlt, hlt', kl, ew, c2, pk, g3]
          · have hlt' : ¬ (f1.length : Int) < (most : Int) := by omega
            simp [fstepV, SF, Ast.s_law_filled_0, Ast.s_law_filled_1, Ast.s_law_filled_2, Ast.s_law_filled_3, Ast.s_law_filled_4, Ast.b_law_filled_0, Ast.s_law_filled_5, Ast.s_law_filled_6, Ast.b_law_filled_1, Ast.s_law_filled_7, Ast.s_law_filled_8, Ast.b_law_filled_2, Ast.s_law_filled_9, Ast.s_law_filled_10, Ast.b_law_filled_3, Ast.s_law_filled_11, Ast.s_law_filled_12, Ast.b_law_filled_4, Ast.s_law_filled_13, Ast.s_law_filled_14, Ast.p_law_filled, Fs.lim, exSs, exS, evE, evEs, evT, evO, evC, evI, isi, Fs.isTn, fresh, bind_ok, bind_ex, of_some, sb_ok, sb_ex, sq_nx, sq_rt, sq_ex, ret_rt, ret_nx, ret_ex, resO_some, bop_add, add_int, add_str, add_tup, add_fl, bop_sub, bop_mul, bop_mulL, bop_fdiv, bop_mod, bop_pow, cop_eq, cop_ne, eq_int, eq_str, eq_bl, cop_lt, lt_int, cop_gt, cop_le, cop_ge, cop_in, cop_nin, cop_is, cop_isn, is_non, is_bl, in_fk, in_ft, in_ref, in_fl, in_tu, non_non, non_bl, non_int, non_str, non_tup, non_fl, non_ref, key_int, key_str, tru_bl, tru_int, tru_non, tru_tup, tru_fl, tru_str, ty_non, ty_bl, ty_int, ty_str, ty_tup, ty_fl, ty_fk, ty_ref, blt_len, blt_list, blt_tuple, blt_sorted, blt_sum, blt_all, blt_any, blt_int, blt_str, blt_max, blt_min, blt_dict, len_tup, len_fl, len_fk, len_ft, len_str, len_ref, list_tup, list_fl, list_ref, tuple_fl, tuple_tup, sorted_fl, sum_fl, all_fl, any_fl, int_int, int_bl, int_str, str_int, ix_tup, ix_fl, ix_fk, ix_ft, ix_str, ix_ref, sl_tup, sl_fl, sl_str, l_fl, l_ref, rv_append, rv_extend, rv_pop, rv_reverse, rv_get, rv_popD, rv_join, rv_split, rv_start, rv_lower, isL_ref, isD_ref, dk_fk, dk_ft, dk_ref, dt_ft, dt_fk, dt_ref, mt_append, mt_extend, mt_pop0, mt_pop, mt_popD, mt_reverse, mt_get, mt_join, mt_split, mt_start, mt_lower, seti_ref, asg_nm, asg_tup, asg_fl, asgs_nil, asgs_cons, wipe_nil, wipe_cons, lay_fl, lay_fk, lay_ft, g1, len, hlt, hlt']
        · rw [show lotOf 3 t other one = [t, other, one] from rfl] at *
          rw [show tupW [t, other, one] = W.tup [.int t, .int other, .int one] from rfl] at kl
          by_cases hlt : f1.length < most
          · have hlt' : (f1.length : Int) < (most : Int) := by omega
            simp [fstepV, SF, Ast.s_law_filled_0, Ast.s_law_filled_1, Ast.s_law_filled_2, Ast.s_law_filled_3, Ast.s_law_filled_4, Ast.b_law_filled_0, Ast.s_law_filled_5, Ast.s_law_filled_6, Ast.b_law_filled_1, Ast.s_law_filled_7, Ast.s_law_filled_8, Ast.b_law_filled_2, Ast.s_law_filled_9, Ast.s_law_filled_10, Ast.b_law_filled_3, Ast.s_law_filled_11, Ast.s_law_filled_12, Ast.b_law_filled_4, Ast.s_law_filled_13, Ast.s_law_filled_14, Ast.p_law_filled, Fs.lim, exSs, exS, evE, evEs, evT, evO, evC, evI, isi, Fs.isTn, fresh, bind_ok, bind_ex, of_some, sb_ok, sb_ex, sq_nx, sq_rt, sq_ex, ret_rt, ret_nx, ret_ex, resO_some, bop_add, add_int, add_str, add_tup, add_fl, bop_sub, bop_mul, bop_mulL, bop_fdiv, bop_mod, bop_pow, cop_eq, cop_ne, eq_int, eq_str, eq_bl, cop_lt, lt_int, cop_gt, cop_le, cop_ge, cop_in, cop_nin, cop_is, cop_isn, is_non, is_bl, in_fk, in_ft, in_ref, in_fl, in_tu, non_non, non_bl, non_int, non_str, non_tup, non_fl, non_ref, key_int, key_str, tru_bl, tru_int, tru_non, tru_tup, tru_fl, tru_str, ty_non, ty_bl, ty_int, ty_str, ty_tup, ty_fl, ty_fk, ty_ref, blt_len, blt_list, blt_tuple, blt_sorted, blt_sum, blt_all, blt_any, blt_int, blt_str, blt_max, blt_min, blt_dict, len_tup, len_fl, len_fk, len_ft, len_str, len_ref, list_tup, list_fl, list_ref, tuple_fl, tuple_tup, sorted_fl, sum_fl, all_fl, any_fl, int_int, int_bl, int_str, str_int, ix_tup, ix_fl, ix_fk, ix_ft, ix_str, ix_ref, sl_tup, sl_fl, sl_str, l_fl, l_ref, rv_append, rv_extend, rv_pop, rv_reverse, rv_get, rv_popD, rv_join, rv_split, rv_start, rv_lower, isL_ref, isD_ref, dk_fk, dk_ft, dk_ref, dt_ft, dt_fk, dt_ref, mt_append, mt_extend, mt_pop0, mt_pop, mt_popD, mt_reverse, mt_get, mt_join, mt_split, mt_start, mt_lower, seti_ref, asg_nm, asg_tup, asg_fl, asgs_nil, asgs_cons, wipe_nil, wipe_cons, lay_fl, lay_fk, lay_ft, g1, len, hlt, hlt', kl, ew, c2, pk, g3]
          · have hlt' : ¬ (f1.length : Int) < (most : Int) := by omega
            simp [fstepV, SF, Ast.s_law_filled_0, Ast.s_law_filled_1, Ast.s_law_filled_2, Ast.s_law_filled_3, Ast.s_law_filled_4, Ast.b_law_filled_0, Ast.s_law_filled_5, Ast.s_law_filled_6, Ast.b_law_filled_1, Ast.s_law_filled_7, Ast.s_law_filled_8, Ast.b_law_filled_2, Ast.s_law_filled_9, Ast.s_law_filled_10, Ast.b_law_filled_3, Ast.s_law_filled_11, Ast.s_law_filled_12, Ast.b_law_filled_4, Ast.s_law_filled_13, Ast.s_law_filled_14, Ast.p_law_filled, Fs.lim, exSs, exS, evE, evEs, evT, evO, evC, evI, isi, Fs.isTn, fresh, bind_ok, bind_ex, of_some, sb_ok, sb_ex, sq_nx, sq_rt, sq_ex, ret_rt, ret_nx, ret_ex, resO_some, bop_add, add_int, add_str, add_tup, add_fl, bop_sub, bop_mul, bop_mulL, bop_fdiv, bop_mod, bop_pow, cop_eq, cop_ne, eq_int, eq_str, eq_bl, cop_lt, lt_int, cop_gt, cop_le, cop_ge, cop_in, cop_nin, cop_is, cop_isn, is_non, is_bl, in_fk, in_ft, in_ref, in_fl, in_tu, non_non, non_bl, non_int, non_str, non_tup, non_fl, non_ref, key_int, key_str, tru_bl, tru_int, tru_non, tru_tup, tru_fl, tru_str, ty_non, ty_bl, ty_int, ty_str, ty_tup, ty_fl, ty_fk, ty_ref, blt_len, blt_list, blt_tuple, blt_sorted, blt_sum, blt_all, blt_any, blt_int, blt_str, blt_max, blt_min, blt_dict, len_tup, len_fl, len_fk, len_ft, len_str, len_ref, list_tup, list_fl, list_ref, tuple_fl, tuple_tup, sorted_fl, sum_fl, all_fl, any_fl, int_int, int_bl, int_str, str_int, ix_tup, ix_fl, ix_fk, ix_ft, ix_str, ix_ref, sl_tup, sl_fl, sl_str, l_fl, l_ref, rv_append, rv_extend, rv_pop, rv_reverse, rv_get, rv_popD, rv_join, rv_split, rv_start, rv_lower, isL_ref, isD_ref, dk_fk, dk_ft, dk_ref, dt_ft, dt_fk, dt_ref, mt_append, mt_extend, mt_pop0, mt_pop, mt_popD, mt_reverse, mt_get, mt_join, mt_split, mt_start, mt_lower, seti_ref, asg_nm, asg_tup, asg_fl, asgs_nil, asgs_cons, wipe_nil, wipe_cons, lay_fl, lay_fk, lay_ft, g1, len, hlt, hlt']
      have run := run _ rfl
      rw [enc_int]
      by_cases hlt : f1.length < most
      · rw [if_pos hlt] at run
        refine ⟨_, _, run, _, rfl, rfl, (i1.put hlt r1 r2 hw).imp fun l hl => ?_⟩
        rcases hl with hl | ⟨t', ht', rfl⟩
        · exact .inl (.inl hl)
        · rcases List.mem_append.mp ht' with h | h
          · exact .inl (.inr ⟨t', h, rfl⟩)
          · rw [List.mem_singleton.mp h]
            exact .inr rfl
      · rw [if_neg hlt] at run
        exact ⟨_, _, run, _, rfl, rfl, i1.skip hlt⟩) ⟨f, rfl, rfl, hf.imp fun l hl => by
          rcases hl with hl | ⟨t, ht, _⟩
          · exact hl
          · cases ht⟩
  refine ⟨f', e2, q1.imp fun l hl => ?_⟩
  rcases hl with hl | ⟨t, t0, t1, rfl⟩
  · exact .inl hl
  · exact .inr ⟨t, by rw [List.nil_append]; exact ri_mem.mpr ⟨t0, by omega⟩, rfl⟩
theorem fill_mid (n : Nat) (h : Hep) (u : Option W) (m s : Int) (most : Nat) (hmost : most ≤ 1000) (one : Int) (hs : s = 2 ∨ s = 3) (h1 : one ≤ 1000) (h3 : one < m) (C : List Int → Prop) (f : Fam) (hf : Fil m s most C f) :
    ∃ f', forL (fstepV (CV n) (.nm 6) b_law_filled_3) ((ri one.toNat).map enc) (SF u s most h.length (some (.int one)) none) (h ++ [.dT false (kvsF f)]) = .nx (SF u s most h.length (some (.int one)) none) (h ++ [.dT false (kvsF f')]) ∧
      Fil m s most (fun l => C l ∨ ∃ t o, 0 ≤ t ∧ t < o ∧ o < one ∧ l = lotOf s t o one) f' := by
  obtain ⟨σ2, h2', e2, f', rfl, rfl, q1⟩ := forL_inv (g := (enc : Int → W)) (xs := ri one.toNat) (done := []) (σ := SF u s most h.length (some (.int one)) none) (h := h ++ [.dT false (kvsF f)])
    (step := fstepV (CV n) (.nm 6) b_law_filled_3)
    (Inv := fun d σ h' => ∃ f', σ = SF u s most h.length (some (.int one)) none ∧ h' = h ++ [.dT false (kvsF f')] ∧ Fil m s most (fun l => C l ∨ ∃ t o, o ∈ d ∧ 0 ≤ t ∧ t < o ∧ l = lotOf s t o one) f') (by
      rintro d o rr σ h' hd ⟨f1, rfl, rfl, i1⟩
      have ho : o ∈ ri one.toNat := by rw [show ri one.toNat = d ++ o :: rr from hd]; simp
      have ho := ri_mem.mp ho
      obtain ⟨f2, e, j⟩ := fill_in n h u m s most hmost one o hs (by omega) h3 _ f1 i1
      have lo : exS (CV n) s_law_filled_9 (SF u s most h.length (some (.int one)) (some (.int o))) (h ++ [.dT false (kvsF f1)]) = _ := (for_ok (i_rng (ns := [.int o]) (by simp [SF, Fs.lim, exSs, exS, evE, evEs, evT, evO, evC, evI, isi, Fs.isTn, fresh, bind_ok, bind_ex, of_some, sb_ok, sb_ex, sq_nx, sq_rt, sq_ex, ret_rt, ret_nx, ret_ex, resO_some, bop_add, add_int, add_str, add_tup, add_fl, bop_sub, bop_mul, bop_mulL, bop_fdiv, bop_mod, bop_pow, cop_eq, cop_ne, eq_int, eq_str, eq_bl, cop_lt, lt_int, cop_gt, cop_le, cop_ge, cop_in, cop_nin, cop_is, cop_isn, is_non, is_bl, in_fk, in_ft, in_ref, in_fl, in_tu, non_non, non_bl, non_int, non_str, non_tup, non_fl, non_ref, key_int, key_str, tru_bl, tru_int, tru_non, tru_tup, tru_fl, tru_str, ty_non, ty_bl, ty_int, ty_str, ty_tup, ty_fl, ty_fk, ty_ref, blt_len, blt_list, blt_tuple, blt_sorted, blt_sum, blt_all, blt_any, blt_int, blt_str, blt_max, blt_min, blt_dict, len_tup, len_fl, len_fk, len_ft, len_str, len_ref, list_tup, list_fl, list_ref, tuple_fl, tuple_tup, sorted_fl, sum_fl, all_fl, any_fl, int_int, int_bl, int_str, str_int, ix_tup, ix_fl, ix_fk, ix_ft, ix_str, ix_ref, sl_tup, sl_fl, sl_str, l_fl, l_ref, rv_append, rv_extend, rv_pop, rv_reverse, rv_get, rv_popD, rv_join, rv_split, rv_start, rv_lower, isL_ref, isD_ref, dk_fk, dk_ft, dk_ref, dt_ft, dt_fk, dt_ref, mt_append, mt_extend, mt_pop0, mt_pop, mt_popD, mt_reverse, mt_get, mt_join, mt_split, mt_start, mt_lower, seti_ref, asg_nm, asg_tup, asg_fl, asgs_nil, asgs_cons, wipe_nil, wipe_cons, lay_fl, lay_fk, lay_ft]) (rng1' (n := o) (by omega)))).trans e
      refine ⟨_, _, ?_, f2, rfl, rfl, j.imp fun l hl => ?_⟩
      · simp only [SF] at lo
        simp [fstepV, enc_int, SF, Ast.s_law_filled_0, Ast.s_law_filled_1, Ast.s_law_filled_2, Ast.s_law_filled_3, Ast.s_law_filled_4, Ast.b_law_filled_0, Ast.s_law_filled_5, Ast.s_law_filled_6, Ast.b_law_filled_1, Ast.s_law_filled_7, Ast.s_law_filled_8, Ast.b_law_filled_2, Ast.s_law_filled_10, Ast.b_law_filled_3, Ast.s_law_filled_11, Ast.s_law_filled_12, Ast.b_law_filled_4, Ast.s_law_filled_13, Ast.s_law_filled_14, Ast.p_law_filled, Fs.lim, exSs, exS, evE, evEs, evT, evO, evC, evI, isi, Fs.isTn, fresh, bind_ok, bind_ex, of_some, sb_ok, sb_ex, sq_nx, sq_rt, sq_ex, ret_rt, ret_nx, ret_ex, resO_some, bop_add, add_int, add_str, add_tup, add_fl, bop_sub, bop_mul, bop_mulL, bop_fdiv, bop_mod, bop_pow, cop_eq, cop_ne, eq_int, eq_str, eq_bl, cop_lt, lt_int, cop_gt, cop_le, cop_ge, cop_in, cop_nin, cop_is, cop_isn, is_non, is_bl, in_fk, in_ft, in_ref, in_fl, in_tu, non_non, non_bl, non_int, non_str, non_tup, non_fl, non_ref, key_int, key_str, tru_bl, tru_int, tru_non, tru_tup, tru_fl, tru_str, ty_non, ty_bl, ty_int, ty_str, ty_tup, ty_fl, ty_fk, ty_ref, blt_len, blt_list, blt_tuple, blt_sorted, blt_sum, blt_all, blt_any, blt_int, blt_str, blt_max, blt_min, blt_dict, len_tup, len_fl, len_fk, len_ft, len_str, len_ref, list_tup, list_fl, list_ref, tuple_fl, tuple_tup, sorted_fl, sum_fl, all_fl, any_fl, int_int, int_bl, int_str, str_int, ix_tup, ix_fl, ix_fk, ix_ft, ix_str, ix_ref, sl_tup, sl_fl, sl_str, l_fl, l_ref, rv_append, rv_extend, rv_pop, rv_reverse, rv_get, rv_popD, rv_join, rv_split, rv_start, rv_lower, isL_ref, isD_ref, dk_fk, dk_ft, dk_ref, dt_ft, dt_fk, dt_ref, mt_append, mt_extend, mt_pop0, mt_pop, mt_popD, mt_reverse, mt_get, mt_join, mt_split, mt_start, mt_lower, seti_ref, asg_nm, asg_tup, asg_fl, asgs_nil, asgs_cons, wipe_nil, wipe_cons, lay_fl, lay_fk, lay_ft, lo]
      · rcases hl with hl | ⟨t, o', ho', t0, t1, rfl⟩
        · exact .inl (.inl hl)
        · rcases List.mem_append.mp ho' with h | h
          · exact .inl (.inr ⟨t, o', h, t0, t1, rfl⟩)
          · rw [List.mem_singleton.mp h] at t1 ⊢
            exact .inr ⟨t, t0, t1, rfl⟩) ⟨f, rfl, rfl, hf.imp fun l hl => by
          rcases hl with hl | ⟨t, o, ho, _⟩
          · exact hl
          · cases ho⟩
  refine ⟨f', e2, q1.imp fun l hl => ?_⟩
  rcases hl with hl | ⟨t, o, t0, t1, o1, rfl⟩
  · exact .inl hl
  · exact .inr ⟨t, o, by rw [List.nil_append]; exact ri_mem.mpr ⟨by omega, by omega⟩, t0, t1, rfl⟩
end Fw
set_option Elab.async false
set_option linter.all false
set_option maxRecDepth 100000
set_option maxHeartbeats 4000000
namespace Fw
open Enc (enc)
open PySem L2
open PySem.W (Datum DatumOrd Tup)
open Fs (lim keyOf keysOf kVal look put drp setF Bop Cop Ty Tn isTn cut Blt Mt Tg E Es Oe I S Ss Def)
open Ast
theorem nodup_le {α : Type} [DecidableEq α] : ∀ {l k : List α}, l.Nodup → (∀ x ∈ l, x ∈ k) → l.length ≤ k.length
  | [], _, _, _ => Nat.zero_le _
  | x :: r, k, nd, hs => by
    rw [List.nodup_cons] at nd
    have hx := hs x (List.mem_cons_self ..)
    have ih := nodup_le (l := r) (k := k.erase x) nd.2 fun y hy => by
      have hne : y ≠ x := fun e => nd.1 (e ▸ hy)
      exact (List.mem_erase_of_ne hne).mpr (hs y (List.mem_cons_of_mem _ hy))
    rw [List.length_erase_of_mem hx] at ih
    have : 0 < k.length := List.length_pos_of_mem hx
    simp only [List.length_cons]
    omega
def pairs : List (Nat × Nat) := (List.range 22).flatMap fun one => (List.range one).filterMap fun o => if 1 ≤ o then some (o, one) else none
theorem pairs_ok : pairs.Nodup ∧ pairs.length = 210 ∧ ∀ p ∈ pairs, 1 ≤ p.1 ∧ p.1 < p.2 ∧ p.2 < 22 := by decide +kernel
theorem lotOf_inj {s : Int} {p q : Nat × Nat} (h : lotOf s 0 p.1 p.2 = lotOf s 0 q.1 q.2) : p = q := by
  unfold lotOf at h
  split at h <;> (simp at h; exact Prod.ext (by omega) (by omega))
theorem fil_full {m s : Int} {most : Nat} (hm : 22 ≤ m) (hmost : most ≤ 201) {f : Fam} (h : Fil m s most (fun l => ∃ t o one, 0 ≤ t ∧ t < o ∧ o < one ∧ one < m ∧ l = lotOf s t o one) f) : f.length = most := by
  obtain ⟨h1, h2, h3⟩ := h
  rcases Nat.lt_or_ge f.length most with hlt | hge
  · exfalso
    obtain ⟨p1, p2, p3⟩ := pairs_ok
    have nd : (pairs.map fun p => lotOf s 0 p.1 p.2).Nodup := by
      refine List.Pairwise.map _ (fun a b hab e => hab (lotOf_inj e)) p1
    have := nodup_le nd (k := f.map (·.1)) fun l hl => by
      obtain ⟨p, hp, rfl⟩ := List.mem_map.mp hl
      obtain ⟨q1, q2, q3⟩ := p3 p hp
      exact h3 hlt _ ⟨0, p.1, p.2, by omega, by omega, by omega, by omega, rfl⟩
    rw [List.length_map, List.length_map, p2] at this
    omega
  · omega
theorem f_filled (n : Nat) (h : Hep) (m s : Int) (most : Nat) (hmost : most ≤ 201) (hs : s = 2 ∨ s = 3) (hm : 22 ≤ m ∧ m ≤ 1000) (f : Fam) (hf : IsFam m s f) (hl : f.length ≤ most) :
    ∃ f', CV (n + 1) "_law_filled" [famW f, .int m, .int s, .int most] h = .ok (famW f') h ∧ IsFam m s f' ∧ f'.length = most := by
  have pr := isPr_F f
  have nw := newD_F hf.2
  have e0 : exS (CV n) s_law_filled_0 [some (famW f), some (.int m), some (.int s), some (.int most), none, none, none, none, none] h = .nx [some (famW f), some (.int m), some (.int s), some (.int most), some (.ref h.length), none, none, none, none] (h ++ [.dT false (kvsF f)]) := by
    have l1 : lstOf h (famW f) = some ((fd f).map enc) := rfl
    generalize (fd f).map enc = B at pr l1
    generalize famW f = L at l1 ⊢
    generalize (f.map fun q => (tupW q.1, W.int q.2)) = C at pr nw
    simp [s_law_filled_0, Fs.lim, exSs, exS, evE, evEs, evT, evO, evC, evI, isi, Fs.isTn, fresh, bind_ok, bind_ex, of_some, sb_ok, sb_ex, sq_nx, sq_rt, sq_ex, ret_rt, ret_nx, ret_ex, resO_some, bop_add, add_int, add_str, add_tup, add_fl, bop_sub, bop_mul, bop_mulL, bop_fdiv, bop_mod, bop_pow, cop_eq, cop_ne, eq_int, eq_str, eq_bl, cop_lt, lt_int, cop_gt, cop_le, cop_ge, cop_in, cop_nin, cop_is, cop_isn, is_non, is_bl, in_fk, in_ft, in_ref, in_fl, in_tu, non_non, non_bl, non_int, non_str, non_tup, non_fl, non_ref, key_int, key_str, tru_bl, tru_int, tru_non, tru_tup, tru_fl, tru_str, ty_non, ty_bl, ty_int, ty_str, ty_tup, ty_fl, ty_fk, ty_ref, blt_len, blt_list, blt_tuple, blt_sorted, blt_sum, blt_all, blt_any, blt_int, blt_str, blt_max, blt_min, blt_dict, len_tup, len_fl, len_fk, len_ft, len_str, len_ref, list_tup, list_fl, list_ref, tuple_fl, tuple_tup, sorted_fl, sum_fl, all_fl, any_fl, int_int, int_bl, int_str, str_int, ix_tup, ix_fl, ix_fk, ix_ft, ix_str, ix_ref, sl_tup, sl_fl, sl_str, l_fl, l_ref, rv_append, rv_extend, rv_pop, rv_reverse, rv_get, rv_popD, rv_join, rv_split, rv_start, rv_lower, isL_ref, isD_ref, dk_fk, dk_ft, dk_ref, dt_ft, dt_fk, dt_ref, mt_append, mt_extend, mt_pop0, mt_pop, mt_popD, mt_reverse, mt_get, mt_join, mt_split, mt_start, mt_lower, seti_ref, asg_nm, asg_tup, asg_fl, asgs_nil, asgs_cons, wipe_nil, wipe_cons, lay_fl, lay_fk, lay_ft, dictB, l1, pr, nw]
  have e1 : ∀ L : W, ∀ h', exS (CV n) s_law_filled_1 [some L, some (.int m), some (.int s), some (.int most), some (.ref h.length), none, none, none, none] h' = .nx (SF (some (.int m)) s most h.length none none) h' := fun L h' => by
    simp [s_law_filled_1, Fs.lim, exSs, exS, evE, evEs, evT, evO, evC, evI, isi, Fs.isTn, fresh, bind_ok, bind_ex, of_some, sb_ok, sb_ex, sq_nx, sq_rt, sq_ex, ret_rt, ret_nx, ret_ex, resO_some, bop_add, add_int, add_str, add_tup, add_fl, bop_sub, bop_mul, bop_mulL, bop_fdiv, bop_mod, bop_pow, cop_eq, cop_ne, eq_int, eq_str, eq_bl, cop_lt, lt_int, cop_gt, cop_le, cop_ge, cop_in, cop_nin, cop_is, cop_isn, is_non, is_bl, in_fk, in_ft, in_ref, in_fl, in_tu, non_non, non_bl, non_int, non_str, non_tup, non_fl, non_ref, key_int, key_str, tru_bl, tru_int, tru_non, tru_tup, tru_fl, tru_str, ty_non, ty_bl, ty_int, ty_str, ty_tup, ty_fl, ty_fk, ty_ref, blt_len, blt_list, blt_tuple, blt_sorted, blt_sum, blt_all, blt_any, blt_int, blt_str, blt_max, blt_min, blt_dict, len_tup, len_fl, len_fk, len_ft, len_str, len_ref, list_tup, list_fl, list_ref, tuple_fl, tuple_tup, sorted_fl, sum_fl, all_fl, any_fl, int_int, int_bl, int_str, str_int, ix_tup, ix_fl, ix_fk, ix_ft, ix_str, ix_ref, sl_tup, sl_fl, sl_str, l_fl, l_ref, rv_append, rv_extend, rv_pop, rv_reverse, rv_get, rv_popD, rv_join, rv_split, rv_start, rv_lower, isL_ref, isD_ref, dk_fk, dk_ft, dk_ref, dt_ft, dt_fk, dt_ref, mt_append, mt_extend, mt_pop0, mt_pop, mt_popD, mt_reverse, mt_get, mt_join, mt_split, mt_start, mt_lower, seti_ref, asg_nm, asg_tup, asg_fl, asgs_nil, asgs_cons, wipe_nil, wipe_cons, lay_fl, lay_fk, lay_ft, SF]
  have eI : evI (CV n) (.rng (.cons (.var 1) .nil)) (SF (some (.int m)) s most h.length none none) (h ++ [.dT false (kvsF f)]) = .ok (.fix ((ri m.toNat).map enc), .no) (h ++ [.dT false (kvsF f)]) := i_rng (ns := [.int m]) (by simp [SF, Fs.lim, exSs, exS, evE, evEs, evT, evO, evC, evI, isi, Fs.isTn, fresh, bind_ok, bind_ex, of_some, sb_ok, sb_ex, sq_nx, sq_rt, sq_ex, ret_rt, ret_nx, ret_ex, resO_some, bop_add, add_int, add_str, add_tup, add_fl, bop_sub, bop_mul, bop_mulL, bop_fdiv, bop_mod, bop_pow, cop_eq, cop_ne, eq_int, eq_str, eq_bl, cop_lt, lt_int, cop_gt, cop_le, cop_ge, cop_in, cop_nin, cop_is, cop_isn, is_non, is_bl, in_fk, in_ft, in_ref, in_fl, in_tu, non_non, non_bl, non_int, non_str, non_tup, non_fl, non_ref, key_int, key_str, tru_bl, tru_int, tru_non, tru_tup, tru_fl, tru_str, ty_non, ty_bl, ty_int, ty_str, ty_tup, ty_fl, ty_fk, ty_ref, blt_len, blt_list, blt_tuple, blt_sorted, blt_sum, blt_all, blt_any, blt_int, blt_str, blt_max, blt_min, blt_dict, len_tup, len_fl, len_fk, len_ft, len_str, len_ref, list_tup, list_fl, list_ref, tuple_fl, tuple_tup, sorted_fl, sum_fl, all_fl, any_fl, int_int, int_bl, int_str, str_int, ix_tup, ix_fl, ix_fk, ix_ft, ix_str, ix_ref, sl_tup, sl_fl, sl_str, l_fl, l_ref, rv_append, rv_extend, rv_pop, rv_reverse, rv_get, rv_popD, rv_join, rv_split, rv_start, rv_lower, isL_ref, isD_ref, dk_fk, dk_ft, dk_ref, dt_ft, dt_fk, dt_ref, mt_append, mt_extend, mt_pop0, mt_pop, mt_popD, mt_reverse, mt_get, mt_join, mt_split, mt_start, mt_lower, seti_ref, asg_nm, asg_tup, asg_fl, asgs_nil, asgs_cons, wipe_nil, wipe_cons, lay_fl, lay_fk, lay_ft]) (rng1' (n := m) (by omega))
  obtain ⟨σ2, h2', e2, u, f', rfl, rfl, q1⟩ := forL_inv (g := (enc : Int → W)) (xs := ri m.toNat) (done := []) (σ := SF (some (.int m)) s most h.length none none) (h := h ++ [.dT false (kvsF f)])
    (step := fstepV (CV n) (.nm 5) b_law_filled_4)
    (Inv := fun d σ h' => ∃ u f', σ = SF u s most h.length none none ∧ h' = h ++ [.dT false (kvsF f')] ∧ Fil m s most (fun l => ∃ t o one, one ∈ d ∧ 0 ≤ t ∧ t < o ∧ o < one ∧ l = lotOf s t o one) f') (by
      rintro d one rr σ h' hd ⟨u, f1, rfl, rfl, i1⟩
      have ho : one ∈ ri m.toNat := by rw [show ri m.toNat = d ++ one :: rr from hd]; simp
      have ho := ri_mem.mp ho
      obtain ⟨f2, e, j⟩ := fill_mid n h none m s most (by omega) one hs (by omega) (by omega) _ f1 i1
      have lo : exS (CV n) s_law_filled_11 (SF none s most h.length (some (.int one)) none) (h ++ [.dT false (kvsF f1)]) = _ := (for_ok (i_rng (ns := [.int one]) (by simp [SF, Fs.lim, exSs, exS, evE, evEs, evT, evO, evC, evI, isi, Fs.isTn, fresh, bind_ok, bind_ex, of_some, sb_ok, sb_ex, sq_nx, sq_rt, sq_ex, ret_rt, ret_nx, ret_ex, resO_some, bop_add, add_int, add_str, add_tup, add_fl, bop_sub, bop_mul, bop_mulL, bop_fdiv, bop_mod, bop_pow, cop_eq, cop_ne, eq_int, eq_str, eq_bl, cop_lt, lt_int, cop_gt, cop_le, cop_ge, cop_in, cop_nin, cop_is, cop_isn, is_non, is_bl, in_fk, in_ft, in_ref, in_fl, in_tu, non_non, non_bl, non_int, non_str, non_tup, non_fl, non_ref, key_int, key_str, tru_bl, tru_int, tru_non, tru_tup, tru_fl, tru_str, ty_non, ty_bl, ty_int, ty_str, ty_tup, ty_fl, ty_fk, ty_ref, blt_len, blt_list, blt_tuple, blt_sorted, blt_sum, blt_all, blt_any, blt_int, blt_str, blt_max, blt_min, blt_dict, len_tup, len_fl, len_fk, len_ft, len_str, len_ref, list_tup, list_fl, list_ref, tuple_fl, tuple_tup, sorted_fl, sum_fl, all_fl, any_fl, int_int, int_bl, int_str, str_int, ix_tup, ix_fl, ix_fk, ix_ft, ix_str, ix_ref, sl_tup, sl_fl, sl_str, l_fl, l_ref, rv_append, rv_extend, rv_pop, rv_reverse, rv_get, rv_popD, rv_join, rv_split, rv_start, rv_lower, isL_ref, isD_ref, dk_fk, dk_ft, dk_ref, dt_ft, dt_fk, dt_ref, mt_append, mt_extend, mt_pop0, mt_pop, mt_popD, mt_reverse, mt_get, mt_join, mt_split, mt_start, mt_lower, seti_ref, asg_nm, asg_tup, asg_fl, asgs_nil, asgs_cons, wipe_nil, wipe_cons, lay_fl, lay_fk, lay_ft]) (rng1' (n := one) (by omega)))).trans e
      refine ⟨_, _, ?_, none, f2, rfl, rfl, j.imp fun l hl => ?_⟩
      · simp only [SF] at lo
        simp [fstepV, enc_int, SF, Ast.s_law_filled_0, Ast.s_law_filled_1, Ast.s_law_filled_2, Ast.s_law_filled_3, Ast.s_law_filled_4, Ast.b_law_filled_0, Ast.s_law_filled_5, Ast.s_law_filled_6, Ast.b_law_filled_1, Ast.s_law_filled_7, Ast.s_law_filled_8, Ast.b_law_filled_2, Ast.s_law_filled_9, Ast.s_law_filled_10, Ast.b_law_filled_3, Ast.s_law_filled_12, Ast.b_law_filled_4, Ast.s_law_filled_13, Ast.s_law_filled_14, Ast.p_law_filled, Fs.lim, exSs, exS, evE, evEs, evT, evO, evC, evI, isi, Fs.isTn, fresh, bind_ok, bind_ex, of_some, sb_ok, sb_ex, sq_nx, sq_rt, sq_ex, ret_rt, ret_nx, ret_ex, resO_some, bop_add, add_int, add_str, add_tup, add_fl, bop_sub, bop_mul, bop_mulL, bop_fdiv, bop_mod, bop_pow, cop_eq, cop_ne, eq_int, eq_str, eq_bl, cop_lt, lt_int, cop_gt, cop_le, cop_ge, cop_in, cop_nin, cop_is, cop_isn, is_non, is_bl, in_fk, in_ft, in_ref, in_fl, in_tu, non_non, non_bl, non_int, non_str, non_tup, non_fl, non_ref, key_int, key_str, tru_bl, tru_int, tru_non, tru_tup, tru_fl, tru_str, ty_non, ty_bl, ty_int, ty_str, ty_tup, ty_fl, ty_fk, ty_ref, blt_len, blt_list, blt_tuple, blt_sorted, blt_sum, blt_all, blt_any, blt_int, blt_str, blt_max, blt_min, blt_dict, len_tup, len_fl, len_fk, len_ft, len_str, len_ref, list_tup, list_fl, list_ref, tuple_fl, tuple_tup, sorted_fl, sum_fl, all_fl, any_fl, int_int, int_bl, int_str, str_int, ix_tup, ix_fl, ix_fk, ix_ft, ix_str, ix_ref, sl_tup, sl_fl, sl_str, l_fl, l_ref, rv_append, rv_extend, rv_pop, rv_reverse, rv_get, rv_popD, rv_join, rv_split, rv_start, rv_lower, isL_ref, isD_ref, dk_fk, dk_ft, dk_ref, dt_ft, dt_fk, dt_ref, mt_append, mt_extend, mt_pop0, mt_pop, mt_popD, mt_reverse, mt_get, mt_join, mt_split, mt_start, mt_lower, seti_ref, asg_nm, asg_tup, asg_fl, asgs_nil, asgs_cons, wipe_nil, wipe_cons, lay_fl, lay_fk, lay_ft, lo]
      · obtain ⟨t, o, one', ho', t0, t1, t2, rfl⟩ := hl
        rcases List.mem_append.mp ho' with h | h
        · exact .inl ⟨t, o, one', h, t0, t1, t2, rfl⟩
        · rw [List.mem_singleton.mp h] at t2 ⊢
          exact .inr ⟨t, o, t0, t1, t2, rfl⟩) ⟨some (.int m), f, rfl, rfl, hf, hl, fun _ l hl => by
          obtain ⟨_, _, _, h, _⟩ := hl
          cases h⟩
  have q2 : f'.length = most := fil_full hm.1 hmost (q1.imp fun l hl => by
    obtain ⟨t, o, one, t0, t1, t2, t3, rfl⟩ := hl
    exact ⟨t, o, one, by rw [List.nil_append]; exact ri_mem.mpr ⟨by omega, by omega⟩, t0, t1, t2, rfl⟩)
  have ef : exS (CV n) s_law_filled_13 (SF (some (.int m)) s most h.length none none) (h ++ [.dT false (kvsF f)]) = .nx (SF u s most h.length none none) (h ++ [.dT false (kvsF f')]) := (for_ok eI).trans e2
  have g1 : ∀ x : Ob, (h ++ [x])[h.length]? = some x := fun x => get_end
  have g3 : ∀ x y : Ob, (h ++ [x]).set h.length y = h ++ [y] := fun x y => set_end
  have eL := lcL_map (g := fun q : List Int × Int => tupW q.1) (f := fun q => enc ((⟨q.1⟩ : Tup Int), q.2)) (xs := f') (h := (h ++ [Ob.dT false (kvsF f')]).set h.length (Ob.dT true (kvsF f')))
    (step := stepV (CV n) [8] (.tup (.cons (.var 8) (.cons (.idx (.var 4) (.var 8)) .nil))) (.nm 8) .none (SF u s most h.length none none)) (by
      intro q hq
      rw [g3]
      have kl := keys_lot q.1
      have lk := look_kvs q1.1.2 hq
      show _ = Res.ok (some (W.tup [tupW q.1, .int q.2])) _
      generalize tupW q.1 = L at kl
      simp [stepV, SF, Fs.lim, exSs, exS, evE, evEs, evT, evO, evC, evI, isi, Fs.isTn, fresh, bind_ok, bind_ex, of_some, sb_ok, sb_ex, sq_nx, sq_rt, sq_ex, ret_rt, ret_nx, ret_ex, resO_some, bop_add, add_int, add_str, add_tup, add_fl, bop_sub, bop_mul, bop_mulL, bop_fdiv, bop_mod, bop_pow, cop_eq, cop_ne, eq_int, eq_str, eq_bl, cop_lt, lt_int, cop_gt, cop_le, cop_ge, cop_in, cop_nin, cop_is, cop_isn, is_non, is_bl, in_fk, in_ft, in_ref, in_fl, in_tu, non_non, non_bl, non_int, non_str, non_tup, non_fl, non_ref, key_int, key_str, tru_bl, tru_int, tru_non, tru_tup, tru_fl, tru_str, ty_non, ty_bl, ty_int, ty_str, ty_tup, ty_fl, ty_fk, ty_ref, blt_len, blt_list, blt_tuple, blt_sorted, blt_sum, blt_all, blt_any, blt_int, blt_str, blt_max, blt_min, blt_dict, len_tup, len_fl, len_fk, len_ft, len_str, len_ref, list_tup, list_fl, list_ref, tuple_fl, tuple_tup, sorted_fl, sum_fl, all_fl, any_fl, int_int, int_bl, int_str, str_int, ix_tup, ix_fl, ix_fk, ix_ft, ix_str, ix_ref, sl_tup, sl_fl, sl_str, l_fl, l_ref, rv_append, rv_extend, rv_pop, rv_reverse, rv_get, rv_popD, rv_join, rv_split, rv_start, rv_lower, isL_ref, isD_ref, dk_fk, dk_ft, dk_ref, dt_ft, dt_fk, dt_ref, mt_append, mt_extend, mt_pop0, mt_pop, mt_popD, mt_reverse, mt_get, mt_join, mt_split, mt_start, mt_lower, seti_ref, asg_nm, asg_tup, asg_fl, asgs_nil, asgs_cons, wipe_nil, wipe_cons, lay_fl, lay_fk, lay_ft, g1, kl, lk])
  have hc : evE (CV n) c_law_filled_0 (SF u s most h.length none none) (h ++ [.dT false (kvsF f')]) = .ok (famW f') (h ++ [.dT false (kvsF f')]) := by
    have := lc_un (own := [8]) (elt := .tup (.cons (.var 8) (.cons (.idx (.var 4) (.var 8)) .nil))) (tg := .nm 8) (c := .none) (i_dT (i := 4) (q := h.length) (kvs := kvsF f') (h := h ++ [.dT false (kvsF f')]) (F := CV n) (σ := SF u s most h.length none none) rfl (g1 _)) (by rw [tkeys_F]; simp [Fs.lim]; omega) (by rw [tkeys_F]; exact eL) (unlock_dT (by rw [g3]; exact g1 _))
    rw [g3, g3] at this
    refine this.trans ?_
    unfold famW lsW fd
    rw [List.map_map]
    rfl
  refine ⟨f', ?_, q1.1, q2⟩
  rw [call1 (d := p_law_filled) (by kernel_rfl) (by kernel_rfl) rfl]
  rw [show retOf (exSs (CV n) p_law_filled.body _ h) = .ok (famW f') (h ++ [.dT false (kvsF f')]) by
    show retOf (exSs (CV n) (.cons s_law_filled_0 (.cons s_law_filled_1 (.cons s_law_filled_13 (.cons s_law_filled_14 .nil)))) [some (famW f), some (.int m), some (.int s), some (.int most), none, none, none, none, none] h) = _
    simp only [exSs, e0, SRes.sq, e1, ef]
    simp [s_law_filled_14, Fs.lim, exSs, exS, evE, evEs, evT, evO, evC, evI, isi, Fs.isTn, fresh, bind_ok, bind_ex, of_some, sb_ok, sb_ex, sq_nx, sq_rt, sq_ex, ret_rt, ret_nx, ret_ex, resO_some, bop_add, add_int, add_str, add_tup, add_fl, bop_sub, bop_mul, bop_mulL, bop_fdiv, bop_mod, bop_pow, cop_eq, cop_ne, eq_int, eq_str, eq_bl, cop_lt, lt_int, cop_gt, cop_le, cop_ge, cop_in, cop_nin, cop_is, cop_isn, is_non, is_bl, in_fk, in_ft, in_ref, in_fl, in_tu, non_non, non_bl, non_int, non_str, non_tup, non_fl, non_ref, key_int, key_str, tru_bl, tru_int, tru_non, tru_tup, tru_fl, tru_str, ty_non, ty_bl, ty_int, ty_str, ty_tup, ty_fl, ty_fk, ty_ref, blt_len, blt_list, blt_tuple, blt_sorted, blt_sum, blt_all, blt_any, blt_int, blt_str, blt_max, blt_min, blt_dict, len_tup, len_fl, len_fk, len_ft, len_str, len_ref, list_tup, list_fl, list_ref, tuple_fl, tuple_tup, sorted_fl, sum_fl, all_fl, any_fl, int_int, int_bl, int_str, str_int, ix_tup, ix_fl, ix_fk, ix_ft, ix_str, ix_ref, sl_tup, sl_fl, sl_str, l_fl, l_ref, rv_append, rv_extend, rv_pop, rv_reverse, rv_get, rv_popD, rv_join, rv_split, rv_start, rv_lower, isL_ref, isD_ref, dk_fk, dk_ft, dk_ref, dt_ft, dt_fk, dt_ref, mt_append, mt_extend, mt_pop0, mt_pop, mt_popD, mt_reverse, mt_get, mt_join, mt_split, mt_start, mt_lower, seti_ref, asg_nm, asg_tup, asg_fl, asgs_nil, asgs_cons, wipe_nil, wipe_cons, lay_fl, lay_fk, lay_ft, hc]]
  exact cut1_app (frz_clean 12 (Enc.cl_enc _ 12 (fd f') (by decide)))
end Fw
set_option Elab.async false
set_option linter.all false
set_option maxRecDepth 100000
set_option maxHeartbeats 4000000
namespace Fw
open Enc (enc)
open PySem L2
open PySem.W (Datum DatumOrd Tup)
open Fs (lim keyOf keysOf kVal look put drp setF Bop Cop Ty Tn isTn cut Blt Mt Tg E Es Oe I S Ss Def)
open Ast
theorem f_are_figures (n : Nat) (h : Hep) (t : Str) (most : Int) (ht : t.length ≤ 16777216) : CV (n + 1) "are_figures" [.str t, .int most] h = .ok (.bl (figB most t)) h := by
  have eL := lcL_map (g := fun c : Nat => W.str ⟨#[c]⟩) (f := fun c => W.bl (dig c)) (xs := TL.tl t) (h := h) (step := stepV (CV n) [2] (.cmp .in_ (.var 2) (.gstr "FIGURES" "0123456789")) (.nm 2) .none [some (.str t), some (.int most), none]) (by
    intro c hc
    have e := in_figs h c
    simp [stepV, Fs.lim, exSs, exS, evE, evEs, evT, evO, evC, evI, isi, Fs.isTn, fresh, bind_ok, bind_ex, of_some, sb_ok, sb_ex, sq_nx, sq_rt, sq_ex, ret_rt, ret_nx, ret_ex, resO_some, bop_add, add_int, add_str, add_tup, add_fl, bop_sub, bop_mul, bop_mulL, bop_fdiv, bop_mod, bop_pow, cop_eq, cop_ne, eq_int, eq_str, eq_bl, cop_lt, lt_int, cop_gt, cop_le, cop_ge, cop_in, cop_nin, cop_is, cop_isn, is_non, is_bl, in_fk, in_ft, in_ref, in_fl, in_tu, non_non, non_bl, non_int, non_str, non_tup, non_fl, non_ref, key_int, key_str, tru_bl, tru_int, tru_non, tru_tup, tru_fl, tru_str, ty_non, ty_bl, ty_int, ty_str, ty_tup, ty_fl, ty_fk, ty_ref, blt_len, blt_list, blt_tuple, blt_sorted, blt_sum, blt_all, blt_any, blt_int, blt_str, blt_max, blt_min, blt_dict, len_tup, len_fl, len_fk, len_ft, len_str, len_ref, list_tup, list_fl, list_ref, tuple_fl, tuple_tup, sorted_fl, sum_fl, all_fl, any_fl, int_int, int_bl, int_str, str_int, ix_tup, ix_fl, ix_fk, ix_ft, ix_str, ix_ref, sl_tup, sl_fl, sl_str, l_fl, l_ref, rv_append, rv_extend, rv_pop, rv_reverse, rv_get, rv_popD, rv_join, rv_split, rv_start, rv_lower, isL_ref, isD_ref, dk_fk, dk_ft, dk_ref, dt_ft, dt_fk, dt_ref, mt_append, mt_extend, mt_pop0, mt_pop, mt_popD, mt_reverse, mt_get, mt_join, mt_split, mt_start, mt_lower, seti_ref, asg_nm, asg_tup, asg_fl, asgs_nil, asgs_cons, wipe_nil, wipe_cons, lay_fl, lay_fk, lay_ft, e])
  have hc : evE (CV n) c_are_figures_0 [some (.str t), some (.int most), none] h = .ok (.fl (((TL.tl t).map dig).map W.bl)) h := by
    rw [List.map_map]
    exact lc_ok (i_str rfl) (by rw [signs_len]; exact ht) eL
  have ea := isBl_map ((TL.tl t).map dig)
  have eb : (((TL.tl t).map dig).all id) = (TL.tl t).all dig := by rw [List.all_map]; rfl
  rw [call0 (d := p_are_figures) (by kernel_rfl) (by kernel_rfl) rfl]
  unfold figB
  have hz : (1 ≤ t.length) ↔ ((1 : Int) ≤ (t.length : Int)) := by omega
  generalize ((TL.tl t).map dig) = A at hc ea eb
  by_cases h1 : (1 : Int) ≤ (t.length : Int)
  · by_cases h2 : (t.length : Int) ≤ most
    · cases h3 : (TL.tl t).all dig with
      | false =>
        rw [h3] at eb
        simp [Ast.s_are_figures_0, Ast.b_are_figures_0, Ast.s_are_figures_1, Ast.s_are_figures_2, Ast.p_are_figures, Fs.lim, exSs, exS, evE, evEs, evT, evO, evC, evI, isi, Fs.isTn, fresh, bind_ok, bind_ex, of_some, sb_ok, sb_ex, sq_nx, sq_rt, sq_ex, ret_rt, ret_nx, ret_ex, resO_some, bop_add, add_int, add_str, add_tup, add_fl, bop_sub, bop_mul, bop_mulL, bop_fdiv, bop_mod, bop_pow, cop_eq, cop_ne, eq_int, eq_str, eq_bl, cop_lt, lt_int, cop_gt, cop_le, cop_ge, cop_in, cop_nin, cop_is, cop_isn, is_non, is_bl, in_fk, in_ft, in_ref, in_fl, in_tu, non_non, non_bl, non_int, non_str, non_tup, non_fl, non_ref, key_int, key_str, tru_bl, tru_int, tru_non, tru_tup, tru_fl, tru_str, ty_non, ty_bl, ty_int, ty_str, ty_tup, ty_fl, ty_fk, ty_ref, blt_len, blt_list, blt_tuple, blt_sorted, blt_sum, blt_all, blt_any, blt_int, blt_str, blt_max, blt_min, blt_dict, len_tup, len_fl, len_fk, len_ft, len_str, len_ref, list_tup, list_fl, list_ref, tuple_fl, tuple_tup, sorted_fl, sum_fl, all_fl, any_fl, int_int, int_bl, int_str, str_int, ix_tup, ix_fl, ix_fk, ix_ft, ix_str, ix_ref, sl_tup, sl_fl, sl_str, l_fl, l_ref, rv_append, rv_extend, rv_pop, rv_reverse, rv_get, rv_popD, rv_join, rv_split, rv_start, rv_lower, isL_ref, isD_ref, dk_fk, dk_ft, dk_ref, dt_ft, dt_fk, dt_ref, mt_append, mt_extend, mt_pop0, mt_pop, mt_popD, mt_reverse, mt_get, mt_join, mt_split, mt_start, mt_lower, seti_ref, asg_nm, asg_tup, asg_fl, asgs_nil, asgs_cons, wipe_nil, wipe_cons, lay_fl, lay_fk, lay_ft, hc, ea, eb, h1, h2, ht, hz]
      | true =>
        rw [h3] at eb
        have hne : ∃ c r, TL.tl t = c :: r := by
          cases q : TL.tl t with
          | nil =>
            rw [TL.len_tl, q] at h1
            simp at h1
          | cons c r => exact ⟨c, r, rfl⟩
        obtain ⟨c, r, hq⟩ := hne
        have e4 : L2.atI (c :: r) 0 = some c := by
          have := atI_nat (c :: r) 0 (by simp)
          simpa using this
        have hq2 : t.cps.toList = c :: r := hq
        have e5 : ((⟨#[c]⟩ : Str) = "0") ↔ c = 48 := by
          constructor
          · intro e
            have : (⟨#[c]⟩ : Str).cps.toList = [48] := by rw [e]; decide
            simpa using this
          · rintro rfl
            rfl
        by_cases hzz : t = "0"
        · subst hzz
          simp [Ast.s_are_figures_0, Ast.b_are_figures_0, Ast.s_are_figures_1, Ast.s_are_figures_2, Ast.p_are_figures, Fs.lim, exSs, exS, evE, evEs, evT, evO, evC, evI, isi, Fs.isTn, fresh, bind_ok, bind_ex, of_some, sb_ok, sb_ex, sq_nx, sq_rt, sq_ex, ret_rt, ret_nx, ret_ex, resO_some, bop_add, add_int, add_str, add_tup, add_fl, bop_sub, bop_mul, bop_mulL, bop_fdiv, bop_mod, bop_pow, cop_eq, cop_ne, eq_int, eq_str, eq_bl, cop_lt, lt_int, cop_gt, cop_le, cop_ge, cop_in, cop_nin, cop_is, cop_isn, is_non, is_bl, in_fk, in_ft, in_ref, in_fl, in_tu, non_non, non_bl, non_int, non_str, non_tup, non_fl, non_ref, key_int, key_str, tru_bl, tru_int, tru_non, tru_tup, tru_fl, tru_str, ty_non, ty_bl, ty_int, ty_str, ty_tup, ty_fl, ty_fk, ty_ref, blt_len, blt_list, blt_tuple, blt_sorted, blt_sum, blt_all, blt_any, blt_int, blt_str, blt_max, blt_min, blt_dict, len_tup, len_fl, len_fk, len_ft, len_str, len_ref, list_tup, list_fl, list_ref, tuple_fl, tuple_tup, sorted_fl, sum_fl, all_fl, any_fl, int_int, int_bl, int_str, str_int, ix_tup, ix_fl, ix_fk, ix_ft, ix_str, ix_ref, sl_tup, sl_fl, sl_str, l_fl, l_ref, rv_append, rv_extend, rv_pop, rv_reverse, rv_get, rv_popD, rv_join, rv_split, rv_start, rv_lower, isL_ref, isD_ref, dk_fk, dk_ft, dk_ref, dt_ft, dt_fk, dt_ref, mt_append, mt_extend, mt_pop0, mt_pop, mt_popD, mt_reverse, mt_get, mt_join, mt_split, mt_start, mt_lower, seti_ref, asg_nm, asg_tup, asg_fl, asgs_nil, asgs_cons, wipe_nil, wipe_cons, lay_fl, lay_fk, lay_ft, hc, ea, eb, h1, h2, ht, hz]
        · simp [Ast.s_are_figures_0, Ast.b_are_figures_0, Ast.s_are_figures_1, Ast.s_are_figures_2, Ast.p_are_figures, Fs.lim, exSs, exS, evE, evEs, evT, evO, evC, evI, isi, Fs.isTn, fresh, bind_ok, bind_ex, of_some, sb_ok, sb_ex, sq_nx, sq_rt, sq_ex, ret_rt, ret_nx, ret_ex, resO_some, bop_add, add_int, add_str, add_tup, add_fl, bop_sub, bop_mul, bop_mulL, bop_fdiv, bop_mod, bop_pow, cop_eq, cop_ne, eq_int, eq_str, eq_bl, cop_lt, lt_int, cop_gt, cop_le, cop_ge, cop_in, cop_nin, cop_is, cop_isn, is_non, is_bl, in_fk, in_ft, in_ref, in_fl, in_tu, non_non, non_bl, non_int, non_str, non_tup, non_fl, non_ref, key_int, key_str, tru_bl, tru_int, tru_non, tru_tup, tru_fl, tru_str, ty_non, ty_bl, ty_int, ty_str, ty_tup, ty_fl, ty_fk, ty_ref, blt_len, blt_list, blt_tuple, blt_sorted, blt_sum, blt_all, blt_any, blt_int, blt_str, blt_max, blt_min, blt_dict, len_tup, len_fl, len_fk, len_ft, len_str, len_ref, list_tup, list_fl, list_ref, tuple_fl, tuple_tup, sorted_fl, sum_fl, all_fl, any_fl, int_int, int_bl, int_str, str_int, ix_tup, ix_fl, ix_fk, ix_ft, ix_str, ix_ref, sl_tup, sl_fl, sl_str, l_fl, l_ref, rv_append, rv_extend, rv_pop, rv_reverse, rv_get, rv_popD, rv_join, rv_split, rv_start, rv_lower, isL_ref, isD_ref, dk_fk, dk_ft, dk_ref, dt_ft, dt_fk, dt_ref, mt_append, mt_extend, mt_pop0, mt_pop, mt_popD, mt_reverse, mt_get, mt_join, mt_split, mt_start, mt_lower, seti_ref, asg_nm, asg_tup, asg_fl, asgs_nil, asgs_cons, wipe_nil, wipe_cons, lay_fl, lay_fk, lay_ft, hc, ea, eb, h1, h2, ht, hz, hzz, e4, hq2, e5]
    · simp [Ast.s_are_figures_0, Ast.b_are_figures_0, Ast.s_are_figures_1, Ast.s_are_figures_2, Ast.p_are_figures, Fs.lim, exSs, exS, evE, evEs, evT, evO, evC, evI, isi, Fs.isTn, fresh, bind_ok, bind_ex, of_some, sb_ok, sb_ex, sq_nx, sq_rt, sq_ex, ret_rt, ret_nx, ret_ex, resO_some, bop_add, add_int, add_str, add_tup, add_fl, bop_sub, bop_mul, bop_mulL, bop_fdiv, bop_mod, bop_pow, cop_eq, cop_ne, eq_int, eq_str, eq_bl, cop_lt, lt_int, cop_gt, cop_le, cop_ge, cop_in, cop_nin, cop_is, cop_isn, is_non, is_bl, in_fk, in_ft, in_ref, in_fl, in_tu, non_non, non_bl, non_int, non_str, non_tup, non_fl, non_ref, key_int, key_str, tru_bl, tru_int, tru_non, tru_tup, tru_fl, tru_str, ty_non, ty_bl, ty_int, ty_str, ty_tup, ty_fl, ty_fk, ty_ref, blt_len, blt_list, blt_tuple, blt_sorted, blt_sum, blt_all, blt_any, blt_int, blt_str, blt_max, blt_min, blt_dict, len_tup, len_fl, len_fk, len_ft, len_str, len_ref, list_tup, list_fl, list_ref, tuple_fl, tuple_tup, sorted_fl, sum_fl, all_fl, any_fl, int_int, int_bl, int_str, str_int, ix_tup, ix_fl, ix_fk, ix_ft, ix_str, ix_ref, sl_tup, sl_fl, sl_str, l_fl, l_ref, rv_append, rv_extend, rv_pop, rv_reverse, rv_get, rv_popD, rv_join, rv_split, rv_start, rv_lower, isL_ref, isD_ref, dk_fk, dk_ft, dk_ref, dt_ft, dt_fk, dt_ref, mt_append, mt_extend, mt_pop0, mt_pop, mt_popD, mt_reverse, mt_get, mt_join, mt_split, mt_start, mt_lower, seti_ref, asg_nm, asg_tup, asg_fl, asgs_nil, asgs_cons, wipe_nil, wipe_cons, lay_fl, lay_fk, lay_ft, h1, h2, ht, hz]
  · simp [Ast.s_are_figures_0, Ast.b_are_figures_0, Ast.s_are_figures_1, Ast.s_are_figures_2, Ast.p_are_figures, Fs.lim, exSs, exS, evE, evEs, evT, evO, evC, evI, isi, Fs.isTn, fresh, bind_ok, bind_ex, of_some, sb_ok, sb_ex, sq_nx, sq_rt, sq_ex, ret_rt, ret_nx, ret_ex, resO_some, bop_add, add_int, add_str, add_tup, add_fl, bop_sub, bop_mul, bop_mulL, bop_fdiv, bop_mod, bop_pow, cop_eq, cop_ne, eq_int, eq_str, eq_bl, cop_lt, lt_int, cop_gt, cop_le, cop_ge, cop_in, cop_nin, cop_is, cop_isn, is_non, is_bl, in_fk, in_ft, in_ref, in_fl, in_tu, non_non, non_bl, non_int, non_str, non_tup, non_fl, non_ref, key_int, key_str, tru_bl, tru_int, tru_non, tru_tup, tru_fl, tru_str, ty_non, ty_bl, ty_int, ty_str, ty_tup, ty_fl, ty_fk, ty_ref, blt_len, blt_list, blt_tuple, blt_sorted, blt_sum, blt_all, blt_any, blt_int, blt_str, blt_max, blt_min, blt_dict, len_tup, len_fl, len_fk, len_ft, len_str, len_ref, list_tup, list_fl, list_ref, tuple_fl, tuple_tup, sorted_fl, sum_fl, all_fl, any_fl, int_int, int_bl, int_str, str_int, ix_tup, ix_fl, ix_fk, ix_ft, ix_str, ix_ref, sl_tup, sl_fl, sl_str, l_fl, l_ref, rv_append, rv_extend, rv_pop, rv_reverse, rv_get, rv_popD, rv_join, rv_split, rv_start, rv_lower, isL_ref, isD_ref, dk_fk, dk_ft, dk_ref, dt_ft, dt_fk, dt_ref, mt_append, mt_extend, mt_pop0, mt_pop, mt_popD, mt_reverse, mt_get, mt_join, mt_split, mt_start, mt_lower, seti_ref, asg_nm, asg_tup, asg_fl, asgs_nil, asgs_cons, wipe_nil, wipe_cons, lay_fl, lay_fk, lay_ft, h1, ht, hz]
end Fw
set_option Elab.async false
set_option linter.all false
set_option maxRecDepth 100000
set_option maxHeartbeats 4000000
namespace Fw
open Enc (enc)
open PySem L2
open PySem.W (Datum DatumOrd Tup)
open Fs (lim keyOf keysOf kVal look put drp setF Bop Cop Ty Tn isTn cut Blt Mt Tg E Es Oe I S Ss Def)
open Ast
theorem eq_nil (h : Hep) (lot : List Int) : eqO h (tupW lot) (.tup []) = some (decide (lot = [])) := by
  have := eq_enc (h := h) (show Datum.depth (Tup Int) < 12 by decide) (⟨lot⟩ : Tup Int) ⟨[]⟩
  rw [show eqO h (tupW lot) (.tup []) = eqO h (enc (⟨lot⟩ : Tup Int)) (enc (⟨[]⟩ : Tup Int)) from rfl, this]
  congr 1
  apply decide_eq_decide.mpr
  constructor
  · intro e; injection e
  · rintro rfl; rfl
theorem figs_sum (b : Str) (hb : b.length = 1) (lot : List Int) (hl : Fig20 lot) (hn : lot.length ≤ 1000) : ((lot.map tsI).map (·.length)).sum + (lot.map tsI).length * b.length ≤ 16777216 := by
  have h2 := lots_sum lot hl
  rw [hb, List.length_map]
  omega
theorem f_show_things (n : Nat) (h : Hep) (b : Str) (hb : b.length = 1) (lot : List Int) (hl : Fig20 lot) (hn : lot.length ≤ 1000) : CV (n + 1) "show_things" [tupW lot, .str b] h = .ok (.str (lotT b lot)) h := by
  have eL := lcL_map (g := (enc : Int → W)) (f := fun i => W.str (tsI i)) (xs := lot) (h := h) (step := stepV (CV n) [2] (.blt .str (.cons (.var 2) .nil)) (.nm 2) .none [some (tupW lot), some (.str b), none]) (by
    intro i hi
    have := hl i hi
    have e := log_w (i := i) (by omega)
    simp [stepV, enc_int, Fs.lim, exSs, exS, evE, evEs, evT, evO, evC, evI, isi, Fs.isTn, fresh, bind_ok, bind_ex, of_some, sb_ok, sb_ex, sq_nx, sq_rt, sq_ex, ret_rt, ret_nx, ret_ex, resO_some, bop_add, add_int, add_str, add_tup, add_fl, bop_sub, bop_mul, bop_mulL, bop_fdiv, bop_mod, bop_pow, cop_eq, cop_ne, eq_int, eq_str, eq_bl, cop_lt, lt_int, cop_gt, cop_le, cop_ge, cop_in, cop_nin, cop_is, cop_isn, is_non, is_bl, in_fk, in_ft, in_ref, in_fl, in_tu, non_non, non_bl, non_int, non_str, non_tup, non_fl, non_ref, key_int, key_str, tru_bl, tru_int, tru_non, tru_tup, tru_fl, tru_str, ty_non, ty_bl, ty_int, ty_str, ty_tup, ty_fl, ty_fk, ty_ref, blt_len, blt_list, blt_tuple, blt_sorted, blt_sum, blt_all, blt_any, blt_int, blt_str, blt_max, blt_min, blt_dict, len_tup, len_fl, len_fk, len_ft, len_str, len_ref, list_tup, list_fl, list_ref, tuple_fl, tuple_tup, sorted_fl, sum_fl, all_fl, any_fl, int_int, int_bl, int_str, str_int, ix_tup, ix_fl, ix_fk, ix_ft, ix_str, ix_ref, sl_tup, sl_fl, sl_str, l_fl, l_ref, rv_append, rv_extend, rv_pop, rv_reverse, rv_get, rv_popD, rv_join, rv_split, rv_start, rv_lower, isL_ref, isD_ref, dk_fk, dk_ft, dk_ref, dt_ft, dt_fk, dt_ref, mt_append, mt_extend, mt_pop0, mt_pop, mt_popD, mt_reverse, mt_get, mt_join, mt_split, mt_start, mt_lower, seti_ref, asg_nm, asg_tup, asg_fl, asgs_nil, asgs_cons, wipe_nil, wipe_cons, lay_fl, lay_fk, lay_ft, e, tsI])
  have hc : evE (CV n) c_show_things_0 [some (tupW lot), some (.str b), none] h = .ok (.fl ((lot.map tsI).map W.str)) h := by
    rw [List.map_map]
    exact lc_ok (i_tup (xs := lot.map enc) rfl) (by rw [List.length_map]; simp [Fs.lim]; omega) eL
  rw [call0 (d := p_show_things) (by kernel_rfl) (by kernel_rfl) rfl]
  unfold lotT
  have e0 := eq_nil h lot
  have is := isSt_map (lot.map tsI)
  have ss := figs_sum b hb lot hl hn
  generalize (lot.map tsI) = A at hc is ss
  generalize tupW lot = L at e0 hc ⊢
  by_cases h1 : lot = []
  · rw [h1] at e0
    simp [Ast.s_show_things_0, Ast.b_show_things_0, Ast.s_show_things_1, Ast.s_show_things_2, Ast.p_show_things, Fs.lim, exSs, exS, evE, evEs, evT, evO, evC, evI, isi, Fs.isTn, fresh, bind_ok, bind_ex, of_some, sb_ok, sb_ex, sq_nx, sq_rt, sq_ex, ret_rt, ret_nx, ret_ex, resO_some, bop_add, add_int, add_str, add_tup, add_fl, bop_sub, bop_mul, bop_mulL, bop_fdiv, bop_mod, bop_pow, cop_eq, cop_ne, eq_int, eq_str, eq_bl, cop_lt, lt_int, cop_gt, cop_le, cop_ge, cop_in, cop_nin, cop_is, cop_isn, is_non, is_bl, in_fk, in_ft, in_ref, in_fl, in_tu, non_non, non_bl, non_int, non_str, non_tup, non_fl, non_ref, key_int, key_str, tru_bl, tru_int, tru_non, tru_tup, tru_fl, tru_str, ty_non, ty_bl, ty_int, ty_str, ty_tup, ty_fl, ty_fk, ty_ref, blt_len, blt_list, blt_tuple, blt_sorted, blt_sum, blt_all, blt_any, blt_int, blt_str, blt_max, blt_min, blt_dict, len_tup, len_fl, len_fk, len_ft, len_str, len_ref, list_tup, list_fl, list_ref, tuple_fl, tuple_tup, sorted_fl, sum_fl, all_fl, any_fl, int_int, int_bl, int_str, str_int, ix_tup, ix_fl, ix_fk, ix_ft, ix_str, ix_ref, sl_tup, sl_fl, sl_str, l_fl, l_ref, rv_append, rv_extend, rv_pop, rv_reverse, rv_get, rv_popD, rv_join, rv_split, rv_start, rv_lower, isL_ref, isD_ref, dk_fk, dk_ft, dk_ref, dt_ft, dt_fk, dt_ref, mt_append, mt_extend, mt_pop0, mt_pop, mt_popD, mt_reverse, mt_get, mt_join, mt_split, mt_start, mt_lower, seti_ref, asg_nm, asg_tup, asg_fl, asgs_nil, asgs_cons, wipe_nil, wipe_cons, lay_fl, lay_fk, lay_ft, e0, h1]
  · simp only [h1, decide_false] at e0
    simp [Ast.s_show_things_0, Ast.b_show_things_0, Ast.s_show_things_1, Ast.s_show_things_2, Ast.p_show_things, Fs.lim, exSs, exS, evE, evEs, evT, evO, evC, evI, isi, Fs.isTn, fresh, bind_ok, bind_ex, of_some, sb_ok, sb_ex, sq_nx, sq_rt, sq_ex, ret_rt, ret_nx, ret_ex, resO_some, bop_add, add_int, add_str, add_tup, add_fl, bop_sub, bop_mul, bop_mulL, bop_fdiv, bop_mod, bop_pow, cop_eq, cop_ne, eq_int, eq_str, eq_bl, cop_lt, lt_int, cop_gt, cop_le, cop_ge, cop_in, cop_nin, cop_is, cop_isn, is_non, is_bl, in_fk, in_ft, in_ref, in_fl, in_tu, non_non, non_bl, non_int, non_str, non_tup, non_fl, non_ref, key_int, key_str, tru_bl, tru_int, tru_non, tru_tup, tru_fl, tru_str, ty_non, ty_bl, ty_int, ty_str, ty_tup, ty_fl, ty_fk, ty_ref, blt_len, blt_list, blt_tuple, blt_sorted, blt_sum, blt_all, blt_any, blt_int, blt_str, blt_max, blt_min, blt_dict, len_tup, len_fl, len_fk, len_ft, len_str, len_ref, list_tup, list_fl, list_ref, tuple_fl, tuple_tup, sorted_fl, sum_fl, all_fl, any_fl, int_int, int_bl, int_str, str_int, ix_tup, ix_fl, ix_fk, ix_ft, ix_str, ix_ref, sl_tup, sl_fl, sl_str, l_fl, l_ref, rv_append, rv_extend, rv_pop, rv_reverse, rv_get, rv_popD, rv_join, rv_split, rv_start, rv_lower, isL_ref, isD_ref, dk_fk, dk_ft, dk_ref, dt_ft, dt_fk, dt_ref, mt_append, mt_extend, mt_pop0, mt_pop, mt_popD, mt_reverse, mt_get, mt_join, mt_split, mt_start, mt_lower, seti_ref, asg_nm, asg_tup, asg_fl, asgs_nil, asgs_cons, wipe_nil, wipe_cons, lay_fl, lay_fk, lay_ft, e0, h1, hc, is, ss]
theorem f_things_text (n : Nat) (h : Hep) (b : Str) (hb : b.length = 1) (lot : List Int) (hl : Fig20 lot) (hn : lot.length ≤ 1000) : CV (n + 1) "_law_things_text" [tupW lot, .str b] h = .ok (.str (lotT b lot)) h := by
  have eL := lcL_map (g := (enc : Int → W)) (f := fun i => W.str (tsI i)) (xs := lot) (h := h) (step := stepV (CV n) [2] (.blt .str (.cons (.var 2) .nil)) (.nm 2) .none [some (tupW lot), some (.str b), none]) (by
    intro i hi
    have := hl i hi
    have e := log_w (i := i) (by omega)
    simp [stepV, enc_int, Fs.lim, exSs, exS, evE, evEs, evT, evO, evC, evI, isi, Fs.isTn, fresh, bind_ok, bind_ex, of_some, sb_ok, sb_ex, sq_nx, sq_rt, sq_ex, ret_rt, ret_nx, ret_ex, resO_some, bop_add, add_int, add_str, add_tup, add_fl, bop_sub, bop_mul, bop_mulL, bop_fdiv, bop_mod, bop_pow, cop_eq, cop_ne, eq_int, eq_str, eq_bl, cop_lt, lt_int, cop_gt, cop_le, cop_ge, cop_in, cop_nin, cop_is, cop_isn, is_non, is_bl, in_fk, in_ft, in_ref, in_fl, in_tu, non_non, non_bl, non_int, non_str, non_tup, non_fl, non_ref, key_int, key_str, tru_bl, tru_int, tru_non, tru_tup, tru_fl, tru_str, ty_non, ty_bl, ty_int, ty_str, ty_tup, ty_fl, ty_fk, ty_ref, blt_len, blt_list, blt_tuple, blt_sorted, blt_sum, blt_all, blt_any, blt_int, blt_str, blt_max, blt_min, blt_dict, len_tup, len_fl, len_fk, len_ft, len_str, len_ref, list_tup, list_fl, list_ref, tuple_fl, tuple_tup, sorted_fl, sum_fl, all_fl, any_fl, int_int, int_bl, int_str, str_int, ix_tup, ix_fl, ix_fk, ix_ft, ix_str, ix_ref, sl_tup, sl_fl, sl_str, l_fl, l_ref, rv_append, rv_extend, rv_pop, rv_reverse, rv_get, rv_popD, rv_join, rv_split, rv_start, rv_lower, isL_ref, isD_ref, dk_fk, dk_ft, dk_ref, dt_ft, dt_fk, dt_ref, mt_append, mt_extend, mt_pop0, mt_pop, mt_popD, mt_reverse, mt_get, mt_join, mt_split, mt_start, mt_lower, seti_ref, asg_nm, asg_tup, asg_fl, asgs_nil, asgs_cons, wipe_nil, wipe_cons, lay_fl, lay_fk, lay_ft, e, tsI])
  have hc : evE (CV n) c_law_things_text_0 [some (tupW lot), some (.str b), none] h = .ok (.fl ((lot.map tsI).map W.str)) h := by
    rw [List.map_map]
    exact lc_ok (i_tup (xs := lot.map enc) rfl) (by rw [List.length_map]; simp [Fs.lim]; omega) eL
  rw [call0 (d := p_law_things_text) (by kernel_rfl) (by kernel_rfl) rfl]
  unfold lotT
  have e0 := eq_nil h lot
  have is := isSt_map (lot.map tsI)
  have ss := figs_sum b hb lot hl hn
  generalize (lot.map tsI) = A at hc is ss
  generalize tupW lot = L at e0 hc ⊢
  by_cases h1 : lot = []
  · rw [h1] at e0
    simp [Ast.s_law_things_text_0, Ast.p_law_things_text, Fs.lim, exSs, exS, evE, evEs, evT, evO, evC, evI, isi, Fs.isTn, fresh, bind_ok, bind_ex, of_some, sb_ok, sb_ex, sq_nx, sq_rt, sq_ex, ret_rt, ret_nx, ret_ex, resO_some, bop_add, add_int, add_str, add_tup, add_fl, bop_sub, bop_mul, bop_mulL, bop_fdiv, bop_mod, bop_pow, cop_eq, cop_ne, eq_int, eq_str, eq_bl, cop_lt, lt_int, cop_gt, cop_le, cop_ge, cop_in, cop_nin, cop_is, cop_isn, is_non, is_bl, in_fk, in_ft, in_ref, in_fl, in_tu, non_non, non_bl, non_int, non_str, non_tup, non_fl, non_ref, key_int, key_str, tru_bl, tru_int, tru_non, tru_tup, tru_fl, tru_str, ty_non, ty_bl, ty_int, ty_str, ty_tup, ty_fl, ty_fk, ty_ref, blt_len, blt_list, blt_tuple, blt_sorted, blt_sum, blt_all, blt_any, blt_int, blt_str, blt_max, blt_min, blt_dict, len_tup, len_fl, len_fk, len_ft, len_str, len_ref, list_tup, list_fl, list_ref, tuple_fl, tuple_tup, sorted_fl, sum_fl, all_fl, any_fl, int_int, int_bl, int_str, str_int, ix_tup, ix_fl, ix_fk, ix_ft, ix_str, ix_ref, sl_tup, sl_fl, sl_str, l_fl, l_ref, rv_append, rv_extend, rv_pop, rv_reverse, rv_get, rv_popD, rv_join, rv_split, rv_start, rv_lower, isL_ref, isD_ref, dk_fk, dk_ft, dk_ref, dt_ft, dt_fk, dt_ref, mt_append, mt_extend, mt_pop0, mt_pop, mt_popD, mt_reverse, mt_get, mt_join, mt_split, mt_start, mt_lower, seti_ref, asg_nm, asg_tup, asg_fl, asgs_nil, asgs_cons, wipe_nil, wipe_cons, lay_fl, lay_fk, lay_ft, e0, h1, hc, is, ss, int_bl, L2.atI, L2.ixN]
  · simp only [h1, decide_false] at e0
    simp [Ast.s_law_things_text_0, Ast.p_law_things_text, Fs.lim, exSs, exS, evE, evEs, evT, evO, evC, evI, isi, Fs.isTn, fresh, bind_ok, bind_ex, of_some, sb_ok, sb_ex, sq_nx, sq_rt, sq_ex, ret_rt, ret_nx, ret_ex, resO_some, bop_add, add_int, add_str, add_tup, add_fl, bop_sub, bop_mul, bop_mulL, bop_fdiv, bop_mod, bop_pow, cop_eq, cop_ne, eq_int, eq_str, eq_bl, cop_lt, lt_int, cop_gt, cop_le, cop_ge, cop_in, cop_nin, cop_is, cop_isn, is_non, is_bl, in_fk, in_ft, in_ref, in_fl, in_tu, non_non, non_bl, non_int, non_str, non_tup, non_fl, non_ref, key_int, key_str, tru_bl, tru_int, tru_non, tru_tup, tru_fl, tru_str, ty_non, ty_bl, ty_int, ty_str, ty_tup, ty_fl, ty_fk, ty_ref, blt_len, blt_list, blt_tuple, blt_sorted, blt_sum, blt_all, blt_any, blt_int, blt_str, blt_max, blt_min, blt_dict, len_tup, len_fl, len_fk, len_ft, len_str, len_ref, list_tup, list_fl, list_ref, tuple_fl, tuple_tup, sorted_fl, sum_fl, all_fl, any_fl, int_int, int_bl, int_str, str_int, ix_tup, ix_fl, ix_fk, ix_ft, ix_str, ix_ref, sl_tup, sl_fl, sl_str, l_fl, l_ref, rv_append, rv_extend, rv_pop, rv_reverse, rv_get, rv_popD, rv_join, rv_split, rv_start, rv_lower, isL_ref, isD_ref, dk_fk, dk_ft, dk_ref, dt_ft, dt_fk, dt_ref, mt_append, mt_extend, mt_pop0, mt_pop, mt_popD, mt_reverse, mt_get, mt_join, mt_split, mt_start, mt_lower, seti_ref, asg_nm, asg_tup, asg_fl, asgs_nil, asgs_cons, wipe_nil, wipe_cons, lay_fl, lay_fk, lay_ft, e0, h1, hc, is, ss, int_bl, L2.atI, L2.ixN]
/-- a family whose parts can be told -/
def Told (f : Fam) : Prop := f.length ≤ 1000 ∧ ∀ q ∈ f, Fig20 q.1 ∧ q.1.length ≤ 1000 ∧ q.2.natAbs < 10 ^ 20
theorem memT_len {q : List Int × Int} (h : Fig20 q.1 ∧ q.1.length ≤ 1000 ∧ q.2.natAbs < 10 ^ 20) : (memT q).length ≤ 22 * q.1.length + 24 := by
  unfold memT
  rw [app_len, app_len]
  have h1 := lotT_len (b := " ") (by decide) q.1 h.1
  have h2 := worth_len h.2.2
  have h3 : (":" : Str).length = 1 := by decide
  omega
theorem famT_sum {f : Fam} (hf : Told f) (hs : ∀ q ∈ f, q.1.length ≤ 300) : ((f.map memT).map (·.length)).sum + (f.map memT).length * ("; " : Str).length ≤ 16777216 := by
  have h2 : ((f.map memT).map (·.length)).sum ≤ 7000 * f.length := by
    rw [List.map_map]
    refine sum_le (fun q => (memT q).length) 7000 f fun q hq => ?_
    have := memT_len (hf.2 q hq)
    have := hs q hq
    omega
  have h3 : ("; " : Str).length = 2 := by decide
  rw [h3, List.length_map]
  have := hf.1
  omega
theorem f_show_family (n : Nat) (h : Hep) (f : Fam) (hf : Told f) (hs : ∀ q ∈ f, q.1.length ≤ 300) : CV (n + 2) "show_family" [famW f] h = .ok (.str (famT f)) h := by
  have eL := lcL_map (g := fun q : List Int × Int => enc ((⟨q.1⟩ : Tup Int), q.2)) (f := fun q => W.str (memT q)) (xs := f) (h := h) (step := stepV (CV (n + 1)) [1, 2] (.bin .add (.bin .add (.call "show_things" (.cons (.var 1) (.cons (.str " ") .nil))) (.str ":")) (.blt .str (.cons (.var 2) .nil))) (.tp [(.nm 1), (.nm 2)]) .none [some (famW f), none, none]) (by
    intro q hq
    obtain ⟨h1, h2, h3⟩ := hf.2 q hq
    have e := log_w (i := q.2) h3
    have e1 := f_show_things n h " " (by decide) q.1 h1 h2
    have l1 := lotT_len (b := " ") (by decide) q.1 h1
    have l2 := worth_len h3
    have l3 : (":" : Str).length = 1 := by decide
    have a1 : (lotT " " q.1).length + (":" : Str).length ≤ 16777216 := by omega
    have a2 : (lotT " " q.1 ++ ":").length + (tsI q.2).length ≤ 16777216 := by rw [app_len]; omega
    rw [enc_pr, enc_tup, enc_int]
    show _ = Res.ok (some (W.str (lotT " " q.1 ++ ":" ++ tsI q.2))) h
    generalize lotT " " q.1 = A at e1 a1 a2 ⊢
    simp only [tsI] at a2 ⊢
    simp [stepV, Fs.lim, exSs, exS, evE, evEs, evT, evO, evC, evI, isi, Fs.isTn, fresh, bind_ok, bind_ex, of_some, sb_ok, sb_ex, sq_nx, sq_rt, sq_ex, ret_rt, ret_nx, ret_ex, resO_some, bop_add, add_int, add_str, add_tup, add_fl, bop_sub, bop_mul, bop_mulL, bop_fdiv, bop_mod, bop_pow, cop_eq, cop_ne, eq_int, eq_str, eq_bl, cop_lt, lt_int, cop_gt, cop_le, cop_ge, cop_in, cop_nin, cop_is, cop_isn, is_non, is_bl, in_fk, in_ft, in_ref, in_fl, in_tu, non_non, non_bl, non_int, non_str, non_tup, non_fl, non_ref, key_int, key_str, tru_bl, tru_int, tru_non, tru_tup, tru_fl, tru_str, ty_non, ty_bl, ty_int, ty_str, ty_tup, ty_fl, ty_fk, ty_ref, blt_len, blt_list, blt_tuple, blt_sorted, blt_sum, blt_all, blt_any, blt_int, blt_str, blt_max, blt_min, blt_dict, len_tup, len_fl, len_fk, len_ft, len_str, len_ref, list_tup, list_fl, list_ref, tuple_fl, tuple_tup, sorted_fl, sum_fl, all_fl, any_fl, int_int, int_bl, int_str, str_int, ix_tup, ix_fl, ix_fk, ix_ft, ix_str, ix_ref, sl_tup, sl_fl, sl_str, l_fl, l_ref, rv_append, rv_extend, rv_pop, rv_reverse, rv_get, rv_popD, rv_join, rv_split, rv_start, rv_lower, isL_ref, isD_ref, dk_fk, dk_ft, dk_ref, dt_ft, dt_fk, dt_ref, mt_append, mt_extend, mt_pop0, mt_pop, mt_popD, mt_reverse, mt_get, mt_join, mt_split, mt_start, mt_lower, seti_ref, asg_nm, asg_tup, asg_fl, asgs_nil, asgs_cons, wipe_nil, wipe_cons, lay_fl, lay_fk, lay_ft, e, e1, a1]
    rw [if_pos (by exact a2)]
    rfl)
  have hc : evE (CV (n + 1)) c_show_family_0 [some (famW f), none, none] h = .ok (.fl ((f.map memT).map W.str)) h := by
    rw [List.map_map]
    refine lc_ok (i_fl (xs := (fd f).map enc) rfl) (by simp [Fs.lim, fd]; have := hf.1; omega) ?_
    unfold fd
    rw [List.map_map]
    exact eL
  rw [call0 (d := p_show_family) (by kernel_rfl) (by kernel_rfl) rfl]
  unfold famT
  have is := isSt_map (f.map memT)
  have ss := famT_sum hf hs
  generalize (f.map memT) = A at hc is ss
  simp [Ast.s_show_family_0, Ast.p_show_family, Fs.lim, exSs, exS, evE, evEs, evT, evO, evC, evI, isi, Fs.isTn, fresh, bind_ok, bind_ex, of_some, sb_ok, sb_ex, sq_nx, sq_rt, sq_ex, ret_rt, ret_nx, ret_ex, resO_some, bop_add, add_int, add_str, add_tup, add_fl, bop_sub, bop_mul, bop_mulL, bop_fdiv, bop_mod, bop_pow, cop_eq, cop_ne, eq_int, eq_str, eq_bl, cop_lt, lt_int, cop_gt, cop_le, cop_ge, cop_in, cop_nin, cop_is, cop_isn, is_non, is_bl, in_fk, in_ft, in_ref, in_fl, in_tu, non_non, non_bl, non_int, non_str, non_tup, non_fl, non_ref, key_int, key_str, tru_bl, tru_int, tru_non, tru_tup, tru_fl, tru_str, ty_non, ty_bl, ty_int, ty_str, ty_tup, ty_fl, ty_fk, ty_ref, blt_len, blt_list, blt_tuple, blt_sorted, blt_sum, blt_all, blt_any, blt_int, blt_str, blt_max, blt_min, blt_dict, len_tup, len_fl, len_fk, len_ft, len_str, len_ref, list_tup, list_fl, list_ref, tuple_fl, tuple_tup, sorted_fl, sum_fl, all_fl, any_fl, int_int, int_bl, int_str, str_int, ix_tup, ix_fl, ix_fk, ix_ft, ix_str, ix_ref, sl_tup, sl_fl, sl_str, l_fl, l_ref, rv_append, rv_extend, rv_pop, rv_reverse, rv_get, rv_popD, rv_join, rv_split, rv_start, rv_lower, isL_ref, isD_ref, dk_fk, dk_ft, dk_ref, dt_ft, dt_fk, dt_ref, mt_append, mt_extend, mt_pop0, mt_pop, mt_popD, mt_reverse, mt_get, mt_join, mt_split, mt_start, mt_lower, seti_ref, asg_nm, asg_tup, asg_fl, asgs_nil, asgs_cons, wipe_nil, wipe_cons, lay_fl, lay_fk, lay_ft, hc, is]
  rw [if_pos (by exact ss)]
  rfl
theorem f_shown (n : Nat) (h : Hep) (f : Fam) (hf : Told f) (hs : ∀ q ∈ f, q.1.length ≤ 300) : CV (n + 2) "_law_shown" [famW f] h = .ok (.str (famT f)) h := by
  have eL := lcL_map (g := fun q : List Int × Int => enc ((⟨q.1⟩ : Tup Int), q.2)) (f := fun q => W.str (memT q)) (xs := f) (h := h) (step := stepV (CV (n + 1)) [1, 2] (.bin .add (.bin .add (.call "_law_things_text" (.cons (.var 1) (.cons (.str " ") .nil))) (.str ":")) (.blt .str (.cons (.var 2) .nil))) (.tp [(.nm 1), (.nm 2)]) .none [some (famW f), none, none]) (by
    intro q hq
    obtain ⟨h1, h2, h3⟩ := hf.2 q hq
    have e := log_w (i := q.2) h3
    have e1 := f_things_text n h " " (by decide) q.1 h1 h2
    have l1 := lotT_len (b := " ") (by decide) q.1 h1
    have l2 := worth_len h3
    have l3 : (":" : Str).length = 1 := by decide
    have a1 : (lotT " " q.1).length + (":" : Str).length ≤ 16777216 := by omega
    have a2 : (lotT " " q.1 ++ ":").length + (tsI q.2).length ≤ 16777216 := by rw [app_len]; omega
    rw [enc_pr, enc_tup, enc_int]
    show _ = Res.ok (some (W.str (lotT " " q.1 ++ ":" ++ tsI q.2))) h
    generalize lotT " " q.1 = A at e1 a1 a2 ⊢
    simp only [tsI] at a2 ⊢
    simp [stepV, Fs.lim, exSs, exS, evE, evEs, evT, evO, evC, evI, isi, Fs.isTn, fresh, bind_ok, bind_ex, of_some, sb_ok, sb_ex, sq_nx, sq_rt, sq_ex, ret_rt, ret_nx, ret_ex, resO_some, bop_add, add_int, add_str, add_tup, add_fl, bop_sub, bop_mul, bop_mulL, bop_fdiv, bop_mod, bop_pow, cop_eq, cop_ne, eq_int, eq_str, eq_bl, cop_lt, lt_int, cop_gt, cop_le, cop_ge, cop_in, cop_nin, cop_is, cop_isn, is_non, is_bl, in_fk, in_ft, in_ref, in_fl, in_tu, non_non, non_bl, non_int, non_str, non_tup, non_fl, non_ref, key_int, key_str, tru_bl, tru_int, tru_non, tru_tup, tru_fl, tru_str, ty_non, ty_bl, ty_int, ty_str, ty_tup, ty_fl, ty_fk, ty_ref, blt_len, blt_list, blt_tuple, blt_sorted, blt_sum, blt_all, blt_any, blt_int, blt_str, blt_max, blt_min, blt_dict, len_tup, len_fl, len_fk, len_ft, len_str, len_ref, list_tup, list_fl, list_ref, tuple_fl, tuple_tup, sorted_fl, sum_fl, all_fl, any_fl, int_int, int_bl, int_str, str_int, ix_tup, ix_fl, ix_fk, ix_ft, ix_str, ix_ref, sl_tup, sl_fl, sl_str, l_fl, l_ref, rv_append, rv_extend, rv_pop, rv_reverse, rv_get, rv_popD, rv_join, rv_split, rv_start, rv_lower, isL_ref, isD_ref, dk_fk, dk_ft, dk_ref, dt_ft, dt_fk, dt_ref, mt_append, mt_extend, mt_pop0, mt_pop, mt_popD, mt_reverse, mt_get, mt_join, mt_split, mt_start, mt_lower, seti_ref, asg_nm, asg_tup, asg_fl, asgs_nil, asgs_cons, wipe_nil, wipe_cons, lay_fl, lay_fk, lay_ft, e, e1, a1]
    rw [if_pos (by exact a2)]
    rfl)
  have hc : evE (CV (n + 1)) c_law_shown_0 [some (famW f), none, none] h = .ok (.fl ((f.map memT).map W.str)) h := by
    rw [List.map_map]
    refine lc_ok (i_fl (xs := (fd f).map enc) rfl) (by simp [Fs.lim, fd]; have := hf.1; omega) ?_
    unfold fd
    rw [List.map_map]
    exact eL
  rw [call0 (d := p_law_shown) (by kernel_rfl) (by kernel_rfl) rfl]
  unfold famT
  have is := isSt_map (f.map memT)
  have ss := famT_sum hf hs
  generalize (f.map memT) = A at hc is ss
  simp [Ast.s_law_shown_0, Ast.p_law_shown, Fs.lim, exSs, exS, evE, evEs, evT, evO, evC, evI, isi, Fs.isTn, fresh, bind_ok, bind_ex, of_some, sb_ok, sb_ex, sq_nx, sq_rt, sq_ex, ret_rt, ret_nx, ret_ex, resO_some, bop_add, add_int, add_str, add_tup, add_fl, bop_sub, bop_mul, bop_mulL, bop_fdiv, bop_mod, bop_pow, cop_eq, cop_ne, eq_int, eq_str, eq_bl, cop_lt, lt_int, cop_gt, cop_le, cop_ge, cop_in, cop_nin, cop_is, cop_isn, is_non, is_bl, in_fk, in_ft, in_ref, in_fl, in_tu, non_non, non_bl, non_int, non_str, non_tup, non_fl, non_ref, key_int, key_str, tru_bl, tru_int, tru_non, tru_tup, tru_fl, tru_str, ty_non, ty_bl, ty_int, ty_str, ty_tup, ty_fl, ty_fk, ty_ref, blt_len, blt_list, blt_tuple, blt_sorted, blt_sum, blt_all, blt_any, blt_int, blt_str, blt_max, blt_min, blt_dict, len_tup, len_fl, len_fk, len_ft, len_str, len_ref, list_tup, list_fl, list_ref, tuple_fl, tuple_tup, sorted_fl, sum_fl, all_fl, any_fl, int_int, int_bl, int_str, str_int, ix_tup, ix_fl, ix_fk, ix_ft, ix_str, ix_ref, sl_tup, sl_fl, sl_str, l_fl, l_ref, rv_append, rv_extend, rv_pop, rv_reverse, rv_get, rv_popD, rv_join, rv_split, rv_start, rv_lower, isL_ref, isD_ref, dk_fk, dk_ft, dk_ref, dt_ft, dt_fk, dt_ref, mt_append, mt_extend, mt_pop0, mt_pop, mt_popD, mt_reverse, mt_get, mt_join, mt_split, mt_start, mt_lower, seti_ref, asg_nm, asg_tup, asg_fl, asgs_nil, asgs_cons, wipe_nil, wipe_cons, lay_fl, lay_fk, lay_ft, hc, is]
  rw [if_pos (by exact ss)]
  rfl
end Fw
set_option Elab.async false
set_option linter.all false
set_option maxRecDepth 100000
set_option maxHeartbeats 4000000
namespace Fw
open Enc (enc)
open PySem L2
open PySem.W (Datum DatumOrd Tup)
open Fs (lim keyOf keysOf kVal look put drp setF Bop Cop Ty Tn isTn cut Blt Mt Tg E Es Oe I S Ss Def)
open Ast
/-! ### texts read -/
theorem starts_dash (t : Str) : Txt.startswith t "-" = decide ((TL.tl t).head? = some 45) := by
  unfold Txt.startswith
  rw [StrLaws.subAt_eq, show ("-" : Str).cps.toList = [45] by decide, show ("-" : Str).length = 1 by decide, TL.len_tl]
  show (decide (0 + 1 ≤ (TL.tl t).length) && ((TL.tl t).drop 0).take 1 == [45]) = _
  cases TL.tl t with
  | nil => rfl
  | cons c r =>
    by_cases hc : c = 45 <;> simp [hc]
theorem cut_one {t : Str} {c : Nat} {r : List Nat} (e : TL.tl t = c :: r) : TL.tl (cutS t (some 1) none) = r := by
  have l : t.length = r.length + 1 := by rw [TL.len_tl, e]; rfl
  show (((TL.tl t).drop (HT.sIx t.length 0 (some 1))).take (HT.sIx t.length t.length none - HT.sIx t.length 0 (some 1))) = r
  have e1 : HT.sIx t.length 0 (some 1) = 1 := by
    show (if (1 : Int) < 0 then ((1 : Int) + (t.length : Int)).toNat else min (1 : Int).toNat t.length) = 1
    rw [if_neg (by decide), l]
    show min 1 (r.length + 1) = 1
    omega
  rw [e1, e, l]
  show r.take (r.length + 1 - 1) = r
  simp
theorem f_is_worth_text (n : Nat) (h : Hep) (w : Int) (hw : w.natAbs < 10 ^ 20) : CV (n + 2) "is_worth_text" [.str (tsI w)] h = .ok (.bl true) h := by
  have hl := worth_len hw
  rw [call0 (d := p_is_worth_text) (by kernel_rfl) (by kernel_rfl) rfl]
  rcases worth_cases w with ⟨k, rfl, e⟩ | ⟨k, hk, rfl, e⟩
  · have st : Txt.startswith (tsI (k : Int)) "-" = false := by
      rw [starts_dash, e]
      cases q : TL.numL k with
      | nil => rfl
      | cons c r =>
        have := TL.numL_digits k c (by rw [q]; exact List.mem_cons_self ..)
        have hc : c ≠ 45 := by omega
        simp [hc]
    have fg := f_are_figures n h (tsI (k : Int)) 20 (by omega)
    rw [show (20 : Int) = ((20 : Nat) : Int) from rfl, fig_num (n := k) (most := 20) (by omega) (by decide)] at fg
    generalize tsI (k : Int) = t at st fg ⊢
    simp at fg
    simp [Ast.s_is_worth_text_0, Ast.b_is_worth_text_0, Ast.s_is_worth_text_1, Ast.s_is_worth_text_2, Ast.p_is_worth_text, Fs.lim, exSs, exS, evE, evEs, evT, evO, evC, evI, isi, Fs.isTn, fresh, bind_ok, bind_ex, of_some, sb_ok, sb_ex, sq_nx, sq_rt, sq_ex, ret_rt, ret_nx, ret_ex, resO_some, bop_add, add_int, add_str, add_tup, add_fl, bop_sub, bop_mul, bop_mulL, bop_fdiv, bop_mod, bop_pow, cop_eq, cop_ne, eq_int, eq_str, eq_bl, cop_lt, lt_int, cop_gt, cop_le, cop_ge, cop_in, cop_nin, cop_is, cop_isn, is_non, is_bl, in_fk, in_ft, in_ref, in_fl, in_tu, non_non, non_bl, non_int, non_str, non_tup, non_fl, non_ref, key_int, key_str, tru_bl, tru_int, tru_non, tru_tup, tru_fl, tru_str, ty_non, ty_bl, ty_int, ty_str, ty_tup, ty_fl, ty_fk, ty_ref, blt_len, blt_list, blt_tuple, blt_sorted, blt_sum, blt_all, blt_any, blt_int, blt_str, blt_max, blt_min, blt_dict, len_tup, len_fl, len_fk, len_ft, len_str, len_ref, list_tup, list_fl, list_ref, tuple_fl, tuple_tup, sorted_fl, sum_fl, all_fl, any_fl, int_int, int_bl, int_str, str_int, ix_tup, ix_fl, ix_fk, ix_ft, ix_str, ix_ref, sl_tup, sl_fl, sl_str, l_fl, l_ref, rv_append, rv_extend, rv_pop, rv_reverse, rv_get, rv_popD, rv_join, rv_split, rv_start, rv_lower, isL_ref, isD_ref, dk_fk, dk_ft, dk_ref, dt_ft, dt_fk, dt_ref, mt_append, mt_extend, mt_pop0, mt_pop, mt_popD, mt_reverse, mt_get, mt_join, mt_split, mt_start, mt_lower, seti_ref, asg_nm, asg_tup, asg_fl, asgs_nil, asgs_cons, wipe_nil, wipe_cons, lay_fl, lay_fk, lay_ft, st, fg]
  · have st : Txt.startswith (tsI (-(k : Int))) "-" = true := by
      rw [starts_dash, e]
      rfl
    have e2 : cutS (tsI (-(k : Int))) (some 1) none = tsI (k : Int) := tl_inj (by rw [cut_one e]; exact (TL.tl_num k).symm)
    have fg := f_are_figures n h (tsI (k : Int)) 20 (by have := worth_len (w := (k : Int)) (by omega); omega)
    rw [show (20 : Int) = ((20 : Nat) : Int) from rfl, fig_num (n := k) (most := 20) (by omega) (by decide)] at fg
    have ne : tsI (-(k : Int)) ≠ "-0" := by
      intro z
      have : TL.tl (tsI (-(k : Int))) = TL.tl "-0" := by rw [z]
      rw [e, show TL.tl "-0" = [45, 48] by decide] at this
      have h2 : TL.numL k = TL.numL 0 := by
        have := (List.cons.inj this).2
        rw [this]
        rfl
      have := TL.numL_inj h2
      omega
    have hl2 : (tsI (-(k : Int))).length ≤ 16777216 := by omega
    generalize tsI (-(k : Int)) = t at st e2 ne hl2 ⊢
    generalize tsI (k : Int) = u at e2 fg
    simp at fg
    simp [Ast.s_is_worth_text_0, Ast.b_is_worth_text_0, Ast.s_is_worth_text_1, Ast.s_is_worth_text_2, Ast.p_is_worth_text, Fs.lim, exSs, exS, evE, evEs, evT, evO, evC, evI, isi, Fs.isTn, fresh, bind_ok, bind_ex, of_some, sb_ok, sb_ex, sq_nx, sq_rt, sq_ex, ret_rt, ret_nx, ret_ex, resO_some, bop_add, add_int, add_str, add_tup, add_fl, bop_sub, bop_mul, bop_mulL, bop_fdiv, bop_mod, bop_pow, cop_eq, cop_ne, eq_int, eq_str, eq_bl, cop_lt, lt_int, cop_gt, cop_le, cop_ge, cop_in, cop_nin, cop_is, cop_isn, is_non, is_bl, in_fk, in_ft, in_ref, in_fl, in_tu, non_non, non_bl, non_int, non_str, non_tup, non_fl, non_ref, key_int, key_str, tru_bl, tru_int, tru_non, tru_tup, tru_fl, tru_str, ty_non, ty_bl, ty_int, ty_str, ty_tup, ty_fl, ty_fk, ty_ref, blt_len, blt_list, blt_tuple, blt_sorted, blt_sum, blt_all, blt_any, blt_int, blt_str, blt_max, blt_min, blt_dict, len_tup, len_fl, len_fk, len_ft, len_str, len_ref, list_tup, list_fl, list_ref, tuple_fl, tuple_tup, sorted_fl, sum_fl, all_fl, any_fl, int_int, int_bl, int_str, str_int, ix_tup, ix_fl, ix_fk, ix_ft, ix_str, ix_ref, sl_tup, sl_fl, sl_str, l_fl, l_ref, rv_append, rv_extend, rv_pop, rv_reverse, rv_get, rv_popD, rv_join, rv_split, rv_start, rv_lower, isL_ref, isD_ref, dk_fk, dk_ft, dk_ref, dt_ft, dt_fk, dt_ref, mt_append, mt_extend, mt_pop0, mt_pop, mt_popD, mt_reverse, mt_get, mt_join, mt_split, mt_start, mt_lower, seti_ref, asg_nm, asg_tup, asg_fl, asgs_nil, asgs_cons, wipe_nil, wipe_cons, lay_fl, lay_fk, lay_ft, st, fg, e2, ne, hl2]
theorem risB_of {m : Int} : ∀ {lot : List Int} {last : Int}, lot.Pairwise (· < ·) → (∀ x ∈ lot, last < x ∧ x < m) → risB m last lot = true
  | [], _, _, _ => rfl
  | x :: r, last, hp, hx => by
    rw [List.pairwise_cons] at hp
    have h1 := hx x (List.mem_cons_self ..)
    unfold risB
    rw [risB_of hp.2 fun y hy => ⟨hp.1 y hy, (hx y (List.mem_cons_of_mem _ hy)).2⟩]
    simp
    omega
theorem f_is_lot (n : Nat) (h : Hep) (m : Int) (lot : List Int) (hr : Rising m lot) : CV (n + 4) "is_lot" [.int m, .int lot.length, tupW lot] h = .ok (.bl true) h := by
  have e := f_is_rising n h m lot
  rw [risB_of hr.1 fun x hx => ⟨by have := (hr.2 x hx).1; omega, (hr.2 x hx).2⟩] at e
  rw [call0 (d := p_is_lot) (by kernel_rfl) (by kernel_rfl) rfl]
  have hl : lenV h (tupW lot) = some (.int lot.length) := by simp [lenV, tupW]
  generalize tupW lot = L at e hl ⊢
  simp [Ast.s_is_lot_0, Ast.p_is_lot, Fs.lim, exSs, exS, evE, evEs, evT, evO, evC, evI, isi, Fs.isTn, fresh, bind_ok, bind_ex, of_some, sb_ok, sb_ex, sq_nx, sq_rt, sq_ex, ret_rt, ret_nx, ret_ex, resO_some, bop_add, add_int, add_str, add_tup, add_fl, bop_sub, bop_mul, bop_mulL, bop_fdiv, bop_mod, bop_pow, cop_eq, cop_ne, eq_int, eq_str, eq_bl, cop_lt, lt_int, cop_gt, cop_le, cop_ge, cop_in, cop_nin, cop_is, cop_isn, is_non, is_bl, in_fk, in_ft, in_ref, in_fl, in_tu, non_non, non_bl, non_int, non_str, non_tup, non_fl, non_ref, key_int, key_str, tru_bl, tru_int, tru_non, tru_tup, tru_fl, tru_str, ty_non, ty_bl, ty_int, ty_str, ty_tup, ty_fl, ty_fk, ty_ref, blt_len, blt_list, blt_tuple, blt_sorted, blt_sum, blt_all, blt_any, blt_int, blt_str, blt_max, blt_min, blt_dict, len_tup, len_fl, len_fk, len_ft, len_str, len_ref, list_tup, list_fl, list_ref, tuple_fl, tuple_tup, sorted_fl, sum_fl, all_fl, any_fl, int_int, int_bl, int_str, str_int, ix_tup, ix_fl, ix_fk, ix_ft, ix_str, ix_ref, sl_tup, sl_fl, sl_str, l_fl, l_ref, rv_append, rv_extend, rv_pop, rv_reverse, rv_get, rv_popD, rv_join, rv_split, rv_start, rv_lower, isL_ref, isD_ref, dk_fk, dk_ft, dk_ref, dt_ft, dt_fk, dt_ref, mt_append, mt_extend, mt_pop0, mt_pop, mt_popD, mt_reverse, mt_get, mt_join, mt_split, mt_start, mt_lower, seti_ref, asg_nm, asg_tup, asg_fl, asgs_nil, asgs_cons, wipe_nil, wipe_cons, lay_fl, lay_fk, lay_ft, e, hl]
/-- no sign of its own in a told lot -/
theorem joinL_free {s : Nat} {S : List Nat} (hS : s ∉ S) : ∀ {ps : List (List Nat)}, (∀ p ∈ ps, s ∉ p) → s ∉ TL.joinL S ps
  | [], _ => by simp [TL.joinL]
  | [p], hp => hp p (List.mem_singleton.mpr rfl)
  | p :: q :: r, hp => by
    show s ∉ p ++ (S ++ TL.joinL S (q :: r))
    have h1 := hp p (List.mem_cons_self ..)
    have h2 := joinL_free hS (ps := q :: r) fun z hz => hp z (List.mem_cons_of_mem _ hz)
    simp only [List.mem_append, not_or]
    exact ⟨h1, hS, h2⟩
theorem lot_free {s : Nat} (h1 : s < 48 ∨ 57 < s) (h2 : s ≠ 45) (h3 : s ≠ 32) {lot : List Int} (hl : ∀ x ∈ lot, 0 ≤ x) : s ∉ TL.tl (lotT " " lot) := by
  unfold lotT
  split
  · rw [show TL.tl "-" = [45] by decide]
    simpa using h2
  · rw [tl_tj, show TL.tl " " = [32] by decide]
    refine joinL_free (by simpa using h3) fun p hp => ?_
    obtain ⟨t, ht, rfl⟩ := List.mem_map.mp hp
    obtain ⟨i, hi, rfl⟩ := List.mem_map.mp ht
    rw [ts_nat (hl i hi)]
    exact TL.numL_free h1
theorem worth_free {s : Nat} (h1 : s < 48 ∨ 57 < s) (h2 : s ≠ 45) (w : Int) : s ∉ TL.tl (tsI w) := by
  rcases worth_cases w with ⟨n, rfl, e⟩ | ⟨n, _, rfl, e⟩
  · rw [e]; exact TL.numL_free h1
  · rw [e]
    simp only [List.mem_cons, not_or]
    exact ⟨h2, TL.numL_free h1⟩
theorem lot_split {lot : List Int} (hne : lot ≠ []) (hl : ∀ x ∈ lot, 0 ≤ x) : Txt.split (lotT " " lot) " " = lot.map tsI := by
  unfold lotT
  rw [if_neg hne]
  refine TL.split_join (s := 32) (S := []) (by decide) (by decide +kernel) (by simpa using hne) fun p hp => ?_
  obtain ⟨i, hi, rfl⟩ := List.mem_map.mp hp
  rw [ts_nat (hl i hi)]
  exact TL.numL_free (.inl (by decide))
theorem joinL_head {S : List Nat} : ∀ {p : List Nat} {ps : List (List Nat)}, p ≠ [] → (TL.joinL S (p :: ps)).head? = p.head?
  | p, [], _ => rfl
  | c :: p, q :: r, _ => rfl
theorem lot_dash {lot : List Int} (hne : lot ≠ []) (hl : ∀ x ∈ lot, 0 ≤ x) : lotT " " lot ≠ "-" := by
  unfold lotT
  rw [if_neg hne]
  intro z
  cases lot with
  | nil => exact hne rfl
  | cons a r =>
    have e : (TL.tl (Txt.join " " ((a :: r).map tsI))).head? = some 45 := by rw [z]; decide
    rw [tl_tj, List.map_cons, List.map_cons, joinL_head (by rw [ts_nat (hl a (List.mem_cons_self ..))]; exact TL.numL_ne _), ts_nat (hl a (List.mem_cons_self ..))] at e
    have := TL.numL_digits a.toNat 45 (List.mem_of_head? e)
    omega
theorem int_worth {w : Int} (h : w.natAbs < 10 ^ 20) : PySem.intText? (tsI w) = some w := by
  rcases worth_cases w with ⟨n, rfl, e⟩ | ⟨n, h0, rfl, e⟩
  · exact int_of (by omega)
  · have hl : (tsI (-(n : Int))).length ≤ 21 := worth_len h
    have := PySem.intText_neg (x := tsI (-(n : Int))) e (TL.numL_digits n) (TL.numL_ne n) (by omega)
    rw [this, TL.numL_val]
theorem f_things_of (n : Nat) (h : Hep) (lot : List Int) (hl : Fig20 lot) (hn : lot.length ≤ 300) : CV (n + 2) "things_of" [.str (lotT " " lot), .str " ", .int 20] h = .ok (tupW lot) h := by
  rw [call0 (d := p_things_of) (by kernel_rfl) (by kernel_rfl) rfl]
  by_cases hne : lot = []
  · subst hne
    rw [show lotT " " [] = "-" from rfl]
    simp [Ast.s_things_of_0, Ast.b_things_of_0, Ast.s_things_of_1, Ast.s_things_of_2, Ast.s_things_of_3, Ast.b_things_of_1, Ast.s_things_of_4, Ast.s_things_of_5, Ast.p_things_of, Fs.lim, exSs, exS, evE, evEs, evT, evO, evC, evI, isi, Fs.isTn, fresh, bind_ok, bind_ex, of_some, sb_ok, sb_ex, sq_nx, sq_rt, sq_ex, ret_rt, ret_nx, ret_ex, resO_some, bop_add, add_int, add_str, add_tup, add_fl, bop_sub, bop_mul, bop_mulL, bop_fdiv, bop_mod, bop_pow, cop_eq, cop_ne, eq_int, eq_str, eq_bl, cop_lt, lt_int, cop_gt, cop_le, cop_ge, cop_in, cop_nin, cop_is, cop_isn, is_non, is_bl, in_fk, in_ft, in_ref, in_fl, in_tu, non_non, non_bl, non_int, non_str, non_tup, non_fl, non_ref, key_int, key_str, tru_bl, tru_int, tru_non, tru_tup, tru_fl, tru_str, ty_non, ty_bl, ty_int, ty_str, ty_tup, ty_fl, ty_fk, ty_ref, blt_len, blt_list, blt_tuple, blt_sorted, blt_sum, blt_all, blt_any, blt_int, blt_str, blt_max, blt_min, blt_dict, len_tup, len_fl, len_fk, len_ft, len_str, len_ref, list_tup, list_fl, list_ref, tuple_fl, tuple_tup, sorted_fl, sum_fl, all_fl, any_fl, int_int, int_bl, int_str, str_int, ix_tup, ix_fl, ix_fk, ix_ft, ix_str, ix_ref, sl_tup, sl_fl, sl_str, l_fl, l_ref, rv_append, rv_extend, rv_pop, rv_reverse, rv_get, rv_popD, rv_join, rv_split, rv_start, rv_lower, isL_ref, isD_ref, dk_fk, dk_ft, dk_ref, dt_ft, dt_fk, dt_ref, mt_append, mt_extend, mt_pop0, mt_pop, mt_popD, mt_reverse, mt_get, mt_join, mt_split, mt_start, mt_lower, seti_ref, asg_nm, asg_tup, asg_fl, asgs_nil, asgs_cons, wipe_nil, wipe_cons, lay_fl, lay_fk, lay_ft, tupW]
  · have l1 := lotT_len (b := " ") (by decide) lot hl
    have sp := lot_split hne fun x hx => (hl x hx).1
    have nd := lot_dash hne fun x hx => (hl x hx).1
    have l2 : (lotT " " lot).length + 2 ≤ 16777216 := by omega
    have b1 : ((" " : Str).length == 0) = false := by decide
    have big : ∀ i ∈ lot, figB 20 (tsI i) = true := by
      intro i hi
      obtain ⟨k, rfl⟩ := Int.eq_ofNat_of_zero_le (hl i hi).1
      exact fig_num (n := k) (most := 20) (by have := (hl _ hi).2; omega) (by decide)
    generalize lotT " " lot = t at sp nd l2
    obtain ⟨B, hB⟩ : ∃ B, B = lot.map fun i => W.str (tsI i) := ⟨_, rfl⟩
    have hBl : B.length = lot.length := by rw [hB, List.length_map]
    have eL := lcL_map (g := fun i : Int => W.str (tsI i)) (f := fun _ => W.bl true) (xs := lot) (h := h) (step := stepV (CV (n + 1)) [4] (.call "are_figures" (.cons (.var 4) (.cons (.var 2) .nil))) (.nm 4) .none [some (.str t), some (.str " "), some (.int 20), some (.fl B), none]) (by
      intro i hi
      have e := f_are_figures n h (tsI i) 20 (by have := worth_len (w := i) (by have := hl i hi; omega); omega)
      rw [big i hi] at e
      generalize tsI i = u at e
      simp [stepV, Fs.lim, exSs, exS, evE, evEs, evT, evO, evC, evI, isi, Fs.isTn, fresh, bind_ok, bind_ex, of_some, sb_ok, sb_ex, sq_nx, sq_rt, sq_ex, ret_rt, ret_nx, ret_ex, resO_some, bop_add, add_int, add_str, add_tup, add_fl, bop_sub, bop_mul, bop_mulL, bop_fdiv, bop_mod, bop_pow, cop_eq, cop_ne, eq_int, eq_str, eq_bl, cop_lt, lt_int, cop_gt, cop_le, cop_ge, cop_in, cop_nin, cop_is, cop_isn, is_non, is_bl, in_fk, in_ft, in_ref, in_fl, in_tu, non_non, non_bl, non_int, non_str, non_tup, non_fl, non_ref, key_int, key_str, tru_bl, tru_int, tru_non, tru_tup, tru_fl, tru_str, ty_non, ty_bl, ty_int, ty_str, ty_tup, ty_fl, ty_fk, ty_ref, blt_len, blt_list, blt_tuple, blt_sorted, blt_sum, blt_all, blt_any, blt_int, blt_str, blt_max, blt_min, blt_dict, len_tup, len_fl, len_fk, len_ft, len_str, len_ref, list_tup, list_fl, list_ref, tuple_fl, tuple_tup, sorted_fl, sum_fl, all_fl, any_fl, int_int, int_bl, int_str, str_int, ix_tup, ix_fl, ix_fk, ix_ft, ix_str, ix_ref, sl_tup, sl_fl, sl_str, l_fl, l_ref, rv_append, rv_extend, rv_pop, rv_reverse, rv_get, rv_popD, rv_join, rv_split, rv_start, rv_lower, isL_ref, isD_ref, dk_fk, dk_ft, dk_ref, dt_ft, dt_fk, dt_ref, mt_append, mt_extend, mt_pop0, mt_pop, mt_popD, mt_reverse, mt_get, mt_join, mt_split, mt_start, mt_lower, seti_ref, asg_nm, asg_tup, asg_fl, asgs_nil, asgs_cons, wipe_nil, wipe_cons, lay_fl, lay_fk, lay_ft, e])
    have c0 : evE (CV (n + 1)) c_things_of_0 [some (.str t), some (.str " "), some (.int 20), some (.fl B), none] h = .ok (.fl ((lot.map fun _ => true).map W.bl)) h := by
      rw [List.map_map]
      refine lc_ok (i_fl (xs := B) rfl) (by simp [Fs.lim]; omega) ?_
      rw [hB] at eL ⊢
      exact eL
    have e2L := lcL_map (g := fun i : Int => W.str (tsI i)) (f := fun i => (enc i : W)) (xs := lot) (h := h) (step := stepV (CV (n + 1)) [4] (.blt .int (.cons (.var 4) .nil)) (.nm 4) .none [some (.str t), some (.str " "), some (.int 20), some (.fl B), none]) (by
      intro i hi
      have h1 : i.natAbs < 10 ^ 20 := by have := hl i hi; omega
      have e := int_worth h1
      have e3 := worth_len h1
      have e4 : (tsI i).length ≤ 640 := by omega
      generalize tsI i = u at e e4
      simp [stepV, Fs.lim, exSs, exS, evE, evEs, evT, evO, evC, evI, isi, Fs.isTn, fresh, bind_ok, bind_ex, of_some, sb_ok, sb_ex, sq_nx, sq_rt, sq_ex, ret_rt, ret_nx, ret_ex, resO_some, bop_add, add_int, add_str, add_tup, add_fl, bop_sub, bop_mul, bop_mulL, bop_fdiv, bop_mod, bop_pow, cop_eq, cop_ne, eq_int, eq_str, eq_bl, cop_lt, lt_int, cop_gt, cop_le, cop_ge, cop_in, cop_nin, cop_is, cop_isn, is_non, is_bl, in_fk, in_ft, in_ref, in_fl, in_tu, non_non, non_bl, non_int, non_str, non_tup, non_fl, non_ref, key_int, key_str, tru_bl, tru_int, tru_non, tru_tup, tru_fl, tru_str, ty_non, ty_bl, ty_int, ty_str, ty_tup, ty_fl, ty_fk, ty_ref, blt_len, blt_list, blt_tuple, blt_sorted, blt_sum, blt_all, blt_any, blt_int, blt_str, blt_max, blt_min, blt_dict, len_tup, len_fl, len_fk, len_ft, len_str, len_ref, list_tup, list_fl, list_ref, tuple_fl, tuple_tup, sorted_fl, sum_fl, all_fl, any_fl, int_int, int_bl, int_str, str_int, ix_tup, ix_fl, ix_fk, ix_ft, ix_str, ix_ref, sl_tup, sl_fl, sl_str, l_fl, l_ref, rv_append, rv_extend, rv_pop, rv_reverse, rv_get, rv_popD, rv_join, rv_split, rv_start, rv_lower, isL_ref, isD_ref, dk_fk, dk_ft, dk_ref, dt_ft, dt_fk, dt_ref, mt_append, mt_extend, mt_pop0, mt_pop, mt_popD, mt_reverse, mt_get, mt_join, mt_split, mt_start, mt_lower, seti_ref, asg_nm, asg_tup, asg_fl, asgs_nil, asgs_cons, wipe_nil, wipe_cons, lay_fl, lay_fk, lay_ft, e, e4, enc_int])
    have c1 : evE (CV (n + 1)) c_things_of_1 [some (.str t), some (.str " "), some (.int 20), some (.fl B), none] h = .ok (lsW lot) h := by
      refine lc_ok (i_fl (xs := B) rfl) (by simp [Fs.lim]; omega) ?_
      rw [hB] at e2L ⊢
      exact e2L
    have a0 := isBl_map (lot.map fun _ => true)
    have a1 : ((lot.map fun _ => true).all id) = true := by simp
    generalize (lot.map fun _ => true) = A at c0 a0 a1
    have sp2 : (Txt.split t " ").map W.str = B := by
      rw [sp, hB, List.map_map]
      rfl
    unfold lsW at c1
    simp [Ast.s_things_of_0, Ast.b_things_of_0, Ast.s_things_of_1, Ast.s_things_of_2, Ast.s_things_of_3, Ast.b_things_of_1, Ast.s_things_of_4, Ast.s_things_of_5, Ast.p_things_of, Fs.lim, exSs, exS, evE, evEs, evT, evO, evC, evI, isi, Fs.isTn, fresh, bind_ok, bind_ex, of_some, sb_ok, sb_ex, sq_nx, sq_rt, sq_ex, ret_rt, ret_nx, ret_ex, resO_some, bop_add, add_int, add_str, add_tup, add_fl, bop_sub, bop_mul, bop_mulL, bop_fdiv, bop_mod, bop_pow, cop_eq, cop_ne, eq_int, eq_str, eq_bl, cop_lt, lt_int, cop_gt, cop_le, cop_ge, cop_in, cop_nin, cop_is, cop_isn, is_non, is_bl, in_fk, in_ft, in_ref, in_fl, in_tu, non_non, non_bl, non_int, non_str, non_tup, non_fl, non_ref, key_int, key_str, tru_bl, tru_int, tru_non, tru_tup, tru_fl, tru_str, ty_non, ty_bl, ty_int, ty_str, ty_tup, ty_fl, ty_fk, ty_ref, blt_len, blt_list, blt_tuple, blt_sorted, blt_sum, blt_all, blt_any, blt_int, blt_str, blt_max, blt_min, blt_dict, len_tup, len_fl, len_fk, len_ft, len_str, len_ref, list_tup, list_fl, list_ref, tuple_fl, tuple_tup, sorted_fl, sum_fl, all_fl, any_fl, int_int, int_bl, int_str, str_int, ix_tup, ix_fl, ix_fk, ix_ft, ix_str, ix_ref, sl_tup, sl_fl, sl_str, l_fl, l_ref, rv_append, rv_extend, rv_pop, rv_reverse, rv_get, rv_popD, rv_join, rv_split, rv_start, rv_lower, isL_ref, isD_ref, dk_fk, dk_ft, dk_ref, dt_ft, dt_fk, dt_ref, mt_append, mt_extend, mt_pop0, mt_pop, mt_popD, mt_reverse, mt_get, mt_join, mt_split, mt_start, mt_lower, seti_ref, asg_nm, asg_tup, asg_fl, asgs_nil, asgs_cons, wipe_nil, wipe_cons, lay_fl, lay_fk, lay_ft, nd, b1, l2, sp2, c0, a0, a1, c1, tupW]
end Fw
set_option Elab.async false
set_option linter.all false
set_option maxRecDepth 100000
set_option maxHeartbeats 4000000
namespace Fw
open Enc (enc)
open PySem L2
open PySem.W (Datum DatumOrd Tup)
open Fs (lim keyOf keysOf kVal look put drp setF Bop Cop Ty Tn isTn cut Blt Mt Tg E Es Oe I S Ss Def)
open Ast
theorem mem_split {q : List Int × Int} (hl : ∀ x ∈ q.1, 0 ≤ x) : Txt.split (memT q) ":" = [lotT " " q.1, tsI q.2] := by
  have e : memT q = Txt.join ":" [lotT " " q.1, tsI q.2] := by rw [TL.join_eq]; rfl
  rw [e]
  refine TL.split_join (s := 58) (S := []) (by decide) (by decide +kernel) (by simp) fun p hp => ?_
  rcases List.mem_cons.mp hp with rfl | hp
  · exact lot_free (.inr (by decide)) (by decide) (by decide) hl
  · rw [List.mem_singleton.mp hp]
    exact worth_free (.inr (by decide)) (by decide) _
/-- what is asked of a family that is read -/
def Good (m : Int) (s : Nat) (f : Fam) : Prop := m ≤ 1000 ∧ s ≤ 300 ∧ f.length ≤ 200 ∧ (∀ q ∈ f, Rising m q.1 ∧ q.1.length = s ∧ q.2.natAbs < 10 ^ 20) ∧ (f.map (·.1)).Nodup
theorem Good.told {m : Int} {s : Nat} {f : Fam} (g : Good m s f) : Told f ∧ ∀ q ∈ f, q.1.length ≤ 300 := by
  obtain ⟨h1, h2, h3, h4, h5⟩ := g
  refine ⟨⟨by omega, fun q hq => ⟨fun x hx => ?_, ?_, (h4 q hq).2.2⟩⟩, fun q hq => ?_⟩
  · have := (h4 q hq).1.2 x hx
    omega
  · have := (h4 q hq).2.1
    omega
  · have := (h4 q hq).2.1
    omega
theorem f_read_lot (n : Nat) (h : Hep) (m : Int) (s : Nat) (q : List Int × Int) (hr : Rising m q.1) (hs : q.1.length = s) (hw : q.2.natAbs < 10 ^ 20) (hm : m ≤ 1000) (hs3 : s ≤ 300) :
    CV (n + 5) "read_lot" [.int m, .int s, .str (memT q)] h = .ok (enc ((⟨q.1⟩ : Tup Int), q.2)) h := by
  have fg : Fig20 q.1 := fun x hx => by have := hr.2 x hx; omega
  have l0 := memT_len ⟨fg, by omega, hw⟩
  have l1 : (memT q).length + 2 ≤ 16777216 := by omega
  have sp := mem_split (q := q) fun x hx => (hr.2 x hx).1
  have e1 := f_is_worth_text (n + 2) h q.2 hw
  have e2 := f_things_of (n + 2) h q.1 fg (by omega)
  have e3 := f_is_lot n h m q.1 hr
  rw [hs] at e3
  have e4 := int_worth hw
  have e5 : (tsI q.2).length ≤ 640 := by have := worth_len hw; omega
  have b1 : ((":" : Str).length == 0) = false := by decide
  rw [call0 (d := p_read_lot) (by kernel_rfl) (by kernel_rfl) rfl, enc_pr, enc_tup, enc_int]
  have ln : isNon (tupW q.1) = false := rfl
  generalize memT q = t at l1 sp
  generalize lotT " " q.1 = a at sp e2
  generalize tsI q.2 = b at sp e1 e4 e5
  generalize tupW q.1 = L at e2 e3 ln ⊢
  simp [Ast.s_read_lot_0, Ast.s_read_lot_1, Ast.b_read_lot_0, Ast.s_read_lot_2, Ast.s_read_lot_3, Ast.s_read_lot_4, Ast.b_read_lot_1, Ast.s_read_lot_5, Ast.s_read_lot_6, Ast.p_read_lot, Fs.lim, exSs, exS, evE, evEs, evT, evO, evC, evI, isi, Fs.isTn, fresh, bind_ok, bind_ex, of_some, sb_ok, sb_ex, sq_nx, sq_rt, sq_ex, ret_rt, ret_nx, ret_ex, resO_some, bop_add, add_int, add_str, add_tup, add_fl, bop_sub, bop_mul, bop_mulL, bop_fdiv, bop_mod, bop_pow, cop_eq, cop_ne, eq_int, eq_str, eq_bl, cop_lt, lt_int, cop_gt, cop_le, cop_ge, cop_in, cop_nin, cop_is, cop_isn, is_non, is_bl, in_fk, in_ft, in_ref, in_fl, in_tu, non_non, non_bl, non_int, non_str, non_tup, non_fl, non_ref, key_int, key_str, tru_bl, tru_int, tru_non, tru_tup, tru_fl, tru_str, ty_non, ty_bl, ty_int, ty_str, ty_tup, ty_fl, ty_fk, ty_ref, blt_len, blt_list, blt_tuple, blt_sorted, blt_sum, blt_all, blt_any, blt_int, blt_str, blt_max, blt_min, blt_dict, len_tup, len_fl, len_fk, len_ft, len_str, len_ref, list_tup, list_fl, list_ref, tuple_fl, tuple_tup, sorted_fl, sum_fl, all_fl, any_fl, int_int, int_bl, int_str, str_int, ix_tup, ix_fl, ix_fk, ix_ft, ix_str, ix_ref, sl_tup, sl_fl, sl_str, l_fl, l_ref, rv_append, rv_extend, rv_pop, rv_reverse, rv_get, rv_popD, rv_join, rv_split, rv_start, rv_lower, isL_ref, isD_ref, dk_fk, dk_ft, dk_ref, dt_ft, dt_fk, dt_ref, mt_append, mt_extend, mt_pop0, mt_pop, mt_popD, mt_reverse, mt_get, mt_join, mt_split, mt_start, mt_lower, seti_ref, asg_nm, asg_tup, asg_fl, asgs_nil, asgs_cons, wipe_nil, wipe_cons, lay_fl, lay_fk, lay_ft, l1, sp, b1, e1, e2, e3, e4, e5, ln, L2.atI, L2.ixN]
/-! ### a list of lots as a dict -/
theorem fam_ne {f : Fam} (hne : f ≠ []) : famT f ≠ "" := by
  intro z
  cases f with
  | nil => exact hne rfl
  | cons q r =>
    have e : (TL.tl (famT (q :: r))) = [] := by rw [z]; decide
    have hm : TL.tl (memT q) ≠ [] := by
      unfold memT
      rw [TL.tl_append, TL.tl_append, show TL.tl ":" = [58] by decide]
      simp
    unfold famT at e
    have e2 := joinL_head (S := TL.tl "; ") (ps := (r.map memT).map TL.tl) hm
    rw [tl_tj, List.map_cons, List.map_cons] at e
    rw [e] at e2
    cases hq : TL.tl (memT q) with
    | nil => exact hm hq
    | cons c _ => rw [hq] at e2; cases e2
theorem fam_split {f : Fam} (hne : f ≠ []) (hl : ∀ q ∈ f, ∀ x ∈ q.1, 0 ≤ x) : Txt.split (famT f) "; " = f.map memT := by
  unfold famT
  refine TL.split_join (s := 59) (S := [32]) (by decide) (by decide +kernel) (by simpa using hne) fun p hp => ?_
  obtain ⟨q, hq, rfl⟩ := List.mem_map.mp hp
  unfold memT
  rw [TL.tl_append, TL.tl_append, show TL.tl ":" = [58] by decide]
  simp only [List.mem_append, not_or]
  exact ⟨⟨lot_free (.inr (by decide)) (by decide) (by decide) (hl q hq), by decide⟩, worth_free (.inr (by decide)) (by decide) _⟩
theorem famT_len {f : Fam} (hf : Told f) (hs : ∀ q ∈ f, q.1.length ≤ 300) : (famT f).length ≤ 7010 * f.length := by
  have h1 := join_len "; " (f.map memT)
  have h2 : ((f.map memT).map (·.length)).sum ≤ 7000 * f.length := by
    rw [List.map_map]
    refine sum_le (fun q => (memT q).length) 7000 f fun q hq => ?_
    have := memT_len (hf.2 q hq)
    have := hs q hq
    omega
  have h3 : ("; " : Str).length = 2 := by decide
  unfold famT
  rw [h3, List.length_map] at h1
  omega
theorem evE_lay_lc {F : Orc} {own : List Nat} {elt : E} {tg : Tg} {it : I} {c : Oe} {σ : Evn} {h : Hep} : evE F (.lay (.lc own elt tg it c)) σ h = (evE F (.lc own elt tg it c) σ h).bind layW := by
  rw [evE.eq_def]
  simp [fresh]
theorem put_len_dup {f : Fam} {q : List Int × Int} (nd : (f.map (·.1)).Nodup) (hq : q.1 ∈ f.map (·.1)) : ((kvsF (f ++ [q])).foldl (fun acc kv => put acc kv.1 kv.2) []).length = f.length := by
  have e : kvsF (f ++ [q]) = kvsF f ++ [(kLot q.1, .int q.2)] := by simp [kvsF]
  have h := fold_putF f [] (by simpa using nd)
  rw [show kvsF [] = [] from rfl] at h
  rw [e, List.foldl_append, h]
  show (put (kvsF f) (kLot q.1) (.int q.2)).length = _
  rw [put_kvs, kvsF_len]
  unfold putFm
  rw [if_pos]
  · simp
  · obtain ⟨p, hp, e⟩ := List.mem_map.mp hq
    exact List.any_eq_true.mpr ⟨p, hp, by simp [e]⟩
/-- what is asked of a family that is refused: too many lots, or the last one twice -/
def Bad (m : Int) (s : Nat) (f : Fam) : Prop := m ≤ 1000 ∧ s ≤ 300 ∧ f.length ≤ 1000 ∧ (∀ q ∈ f, Rising m q.1 ∧ q.1.length = s ∧ q.2.natAbs < 10 ^ 20) ∧ f ≠ [] ∧ (200 < f.length ∨ ((kvsF f).foldl (fun acc kv => put acc kv.1 kv.2) []).length ≠ f.length)
theorem Bad.told {m : Int} {s : Nat} {f : Fam} (g : Bad m s f) : Told f ∧ ∀ q ∈ f, q.1.length ≤ 300 := by
  obtain ⟨h1, h2, h3, h4, h5⟩ := g
  refine ⟨⟨by omega, fun q hq => ⟨fun x hx => ?_, ?_, (h4 q hq).2.2⟩⟩, fun q hq => ?_⟩
  · have := (h4 q hq).1.2 x hx
    omega
  · have := (h4 q hq).2.1
    omega
  · have := (h4 q hq).2.1
    omega
theorem f_read_family (n : Nat) (h : Hep) (m : Int) (s : Nat) (f : Fam) (g : Good m s f) :
    CV (n + 6) "read_family" [.int m, .int s, .str (famT f)] h = .ok (.ref h.length) (h ++ [.lst ((fd f).map enc)]) := by
  obtain ⟨td, t3⟩ := g.told
  obtain ⟨g1, g2, g3, g4, g5⟩ := g
  rw [call0 (d := p_read_family) (by kernel_rfl) (by kernel_rfl) rfl]
  by_cases hne : f = []
  · subst hne
    rw [show famT [] = "" from rfl]
    simp [Ast.s_read_family_0, Ast.b_read_family_0, Ast.s_read_family_1, Ast.s_read_family_2, Ast.b_read_family_1, Ast.s_read_family_3, Ast.s_read_family_4, Ast.s_read_family_5, Ast.b_read_family_2, Ast.s_read_family_6, Ast.s_read_family_7, Ast.p_read_family, Fs.lim, exSs, exS, evE, evEs, evT, evO, evC, evI, isi, Fs.isTn, fresh, bind_ok, bind_ex, of_some, sb_ok, sb_ex, sq_nx, sq_rt, sq_ex, ret_rt, ret_nx, ret_ex, resO_some, bop_add, add_int, add_str, add_tup, add_fl, bop_sub, bop_mul, bop_mulL, bop_fdiv, bop_mod, bop_pow, cop_eq, cop_ne, eq_int, eq_str, eq_bl, cop_lt, lt_int, cop_gt, cop_le, cop_ge, cop_in, cop_nin, cop_is, cop_isn, is_non, is_bl, in_fk, in_ft, in_ref, in_fl, in_tu, non_non, non_bl, non_int, non_str, non_tup, non_fl, non_ref, key_int, key_str, tru_bl, tru_int, tru_non, tru_tup, tru_fl, tru_str, ty_non, ty_bl, ty_int, ty_str, ty_tup, ty_fl, ty_fk, ty_ref, blt_len, blt_list, blt_tuple, blt_sorted, blt_sum, blt_all, blt_any, blt_int, blt_str, blt_max, blt_min, blt_dict, len_tup, len_fl, len_fk, len_ft, len_str, len_ref, list_tup, list_fl, list_ref, tuple_fl, tuple_tup, sorted_fl, sum_fl, all_fl, any_fl, int_int, int_bl, int_str, str_int, ix_tup, ix_fl, ix_fk, ix_ft, ix_str, ix_ref, sl_tup, sl_fl, sl_str, l_fl, l_ref, rv_append, rv_extend, rv_pop, rv_reverse, rv_get, rv_popD, rv_join, rv_split, rv_start, rv_lower, isL_ref, isD_ref, dk_fk, dk_ft, dk_ref, dt_ft, dt_fk, dt_ref, mt_append, mt_extend, mt_pop0, mt_pop, mt_popD, mt_reverse, mt_get, mt_join, mt_split, mt_start, mt_lower, seti_ref, asg_nm, asg_tup, asg_fl, asgs_nil, asgs_cons, wipe_nil, wipe_cons, lay_fl, lay_fk, lay_ft, fd]
  · have ne := fam_ne hne
    have sp := fam_split hne fun q hq x hx => ((g4 q hq).1.2 x hx).1
    have ln := famT_len td t3
    have l2 : (famT f).length + 2 ≤ 16777216 := by omega
    have b1 : (("; " : Str).length == 0) = false := by decide
    generalize famT f = t at ne sp l2 ⊢
    have eL := lcL_map (g := fun q : List Int × Int => W.str (memT q)) (f := fun q => enc ((⟨q.1⟩ : Tup Int), q.2)) (xs := f) (h := h) (step := stepV (CV (n + 5)) [4] (.call "read_lot" (.cons (.var 0) (.cons (.var 1) (.cons (.var 4) .nil)))) (.nm 4) .none [some (.int m), some (.int s), some (.str t), none, none]) (by
      intro q hq
      obtain ⟨a1, a2, a3⟩ := g4 q hq
      have e := f_read_lot n h m s q a1 a2 a3 g1 g2
      generalize enc ((⟨q.1⟩ : Tup Int), q.2) = L at e
      generalize memT q = u at e
      simp [stepV, Fs.lim, exSs, exS, evE, evEs, evT, evO, evC, evI, isi, Fs.isTn, fresh, bind_ok, bind_ex, of_some, sb_ok, sb_ex, sq_nx, sq_rt, sq_ex, ret_rt, ret_nx, ret_ex, resO_some, bop_add, add_int, add_str, add_tup, add_fl, bop_sub, bop_mul, bop_mulL, bop_fdiv, bop_mod, bop_pow, cop_eq, cop_ne, eq_int, eq_str, eq_bl, cop_lt, lt_int, cop_gt, cop_le, cop_ge, cop_in, cop_nin, cop_is, cop_isn, is_non, is_bl, in_fk, in_ft, in_ref, in_fl, in_tu, non_non, non_bl, non_int, non_str, non_tup, non_fl, non_ref, key_int, key_str, tru_bl, tru_int, tru_non, tru_tup, tru_fl, tru_str, ty_non, ty_bl, ty_int, ty_str, ty_tup, ty_fl, ty_fk, ty_ref, blt_len, blt_list, blt_tuple, blt_sorted, blt_sum, blt_all, blt_any, blt_int, blt_str, blt_max, blt_min, blt_dict, len_tup, len_fl, len_fk, len_ft, len_str, len_ref, list_tup, list_fl, list_ref, tuple_fl, tuple_tup, sorted_fl, sum_fl, all_fl, any_fl, int_int, int_bl, int_str, str_int, ix_tup, ix_fl, ix_fk, ix_ft, ix_str, ix_ref, sl_tup, sl_fl, sl_str, l_fl, l_ref, rv_append, rv_extend, rv_pop, rv_reverse, rv_get, rv_popD, rv_join, rv_split, rv_start, rv_lower, isL_ref, isD_ref, dk_fk, dk_ft, dk_ref, dt_ft, dt_fk, dt_ref, mt_append, mt_extend, mt_pop0, mt_pop, mt_popD, mt_reverse, mt_get, mt_join, mt_split, mt_start, mt_lower, seti_ref, asg_nm, asg_tup, asg_fl, asgs_nil, asgs_cons, wipe_nil, wipe_cons, lay_fl, lay_fk, lay_ft, e])
    have eI : evI (CV (n + 5)) (.of (.bm .split (.var 2) (.cons (.str "; ") .nil))) [some (.int m), some (.int s), some (.str t), none, none] h = .ok (.fix ((f.map memT).map W.str), .no) h := by
      simp [Fs.lim, exSs, exS, evE, evEs, evT, evO, evC, evI, isi, Fs.isTn, fresh, bind_ok, bind_ex, of_some, sb_ok, sb_ex, sq_nx, sq_rt, sq_ex, ret_rt, ret_nx, ret_ex, resO_some, bop_add, add_int, add_str, add_tup, add_fl, bop_sub, bop_mul, bop_mulL, bop_fdiv, bop_mod, bop_pow, cop_eq, cop_ne, eq_int, eq_str, eq_bl, cop_lt, lt_int, cop_gt, cop_le, cop_ge, cop_in, cop_nin, cop_is, cop_isn, is_non, is_bl, in_fk, in_ft, in_ref, in_fl, in_tu, non_non, non_bl, non_int, non_str, non_tup, non_fl, non_ref, key_int, key_str, tru_bl, tru_int, tru_non, tru_tup, tru_fl, tru_str, ty_non, ty_bl, ty_int, ty_str, ty_tup, ty_fl, ty_fk, ty_ref, blt_len, blt_list, blt_tuple, blt_sorted, blt_sum, blt_all, blt_any, blt_int, blt_str, blt_max, blt_min, blt_dict, len_tup, len_fl, len_fk, len_ft, len_str, len_ref, list_tup, list_fl, list_ref, tuple_fl, tuple_tup, sorted_fl, sum_fl, all_fl, any_fl, int_int, int_bl, int_str, str_int, ix_tup, ix_fl, ix_fk, ix_ft, ix_str, ix_ref, sl_tup, sl_fl, sl_str, l_fl, l_ref, rv_append, rv_extend, rv_pop, rv_reverse, rv_get, rv_popD, rv_join, rv_split, rv_start, rv_lower, isL_ref, isD_ref, dk_fk, dk_ft, dk_ref, dt_ft, dt_fk, dt_ref, mt_append, mt_extend, mt_pop0, mt_pop, mt_popD, mt_reverse, mt_get, mt_join, mt_split, mt_start, mt_lower, seti_ref, asg_nm, asg_tup, asg_fl, asgs_nil, asgs_cons, wipe_nil, wipe_cons, lay_fl, lay_fk, lay_ft, l2, b1, sp, isFD, dictOf, wkOf]
    have c0 : evE (CV (n + 5)) c_read_family_0 [some (.int m), some (.int s), some (.str t), none, none] h = .ok (lsW (fd f)) h := by
      refine (lc_ok eI (by simp [Fs.lim]; omega) (by rw [List.map_map]; exact eL)).trans ?_
      unfold lsW fd
      rw [List.map_map]
      rfl
    have pr := isPr_F f
    have nw := newD_F g5
    have hlen : ((fd f).map enc).length = f.length := by simp [fd]
    have kl := kvsF_len f
    have c2 : evE (CV (n + 5)) c_read_family_0.lay [some (.int m), some (.int s), some (.str t), none, none] h = .ok (.ref h.length) (h ++ [.lst ((fd f).map enc)]) := by
      unfold c_read_family_0 at c0 ⊢
      rw [evE_lay_lc, c0]
      rfl
    generalize (fd f).map enc = B at c2 pr hlen ⊢
    have ge : ∀ h : Hep, (h ++ [Ob.lst B])[h.length]? = some (.lst B) := fun h => get_end
    have c1 : ¬ (200 : Int) < (f.length : Int) := by omega
    generalize (f.map fun q => (tupW q.1, W.int q.2)) = C at pr nw
    simp [Ast.s_read_family_0, Ast.b_read_family_0, Ast.s_read_family_1, Ast.s_read_family_2, Ast.b_read_family_1, Ast.s_read_family_3, Ast.s_read_family_4, Ast.s_read_family_5, Ast.b_read_family_2, Ast.s_read_family_6, Ast.s_read_family_7, Ast.p_read_family, Fs.lim, exSs, exS, evE, evEs, evT, evO, evC, evI, isi, Fs.isTn, fresh, bind_ok, bind_ex, of_some, sb_ok, sb_ex, sq_nx, sq_rt, sq_ex, ret_rt, ret_nx, ret_ex, resO_some, bop_add, add_int, add_str, add_tup, add_fl, bop_sub, bop_mul, bop_mulL, bop_fdiv, bop_mod, bop_pow, cop_eq, cop_ne, eq_int, eq_str, eq_bl, cop_lt, lt_int, cop_gt, cop_le, cop_ge, cop_in, cop_nin, cop_is, cop_isn, is_non, is_bl, in_fk, in_ft, in_ref, in_fl, in_tu, non_non, non_bl, non_int, non_str, non_tup, non_fl, non_ref, key_int, key_str, tru_bl, tru_int, tru_non, tru_tup, tru_fl, tru_str, ty_non, ty_bl, ty_int, ty_str, ty_tup, ty_fl, ty_fk, ty_ref, blt_len, blt_list, blt_tuple, blt_sorted, blt_sum, blt_all, blt_any, blt_int, blt_str, blt_max, blt_min, blt_dict, len_tup, len_fl, len_fk, len_ft, len_str, len_ref, list_tup, list_fl, list_ref, tuple_fl, tuple_tup, sorted_fl, sum_fl, all_fl, any_fl, int_int, int_bl, int_str, str_int, ix_tup, ix_fl, ix_fk, ix_ft, ix_str, ix_ref, sl_tup, sl_fl, sl_str, l_fl, l_ref, rv_append, rv_extend, rv_pop, rv_reverse, rv_get, rv_popD, rv_join, rv_split, rv_start, rv_lower, isL_ref, isD_ref, dk_fk, dk_ft, dk_ref, dt_ft, dt_fk, dt_ref, mt_append, mt_extend, mt_pop0, mt_pop, mt_popD, mt_reverse, mt_get, mt_join, mt_split, mt_start, mt_lower, seti_ref, asg_nm, asg_tup, asg_fl, asgs_nil, asgs_cons, wipe_nil, wipe_cons, lay_fl, lay_fk, lay_ft, ne, c2, ge, hlen, dictB, pr, nw, kl, c1]
theorem f_read_bad (n : Nat) (h : Hep) (m : Int) (s : Nat) (f : Fam) (g : Bad m s f) :
    CV (n + 6) "read_family" [.int m, .int s, .str (famT f)] h = .ex ⟨"NoText", []⟩ (h ++ [.lst ((fd f).map enc)]) := by
  obtain ⟨td, t3⟩ := g.told
  obtain ⟨g1, g2, g3, g4, hne, g5⟩ := g
  rw [call0 (d := p_read_family) (by kernel_rfl) (by kernel_rfl) rfl]
  · have ne := fam_ne hne
    have sp := fam_split hne fun q hq x hx => ((g4 q hq).1.2 x hx).1
    have ln := famT_len td t3
    have l2 : (famT f).length + 2 ≤ 16777216 := by omega
    have b1 : (("; " : Str).length == 0) = false := by decide
    generalize famT f = t at ne sp l2 ⊢
    have eL := lcL_map (g := fun q : List Int × Int => W.str (memT q)) (f := fun q => enc ((⟨q.1⟩ : Tup Int), q.2)) (xs := f) (h := h) (step := stepV (CV (n + 5)) [4] (.call "read_lot" (.cons (.var 0) (.cons (.var 1) (.cons (.var 4) .nil)))) (.nm 4) .none [some (.int m), some (.int s), some (.str t), none, none]) (by
      intro q hq
      obtain ⟨a1, a2, a3⟩ := g4 q hq
      have e := f_read_lot n h m s q a1 a2 a3 g1 g2
      generalize enc ((⟨q.1⟩ : Tup Int), q.2) = L at e
      generalize memT q = u at e
      simp [stepV, Fs.lim, exSs, exS, evE, evEs, evT, evO, evC, evI, isi, Fs.isTn, fresh, bind_ok, bind_ex, of_some, sb_ok, sb_ex, sq_nx, sq_rt, sq_ex, ret_rt, ret_nx, ret_ex, resO_some, bop_add, add_int, add_str, add_tup, add_fl, bop_sub, bop_mul, bop_mulL, bop_fdiv, bop_mod, bop_pow, cop_eq, cop_ne, eq_int, eq_str, eq_bl, cop_lt, lt_int, cop_gt, cop_le, cop_ge, cop_in, cop_nin, cop_is, cop_isn, is_non, is_bl, in_fk, in_ft, in_ref, in_fl, in_tu, non_non, non_bl, non_int, non_str, non_tup, non_fl, non_ref, key_int, key_str, tru_bl, tru_int, tru_non, tru_tup, tru_fl, tru_str, ty_non, ty_bl, ty_int, ty_str, ty_tup, ty_fl, ty_fk, ty_ref, blt_len, blt_list, blt_tuple, blt_sorted, blt_sum, blt_all, blt_any, blt_int, blt_str, blt_max, blt_min, blt_dict, len_tup, len_fl, len_fk, len_ft, len_str, len_ref, list_tup, list_fl, list_ref, tuple_fl, tuple_tup, sorted_fl, sum_fl, all_fl, any_fl, int_int, int_bl, int_str, str_int, ix_tup, ix_fl, ix_fk, ix_ft, ix_str, ix_ref, sl_tup, sl_fl, sl_str, l_fl, l_ref, rv_append, rv_extend, rv_pop, rv_reverse, rv_get, rv_popD, rv_join, rv_split, rv_start, rv_lower, isL_ref, isD_ref, dk_fk, dk_ft, dk_ref, dt_ft, dt_fk, dt_ref, mt_append, mt_extend, mt_pop0, mt_pop, mt_popD, mt_reverse, mt_get, mt_join, mt_split, mt_start, mt_lower, seti_ref, asg_nm, asg_tup, asg_fl, asgs_nil, asgs_cons, wipe_nil, wipe_cons, lay_fl, lay_fk, lay_ft, e])
    have eI : evI (CV (n + 5)) (.of (.bm .split (.var 2) (.cons (.str "; ") .nil))) [some (.int m), some (.int s), some (.str t), none, none] h = .ok (.fix ((f.map memT).map W.str), .no) h := by
      simp [Fs.lim, exSs, exS, evE, evEs, evT, evO, evC, evI, isi, Fs.isTn, fresh, bind_ok, bind_ex, of_some, sb_ok, sb_ex, sq_nx, sq_rt, sq_ex, ret_rt, ret_nx, ret_ex, resO_some, bop_add, add_int, add_str, add_tup, add_fl, bop_sub, bop_mul, bop_mulL, bop_fdiv, bop_mod, bop_pow, cop_eq, cop_ne, eq_int, eq_str, eq_bl, cop_lt, lt_int, cop_gt, cop_le, cop_ge, cop_in, cop_nin, cop_is, cop_isn, is_non, is_bl, in_fk, in_ft, in_ref, in_fl, in_tu, non_non, non_bl, non_int, non_str, non_tup, non_fl, non_ref, key_int, key_str, tru_bl, tru_int, tru_non, tru_tup, tru_fl, tru_str, ty_non, ty_bl, ty_int, ty_str, ty_tup, ty_fl, ty_fk, ty_ref, blt_len, blt_list, blt_tuple, blt_sorted, blt_sum, blt_all, blt_any, blt_int, blt_str, blt_max, blt_min, blt_dict, len_tup, len_fl, len_fk, len_ft, len_str, len_ref, list_tup, list_fl, list_ref, tuple_fl, tuple_tup, sorted_fl, sum_fl, all_fl, any_fl, int_int, int_bl, int_str, str_int, ix_tup, ix_fl, ix_fk, ix_ft, ix_str, ix_ref, sl_tup, sl_fl, sl_str, l_fl, l_ref, rv_append, rv_extend, rv_pop, rv_reverse, rv_get, rv_popD, rv_join, rv_split, rv_start, rv_lower, isL_ref, isD_ref, dk_fk, dk_ft, dk_ref, dt_ft, dt_fk, dt_ref, mt_append, mt_extend, mt_pop0, mt_pop, mt_popD, mt_reverse, mt_get, mt_join, mt_split, mt_start, mt_lower, seti_ref, asg_nm, asg_tup, asg_fl, asgs_nil, asgs_cons, wipe_nil, wipe_cons, lay_fl, lay_fk, lay_ft, l2, b1, sp, isFD, dictOf, wkOf]
    have c0 : evE (CV (n + 5)) c_read_family_0 [some (.int m), some (.int s), some (.str t), none, none] h = .ok (lsW (fd f)) h := by
      refine (lc_ok eI (by simp [Fs.lim]; omega) (by rw [List.map_map]; exact eL)).trans ?_
      unfold lsW fd
      rw [List.map_map]
      rfl
    have pr := isPr_F f
    have nw := newD_G f
    have hlen : ((fd f).map enc).length = f.length := by simp [fd]
    generalize (kvsF f).foldl (fun acc kv => put acc kv.1 kv.2) [] = D at nw g5
    have c2 : evE (CV (n + 5)) c_read_family_0.lay [some (.int m), some (.int s), some (.str t), none, none] h = .ok (.ref h.length) (h ++ [.lst ((fd f).map enc)]) := by
      unfold c_read_family_0 at c0 ⊢
      rw [evE_lay_lc, c0]
      rfl
    generalize (fd f).map enc = B at c2 pr hlen ⊢
    have ge : ∀ h : Hep, (h ++ [Ob.lst B])[h.length]? = some (.lst B) := fun h => get_end
    generalize (f.map fun q => (tupW q.1, W.int q.2)) = C at pr nw
    by_cases c1 : (200 : Int) < (f.length : Int)
    · simp [Ast.s_read_family_0, Ast.b_read_family_0, Ast.s_read_family_1, Ast.s_read_family_2, Ast.b_read_family_1, Ast.s_read_family_3, Ast.s_read_family_4, Ast.s_read_family_5, Ast.b_read_family_2, Ast.s_read_family_6, Ast.s_read_family_7, Ast.p_read_family, Fs.lim, exSs, exS, evE, evEs, evT, evO, evC, evI, isi, Fs.isTn, fresh, bind_ok, bind_ex, of_some, sb_ok, sb_ex, sq_nx, sq_rt, sq_ex, ret_rt, ret_nx, ret_ex, resO_some, bop_add, add_int, add_str, add_tup, add_fl, bop_sub, bop_mul, bop_mulL, bop_fdiv, bop_mod, bop_pow, cop_eq, cop_ne, eq_int, eq_str, eq_bl, cop_lt, lt_int, cop_gt, cop_le, cop_ge, cop_in, cop_nin, cop_is, cop_isn, is_non, is_bl, in_fk, in_ft, in_ref, in_fl, in_tu, non_non, non_bl, non_int, non_str, non_tup, non_fl, non_ref, key_int, key_str, tru_bl, tru_int, tru_non, tru_tup, tru_fl, tru_str, ty_non, ty_bl, ty_int, ty_str, ty_tup, ty_fl, ty_fk, ty_ref, blt_len, blt_list, blt_tuple, blt_sorted, blt_sum, blt_all, blt_any, blt_int, blt_str, blt_max, blt_min, blt_dict, len_tup, len_fl, len_fk, len_ft, len_str, len_ref, list_tup, list_fl, list_ref, tuple_fl, tuple_tup, sorted_fl, sum_fl, all_fl, any_fl, int_int, int_bl, int_str, str_int, ix_tup, ix_fl, ix_fk, ix_ft, ix_str, ix_ref, sl_tup, sl_fl, sl_str, l_fl, l_ref, rv_append, rv_extend, rv_pop, rv_reverse, rv_get, rv_popD, rv_join, rv_split, rv_start, rv_lower, isL_ref, isD_ref, dk_fk, dk_ft, dk_ref, dt_ft, dt_fk, dt_ref, mt_append, mt_extend, mt_pop0, mt_pop, mt_popD, mt_reverse, mt_get, mt_join, mt_split, mt_start, mt_lower, seti_ref, asg_nm, asg_tup, asg_fl, asgs_nil, asgs_cons, wipe_nil, wipe_cons, lay_fl, lay_fk, lay_ft, ne, c2, ge, hlen, dictB, pr, nw, c1]
    · have g5 : D.length ≠ f.length := g5.resolve_left (by omega)
      have g6 : ¬ (D.length : Int) = (f.length : Int) := by omega
      simp [Ast.s_read_family_0, Ast.b_read_family_0, Ast.s_read_family_1, Ast.s_read_family_2, Ast.b_read_family_1, Ast.s_read_family_3, Ast.s_read_family_4, Ast.s_read_family_5, Ast.b_read_family_2, Ast.s_read_family_6, Ast.s_read_family_7, Ast.p_read_family, Fs.lim, exSs, exS, evE, evEs, evT, evO, evC, evI, isi, Fs.isTn, fresh, bind_ok, bind_ex, of_some, sb_ok, sb_ex, sq_nx, sq_rt, sq_ex, ret_rt, ret_nx, ret_ex, resO_some, bop_add, add_int, add_str, add_tup, add_fl, bop_sub, bop_mul, bop_mulL, bop_fdiv, bop_mod, bop_pow, cop_eq, cop_ne, eq_int, eq_str, eq_bl, cop_lt, lt_int, cop_gt, cop_le, cop_ge, cop_in, cop_nin, cop_is, cop_isn, is_non, is_bl, in_fk, in_ft, in_ref, in_fl, in_tu, non_non, non_bl, non_int, non_str, non_tup, non_fl, non_ref, key_int, key_str, tru_bl, tru_int, tru_non, tru_tup, tru_fl, tru_str, ty_non, ty_bl, ty_int, ty_str, ty_tup, ty_fl, ty_fk, ty_ref, blt_len, blt_list, blt_tuple, blt_sorted, blt_sum, blt_all, blt_any, blt_int, blt_str, blt_max, blt_min, blt_dict, len_tup, len_fl, len_fk, len_ft, len_str, len_ref, list_tup, list_fl, list_ref, tuple_fl, tuple_tup, sorted_fl, sum_fl, all_fl, any_fl, int_int, int_bl, int_str, str_int, ix_tup, ix_fl, ix_fk, ix_ft, ix_str, ix_ref, sl_tup, sl_fl, sl_str, l_fl, l_ref, rv_append, rv_extend, rv_pop, rv_reverse, rv_get, rv_popD, rv_join, rv_split, rv_start, rv_lower, isL_ref, isD_ref, dk_fk, dk_ft, dk_ref, dt_ft, dt_fk, dt_ref, mt_append, mt_extend, mt_pop0, mt_pop, mt_popD, mt_reverse, mt_get, mt_join, mt_split, mt_start, mt_lower, seti_ref, asg_nm, asg_tup, asg_fl, asgs_nil, asgs_cons, wipe_nil, wipe_cons, lay_fl, lay_fk, lay_ft, ne, c2, ge, hlen, dictB, pr, nw, c1, g5, g6]
end Fw
set_option Elab.async false
set_option linter.all false
set_option maxRecDepth 100000
set_option maxHeartbeats 4000000
namespace Fw
open Enc (enc)
open PySem L2
open PySem.W (Datum DatumOrd Tup)
open Fs (lim keyOf keysOf kVal look put drp setF Bop Cop Ty Tn isTn cut Blt Mt Tg E Es Oe I S Ss Def)
open Ast
theorem fam_depth : Datum.depth (List (Tup Int × Int)) < 12 := by decide
theorem eq_fam (h : Hep) (f g : Fam) : eqO h (famW f) (famW g) = some (decide (fd f = fd g)) := eq_enc fam_depth (fd f) (fd g)
theorem eq_ref_fam {h : Hep} {q : Nat} {f g : Fam} (hq : h[q]? = some (.lst ((fd f).map enc))) : eqO h (.ref q) (famW g) = some (decide (fd f = fd g)) := by
  have e1 := Enc.rd_enc h 12 (fd f) fam_depth
  have e2 := Enc.rd_enc h 12 (fd g) fam_depth
  have e3 : rd h 12 (.ref q) = rd h 12 (enc (fd f)) := by
    show (match h[q]? with | some (.lst xs) => (xs.mapM (rd h 11)).map PyData.list | _ => none) = _
    rw [hq]
    rfl
  rw [eqO_rd (e3.trans e1) (show rd h 12 (famW g) = _ from e2), Datum.eqv]
theorem filterMap_some {α β : Type} {f : α → Option β} {k : α → β} : ∀ {xs : List α}, (∀ x ∈ xs, f x = some (k x)) → xs.filterMap f = xs.map k
  | [], _ => rfl
  | x :: r, h => by
    rw [List.filterMap_cons, h x (List.mem_cons_self ..), List.map_cons, filterMap_some fun y hy => h y (List.mem_cons_of_mem _ hy)]
theorem lcR_liveM {α : Type} {q : Nat} {g k : α → W} {xs : List α} {step : W → Hep → Res (Option W)} {h : Hep} (hq : h[q]? = some (.lst (xs.map g))) (hl : xs.length ≤ lim) (hs : ∀ x ∈ xs, step (g x) h = .ok (some (k x)) h) : lcR (.lst q) step h = .ok (xs.map k) h := by
  have key := lcR_live (step := step) (f := fun w => match step w h with | .ok o _ => o | _ => none) hq (by rw [List.length_map]; exact hl) (by
    intro w hw
    obtain ⟨x, hx, rfl⟩ := List.mem_map.mp hw
    simp only [hs x hx])
  rw [key, List.filterMap_map]
  congr 1
  refine filterMap_some fun x hx => ?_
  show (match step (g x) h with | .ok o _ => o | _ => none) = _
  rw [hs x hx]
theorem f_show_ref (n : Nat) (h : Hep) (q : Nat) (f : Fam) (hf : Told f) (hs : ∀ q ∈ f, q.1.length ≤ 300) (hq : h[q]? = some (.lst ((fd f).map enc))) : CV (n + 2) "show_family" [.ref q] h = .ok (.str (famT f)) h := by
  have hq' : h[q]? = some (.lst (f.map fun q : List Int × Int => enc ((⟨q.1⟩ : Tup Int), q.2))) := by
    rw [hq]
    unfold fd
    rw [List.map_map]
    rfl
  have eL := lcR_liveM (q := q) (g := fun q : List Int × Int => enc ((⟨q.1⟩ : Tup Int), q.2)) (k := fun q => W.str (memT q)) (xs := f) (h := h) (step := stepV (CV (n + 1)) [1, 2] (.bin .add (.bin .add (.call "show_things" (.cons (.var 1) (.cons (.str " ") .nil))) (.str ":")) (.blt .str (.cons (.var 2) .nil))) (.tp [(.nm 1), (.nm 2)]) .none [some (.ref q), none, none]) hq' (by have := hf.1; simp [Fs.lim]; omega) (by
    intro z hz
    obtain ⟨h1, h2, h3⟩ := hf.2 z hz
    have e := log_w (i := z.2) h3
    have e1 := f_show_things n h " " (by decide) z.1 h1 h2
    have l1 := lotT_len (b := " ") (by decide) z.1 h1
    have l2 := worth_len h3
    have l3 : (":" : Str).length = 1 := by decide
    have a1 : (lotT " " z.1).length + (":" : Str).length ≤ 16777216 := by omega
    have a2 : (lotT " " z.1 ++ ":").length + (tsI z.2).length ≤ 16777216 := by rw [app_len]; omega
    rw [enc_pr, enc_tup, enc_int]
    show _ = Res.ok (some (W.str (lotT " " z.1 ++ ":" ++ tsI z.2))) h
    generalize lotT " " z.1 = A at e1 a1 a2 ⊢
    simp only [tsI] at a2 ⊢
    simp [stepV, Fs.lim, exSs, exS, evE, evEs, evT, evO, evC, evI, isi, Fs.isTn, fresh, bind_ok, bind_ex, of_some, sb_ok, sb_ex, sq_nx, sq_rt, sq_ex, ret_rt, ret_nx, ret_ex, resO_some, bop_add, add_int, add_str, add_tup, add_fl, bop_sub, bop_mul, bop_mulL, bop_fdiv, bop_mod, bop_pow, cop_eq, cop_ne, eq_int, eq_str, eq_bl, cop_lt, lt_int, cop_gt, cop_le, cop_ge, cop_in, cop_nin, cop_is, cop_isn, is_non, is_bl, in_fk, in_ft, in_ref, in_fl, in_tu, non_non, non_bl, non_int, non_str, non_tup, non_fl, non_ref, key_int, key_str, tru_bl, tru_int, tru_non, tru_tup, tru_fl, tru_str, ty_non, ty_bl, ty_int, ty_str, ty_tup, ty_fl, ty_fk, ty_ref, blt_len, blt_list, blt_tuple, blt_sorted, blt_sum, blt_all, blt_any, blt_int, blt_str, blt_max, blt_min, blt_dict, len_tup, len_fl, len_fk, len_ft, len_str, len_ref, list_tup, list_fl, list_ref, tuple_fl, tuple_tup, sorted_fl, sum_fl, all_fl, any_fl, int_int, int_bl, int_str, str_int, ix_tup, ix_fl, ix_fk, ix_ft, ix_str, ix_ref, sl_tup, sl_fl, sl_str, l_fl, l_ref, rv_append, rv_extend, rv_pop, rv_reverse, rv_get, rv_popD, rv_join, rv_split, rv_start, rv_lower, isL_ref, isD_ref, dk_fk, dk_ft, dk_ref, dt_ft, dt_fk, dt_ref, mt_append, mt_extend, mt_pop0, mt_pop, mt_popD, mt_reverse, mt_get, mt_join, mt_split, mt_start, mt_lower, seti_ref, asg_nm, asg_tup, asg_fl, asgs_nil, asgs_cons, wipe_nil, wipe_cons, lay_fl, lay_fk, lay_ft, e, e1, a1]
    rw [if_pos (by exact a2)]
    rfl)
  have hc : evE (CV (n + 1)) c_show_family_0 [some (.ref q), none, none] h = .ok (.fl ((f.map memT).map W.str)) h := by
    rw [List.map_map]
    exact lc_lv (i_ref (q := q) rfl hq) eL
  rw [call0 (d := p_show_family) (by kernel_rfl) (by kernel_rfl) rfl]
  unfold famT
  have is := isSt_map (f.map memT)
  have ss := famT_sum hf hs
  generalize (f.map memT) = A at hc is ss
  simp [Ast.s_show_family_0, Ast.p_show_family, Fs.lim, exSs, exS, evE, evEs, evT, evO, evC, evI, isi, Fs.isTn, fresh, bind_ok, bind_ex, of_some, sb_ok, sb_ex, sq_nx, sq_rt, sq_ex, ret_rt, ret_nx, ret_ex, resO_some, bop_add, add_int, add_str, add_tup, add_fl, bop_sub, bop_mul, bop_mulL, bop_fdiv, bop_mod, bop_pow, cop_eq, cop_ne, eq_int, eq_str, eq_bl, cop_lt, lt_int, cop_gt, cop_le, cop_ge, cop_in, cop_nin, cop_is, cop_isn, is_non, is_bl, in_fk, in_ft, in_ref, in_fl, in_tu, non_non, non_bl, non_int, non_str, non_tup, non_fl, non_ref, key_int, key_str, tru_bl, tru_int, tru_non, tru_tup, tru_fl, tru_str, ty_non, ty_bl, ty_int, ty_str, ty_tup, ty_fl, ty_fk, ty_ref, blt_len, blt_list, blt_tuple, blt_sorted, blt_sum, blt_all, blt_any, blt_int, blt_str, blt_max, blt_min, blt_dict, len_tup, len_fl, len_fk, len_ft, len_str, len_ref, list_tup, list_fl, list_ref, tuple_fl, tuple_tup, sorted_fl, sum_fl, all_fl, any_fl, int_int, int_bl, int_str, str_int, ix_tup, ix_fl, ix_fk, ix_ft, ix_str, ix_ref, sl_tup, sl_fl, sl_str, l_fl, l_ref, rv_append, rv_extend, rv_pop, rv_reverse, rv_get, rv_popD, rv_join, rv_split, rv_start, rv_lower, isL_ref, isD_ref, dk_fk, dk_ft, dk_ref, dt_ft, dt_fk, dt_ref, mt_append, mt_extend, mt_pop0, mt_pop, mt_popD, mt_reverse, mt_get, mt_join, mt_split, mt_start, mt_lower, seti_ref, asg_nm, asg_tup, asg_fl, asgs_nil, asgs_cons, wipe_nil, wipe_cons, lay_fl, lay_fk, lay_ft, hc, is]
  rw [if_pos (by exact ss)]
  rfl
theorem f_refused (n : Nat) (h : Hep) (m : Int) (s : Nat) (f : Fam) (g : Bad m s f) : ∃ h', CV (n + 7) "_law_refused" [.int m, .int s, .str (famT f)] h = .ok (.bl true) h' := by
  have e := f_read_bad n h m s f g
  rw [call0 (d := p_law_refused) (by kernel_rfl) (by kernel_rfl) rfl]
  generalize famT f = t at e ⊢
  generalize (fd f).map enc = B at e
  have ge : (h ++ [Ob.lst B] ++ [Ob.exc "NoText"])[(h ++ [Ob.lst B]).length]? = some (.exc "NoText") := get_end
  refine ⟨h ++ [.lst B] ++ [.exc "NoText"], ?_⟩
  have et : exS (CV (n + 6)) s_law_refused_2 [some (.int m), some (.int s), some (.str t), some .non, none] h = .nx [some (.int m), some (.int s), some (.str t), some (.ref (h ++ [Ob.lst B]).length), none] (h ++ [.lst B] ++ [.exc "NoText"]) := by
    simp [s_law_refused_2, b_law_refused_0, s_law_refused_1, Fs.lim, exSs, exS, evE, evEs, evT, evO, evC, evI, isi, Fs.isTn, fresh, bind_ok, bind_ex, of_some, sb_ok, sb_ex, sq_nx, sq_rt, sq_ex, ret_rt, ret_nx, ret_ex, resO_some, bop_add, add_int, add_str, add_tup, add_fl, bop_sub, bop_mul, bop_mulL, bop_fdiv, bop_mod, bop_pow, cop_eq, cop_ne, eq_int, eq_str, eq_bl, cop_lt, lt_int, cop_gt, cop_le, cop_ge, cop_in, cop_nin, cop_is, cop_isn, is_non, is_bl, in_fk, in_ft, in_ref, in_fl, in_tu, non_non, non_bl, non_int, non_str, non_tup, non_fl, non_ref, key_int, key_str, tru_bl, tru_int, tru_non, tru_tup, tru_fl, tru_str, ty_non, ty_bl, ty_int, ty_str, ty_tup, ty_fl, ty_fk, ty_ref, blt_len, blt_list, blt_tuple, blt_sorted, blt_sum, blt_all, blt_any, blt_int, blt_str, blt_max, blt_min, blt_dict, len_tup, len_fl, len_fk, len_ft, len_str, len_ref, list_tup, list_fl, list_ref, tuple_fl, tuple_tup, sorted_fl, sum_fl, all_fl, any_fl, int_int, int_bl, int_str, str_int, ix_tup, ix_fl, ix_fk, ix_ft, ix_str, ix_ref, sl_tup, sl_fl, sl_str, l_fl, l_ref, rv_append, rv_extend, rv_pop, rv_reverse, rv_get, rv_popD, rv_join, rv_split, rv_start, rv_lower, isL_ref, isD_ref, dk_fk, dk_ft, dk_ref, dt_ft, dt_fk, dt_ref, mt_append, mt_extend, mt_pop0, mt_pop, mt_popD, mt_reverse, mt_get, mt_join, mt_split, mt_start, mt_lower, seti_ref, asg_nm, asg_tup, asg_fl, asgs_nil, asgs_cons, wipe_nil, wipe_cons, lay_fl, lay_fk, lay_ft, e]
  generalize h ++ [Ob.lst B] = H at et ge ⊢
  generalize H.length = k at et ge
  show retOf (exSs (CV (n + 6)) (.cons s_law_refused_0 (.cons s_law_refused_2 (.cons s_law_refused_3 .nil))) [some (.int m), some (.int s), some (.str t), none, none] h) = _
  have e0 : exS (CV (n + 6)) s_law_refused_0 [some (.int m), some (.int s), some (.str t), none, none] h = .nx [some (.int m), some (.int s), some (.str t), some .non, none] h := by simp [s_law_refused_0, Fs.lim, exSs, exS, evE, evEs, evT, evO, evC, evI, isi, Fs.isTn, fresh, bind_ok, bind_ex, of_some, sb_ok, sb_ex, sq_nx, sq_rt, sq_ex, ret_rt, ret_nx, ret_ex, resO_some, bop_add, add_int, add_str, add_tup, add_fl, bop_sub, bop_mul, bop_mulL, bop_fdiv, bop_mod, bop_pow, cop_eq, cop_ne, eq_int, eq_str, eq_bl, cop_lt, lt_int, cop_gt, cop_le, cop_ge, cop_in, cop_nin, cop_is, cop_isn, is_non, is_bl, in_fk, in_ft, in_ref, in_fl, in_tu, non_non, non_bl, non_int, non_str, non_tup, non_fl, non_ref, key_int, key_str, tru_bl, tru_int, tru_non, tru_tup, tru_fl, tru_str, ty_non, ty_bl, ty_int, ty_str, ty_tup, ty_fl, ty_fk, ty_ref, blt_len, blt_list, blt_tuple, blt_sorted, blt_sum, blt_all, blt_any, blt_int, blt_str, blt_max, blt_min, blt_dict, len_tup, len_fl, len_fk, len_ft, len_str, len_ref, list_tup, list_fl, list_ref, tuple_fl, tuple_tup, sorted_fl, sum_fl, all_fl, any_fl, int_int, int_bl, int_str, str_int, ix_tup, ix_fl, ix_fk, ix_ft, ix_str, ix_ref, sl_tup, sl_fl, sl_str, l_fl, l_ref, rv_append, rv_extend, rv_pop, rv_reverse, rv_get, rv_popD, rv_join, rv_split, rv_start, rv_lower, isL_ref, isD_ref, dk_fk, dk_ft, dk_ref, dt_ft, dt_fk, dt_ref, mt_append, mt_extend, mt_pop0, mt_pop, mt_popD, mt_reverse, mt_get, mt_join, mt_split, mt_start, mt_lower, seti_ref, asg_nm, asg_tup, asg_fl, asgs_nil, asgs_cons, wipe_nil, wipe_cons, lay_fl, lay_fk, lay_ft]
  simp only [exSs, e0, SRes.sq, et]
  simp [s_law_refused_3, Fs.lim, exSs, exS, evE, evEs, evT, evO, evC, evI, isi, Fs.isTn, fresh, bind_ok, bind_ex, of_some, sb_ok, sb_ex, sq_nx, sq_rt, sq_ex, ret_rt, ret_nx, ret_ex, resO_some, bop_add, add_int, add_str, add_tup, add_fl, bop_sub, bop_mul, bop_mulL, bop_fdiv, bop_mod, bop_pow, cop_eq, cop_ne, eq_int, eq_str, eq_bl, cop_lt, lt_int, cop_gt, cop_le, cop_ge, cop_in, cop_nin, cop_is, cop_isn, is_non, is_bl, in_fk, in_ft, in_ref, in_fl, in_tu, non_non, non_bl, non_int, non_str, non_tup, non_fl, non_ref, key_int, key_str, tru_bl, tru_int, tru_non, tru_tup, tru_fl, tru_str, ty_non, ty_bl, ty_int, ty_str, ty_tup, ty_fl, ty_fk, ty_ref, blt_len, blt_list, blt_tuple, blt_sorted, blt_sum, blt_all, blt_any, blt_int, blt_str, blt_max, blt_min, blt_dict, len_tup, len_fl, len_fk, len_ft, len_str, len_ref, list_tup, list_fl, list_ref, tuple_fl, tuple_tup, sorted_fl, sum_fl, all_fl, any_fl, int_int, int_bl, int_str, str_int, ix_tup, ix_fl, ix_fk, ix_ft, ix_str, ix_ref, sl_tup, sl_fl, sl_str, l_fl, l_ref, rv_append, rv_extend, rv_pop, rv_reverse, rv_get, rv_popD, rv_join, rv_split, rv_start, rv_lower, isL_ref, isD_ref, dk_fk, dk_ft, dk_ref, dt_ft, dt_fk, dt_ref, mt_append, mt_extend, mt_pop0, mt_pop, mt_popD, mt_reverse, mt_get, mt_join, mt_split, mt_start, mt_lower, seti_ref, asg_nm, asg_tup, asg_fl, asgs_nil, asgs_cons, wipe_nil, wipe_cons, lay_fl, lay_fk, lay_ft, iscO, ge]
/-! ### one lot more -/
theorem joinL_snoc {S p : List Nat} : ∀ {ps : List (List Nat)}, ps ≠ [] → TL.joinL S (ps ++ [p]) = TL.joinL S ps ++ (S ++ p)
  | [], h => absurd rfl h
  | [a], _ => rfl
  | a :: b :: r, _ => by
    have ih := joinL_snoc (S := S) (p := p) (ps := b :: r) (by simp)
    show a ++ (S ++ TL.joinL S ((b :: r) ++ [p])) = (a ++ (S ++ TL.joinL S (b :: r))) ++ (S ++ p)
    rw [ih]
    simp
theorem famT_one (q : List Int × Int) : famT [q] = memT q := by
  unfold famT
  rw [TL.join_eq]
  rfl
theorem famT_snoc {f : Fam} (hne : f ≠ []) (q : List Int × Int) : famT (f ++ [q]) = famT f ++ "; " ++ famT [q] := by
  apply tl_inj
  rw [famT_one]
  unfold famT
  rw [TL.tl_append, TL.tl_append, tl_tj, tl_tj, List.map_append, List.map_append]
  show TL.joinL (TL.tl "; ") ((f.map memT).map TL.tl ++ [TL.tl (memT q)]) = _
  rw [joinL_snoc (by simpa using hne)]
  simp
end Fw
set_option Elab.async false
set_option linter.all false
set_option maxRecDepth 100000
set_option maxHeartbeats 4000000
namespace Fw
open Enc (enc)
open PySem L2
open PySem.W (Datum DatumOrd Tup)
open Fs (lim keyOf keysOf kVal look put drp setF Bop Cop Ty Tn isTn cut Blt Mt Tg E Es Oe I S Ss Def)
open Ast
theorem cut_last {xs : List W} : cut xs (some (-1)) none = xs.drop (xs.length - 1) := by
  unfold Fs.cut
  have e1 : HT.sIx xs.length 0 (some (-1)) = xs.length - 1 := by
    show (if (-1 : Int) < 0 then ((-1 : Int) + (xs.length : Int)).toNat else min (-1 : Int).toNat xs.length) = _
    rw [if_pos (by decide)]
    omega
  rw [e1]
  show (xs.drop (xs.length - 1)).take (xs.length - (xs.length - 1)) = _
  exact List.take_of_length_le (by rw [List.length_drop]; exact Nat.le_refl _)
theorem fd_nil {f : Fam} : fd f = fd [] ↔ f = [] := by
  unfold fd
  simp
theorem good_bad {m : Int} {s : Nat} {f : Fam} (g : Good m s f) (hne : f ≠ []) : Bad m s (f ++ [f.getLast hne]) := by
  obtain ⟨g1, g2, g3, g4, g5⟩ := g
  have hm := List.getLast_mem hne
  refine ⟨g1, g2, by simp; omega, fun q hq => ?_, by simp, .inr ?_⟩
  · rcases List.mem_append.mp hq with h | h
    · exact g4 q h
    · rw [List.mem_singleton.mp h]
      exact g4 _ hm
  · rw [put_len_dup g5 (List.mem_map_of_mem hm)]
    simp
theorem last_fam {f : Fam} (hne : f ≠ []) (h : Hep) : slO h (famW f) (some (-1)) none = some (famW [f.getLast hne]) := by
  show (some (W.fl (cut ((fd f).map enc) (some (-1)) none))) = _
  rw [cut_last]
  have e : f = f.dropLast ++ [f.getLast hne] := (List.dropLast_concat_getLast hne).symm
  have l : ((fd f).map (enc : Tup Int × Int → W)).length - 1 = f.dropLast.length := by simp [fd]
  rw [l]
  show some (W.fl _) = some (W.fl ((fd [f.getLast hne]).map enc))
  congr 2
  unfold fd
  rw [List.map_map, List.map_map]
  conv => lhs; rw [e]
  generalize f.getLast hne = q
  simp
theorem step_law (n : Nat) (h : Hep) (fam : W) (m : Int) (s : Nat) (g : Fam) (G : Good m s g) :
    ∃ h', fstepV (CV (n + 8)) (.nm 5) b_law_2 (famW g) [none, none, some (.int m), some (.int s), some fam, none, none, none] h = .nx [none, none, some (.int m), some (.int s), some fam, none, none, none] h' := by
  obtain ⟨td, t3⟩ := G.told
  have e1 := f_shown (n + 6) h g td t3
  have e2 := f_read_family (n + 2) h m s g G
  have ge : ∀ h : Hep, (h ++ [Ob.lst ((fd g).map enc)])[h.length]? = some (.lst ((fd g).map enc)) := fun h => get_end
  have e3 := eq_ref_fam (g := g) (ge h)
  simp only [decide_true] at e3
  have e4 := f_read_family (n + 2) (h ++ [Ob.lst ((fd g).map enc)]) m s g G
  have e5 := f_show_ref (n + 6) (h ++ [Ob.lst ((fd g).map enc)] ++ [Ob.lst ((fd g).map enc)]) (h ++ [Ob.lst ((fd g).map enc)]).length g td t3 (ge _)
  have s7 : exS (CV (n + 8)) s_law_7 [none, none, some (.int m), some (.int s), some fam, some (famW g), some (.str (famT g)), none] h = .nx [none, none, some (.int m), some (.int s), some fam, some (famW g), some (.str (famT g)), none] (h ++ [Ob.lst ((fd g).map enc)] ++ [Ob.lst ((fd g).map enc)]) := by
    generalize famW g = L at e3 ⊢
    generalize famT g = t at e2 e4 e5 ⊢
    generalize (fd g).map enc = B at e2 e3 e4 e5 ⊢
    generalize hH1 : h ++ [Ob.lst B] = H1 at e2 e3 e4 e5 ⊢
    generalize hH2 : H1 ++ [Ob.lst B] = H2 at e4 e5 ⊢
    simp [s_law_7, b_law_0, s_law_6, Fs.lim, exSs, exS, evE, evEs, evT, evO, evC, evI, isi, Fs.isTn, fresh, bind_ok, bind_ex, of_some, sb_ok, sb_ex, sq_nx, sq_rt, sq_ex, ret_rt, ret_nx, ret_ex, resO_some, bop_add, add_int, add_str, add_tup, add_fl, bop_sub, bop_mul, bop_mulL, bop_fdiv, bop_mod, bop_pow, cop_eq, cop_ne, eq_int, eq_str, eq_bl, cop_lt, lt_int, cop_gt, cop_le, cop_ge, cop_in, cop_nin, cop_is, cop_isn, is_non, is_bl, in_fk, in_ft, in_ref, in_fl, in_tu, non_non, non_bl, non_int, non_str, non_tup, non_fl, non_ref, key_int, key_str, tru_bl, tru_int, tru_non, tru_tup, tru_fl, tru_str, ty_non, ty_bl, ty_int, ty_str, ty_tup, ty_fl, ty_fk, ty_ref, blt_len, blt_list, blt_tuple, blt_sorted, blt_sum, blt_all, blt_any, blt_int, blt_str, blt_max, blt_min, blt_dict, len_tup, len_fl, len_fk, len_ft, len_str, len_ref, list_tup, list_fl, list_ref, tuple_fl, tuple_tup, sorted_fl, sum_fl, all_fl, any_fl, int_int, int_bl, int_str, str_int, ix_tup, ix_fl, ix_fk, ix_ft, ix_str, ix_ref, sl_tup, sl_fl, sl_str, l_fl, l_ref, rv_append, rv_extend, rv_pop, rv_reverse, rv_get, rv_popD, rv_join, rv_split, rv_start, rv_lower, isL_ref, isD_ref, dk_fk, dk_ft, dk_ref, dt_ft, dt_fk, dt_ref, mt_append, mt_extend, mt_pop0, mt_pop, mt_popD, mt_reverse, mt_get, mt_join, mt_split, mt_start, mt_lower, seti_ref, asg_nm, asg_tup, asg_fl, asgs_nil, asgs_cons, wipe_nil, wipe_cons, lay_fl, lay_fk, lay_ft, e2, e3, e4, e5]
  generalize h ++ [Ob.lst ((fd g).map enc)] ++ [Ob.lst ((fd g).map enc)] = H at s7
  have en := eq_fam H g []
  rw [show famW [] = W.fl [] from rfl] at en
  by_cases hne : g = []
  · have hd : decide (fd g = fd []) = true := by rw [hne]; simp
    rw [hd] at en
    refine ⟨H, ?_⟩
    have s9 : exS (CV (n + 8)) s_law_9 [none, none, some (.int m), some (.int s), some fam, some (famW g), some (.str (famT g)), none] H = .nx [none, none, some (.int m), some (.int s), some fam, some (famW g), some (.str (famT g)), none] H := by
      generalize famW g = L at en ⊢
      generalize famT g = t
      simp [s_law_9, b_law_1, s_law_8, Fs.lim, exSs, exS, evE, evEs, evT, evO, evC, evI, isi, Fs.isTn, fresh, bind_ok, bind_ex, of_some, sb_ok, sb_ex, sq_nx, sq_rt, sq_ex, ret_rt, ret_nx, ret_ex, resO_some, bop_add, add_int, add_str, add_tup, add_fl, bop_sub, bop_mul, bop_mulL, bop_fdiv, bop_mod, bop_pow, cop_eq, cop_ne, eq_int, eq_str, eq_bl, cop_lt, lt_int, cop_gt, cop_le, cop_ge, cop_in, cop_nin, cop_is, cop_isn, is_non, is_bl, in_fk, in_ft, in_ref, in_fl, in_tu, non_non, non_bl, non_int, non_str, non_tup, non_fl, non_ref, key_int, key_str, tru_bl, tru_int, tru_non, tru_tup, tru_fl, tru_str, ty_non, ty_bl, ty_int, ty_str, ty_tup, ty_fl, ty_fk, ty_ref, blt_len, blt_list, blt_tuple, blt_sorted, blt_sum, blt_all, blt_any, blt_int, blt_str, blt_max, blt_min, blt_dict, len_tup, len_fl, len_fk, len_ft, len_str, len_ref, list_tup, list_fl, list_ref, tuple_fl, tuple_tup, sorted_fl, sum_fl, all_fl, any_fl, int_int, int_bl, int_str, str_int, ix_tup, ix_fl, ix_fk, ix_ft, ix_str, ix_ref, sl_tup, sl_fl, sl_str, l_fl, l_ref, rv_append, rv_extend, rv_pop, rv_reverse, rv_get, rv_popD, rv_join, rv_split, rv_start, rv_lower, isL_ref, isD_ref, dk_fk, dk_ft, dk_ref, dt_ft, dt_fk, dt_ref, mt_append, mt_extend, mt_pop0, mt_pop, mt_popD, mt_reverse, mt_get, mt_join, mt_split, mt_start, mt_lower, seti_ref, asg_nm, asg_tup, asg_fl, asgs_nil, asgs_cons, wipe_nil, wipe_cons, lay_fl, lay_fk, lay_ft, en]
    generalize famW g = L at e1 s7 s9 ⊢
    generalize famT g = t at e1 s7 s9 ⊢
    simp [fstepV, b_law_2, s_law_5, s_law_10, Fs.lim, exSs, exS, evE, evEs, evT, evO, evC, evI, isi, Fs.isTn, fresh, bind_ok, bind_ex, of_some, sb_ok, sb_ex, sq_nx, sq_rt, sq_ex, ret_rt, ret_nx, ret_ex, resO_some, bop_add, add_int, add_str, add_tup, add_fl, bop_sub, bop_mul, bop_mulL, bop_fdiv, bop_mod, bop_pow, cop_eq, cop_ne, eq_int, eq_str, eq_bl, cop_lt, lt_int, cop_gt, cop_le, cop_ge, cop_in, cop_nin, cop_is, cop_isn, is_non, is_bl, in_fk, in_ft, in_ref, in_fl, in_tu, non_non, non_bl, non_int, non_str, non_tup, non_fl, non_ref, key_int, key_str, tru_bl, tru_int, tru_non, tru_tup, tru_fl, tru_str, ty_non, ty_bl, ty_int, ty_str, ty_tup, ty_fl, ty_fk, ty_ref, blt_len, blt_list, blt_tuple, blt_sorted, blt_sum, blt_all, blt_any, blt_int, blt_str, blt_max, blt_min, blt_dict, len_tup, len_fl, len_fk, len_ft, len_str, len_ref, list_tup, list_fl, list_ref, tuple_fl, tuple_tup, sorted_fl, sum_fl, all_fl, any_fl, int_int, int_bl, int_str, str_int, ix_tup, ix_fl, ix_fk, ix_ft, ix_str, ix_ref, sl_tup, sl_fl, sl_str, l_fl, l_ref, rv_append, rv_extend, rv_pop, rv_reverse, rv_get, rv_popD, rv_join, rv_split, rv_start, rv_lower, isL_ref, isD_ref, dk_fk, dk_ft, dk_ref, dt_ft, dt_fk, dt_ref, mt_append, mt_extend, mt_pop0, mt_pop, mt_popD, mt_reverse, mt_get, mt_join, mt_split, mt_start, mt_lower, seti_ref, asg_nm, asg_tup, asg_fl, asgs_nil, asgs_cons, wipe_nil, wipe_cons, lay_fl, lay_fk, lay_ft, e1, s7, s9]
  · have hd : decide (fd g = fd []) = false := by
      rw [decide_eq_false_iff_not]
      exact fun e => hne (fd_nil.mp e)
    rw [hd] at en
    have sl := last_fam hne H
    have one : Good m s [g.getLast hne] := ⟨G.1, G.2.1, by simp, fun q hq => by
      rw [List.mem_singleton.mp hq]
      exact G.2.2.2.1 _ (List.getLast_mem hne), by simp⟩
    obtain ⟨td1, t31⟩ := one.told
    have e6 := f_shown (n + 6) H [g.getLast hne] td1 t31
    have bad := good_bad G hne
    obtain ⟨H3, e7⟩ := f_refused (n + 1) H m s _ bad
    rw [famT_snoc hne] at e7
    have l1 := famT_len td t3
    have l2 := famT_len td1 t31
    have l3 : ("; " : Str).length = 2 := by decide
    have gl : g.length ≤ 200 := G.2.2.1
    simp only [List.length_cons, List.length_nil] at l2
    have a1 : (famT g).length + ("; " : Str).length ≤ 16777216 := by omega
    have a2 : (famT g ++ "; ").length + (famT [g.getLast hne]).length ≤ 16777216 := by rw [app_len]; omega
    refine ⟨H3, ?_⟩
    have s9 : exS (CV (n + 8)) s_law_9 [none, none, some (.int m), some (.int s), some fam, some (famW g), some (.str (famT g)), none] H = .nx [none, none, some (.int m), some (.int s), some fam, some (famW g), some (.str (famT g)), none] H3 := by
      generalize famT [g.getLast hne] = u at e6 e7 a2
      generalize famW [g.getLast hne] = V at e6 sl
      generalize famW g = L at en sl ⊢
      generalize famT g = t at e7 a1 a2 ⊢
      simp [s_law_9, b_law_1, s_law_8, Fs.lim, exSs, exS, evE, evEs, evT, evO, evC, evI, isi, Fs.isTn, fresh, bind_ok, bind_ex, of_some, sb_ok, sb_ex, sq_nx, sq_rt, sq_ex, ret_rt, ret_nx, ret_ex, resO_some, bop_add, add_int, add_str, add_tup, add_fl, bop_sub, bop_mul, bop_mulL, bop_fdiv, bop_mod, bop_pow, cop_eq, cop_ne, eq_int, eq_str, eq_bl, cop_lt, lt_int, cop_gt, cop_le, cop_ge, cop_in, cop_nin, cop_is, cop_isn, is_non, is_bl, in_fk, in_ft, in_ref, in_fl, in_tu, non_non, non_bl, non_int, non_str, non_tup, non_fl, non_ref, key_int, key_str, tru_bl, tru_int, tru_non, tru_tup, tru_fl, tru_str, ty_non, ty_bl, ty_int, ty_str, ty_tup, ty_fl, ty_fk, ty_ref, blt_len, blt_list, blt_tuple, blt_sorted, blt_sum, blt_all, blt_any, blt_int, blt_str, blt_max, blt_min, blt_dict, len_tup, len_fl, len_fk, len_ft, len_str, len_ref, list_tup, list_fl, list_ref, tuple_fl, tuple_tup, sorted_fl, sum_fl, all_fl, any_fl, int_int, int_bl, int_str, str_int, ix_tup, ix_fl, ix_fk, ix_ft, ix_str, ix_ref, sl_tup, sl_fl, sl_str, l_fl, l_ref, rv_append, rv_extend, rv_pop, rv_reverse, rv_get, rv_popD, rv_join, rv_split, rv_start, rv_lower, isL_ref, isD_ref, dk_fk, dk_ft, dk_ref, dt_ft, dt_fk, dt_ref, mt_append, mt_extend, mt_pop0, mt_pop, mt_popD, mt_reverse, mt_get, mt_join, mt_split, mt_start, mt_lower, seti_ref, asg_nm, asg_tup, asg_fl, asgs_nil, asgs_cons, wipe_nil, wipe_cons, lay_fl, lay_fk, lay_ft, en, sl, e6, e7, a1, a2]
    generalize famW g = L at e1 s7 s9 ⊢
    generalize famT g = t at e1 s7 s9 ⊢
    simp [fstepV, b_law_2, s_law_5, s_law_10, Fs.lim, exSs, exS, evE, evEs, evT, evO, evC, evI, isi, Fs.isTn, fresh, bind_ok, bind_ex, of_some, sb_ok, sb_ex, sq_nx, sq_rt, sq_ex, ret_rt, ret_nx, ret_ex, resO_some, bop_add, add_int, add_str, add_tup, add_fl, bop_sub, bop_mul, bop_mulL, bop_fdiv, bop_mod, bop_pow, cop_eq, cop_ne, eq_int, eq_str, eq_bl, cop_lt, lt_int, cop_gt, cop_le, cop_ge, cop_in, cop_nin, cop_is, cop_isn, is_non, is_bl, in_fk, in_ft, in_ref, in_fl, in_tu, non_non, non_bl, non_int, non_str, non_tup, non_fl, non_ref, key_int, key_str, tru_bl, tru_int, tru_non, tru_tup, tru_fl, tru_str, ty_non, ty_bl, ty_int, ty_str, ty_tup, ty_fl, ty_fk, ty_ref, blt_len, blt_list, blt_tuple, blt_sorted, blt_sum, blt_all, blt_any, blt_int, blt_str, blt_max, blt_min, blt_dict, len_tup, len_fl, len_fk, len_ft, len_str, len_ref, list_tup, list_fl, list_ref, tuple_fl, tuple_tup, sorted_fl, sum_fl, all_fl, any_fl, int_int, int_bl, int_str, str_int, ix_tup, ix_fl, ix_fk, ix_ft, ix_str, ix_ref, sl_tup, sl_fl, sl_str, l_fl, l_ref, rv_append, rv_extend, rv_pop, rv_reverse, rv_get, rv_popD, rv_join, rv_split, rv_start, rv_lower, isL_ref, isD_ref, dk_fk, dk_ft, dk_ref, dt_ft, dt_fk, dt_ref, mt_append, mt_extend, mt_pop0, mt_pop, mt_popD, mt_reverse, mt_get, mt_join, mt_split, mt_start, mt_lower, seti_ref, asg_nm, asg_tup, asg_fl, asgs_nil, asgs_cons, wipe_nil, wipe_cons, lay_fl, lay_fk, lay_ft, e1, s7, s9]
theorem law_holds (ns : List Int) (hl : ns.length ≤ 63) (hb : ∀ z ∈ ns, Builtin.Int.intBits z ≤ 1048576) : ∃ h, CV 30 "law" [.ref 0] [.ro (ns.map W.int)] = .ok (.bl true) h := by
  obtain ⟨o1, e1, p1⟩ := f_pool 28 [.ro (ns.map W.int)] ns 0 rfl hb (by decide)
  simp only [Int.natCast_zero, List.length_singleton] at e1
  have P : ∀ o, PoolO o → Pool ([Ob.ro (ns.map W.int)] ++ [o]) 1 := fun o p => ⟨o, rfl, p⟩
  have S : ∀ o x, ([Ob.ro (ns.map W.int)] ++ [o]).set 1 x = [Ob.ro (ns.map W.int)] ++ [x] := fun o x => rfl
  obtain ⟨r, o2, e2, r0, r1, p2⟩ := f_take 28 _ 1 9 (P o1 p1) (by decide) (by decide)
  rw [S] at e2
  obtain ⟨z, o3, e3, z0, z1, p3⟩ := f_take 28 _ 1 2 (P o2 p2) (by decide) (by decide)
  rw [S] at e3
  obtain ⟨f, e4, F, fl⟩ := f_lots 25 ([Ob.ro (ns.map W.int)] ++ [o3]) ns (22 + r) (2 + z) rfl hl hb (by omega) (by omega)
  have hz : 2 + z = 2 ∨ 2 + z = 3 := by omega
  obtain ⟨g, e5, Gg, gl⟩ := f_filled 28 ([Ob.ro (ns.map W.int)] ++ [o3]) (22 + r) (2 + z) 200 (by decide) hz (by omega) f F (by omega)
  have good : ∀ k : Fam, IsFam (22 + r) (2 + z) k → k.length ≤ 200 → Good (22 + r) (2 + z).toNat k := fun k hk kl => ⟨by omega, by omega, kl, fun q hq => ⟨(hk.1 q hq).1, by have := (hk.1 q hq).2.1; omega, (hk.1 q hq).2.2⟩, hk.2⟩
  obtain ⟨s, hs⟩ : ∃ s : Nat, 2 + z = (s : Int) := ⟨(2 + z).toNat, by omega⟩
  have hs2 : (2 + z).toNat = s := by omega
  rw [hs2] at good
  obtain ⟨h1, t1⟩ := step_law 21 ([Ob.ro (ns.map W.int)] ++ [o3]) (famW f) (22 + r) s f (good f F (by omega))
  obtain ⟨h2, t2⟩ := step_law 21 h1 (famW f) (22 + r) s g (good g Gg (by omega))
  obtain ⟨b, e6, Gb, bl⟩ := f_filled 28 h2 (22 + r) (2 + z) 201 (by decide) hz (by omega) f F (by omega)
  have bad : Bad (22 + r) s b := ⟨by omega, by omega, by omega, fun q hq => ⟨(Gb.1 q hq).1, by have := (Gb.1 q hq).2.1; omega, (Gb.1 q hq).2.2⟩, (show b ≠ [] from fun e => by rw [e] at bl; cases bl), .inl (by omega)⟩
  obtain ⟨td, t3⟩ := bad.told
  have e7 := f_shown 27 h2 b td t3
  obtain ⟨h3, e8⟩ := f_refused 22 h2 (22 + r) s b bad
  rw [hs] at e4 e5 e6
  have lb : lenV h2 (famW b) = some (.int 201) := by
    show some (W.int ((fd b).map enc).length) = _
    rw [show ((fd b).map (enc : Tup Int × Int → W)).length = 201 by simp [fd, bl]]
    rfl
  have s11 : exS (CV 29) s_law_11 [none, none, some (.int (22 + r)), some (.int s), some (famW f), none, none, none] ([Ob.ro (ns.map W.int)] ++ [o3]) = .nx [none, none, some (.int (22 + r)), some (.int s), some (famW f), none, none, none] h2 := by
    have eI : evI (CV 29) (.of (.lst (.cons (.var 4) (.cons (.call "_law_filled" (.cons (.var 4) (.cons (.var 2) (.cons (.var 3) (.cons (.int 200) .nil))))) .nil)))) [none, none, some (.int (22 + r)), some (.int s), some (famW f), none, none, none] ([Ob.ro (ns.map W.int)] ++ [o3]) = .ok (.fix [famW f, famW g], .no) ([Ob.ro (ns.map W.int)] ++ [o3]) := by
      have e5' : CV 29 "_law_filled" [famW f, .int (22 + r), .int s, .int 200] ([Ob.ro (ns.map W.int)] ++ [o3]) = _ := e5
      generalize famW f = L at e5' ⊢
      generalize famW g = V at e5' ⊢
      generalize [Ob.ro (ns.map W.int)] ++ [o3] = H at e5' ⊢
      simp [Fs.lim, exSs, exS, evE, evEs, evT, evO, evC, evI, isi, Fs.isTn, fresh, bind_ok, bind_ex, of_some, sb_ok, sb_ex, sq_nx, sq_rt, sq_ex, ret_rt, ret_nx, ret_ex, resO_some, bop_add, add_int, add_str, add_tup, add_fl, bop_sub, bop_mul, bop_mulL, bop_fdiv, bop_mod, bop_pow, cop_eq, cop_ne, eq_int, eq_str, eq_bl, cop_lt, lt_int, cop_gt, cop_le, cop_ge, cop_in, cop_nin, cop_is, cop_isn, is_non, is_bl, in_fk, in_ft, in_ref, in_fl, in_tu, non_non, non_bl, non_int, non_str, non_tup, non_fl, non_ref, key_int, key_str, tru_bl, tru_int, tru_non, tru_tup, tru_fl, tru_str, ty_non, ty_bl, ty_int, ty_str, ty_tup, ty_fl, ty_fk, ty_ref, blt_len, blt_list, blt_tuple, blt_sorted, blt_sum, blt_all, blt_any, blt_int, blt_str, blt_max, blt_min, blt_dict, len_tup, len_fl, len_fk, len_ft, len_str, len_ref, list_tup, list_fl, list_ref, tuple_fl, tuple_tup, sorted_fl, sum_fl, all_fl, any_fl, int_int, int_bl, int_str, str_int, ix_tup, ix_fl, ix_fk, ix_ft, ix_str, ix_ref, sl_tup, sl_fl, sl_str, l_fl, l_ref, rv_append, rv_extend, rv_pop, rv_reverse, rv_get, rv_popD, rv_join, rv_split, rv_start, rv_lower, isL_ref, isD_ref, dk_fk, dk_ft, dk_ref, dt_ft, dt_fk, dt_ref, mt_append, mt_extend, mt_pop0, mt_pop, mt_popD, mt_reverse, mt_get, mt_join, mt_split, mt_start, mt_lower, seti_ref, asg_nm, asg_tup, asg_fl, asgs_nil, asgs_cons, wipe_nil, wipe_cons, lay_fl, lay_fk, lay_ft, e5', isFD, dictOf, wkOf]
    refine (for_ok (tg := .nm 5) (b := b_law_2) eI).trans ?_
    rw [forL, t1]
    show forL _ [famW g] _ h1 = _
    rw [forL, t2]
    rfl
  rw [call0 (d := p_law) (by kernel_rfl) (by kernel_rfl) rfl]
  refine ⟨h3, ?_⟩
  show retOf (exSs (CV 29) (.cons s_law_0 (.cons s_law_1 (.cons s_law_2 (.cons s_law_3 (.cons s_law_4 (.cons s_law_11 (.cons s_law_12 (.cons s_law_13 .nil)))))))) [some (.ref 0), none, none, none, none, none, none, none] [.ro (ns.map W.int)]) = _
  have e6' : CV 29 "_law_filled" [famW f, .int (22 + r), .int s, .int 201] h2 = _ := e6
  generalize famW f = L at e4 s11 e6' 
  generalize famW b = V at e6' e7 lb
  generalize famT b = t at e7 e8
  generalize hH0 : ([Ob.ro (ns.map W.int)] : Hep) = H0 at e1 e2 e3 e4 s11 ⊢
  have q0 : exS (CV 29) s_law_0 [some (.ref 0), none, none, none, none, none, none, none] H0 = .nx [some (.ref 0), some (.ref 1), none, none, none, none, none, none] (H0 ++ [o1]) := by simp [s_law_0, Fs.lim, exSs, exS, evE, evEs, evT, evO, evC, evI, isi, Fs.isTn, fresh, bind_ok, bind_ex, of_some, sb_ok, sb_ex, sq_nx, sq_rt, sq_ex, ret_rt, ret_nx, ret_ex, resO_some, bop_add, add_int, add_str, add_tup, add_fl, bop_sub, bop_mul, bop_mulL, bop_fdiv, bop_mod, bop_pow, cop_eq, cop_ne, eq_int, eq_str, eq_bl, cop_lt, lt_int, cop_gt, cop_le, cop_ge, cop_in, cop_nin, cop_is, cop_isn, is_non, is_bl, in_fk, in_ft, in_ref, in_fl, in_tu, non_non, non_bl, non_int, non_str, non_tup, non_fl, non_ref, key_int, key_str, tru_bl, tru_int, tru_non, tru_tup, tru_fl, tru_str, ty_non, ty_bl, ty_int, ty_str, ty_tup, ty_fl, ty_fk, ty_ref, blt_len, blt_list, blt_tuple, blt_sorted, blt_sum, blt_all, blt_any, blt_int, blt_str, blt_max, blt_min, blt_dict, len_tup, len_fl, len_fk, len_ft, len_str, len_ref, list_tup, list_fl, list_ref, tuple_fl, tuple_tup, sorted_fl, sum_fl, all_fl, any_fl, int_int, int_bl, int_str, str_int, ix_tup, ix_fl, ix_fk, ix_ft, ix_str, ix_ref, sl_tup, sl_fl, sl_str, l_fl, l_ref, rv_append, rv_extend, rv_pop, rv_reverse, rv_get, rv_popD, rv_join, rv_split, rv_start, rv_lower, isL_ref, isD_ref, dk_fk, dk_ft, dk_ref, dt_ft, dt_fk, dt_ref, mt_append, mt_extend, mt_pop0, mt_pop, mt_popD, mt_reverse, mt_get, mt_join, mt_split, mt_start, mt_lower, seti_ref, asg_nm, asg_tup, asg_fl, asgs_nil, asgs_cons, wipe_nil, wipe_cons, lay_fl, lay_fk, lay_ft, e1]
  have q1 : exS (CV 29) s_law_1 [some (.ref 0), some (.ref 1), none, none, none, none, none, none] (H0 ++ [o1]) = .nx [some (.ref 0), some (.ref 1), some (.int (22 + r)), none, none, none, none, none] (H0 ++ [o2]) := by simp [s_law_1, Fs.lim, exSs, exS, evE, evEs, evT, evO, evC, evI, isi, Fs.isTn, fresh, bind_ok, bind_ex, of_some, sb_ok, sb_ex, sq_nx, sq_rt, sq_ex, ret_rt, ret_nx, ret_ex, resO_some, bop_add, add_int, add_str, add_tup, add_fl, bop_sub, bop_mul, bop_mulL, bop_fdiv, bop_mod, bop_pow, cop_eq, cop_ne, eq_int, eq_str, eq_bl, cop_lt, lt_int, cop_gt, cop_le, cop_ge, cop_in, cop_nin, cop_is, cop_isn, is_non, is_bl, in_fk, in_ft, in_ref, in_fl, in_tu, non_non, non_bl, non_int, non_str, non_tup, non_fl, non_ref, key_int, key_str, tru_bl, tru_int, tru_non, tru_tup, tru_fl, tru_str, ty_non, ty_bl, ty_int, ty_str, ty_tup, ty_fl, ty_fk, ty_ref, blt_len, blt_list, blt_tuple, blt_sorted, blt_sum, blt_all, blt_any, blt_int, blt_str, blt_max, blt_min, blt_dict, len_tup, len_fl, len_fk, len_ft, len_str, len_ref, list_tup, list_fl, list_ref, tuple_fl, tuple_tup, sorted_fl, sum_fl, all_fl, any_fl, int_int, int_bl, int_str, str_int, ix_tup, ix_fl, ix_fk, ix_ft, ix_str, ix_ref, sl_tup, sl_fl, sl_str, l_fl, l_ref, rv_append, rv_extend, rv_pop, rv_reverse, rv_get, rv_popD, rv_join, rv_split, rv_start, rv_lower, isL_ref, isD_ref, dk_fk, dk_ft, dk_ref, dt_ft, dt_fk, dt_ref, mt_append, mt_extend, mt_pop0, mt_pop, mt_popD, mt_reverse, mt_get, mt_join, mt_split, mt_start, mt_lower, seti_ref, asg_nm, asg_tup, asg_fl, asgs_nil, asgs_cons, wipe_nil, wipe_cons, lay_fl, lay_fk, lay_ft, e2]
  have q2 : exS (CV 29) s_law_2 [some (.ref 0), some (.ref 1), some (.int (22 + r)), none, none, none, none, none] (H0 ++ [o2]) = .nx [some (.ref 0), some (.ref 1), some (.int (22 + r)), some (.int s), none, none, none, none] (H0 ++ [o3]) := by simp [s_law_2, Fs.lim, exSs, exS, evE, evEs, evT, evO, evC, evI, isi, Fs.isTn, fresh, bind_ok, bind_ex, of_some, sb_ok, sb_ex, sq_nx, sq_rt, sq_ex, ret_rt, ret_nx, ret_ex, resO_some, bop_add, add_int, add_str, add_tup, add_fl, bop_sub, bop_mul, bop_mulL, bop_fdiv, bop_mod, bop_pow, cop_eq, cop_ne, eq_int, eq_str, eq_bl, cop_lt, lt_int, cop_gt, cop_le, cop_ge, cop_in, cop_nin, cop_is, cop_isn, is_non, is_bl, in_fk, in_ft, in_ref, in_fl, in_tu, non_non, non_bl, non_int, non_str, non_tup, non_fl, non_ref, key_int, key_str, tru_bl, tru_int, tru_non, tru_tup, tru_fl, tru_str, ty_non, ty_bl, ty_int, ty_str, ty_tup, ty_fl, ty_fk, ty_ref, blt_len, blt_list, blt_tuple, blt_sorted, blt_sum, blt_all, blt_any, blt_int, blt_str, blt_max, blt_min, blt_dict, len_tup, len_fl, len_fk, len_ft, len_str, len_ref, list_tup, list_fl, list_ref, tuple_fl, tuple_tup, sorted_fl, sum_fl, all_fl, any_fl, int_int, int_bl, int_str, str_int, ix_tup, ix_fl, ix_fk, ix_ft, ix_str, ix_ref, sl_tup, sl_fl, sl_str, l_fl, l_ref, rv_append, rv_extend, rv_pop, rv_reverse, rv_get, rv_popD, rv_join, rv_split, rv_start, rv_lower, isL_ref, isD_ref, dk_fk, dk_ft, dk_ref, dt_ft, dt_fk, dt_ref, mt_append, mt_extend, mt_pop0, mt_pop, mt_popD, mt_reverse, mt_get, mt_join, mt_split, mt_start, mt_lower, seti_ref, asg_nm, asg_tup, asg_fl, asgs_nil, asgs_cons, wipe_nil, wipe_cons, lay_fl, lay_fk, lay_ft, e3, hs]
  have q3 : exS (CV 29) s_law_3 [some (.ref 0), some (.ref 1), some (.int (22 + r)), some (.int s), none, none, none, none] (H0 ++ [o3]) = .nx [some (.ref 0), some (.ref 1), some (.int (22 + r)), some (.int s), some L, none, none, none] (H0 ++ [o3]) := by simp [s_law_3, Fs.lim, exSs, exS, evE, evEs, evT, evO, evC, evI, isi, Fs.isTn, fresh, bind_ok, bind_ex, of_some, sb_ok, sb_ex, sq_nx, sq_rt, sq_ex, ret_rt, ret_nx, ret_ex, resO_some, bop_add, add_int, add_str, add_tup, add_fl, bop_sub, bop_mul, bop_mulL, bop_fdiv, bop_mod, bop_pow, cop_eq, cop_ne, eq_int, eq_str, eq_bl, cop_lt, lt_int, cop_gt, cop_le, cop_ge, cop_in, cop_nin, cop_is, cop_isn, is_non, is_bl, in_fk, in_ft, in_ref, in_fl, in_tu, non_non, non_bl, non_int, non_str, non_tup, non_fl, non_ref, key_int, key_str, tru_bl, tru_int, tru_non, tru_tup, tru_fl, tru_str, ty_non, ty_bl, ty_int, ty_str, ty_tup, ty_fl, ty_fk, ty_ref, blt_len, blt_list, blt_tuple, blt_sorted, blt_sum, blt_all, blt_any, blt_int, blt_str, blt_max, blt_min, blt_dict, len_tup, len_fl, len_fk, len_ft, len_str, len_ref, list_tup, list_fl, list_ref, tuple_fl, tuple_tup, sorted_fl, sum_fl, all_fl, any_fl, int_int, int_bl, int_str, str_int, ix_tup, ix_fl, ix_fk, ix_ft, ix_str, ix_ref, sl_tup, sl_fl, sl_str, l_fl, l_ref, rv_append, rv_extend, rv_pop, rv_reverse, rv_get, rv_popD, rv_join, rv_split, rv_start, rv_lower, isL_ref, isD_ref, dk_fk, dk_ft, dk_ref, dt_ft, dt_fk, dt_ref, mt_append, mt_extend, mt_pop0, mt_pop, mt_popD, mt_reverse, mt_get, mt_join, mt_split, mt_start, mt_lower, seti_ref, asg_nm, asg_tup, asg_fl, asgs_nil, asgs_cons, wipe_nil, wipe_cons, lay_fl, lay_fk, lay_ft, e4]
  have q4 : exS (CV 29) s_law_4 [some (.ref 0), some (.ref 1), some (.int (22 + r)), some (.int s), some L, none, none, none] (H0 ++ [o3]) = .nx [none, none, some (.int (22 + r)), some (.int s), some L, none, none, none] (H0 ++ [o3]) := by simp [s_law_4, Fs.lim, exSs, exS, evE, evEs, evT, evO, evC, evI, isi, Fs.isTn, fresh, bind_ok, bind_ex, of_some, sb_ok, sb_ex, sq_nx, sq_rt, sq_ex, ret_rt, ret_nx, ret_ex, resO_some, bop_add, add_int, add_str, add_tup, add_fl, bop_sub, bop_mul, bop_mulL, bop_fdiv, bop_mod, bop_pow, cop_eq, cop_ne, eq_int, eq_str, eq_bl, cop_lt, lt_int, cop_gt, cop_le, cop_ge, cop_in, cop_nin, cop_is, cop_isn, is_non, is_bl, in_fk, in_ft, in_ref, in_fl, in_tu, non_non, non_bl, non_int, non_str, non_tup, non_fl, non_ref, key_int, key_str, tru_bl, tru_int, tru_non, tru_tup, tru_fl, tru_str, ty_non, ty_bl, ty_int, ty_str, ty_tup, ty_fl, ty_fk, ty_ref, blt_len, blt_list, blt_tuple, blt_sorted, blt_sum, blt_all, blt_any, blt_int, blt_str, blt_max, blt_min, blt_dict, len_tup, len_fl, len_fk, len_ft, len_str, len_ref, list_tup, list_fl, list_ref, tuple_fl, tuple_tup, sorted_fl, sum_fl, all_fl, any_fl, int_int, int_bl, int_str, str_int, ix_tup, ix_fl, ix_fk, ix_ft, ix_str, ix_ref, sl_tup, sl_fl, sl_str, l_fl, l_ref, rv_append, rv_extend, rv_pop, rv_reverse, rv_get, rv_popD, rv_join, rv_split, rv_start, rv_lower, isL_ref, isD_ref, dk_fk, dk_ft, dk_ref, dt_ft, dt_fk, dt_ref, mt_append, mt_extend, mt_pop0, mt_pop, mt_popD, mt_reverse, mt_get, mt_join, mt_split, mt_start, mt_lower, seti_ref, asg_nm, asg_tup, asg_fl, asgs_nil, asgs_cons, wipe_nil, wipe_cons, lay_fl, lay_fk, lay_ft]
  have q5 : exS (CV 29) s_law_12 [none, none, some (.int (22 + r)), some (.int s), some L, none, none, none] h2 = .nx [none, none, some (.int (22 + r)), some (.int s), some L, none, none, some V] h2 := by simp [s_law_12, Fs.lim, exSs, exS, evE, evEs, evT, evO, evC, evI, isi, Fs.isTn, fresh, bind_ok, bind_ex, of_some, sb_ok, sb_ex, sq_nx, sq_rt, sq_ex, ret_rt, ret_nx, ret_ex, resO_some, bop_add, add_int, add_str, add_tup, add_fl, bop_sub, bop_mul, bop_mulL, bop_fdiv, bop_mod, bop_pow, cop_eq, cop_ne, eq_int, eq_str, eq_bl, cop_lt, lt_int, cop_gt, cop_le, cop_ge, cop_in, cop_nin, cop_is, cop_isn, is_non, is_bl, in_fk, in_ft, in_ref, in_fl, in_tu, non_non, non_bl, non_int, non_str, non_tup, non_fl, non_ref, key_int, key_str, tru_bl, tru_int, tru_non, tru_tup, tru_fl, tru_str, ty_non, ty_bl, ty_int, ty_str, ty_tup, ty_fl, ty_fk, ty_ref, blt_len, blt_list, blt_tuple, blt_sorted, blt_sum, blt_all, blt_any, blt_int, blt_str, blt_max, blt_min, blt_dict, len_tup, len_fl, len_fk, len_ft, len_str, len_ref, list_tup, list_fl, list_ref, tuple_fl, tuple_tup, sorted_fl, sum_fl, all_fl, any_fl, int_int, int_bl, int_str, str_int, ix_tup, ix_fl, ix_fk, ix_ft, ix_str, ix_ref, sl_tup, sl_fl, sl_str, l_fl, l_ref, rv_append, rv_extend, rv_pop, rv_reverse, rv_get, rv_popD, rv_join, rv_split, rv_start, rv_lower, isL_ref, isD_ref, dk_fk, dk_ft, dk_ref, dt_ft, dt_fk, dt_ref, mt_append, mt_extend, mt_pop0, mt_pop, mt_popD, mt_reverse, mt_get, mt_join, mt_split, mt_start, mt_lower, seti_ref, asg_nm, asg_tup, asg_fl, asgs_nil, asgs_cons, wipe_nil, wipe_cons, lay_fl, lay_fk, lay_ft, e6']
  have q6 : exS (CV 29) s_law_13 [none, none, some (.int (22 + r)), some (.int s), some L, none, none, some V] h2 = .rt (.bl true) h3 := by simp [s_law_13, Fs.lim, exSs, exS, evE, evEs, evT, evO, evC, evI, isi, Fs.isTn, fresh, bind_ok, bind_ex, of_some, sb_ok, sb_ex, sq_nx, sq_rt, sq_ex, ret_rt, ret_nx, ret_ex, resO_some, bop_add, add_int, add_str, add_tup, add_fl, bop_sub, bop_mul, bop_mulL, bop_fdiv, bop_mod, bop_pow, cop_eq, cop_ne, eq_int, eq_str, eq_bl, cop_lt, lt_int, cop_gt, cop_le, cop_ge, cop_in, cop_nin, cop_is, cop_isn, is_non, is_bl, in_fk, in_ft, in_ref, in_fl, in_tu, non_non, non_bl, non_int, non_str, non_tup, non_fl, non_ref, key_int, key_str, tru_bl, tru_int, tru_non, tru_tup, tru_fl, tru_str, ty_non, ty_bl, ty_int, ty_str, ty_tup, ty_fl, ty_fk, ty_ref, blt_len, blt_list, blt_tuple, blt_sorted, blt_sum, blt_all, blt_any, blt_int, blt_str, blt_max, blt_min, blt_dict, len_tup, len_fl, len_fk, len_ft, len_str, len_ref, list_tup, list_fl, list_ref, tuple_fl, tuple_tup, sorted_fl, sum_fl, all_fl, any_fl, int_int, int_bl, int_str, str_int, ix_tup, ix_fl, ix_fk, ix_ft, ix_str, ix_ref, sl_tup, sl_fl, sl_str, l_fl, l_ref, rv_append, rv_extend, rv_pop, rv_reverse, rv_get, rv_popD, rv_join, rv_split, rv_start, rv_lower, isL_ref, isD_ref, dk_fk, dk_ft, dk_ref, dt_ft, dt_fk, dt_ref, mt_append, mt_extend, mt_pop0, mt_pop, mt_popD, mt_reverse, mt_get, mt_join, mt_split, mt_start, mt_lower, seti_ref, asg_nm, asg_tup, asg_fl, asgs_nil, asgs_cons, wipe_nil, wipe_cons, lay_fl, lay_fk, lay_ft, lb, e7, e8]
  simp only [exSs, SRes.sq, q0, q1, q2, q3, q4, s11, q5, q6, retOf]
end Fw
theorem PySem.Challenge.cw_fewstand_k80_many_lots_written_holds : PySem.Challenge.rw_fewstand_k80_many_lots_written.Holds :=
  Fs.holds fun ns hl hz => Fw.law_of (md := Ast.mds) (Fw.law_holds ns hl hz)
