import PyProof.Rows.All
import Wide.All
import OpenK.AllK
import Wide.FinOn
import KE.SortData
import KE.DataMinMax
import KE.DataEq
import KE.DataAny
import PyProof.ReprReads
import HandS.Base
import PyProof.StrBlockL
import HandS.Comp
import HandS.ForMost
import HandS.TupAny
import HandS.TupMul
import HandS.Style
import HandS.Conv
import KE.SortLaws
import KE.DataCmp
import HandS.Text
import HandS.Dict
import KE.KRevSl
import PyProof.ConsumeS
import PyProof.ListStr
import HandS.More
import HandS.TupLen
import HandS.SetFor
import HandS.TupSets
import HandS.Strs
import HandS.IsInst
import KE.DataFind
import PyProof.SeqIndex
import HandS.Walk
import HandS.Zip
import KE.GoesNew
import PyProof.EnumMake
import KE.KDictMeth
import PyProof.Rows.RegReprOcc
import PyProof.DictStraight
import PyProof.ReprRoads
import KE.KStateDown
import HandS.Head0
import HandS.Head1
import HandS.Head2
import HandS.HeadEnd
import HandS.HeadHook1
import HandS.HeadHook2
import PySem.Challenge.RW_fewjewels_k82_whole_stars_and_their_ring
set_option linter.all false
set_option autoImplicit false
set_option Elab.async false
set_option maxRecDepth 100000
set_option maxHeartbeats 0
-- EvSyn
section
/-! Ev: a small syntax of our own for the house's Python (names are slots), and its evaluator over data trees. -/
namespace Ev
open PySem

abbrev D := PyData

/-- how a slot holds its value: a shared value; a list or dict that the slot alone knows; the same, looked at for a while; the same, lent by the caller -/
inductive Md where
  | frz | own | lck | prm
  deriving DecidableEq

structure Sl where
  d : D
  m : Md
abbrev Gm := List (Option Sl)

/-- an answer, an exception (its number; what stands behind it), or nothing that is told -/
inductive Out (ε α : Type) where
  | ok (a : α)
  | exc (c : Nat) (g : ε)
  | bad
def Out.bind {ε α β : Type} (x : Out ε α) (f : α → Out ε β) : Out ε β := match x with
  | .ok a => f a
  | .exc c g => .exc c g
  | .bad => .bad

/-! ### the primitives, over data -/
inductive Ty where
  | int | bool | str | list | tuple | dict
  deriving DecidableEq
inductive ItK where
  | seq | rng | enu | zip
  deriving DecidableEq
inductive Pr where
  | add | sub | mul | fdiv | mod | pow | neg
  | eq | ne | lt | le | gt | ge | isIn | notIn | isNo | notNo | isB (b : Bool) | notB (b : Bool)
  | ix | sl (lo hi : Bool) | rev
  | len | abs | min1 | max1 | min2 | max2 | sum1 | sum2 | all | any | sorted | tupOf | lstOf | intOf | repr
  | isi (t : Ty) | lenSet | sortSet | dictOf | lstIt (k : ItK) | tupIt (k : ItK)
  | count | index | get1 | get2 | join
  deriving DecidableEq
/-- methods that change their object -/
inductive Mu where
  | append | extend | pop0 | pop1 | remove | update | setdefault
  deriving DecidableEq

/-- tuples of the module's text (each claim says its own) -/
@[irreducible] def isC (_d : D) : Bool := false
def okD (d : D) : Bool := d.plain && decide (d.depth ≤ 64)
def okDs (ds : List D) : Bool := PyData.plainAll ds && decide (PyData.depthAll ds ≤ 64)

/-- x == y of what can be compared -/
def eqD (x y : D) : Option Bool := if okD x && okD y then some (PyData.eqv x y) else none

/-- a < b of signs -/
def ltN : List Nat → List Nat → Bool
  | _, [] => false
  | [], _ :: _ => true
  | a :: x, b :: y => if a = b then ltN x y else decide (a < b)
mutual
def ltD : D → D → Bool
  | .int a, .int b => decide (a < b)
  | .bool a, .bool b => !a && b
  | .str x, .str y => ltN x.cps.toList y.cps.toList
  | .tuple xs, .tuple ys => ltDs xs ys
  | .list xs, .list ys => ltDs xs ys
  | _, _ => false
def ltDs : List D → List D → Bool
  | _, [] => false
  | [], _ :: _ => true
  | x :: xs, y :: ys => if PyData.eqv x y then ltDs xs ys else ltD x y
end
/-- what < may be asked of -/
def cmpOk (x y : D) : Bool := PySem.W.alike x y && x.plain && y.plain && (match x with | .none => false | _ => true) && decide (x.depth ≤ 64)
def cmpAll (xs : List D) : Bool := PyData.plainAll xs && decide (PyData.depthAll xs ≤ 64) && xs.all fun x => (match x with | .none => false | _ => true) && xs.all fun y => PySem.W.alike x y
/-- sorting asks that all or none are tuples, and none is empty -/
def sortOk (xs : List D) : Bool := cmpAll xs && ((xs.all fun x => match x with | .tuple (_ :: _) => true | _ => false) || xs.all fun x => match x with | .tuple _ => false | _ => true)
def insD (x : D) : List D → List D
  | [] => [x]
  | y :: ys => if ltD y x then y :: insD x ys else x :: y :: ys
def sortD : List D → List D
  | [] => []
  | x :: xs => insD x (sortD xs)
def minDs : List D → Option D
  | [] => none
  | x :: xs => some (xs.foldl (fun a y => if ltD y a then y else a) x)
def maxDs : List D → Option D
  | [] => none
  | x :: xs => some (xs.foldl (fun a y => if ltD a y then y else a) x)

def memD (x : D) : List D → Bool
  | [] => false
  | y :: ys => PyData.eqv y x || memD x ys

/-- a key of a dict or a member of a set -/
def keyOk0 : D → Bool
  | .int _ => true
  | .str _ => true
  | _ => false
def keyOk : D → Bool
  | .int _ => true
  | .str _ => true
  | .tuple xs => xs.all keyOk0 && !isC (.tuple xs)
  | _ => false
def isTupD : D → Bool
  | .tuple _ => true
  | _ => false
def eqK0 : D → D → Bool
  | .int a, .int b => a == b
  | .str a, .str b => a == b
  | _, _ => false
def eqKs : List D → List D → Bool
  | [], [] => true
  | x :: xs, y :: ys => eqK0 x y && eqKs xs ys
  | _, _ => false
def eqK : D → D → Bool
  | .int a, .int b => a == b
  | .str a, .str b => a == b
  | .tuple xs, .tuple ys => eqKs xs ys
  | _, _ => false
def dGet (k : D) : List (D × D) → Option D
  | [] => none
  | (k', v) :: r => if eqK k' k then some v else dGet k r
def dPut (k v : D) (kvs : List (D × D)) : List (D × D) := if kvs.any (fun p => eqK p.1 k) then kvs.map (fun p => if eqK p.1 k then (p.1, v) else p) else kvs ++ [(k, v)]
/-- k fits among the keys (all of one kind: tuples, or none) -/
def keyFits (k : D) (kvs : List (D × D)) : Bool := keyOk k && kvs.all fun p => isTupD p.1 == isTupD k
def dedup : List D → List D
  | [] => []
  | x :: xs => if xs.any (eqK x) then dedup xs else x :: dedup xs
/-- members of a set: ints, or texts, or tuples of ints -/
def setOk (xs : List D) : Bool := (xs.all fun x => match x with | .int _ => true | _ => false) || (xs.all fun x => match x with | .str _ => true | _ => false) ||
  (xs.all fun x => match x with | .tuple ys => ys.all (fun y => match y with | .int _ => true | _ => false) && !ys.isEmpty | _ => false)

def ixN (n : Nat) (i : Int) : Option Nat := if 0 ≤ i then (if i < n then some i.toNat else none) else if -(n : Int) ≤ i then some (i + n).toNat else none
def atI {α : Type} (xs : List α) (i : Int) : Option α := (ixN xs.length i).bind fun j => xs[j]?
/-- a slice's bound as a place among n (d where it is left out) -/
def sIx (n d : Nat) : Option Int → Nat
  | none => d
  | some v => if v < 0 then (v + (n : Int)).toNat else min v.toNat n
def cut {α : Type} (xs : List α) (lo hi : Option Int) : List α := (xs.drop (sIx xs.length 0 lo)).take (sIx xs.length xs.length hi - sIx xs.length 0 lo)
def cutStr (x : Str) (lo hi : Option Int) : Str := ⟨(cut x.cps.toList lo hi).toArray⟩
def sign (c : Nat) : Str := ⟨#[c]⟩

def smallI (i : Int) : Bool := decide (-16777216 ≤ i) && decide (i ≤ 16777216)
def rngD (a b c : Int) : List D := (List.range (if 0 < c then ((b - a + c - 1) / c).toNat else if c < 0 then ((a - b - c - 1) / (-c)).toNat else 0)).map fun (k : Nat) => .int (a + (k : Int) * c)
def seqD : D → Option (List D)
  | .list xs => some xs
  | .tuple xs => some xs
  | .str x => some (x.cps.toList.map fun c => .str (sign c))
  | .dict kvs => some (kvs.map (·.1))
  | _ => none
def linD : D → Option (List D)
  | .list xs => some xs
  | .tuple xs => some xs
  | .str x => some (x.cps.toList.map fun c => .str (sign c))
  | _ => none
def lotD : D → Option (List D)
  | .list xs => some xs
  | .tuple xs => some xs
  | _ => none
def enuD (i : Int) : List D → List D
  | [] => []
  | x :: xs => .tuple [.int i, x] :: enuD (i + 1) xs
def zip2D : List D → List D → List D
  | x :: xs, y :: ys => .tuple [x, y] :: zip2D xs ys
  | _, _ => []
def zip3D : List D → List D → List D → List D
  | x :: xs, y :: ys, z :: zs => .tuple [x, y, z] :: zip3D xs ys zs
  | _, _, _ => []
def itD : ItK → List D → Option (List D)
  | .seq, [d] => linD d
  | .rng, [.int b] => if smallI b then some (rngD 0 b 1) else none
  | .rng, [.int a, .int b] => if smallI a && smallI b then some (rngD a b 1) else none
  | .rng, [.int a, .int b, .int c] => if smallI a && smallI b && decide (c = -1) then some (rngD a b c) else none
  | .enu, [d] => (linD d).map (enuD 0)
  | .zip, [d, e] => (linD d).bind fun xs => (linD e).map (zip2D xs)
  | .zip, [d, e, f] => (linD d).bind fun xs => (linD e).bind fun ys => (linD f).map (zip3D xs ys)
  | _, _ => none

def truD : D → Option Bool
  | .none => some false
  | .bool b => some b
  | .int i => some (i != 0)
  | .str x => some (x.length != 0)
  | .list xs => some (!xs.isEmpty)
  | .tuple xs => some (!xs.isEmpty)
  | .dict _ => none

def intsOf : List D → Option (List Int)
  | [] => some []
  | .int i :: r => (intsOf r).map (i :: ·)
  | _ => none
def strsOf : List D → Option (List Str)
  | [] => some []
  | .str x :: r => (strsOf r).map (x :: ·)
  | _ => none
def catL : List D → Option (List D)
  | [] => some []
  | .list xs :: r => (catL r).map (xs ++ ·)
  | _ => none
def catT : List D → Option (List D)
  | [] => some []
  | .tuple xs :: r => (catT r).map (xs ++ ·)
  | _ => none
def pairsOf : List D → Option (List (D × D))
  | [] => some []
  | .tuple [k, v] :: r => (pairsOf r).map ((k, v) :: ·)
  | _ => none
def putAll (kvs : List (D × D)) : List (D × D) → List (D × D)
  | [] => kvs
  | (k, v) :: r => putAll (dPut k v kvs) r
/-- the first place of x -/
def findD (x : D) : List D → Option Nat
  | [] => none
  | y :: ys => if PyData.eqv y x then some 0 else (findD x ys).map (· + 1)
def cntD (x : D) : List D → Nat
  | [] => 0
  | y :: ys => (if PyData.eqv y x then 1 else 0) + cntD x ys
def isTy : Ty → D → Bool
  | .int, .int _ => true
  | .int, .bool _ => true
  | .bool, .bool _ => true
  | .str, .str _ => true
  | .list, .list _ => true
  | .tuple, .tuple _ => true
  | .dict, .dict _ => true
  | _, _ => false
def line (n : Nat) : Bool := decide (n ≤ 16777216)
def mulOk (i j : Int) : Bool := (decide (-(2 ^ 64) < i) && decide (i < 2 ^ 64)) || (decide (-(2 ^ 64) < j) && decide (j < 2 ^ 64))
def repD {α : Type} (xs : List α) : Nat → List α
  | 0 => []
  | n + 1 => xs ++ repD xs n
def joinS (sep : Str) (ss : List Str) : Str := Txt.join sep ss
/-- one sign in a text -/
def signIn (c x : Str) : Option Bool := match c.cps.toList with
  | [k] => some (x.cps.toList.contains k)
  | _ => none
def cntS (c x : Str) : Option Nat := match c.cps.toList with
  | [k] => some (x.cps.toList.count k)
  | _ => none

def inD : D → D → Option Bool
  | x, .list ys => if okD x && okDs ys then some (memD x ys) else none
  | x, .tuple ys => if okD x && okDs ys then some (memD x ys) else none
  | .str c, .str x => signIn c x
  | k, .dict kvs => if keyFits k kvs then some (kvs.any fun p => eqK p.1 k) else none
  | _, _ => none

def prAdd : List D → Option (D × Bool)
  | [.int a, .int b] => some (.int (a + b), false)
  | [.int a, .bool b] => some (.int (a + if b then 1 else 0), false)
  | [.str x, .str y] => if line (x.length + y.length) then some (.str (x ++ y), false) else none
  | [.list xs, .list ys] => if line (xs.length + ys.length) then some (.list (xs ++ ys), true) else none
  | [.tuple xs, .tuple ys] => if line (xs.length + ys.length) then some (.tuple (xs ++ ys), false) else none
  | _ => none
def prSub : List D → Option (D × Bool)
  | [.int a, .int b] => some (.int (a - b), false)
  | _ => none
def prMul : List D → Option (D × Bool)
  | [.int a, .int b] => if mulOk a b then some (.int (a * b), false) else none
  | [.str x, .int n] => if line (x.length * n.toNat) && smallI n then some (.str ⟨(repD x.cps.toList n.toNat).toArray⟩, false) else none
  | [.list xs, .int n] => if line (xs.length * n.toNat) && smallI n then some (.list (repD xs n.toNat), true) else none
  | [.tuple xs, .int n] => if line (xs.length * n.toNat) && smallI n then some (.tuple (repD xs n.toNat), false) else none
  | _ => none
def prFdiv : List D → Option (D × Bool)
  | [.int a, .int b] => if decide (b ≠ 0) && decide (b.natAbs < 1073741824) then some (.int (a.fdiv b), false) else none
  | _ => none
def prMod : List D → Option (D × Bool)
  | [.int a, .int b] => if decide (b ≠ 0) then some (.int (a.fmod b), false) else none
  | _ => none
def prPow : List D → Option (D × Bool)
  | [.int a, .int b] => if decide (0 ≤ b) && decide (b ≤ 1000) && decide (a.natAbs < 1000) then some (.int (a ^ b.toNat), false) else none
  | _ => none
def prNeg : List D → Option (D × Bool)
  | [.int a] => some (.int (-a), false)
  | _ => none
def prEq : List D → Option (D × Bool)
  | [x, y] => (eqD x y).map fun b => (.bool b, false)
  | _ => none
def prNe : List D → Option (D × Bool)
  | [x, y] => (eqD x y).map fun b => (.bool (!b), false)
  | _ => none
def prLt : List D → Option (D × Bool)
  | [x, y] => if cmpOk x y then some (.bool (ltD x y), false) else none
  | _ => none
def prGt : List D → Option (D × Bool)
  | [x, y] => if cmpOk x y then some (.bool (ltD y x), false) else none
  | _ => none
def prLe : List D → Option (D × Bool)
  | [x, y] => if cmpOk x y then some (.bool (!ltD y x), false) else none
  | _ => none
def prGe : List D → Option (D × Bool)
  | [x, y] => if cmpOk x y then some (.bool (!ltD x y), false) else none
  | _ => none
def prIsIn : List D → Option (D × Bool)
  | [x, y] => (inD x y).map fun b => (.bool b, false)
  | _ => none
def prNotIn : List D → Option (D × Bool)
  | [x, y] => (inD x y).map fun b => (.bool (!b), false)
  | _ => none
def prIsNo : List D → Option (D × Bool)
  | [x] => some (.bool (match x with | .none => true | _ => false), false)
  | _ => none
def prNotNo : List D → Option (D × Bool)
  | [x] => some (.bool (match x with | .none => false | _ => true), false)
  | _ => none
def prIsB (b : Bool) : List D → Option (D × Bool)
  | [.bool c] => some (.bool (b == c), false)
  | _ => none
def prNotB (b : Bool) : List D → Option (D × Bool)
  | [.bool c] => some (.bool (!(b == c)), false)
  | _ => none
def prIx : List D → Option (D × Bool)
  | [.list xs, .int i] => (atI xs i).map fun x => (x, false)
  | [.tuple xs, .int i] => (atI xs i).map fun x => (x, false)
  | [.str x, .int i] => (atI x.cps.toList i).map fun c => (.str (sign c), false)
  | [.dict kvs, k] => if keyFits k kvs then (dGet k kvs).map fun v => (v, false) else none
  | _ => none
def prSlTT : List D → Option (D × Bool)
  | [.list xs, .int i, .int j] => some (.list (cut xs (some i) (some j)), true)
  | [.tuple xs, .int i, .int j] => some (.tuple (cut xs (some i) (some j)), false)
  | [.str x, .int i, .int j] => some (.str (cutStr x (some i) (some j)), false)
  | _ => none
def prSlTF : List D → Option (D × Bool)
  | [.list xs, .int i] => some (.list (cut xs (some i) none), true)
  | [.tuple xs, .int i] => some (.tuple (cut xs (some i) none), false)
  | [.str x, .int i] => some (.str (cutStr x (some i) none), false)
  | _ => none
def prSlFT : List D → Option (D × Bool)
  | [.list xs, .int j] => some (.list (cut xs none (some j)), true)
  | [.tuple xs, .int j] => some (.tuple (cut xs none (some j)), false)
  | [.str x, .int j] => some (.str (cutStr x none (some j)), false)
  | _ => none
def prRev : List D → Option (D × Bool)
  | [.list xs] => some (.list xs.reverse, true)
  | [.tuple xs] => some (.tuple xs.reverse, false)
  | [.str x] => some (.str ⟨x.cps.toList.reverse.toArray⟩, false)
  | _ => none
def prLen : List D → Option (D × Bool)
  | [.list xs] => some (.int xs.length, false)
  | [.tuple xs] => some (.int xs.length, false)
  | [.str x] => some (.int x.length, false)
  | [.dict kvs] => some (.int kvs.length, false)
  | _ => none
def prAbs : List D → Option (D × Bool)
  | [.int a] => some (.int (if a < 0 then -a else a), false)
  | _ => none
def prMin1 : List D → Option (D × Bool)
  | [d] => (lotD d).bind fun xs => if cmpAll xs then (minDs xs).map fun x => (x, false) else none
  | _ => none
def prMax1 : List D → Option (D × Bool)
  | [d] => (lotD d).bind fun xs => if cmpAll xs then (maxDs xs).map fun x => (x, false) else none
  | _ => none
def prMin2 : List D → Option (D × Bool)
  | [.int a, .int b] => some (.int (if b < a then b else a), false)
  | _ => none
def prMax2 : List D → Option (D × Bool)
  | [.int a, .int b] => some (.int (if a < b then b else a), false)
  | _ => none
def prSum1 : List D → Option (D × Bool)
  | [d] => (lotD d).bind fun xs => (intsOf xs).map fun ns => (.int ns.sum, false)
  | _ => none
def prSum2 : List D → Option (D × Bool)
  | _ => none
def prAll : List D → Option (D × Bool)
  | [d] => (lotD d).bind fun xs => if okDs xs then some (.bool (xs.all PyData.truthy), false) else none
  | _ => none
def prAny : List D → Option (D × Bool)
  | [d] => (lotD d).bind fun xs => if okDs xs then some (.bool (xs.any PyData.truthy), false) else none
  | _ => none
def prSortedL : List D → Option (D × Bool)
  | [.list xs] => if sortOk xs then some (.list (sortD xs), true) else none
  | _ => none
/-- the keys of a dict, all ints or all texts -/
def prSortedD : List D → Option (D × Bool)
  | [.dict kvs] => if decide (kvs.length < 64) && ((intsOf (kvs.map (·.1))).isSome || (strsOf (kvs.map (·.1))).isSome) then some (.list (sortD (kvs.map (·.1))), true) else none
  | _ => none
def prSorted : List D → Option (D × Bool)
  | .list xs :: r => prSortedL (.list xs :: r)
  | .dict kvs :: r => prSortedD (.dict kvs :: r)
  | _ => none
def prTupOf : List D → Option (D × Bool)
  | [.list xs] => some (.tuple xs, false)
  | [.tuple xs] => some (.tuple xs, false)
  | _ => none
def prLstOf : List D → Option (D × Bool)
  | [d] => (seqD d).map fun xs => (.list xs, true)
  | _ => none
def prIntOf : List D → Option (D × Bool)
  | [.int a] => some (.int a, false)
  | [.bool b] => some (.int (if b then 1 else 0), false)
  | _ => none
def prRepr : List D → Option (D × Bool)
  | [d] => if d.plain && d.showable && decide (d.depth ≤ 64) && line d.shown.length then some (.str d.shown, false) else none
  | _ => none
def prIsi (t : Ty) : List D → Option (D × Bool)
  | [d] => some (.bool (isTy t d), false)
  | _ => none
/-- tuples of ints from 0 on, all of one length -/
def natsOf : List D → Option (List Int)
  | [] => some []
  | .int i :: r => if 0 ≤ i then (natsOf r).map (i :: ·) else none
  | _ => none
def tupsOf (n : Nat) : List D → Option (List (List Int))
  | [] => some []
  | .tuple xs :: r => (natsOf xs).bind fun ns => if ns.length = n then (tupsOf n r).map (ns :: ·) else none
  | _ => none
def firstLen : List D → Nat
  | .tuple xs :: _ => xs.length
  | _ => 0
def prSortSetT : List D → Option (D × Bool)
  | [.list xs] => if decide (1 ≤ firstLen xs) && decide (xs.length < 64) then (tupsOf (firstLen xs) xs).map fun _ => (.list (sortD (dedup xs)), true) else none
  | _ => none
def prLenSet : List D → Option (D × Bool)
  | [d] => (lotD d).bind fun xs => (intsOf xs).bind fun ns => if decide (ns.length ≤ 1000) then some (.int (dedup xs).length, false) else none
  | _ => none
def prSortSetI : List D → Option (D × Bool)
  | [d] => (lotD d).bind fun xs => (intsOf xs).bind fun ns => if decide (ns.length < 64) then some (.list (sortD (dedup xs)), true) else none
  | _ => none
def prSortSet : List D → Option (D × Bool)
  | [.list (.tuple x :: xs)] => prSortSetT [.list (.tuple x :: xs)]
  | ds => prSortSetI ds
def prDictOf : List D → Option (D × Bool)
  | [.list ps] => (pairsOf ps).bind fun kvs => if kvs.all (fun p => keyOk0 p.1) && line kvs.length then some (.dict (putAll [] kvs), true) else none
  | _ => none
def prLstIt (k : ItK) : List D → Option (D × Bool)
  | ds => match k with
    | .rng => (itD k ds).bind fun xs => if line xs.length then some (.list xs, true) else none
    | _ => none
def prTupIt (k : ItK) : List D → Option (D × Bool)
  | ds => match k with
    | .rng => (itD k ds).bind fun xs => if line xs.length then some (.tuple xs, false) else none
    | _ => none
def prCountL : List D → Option (D × Bool)
  | [.list xs, x] => if okDs xs && okD x then some (.int (cntD x xs), false) else none
  | _ => none
def prCountS : List D → Option (D × Bool)
  | [.str x, .str c] => (cntS c x).map fun n => (.int n, false)
  | _ => none
def prCount : List D → Option (D × Bool)
  | .list xs :: r => prCountL (.list xs :: r)
  | .str x :: r => prCountS (.str x :: r)
  | _ => none
def prIndex : List D → Option (D × Bool)
  | [.list xs, x] => if okDs xs && okD x then (findD x xs).map fun n => (.int n, false) else none
  | _ => none

def isMutD : D → Bool
  | .list _ => true
  | .dict _ => true
  | _ => false
def prGet1 : List D → Option (D × Bool)
  | [.dict kvs, k] => if keyFits k kvs then some ((dGet k kvs).getD .none, false) else none
  | _ => none
def prGet2 : List D → Option (D × Bool)
  | [.dict kvs, k, x] => if keyFits k kvs && !isMutD x then some ((dGet k kvs).getD x, false) else none
  | _ => none
def prJoin : List D → Option (D × Bool)
  | [.str sep, d] => (lotD d).bind fun xs => (strsOf xs).bind fun ss => if line ((ss.map (·.length)).sum + ss.length * sep.length) && line (joinS sep ss).length then some (.str (joinS sep ss), false) else none
  | _ => none
/-- what a primitive answers, and whether it is a new list or dict that none else knows -/
def pr : Pr → List D → Option (D × Bool)
  | .add => prAdd
  | .sub => prSub
  | .mul => prMul
  | .fdiv => prFdiv
  | .mod => prMod
  | .pow => prPow
  | .neg => prNeg
  | .eq => prEq
  | .ne => prNe
  | .lt => prLt
  | .gt => prGt
  | .le => prLe
  | .ge => prGe
  | .isIn => prIsIn
  | .notIn => prNotIn
  | .isNo => prIsNo
  | .notNo => prNotNo
  | .isB b => prIsB b
  | .notB b => prNotB b
  | .ix => prIx
  | .sl true true => prSlTT
  | .sl true false => prSlTF
  | .sl false true => prSlFT
  | .sl false false => fun _ => none
  | .rev => prRev
  | .len => prLen
  | .abs => prAbs
  | .min1 => prMin1
  | .max1 => prMax1
  | .min2 => prMin2
  | .max2 => prMax2
  | .sum1 => prSum1
  | .sum2 => prSum2
  | .all => prAll
  | .any => prAny
  | .sorted => prSorted
  | .tupOf => prTupOf
  | .lstOf => prLstOf
  | .intOf => prIntOf
  | .repr => prRepr
  | .isi t => prIsi t
  | .lenSet => prLenSet
  | .sortSet => prSortSet
  | .dictOf => prDictOf
  | .lstIt k => prLstIt k
  | .tupIt k => prTupIt k
  | .count => prCount
  | .index => prIndex
  | .get1 => prGet1
  | .get2 => prGet2
  | .join => prJoin

/-- what a changing method answers, and its object behind it -/
def mu : Mu → D → List D → Option (D × D)
  | .append, .list xs, [x] => if line (xs.length + 1) then some (.none, .list (xs ++ [x])) else none
  | .extend, .list xs, [.list ys] => if line (xs.length + ys.length) then some (.none, .list (xs ++ ys)) else none
  | .pop0, .list xs, [] => xs.getLast?.map fun x => (x, .list xs.dropLast)
  | .pop1, .list xs, [.int i] => (ixN xs.length i).bind fun j => xs[j]?.map fun x => (x, .list (xs.eraseIdx j))
  | .remove, .list xs, [.int k] => (intsOf xs).bind fun ns => if ns.contains k then some (.none, .list ((ns.erase k).map .int)) else none
  | .update, .dict kvs, [.dict more] => if kvs.all (fun p => keyOk0 p.1) && more.all (fun p => keyOk0 p.1) && line (kvs.length + more.length) then some (.none, .dict (putAll kvs more)) else none
  | _, _, _ => none
/-- o[i] = v -/
def setD : D → D → D → Option D
  | .list xs, .int i, v => (ixN xs.length i).map fun j => .list (xs.set j v)
  | .dict kvs, k, v => if keyFits k kvs && line (kvs.length + 1) then some (.dict (dPut k v kvs)) else none
  | _, _, _ => none

/-! ### the syntax -/
inductive Tg where
  | nm (i : Nat)
  | tup (ts : List Tg)

/-- how an argument is handed over: shared; new, for the callee alone; a slot's object, lent -/
inductive Am where
  | pl | tm | ln (i : Nat)

inductive Ex where
  | lit (d : D)
  | var (i : Nat)
  | bor (i : Nat)
  | tup (es : List Ex)
  | lst (es : List Ex)
  | dct (es : List Ex)
  | ap (p : Pr) (es : List Ex)
  | mt (p : Pr) (a : Ex) (es : List Ex)
  | mu (m : Mu) (i : Nat) (es : List Ex)
  | not (a : Ex)
  | and (a b : Ex)
  | or (a b : Ex)
  | ite (c a b : Ex)
  | chn (a : Ex) (ps : List Pr) (es : List Ex)
  | call (f : Nat) (ms : List Am) (es : List Ex)
  | lc (k : ItK) (es : List Ex) (tg : Tg) (c e : Ex) (own : List Nat)

inductive Ta where
  | nm (i : Nat)
  | tup (ts : List Ta)
  | sub (i : Nat) (e : Ex)

inductive Sm where
  | ex (e : Ex)
  | asg (t : Ta) (e : Ex)
  | mas (ts : List Ta) (es : List Ex)
  | ite (c : Ex) (a b : List Sm)
  | for (k : ItK) (es : List Ex) (tg : Tg) (body : List Sm)
  | whl (c : Ex) (body : List Sm)
  | ret (e : Ex)
  | retN
  | brk
  | cont
  | pass
  | raise (c : Nat)
  | never

/-- a value that is reckoned: new or shared; or a name's that is only looked at -/
inductive Vl where
  | v (d : D) (f : Bool)
  | b (i : Nat)

def slotD (g : Gm) (i : Nat) : Option D := match g[i]? with
  | some (some s) => some s.d
  | _ => none
def Vl.res (g : Gm) : Vl → Option D
  | .v d _ => some d
  | .b i => slotD g i
def resAll (g : Gm) : List Vl → Option (List D)
  | [] => some []
  | v :: r => (v.res g).bind fun d => (resAll g r).map (d :: ·)
/-- values that may be kept: none that is only looked at -/
def keepAll : List Vl → Option (List D)
  | [] => some []
  | .v d _ :: r => (keepAll r).map (d :: ·)
  | .b _ :: _ => none

/-- a name is read as a value: what it holds is shared from now on -/
def readVar (g : Gm) (i : Nat) : Out Gm (D × Bool × Gm) := match g[i]? with
  | some (some ⟨d, .frz⟩) => .ok (d, false, g)
  | some (some ⟨d, .own⟩) => .ok (d, false, g.set i (some ⟨d, .frz⟩))
  | _ => .bad
def lockAt (g : Gm) : Vl → Gm
  | .v _ _ => g
  | .b i => match g[i]? with
    | some (some ⟨d, .own⟩) => g.set i (some ⟨d, .lck⟩)
    | some (some ⟨d, .prm⟩) => g.set i (some ⟨d, .lck⟩)
    | _ => g
def lockAll (g : Gm) : List Vl → Gm
  | [] => g
  | v :: r => lockAll (lockAt g v) r
/-- the modes of g0 again, where g is locked -/
def unlock : Gm → Gm → Gm
  | some ⟨_, .own⟩ :: r, some ⟨d, .lck⟩ :: t => some ⟨d, .own⟩ :: unlock r t
  | some ⟨_, .prm⟩ :: r, some ⟨d, .lck⟩ :: t => some ⟨d, .prm⟩ :: unlock r t
  | _ :: r, s :: t => s :: unlock r t
  | [], t => t
  | _, [] => []
/-- what was not there ahead is forgotten -/
def wipeTo : Gm → Gm → Gm
  | none :: r, _ :: t => none :: wipeTo r t
  | some _ :: r, s :: t => s :: wipeTo r t
  | [], t => t
  | _, [] => []
def clr (g : Gm) : List Nat → Gm
  | [] => g
  | i :: r => (clr g r).set i none
/-- the slots is of g0 again -/
def back (g0 g : Gm) : List Nat → Gm
  | [] => g
  | i :: r => (back g0 g r).set i (match g0[i]? with | some s => s | none => none)
/-- a comprehension's own names hold nothing that is alone theirs -/
def plainAt (g : Gm) (i : Nat) : Bool := match g[i]? with
  | some none => true
  | some (some ⟨_, .frz⟩) => true
  | _ => false

def freeAt (g : Gm) (i : Nat) : Bool := match g[i]? with
  | some none => true
  | some (some ⟨_, .frz⟩) => true
  | some (some ⟨_, .own⟩) => true
  | _ => false
mutual
/-- the loop's names -/
def bindT : Tg → D → Gm → Option Gm
  | .nm i, d, g => if freeAt g i then some (g.set i (some ⟨d, .frz⟩)) else none
  | .tup ts, .tuple ds, g => bindTs ts ds g
  | .tup _, _, _ => none
def bindTs : List Tg → List D → Gm → Option Gm
  | [], [], g => some g
  | t :: ts, d :: ds, g => (bindT t d g).bind fun g1 => bindTs ts ds g1
  | _, _, _ => none
end

/-- what a def hands back: the value, whether it is new, what the lent objects are now -/
abbrev FOut := Out (List D) (D × Bool × List D)
abbrev Call := Nat → List D → FOut

def fin (t : Bool) (d : D) (f : Bool) (g : Gm) : Out Gm (D × Bool × Gm) := if t then (match truD d with | some b => .ok (.bool b, false, g) | none => .bad) else .ok (d, f, g)

/-- the arguments: lent slots are read where all is reckoned -/
def argsOf (g : Gm) : List Am → List Vl → Option (List D)
  | [], [] => some []
  | .ln i :: ms, vs => (match g[i]? with
    | some (some ⟨d, .own⟩) => some d
    | some (some ⟨d, .prm⟩) => some d
    | _ => none).bind fun d => (argsOf g ms vs).map (d :: ·)
  | .tm :: ms, .v d true :: vs => (argsOf g ms vs).map (d :: ·)
  | .pl :: ms, v :: vs => (v.res g).bind fun d => (argsOf g ms vs).map (d :: ·)
  | _, _ => none
def lent : List Am → List Nat
  | [] => []
  | .ln i :: r => i :: lent r
  | _ :: r => lent r
/-- of what the callee says of its lent objects, that of our slots -/
def ours : List Am → List D → List D
  | [], _ => []
  | .pl :: r, ds => ours r ds
  | .tm :: r, _ :: ds => ours r ds
  | .ln _ :: r, d :: ds => d :: ours r ds
  | _ :: _, [] => []
/-- the lent slots behind the call -/
def putBack (g : Gm) : List Nat → List D → Option Gm
  | [], [] => some g
  | i :: is, d :: ds => (match g[i]? with
    | some (some ⟨_, m⟩) => some (g.set i (some ⟨d, m⟩))
    | _ => none).bind fun g1 => putBack g1 is ds
  | _, _ => none


/-- what is lent is lent once, and is not looked at beside -/
def okB (ms : List Am) (vs : List Vl) : Bool := decide (lent ms).Nodup && vs.all fun v => match v with
  | .b i => !(lent ms).contains i
  | _ => true
/-- what is looked at is shared from now on -/
def frzB (g : Gm) : List Vl → Option Gm
  | [] => some g
  | .v _ _ :: r => frzB g r
  | .b i :: r => match g[i]? with
    | some (some ⟨_, .frz⟩) => frzB g r
    | some (some ⟨d, .own⟩) => frzB (g.set i (some ⟨d, .frz⟩)) r
    | _ => none
def flatD : D → Bool
  | .list _ => false
  | .tuple _ => false
  | .dict _ => false
  | _ => true
/-- behind a call: where nothing is lent and a flat value comes back, what was looked at stays as it was -/
def callEnd (t : Bool) (g : Gm) (vs : List Vl) (ms : List Am) : FOut → Out Gm (D × Bool × Gm)
  | .ok (d, fr, md) => if flatD d && md.isEmpty then fin t d fr g else match (frzB g vs).bind fun g1 => putBack g1 (lent ms) (ours ms md) with
    | some g1 => fin t d fr g1
    | none => .bad
  | .exc _ _ => .bad
  | .bad => .bad

/-- what is walked: a dict only by its name -/
def itX (k : ItK) (es : List Ex) (ds : List D) : Option (List D) := match k, es, ds with
  | .seq, [.bor _], [.dict kvs] => some (kvs.map (·.1))
  | k, _, ds => itD k ds
/-- a comprehension's turn -/
def lcT (tg : Tg) (c e : Gm → Out Gm (D × Bool × Gm)) (x : D) (g1 : Gm) : Out Gm (Option D × Gm) := match bindT tg x g1 with
  | none => .bad
  | some g2 => match c g2 with
    | .ok (.bool true, _, g3) => (match e g3 with
      | .ok (y, _, g4) => .ok (some y, g4)
      | _ => .bad)
    | .ok (.bool false, _, g3) => .ok (none, g3)
    | _ => .bad
/-- a comprehension's turns -/
def lcL (own : List Nat) (turn : D → Gm → Out Gm (Option D × Gm)) : List D → Gm → Out Gm (List D × Gm)
  | [], g => .ok ([], g)
  | x :: xs, g => match turn x g with
    | .ok (y, g2) => (match lcL own turn xs (clr g2 own) with
      | .ok (ys, g3) => .ok ((match y with | some y => y :: ys | none => ys), g3)
      | _ => .bad)
    | _ => .bad
mutual
def tgIn : Tg → List Nat → Bool
  | .nm i, own => own.contains i
  | .tup ts, own => tgsIn ts own
def tgsIn : List Tg → List Nat → Bool
  | [], _ => true
  | t :: ts, own => tgIn t own && tgsIn ts own
end
def muTag : Mu → Nat
  | .update => 6
  | .setdefault => 6
  | _ => 4
/-- whose methods these are -/
def mtOk : Pr → D → Bool
  | .count, .list _ => true
  | .count, .str _ => true
  | .index, .list _ => true
  | .get1, .dict _ => true
  | .get2, .dict _ => true
  | .join, .str _ => true
  | _, _ => false
def tag : D → Nat
  | .none => 0
  | .bool _ => 1
  | .int _ => 2
  | .str _ => 3
  | .list _ => 4
  | .tuple _ => 5
  | .dict _ => 6
def isBor : Ex → Option Nat
  | .bor i => some i
  | _ => none
def vl (x : Option Nat) (r : Out Gm (D × Bool × Gm)) (g : Gm) : Out Gm (Vl × Gm) := match x with
  | some i => (match slotD g i with | some _ => .ok (.b i, g) | none => .bad)
  | none => r.bind fun r => .ok (.v r.1 r.2.1, r.2.2)
def pairUp : List D → Option (List (D × D))
  | [] => some []
  | k :: v :: r => (pairUp r).map ((k, v) :: ·)
  | _ => none

mutual
/-- an expression: its value (t: as a test), whether it is new, the slots behind it -/
def ev (cl : Call) (t : Bool) : Ex → Gm → Out Gm (D × Bool × Gm)
  | .lit d, g => fin t d false g
  | .var i, g => (readVar g i).bind fun r => fin t r.1 r.2.1 r.2.2
  | .bor i, g => if t then (match slotD g i with | some d => fin true d false g | none => .bad) else .bad
  | .tup es, g => (evs cl es g).bind fun r => match keepAll r.1 with
    | some ds => if line ds.length then fin t (.tuple ds) false r.2 else .bad
    | none => .bad
  | .lst es, g => (evs cl es g).bind fun r => match keepAll r.1 with
    | some ds => if line ds.length then fin t (.list ds) true r.2 else .bad
    | none => .bad
  | .dct es, g => (evs cl es g).bind fun r => match (keepAll r.1).bind pairUp with
    | some ps => if ps.all (fun p => keyOk0 p.1) && decide (ps.length ≤ 15) then fin t (.dict (putAll [] ps)) true r.2 else .bad
    | none => .bad
  | .ap p es, g => (evs cl es g).bind fun r => match (resAll r.2 r.1).bind (pr p) with
    | some (d, f) => fin t d f r.2
    | none => .bad
  | .mt p a es, g => (vl (isBor a) (ev cl false a g) g).bind fun x => match x.1.res x.2 with
    | none => .bad
    | some d1 => if mtOk p d1 then (evs cl es x.2).bind fun r => match resAll r.2 (x.1 :: r.1) with
      | some (d2 :: ds) => if tag d1 == tag d2 then (match pr p (d2 :: ds) with
        | some (d, f) => fin t d f r.2
        | none => .bad) else .bad
      | _ => .bad
      else .bad
  | .mu m i es, g => match slotD g i with
    | none => .bad
    | some d0 => if muTag m == tag d0 then (evs cl es g).bind fun r => match r.2[i]?, keepAll r.1 with
      | some (some ⟨d, .own⟩), some ds => (match mu m d ds with
        | some (x, d') => fin t x false (r.2.set i (some ⟨d', .own⟩))
        | none => .bad)
      | some (some ⟨d, .prm⟩), some ds => (match mu m d ds with
        | some (x, d') => fin t x false (r.2.set i (some ⟨d', .prm⟩))
        | none => .bad)
      | _, _ => .bad
      else .bad
  | .not a, g => (ev cl t a g).bind fun r => match r.1 with
    | .bool b => .ok (.bool (!b), false, r.2.2)
    | _ => .bad
  | .and a b, g => (ev cl t a g).bind fun r => match r.1 with
    | .bool true => (ev cl t b r.2.2).bind fun q => match q.1 with
      | .bool c => .ok (.bool c, false, q.2.2)
      | _ => .bad
    | .bool false => .ok (.bool false, false, r.2.2)
    | _ => .bad
  | .or a b, g => (ev cl t a g).bind fun r => match r.1 with
    | .bool false => (ev cl t b r.2.2).bind fun q => match q.1 with
      | .bool c => .ok (.bool c, false, q.2.2)
      | _ => .bad
    | .bool true => .ok (.bool true, false, r.2.2)
    | _ => .bad
  | .ite c a b, g => (ev cl true c g).bind fun r => match r.1 with
    | .bool true => ev cl t a r.2.2
    | .bool false => ev cl t b r.2.2
    | _ => .bad
  | .chn a ps es, g => (vl (isBor a) (ev cl false a g) g).bind fun x => evc cl x.1 ps es x.2
  | .call f ms es, g => if (lent ms).all (fun i => (slotD g i).isSome) then (evs cl es g).bind fun r => match argsOf r.2 ms r.1 with
    | none => .bad
    | some ds => if okB ms r.1 then callEnd t r.2 r.1 ms (cl f ds) else .bad
    else .bad
  | .lc k es tg c e own, g => (evs cl es g).bind fun r => match (resAll r.2 r.1).bind (itX k es) with
    | none => .bad
    | some items => if own.all (plainAt r.2) && line items.length && tgIn tg own then
        (lcL own (lcT tg (fun g2 => ev cl true c g2) (fun g2 => ev cl false e g2)) items (clr (lockAll r.2 r.1) own)).bind fun z => fin t (.list z.1) true (back r.2 (unlock r.2 z.2) own)
      else .bad
def evc (cl : Call) (x : Vl) : List Pr → List Ex → Gm → Out Gm (D × Bool × Gm)
  | p :: ps, e :: es, g => (vl (isBor e) (ev cl false e g) g).bind fun y => match (resAll y.2 [x, y.1]).bind (pr p) with
    | some (.bool b, _) => if b && !ps.isEmpty then evc cl y.1 ps es y.2 else .ok (.bool b, false, y.2)
    | _ => .bad
  | _, _, _ => .bad
def evs (cl : Call) : List Ex → Gm → Out Gm (List Vl × Gm)
  | [], g => .ok ([], g)
  | e :: es, g => (vl (isBor e) (ev cl false e g) g).bind fun r => (evs cl es r.2).bind fun q => .ok (r.1 :: q.1, q.2)
end

/-! ### statements -/
inductive Fl where
  | nx (g : Gm)
  | rt (d : D) (f : Bool) (g : Gm)
  | bk (g : Gm)
  | ct (g : Gm)
  | exc (c : Nat) (g : Gm)
  | bad
def Out.fl {α : Type} (x : Out Gm α) (f : α → Fl) : Fl := match x with
  | .ok a => f a
  | .exc c g => .exc c g
  | .bad => .bad
def stGm (g : Gm) (i : Nat) (d : D) (f : Bool) : Option Gm := if freeAt g i then some (g.set i (some ⟨d, if f && isMutD d then .own else .frz⟩)) else none
def ofOpt {α : Type} : Option α → Out Gm α
  | some a => .ok a
  | none => .bad
mutual
def asgT (cl : Call) : Ta → D → Bool → Gm → Out Gm Gm
  | .nm i, d, f, g => ofOpt (stGm g i d f)
  | .tup ts, d, _, g => match d with
    | .tuple ds => asgTs cl ts (ds.map fun d => (d, false)) g
    | _ => .bad
  | .sub i e, d, _, g => match slotD g i with
    | none => .bad
    | some _ => (ev cl false e g).bind fun r => match r.2.2[i]? with
      | some (some ⟨o, .own⟩) => (match setD o r.1 d with
        | some o' => .ok (r.2.2.set i (some ⟨o', .own⟩))
        | none => .bad)
      | some (some ⟨o, .prm⟩) => (match setD o r.1 d with
        | some o' => .ok (r.2.2.set i (some ⟨o', .prm⟩))
        | none => .bad)
      | _ => .bad
def asgTs (cl : Call) : List Ta → List (D × Bool) → Gm → Out Gm Gm
  | [], [], g => .ok g
  | t :: ts, d :: ds, g => (asgT cl t d.1 d.2 g).bind fun g1 => asgTs cl ts ds g1
  | _, _, _ => .bad
end
def keepF : List Vl → Option (List (D × Bool))
  | [] => some []
  | .v d f :: r => (keepF r).map ((d, f) :: ·)
  | .b _ :: _ => none
def Fl.after (u : Gm → Gm) : Fl → Fl
  | .nx g => .nx (u g)
  | .rt d f g => .rt d f (u g)
  | .bk g => .bk (u g)
  | .ct g => .ct (u g)
  | .exc c g => .exc c (u g)
  | .bad => .bad
def forL (g0 : Gm) (turn : D → Gm → Fl) : List D → Gm → Fl
  | [], g => .nx g
  | x :: xs, g => match turn x g with
    | .nx g2 => forL g0 turn xs (wipeTo g0 g2)
    | .ct g2 => forL g0 turn xs (wipeTo g0 g2)
    | .bk g2 => .nx (wipeTo g0 g2)
    | r => r
def whL (g0 : Gm) (c : Gm → Out Gm (D × Bool × Gm)) (body : Gm → Fl) : Nat → Gm → Fl
  | 0, _ => .bad
  | n + 1, g => (c g).fl fun r => match r.1 with
    | .bool true => (match body r.2.2 with
      | .nx g2 => whL g0 c body n (wipeTo g0 g2)
      | .ct g2 => whL g0 c body n (wipeTo g0 g2)
      | .bk g2 => .nx (wipeTo g0 g2)
      | r => r)
    | .bool false => .nx r.2.2
    | _ => .bad
def fuel : Nat := 100000
def retOf (cl : Call) (e : Ex) (g : Gm) : Fl := match e with
  | .var i => (match g[i]? with
    | some (some ⟨d, .own⟩) => .rt d true (g.set i none)
    | some (some ⟨d, .frz⟩) => .rt d false g
    | _ => .bad)
  | _ => (ev cl false e g).fl fun r => .rt r.1 r.2.1 r.2.2
mutual
def evS (cl : Call) : Sm → Gm → Fl
  | .ex e, g => (ev cl false e g).fl fun r => .nx r.2.2
  | .asg t e, g => (ev cl false e g).fl fun r => (asgT cl t r.1 r.2.1 r.2.2).fl .nx
  | .mas ts es, g => (evs cl es g).fl fun r => match keepF r.1 with
    | some ds => (asgTs cl ts ds r.2).fl .nx
    | none => .bad
  | .ite c a b, g => (ev cl true c g).fl fun r => match r.1 with
    | .bool true => evSs cl a r.2.2
    | .bool false => evSs cl b r.2.2
    | _ => .bad
  | .for k es tg body, g => (evs cl es g).fl fun r => match (resAll r.2 r.1).bind (itX k es) with
    | none => .bad
    | some items => (forL (lockAll r.2 r.1) (fun x g1 => match bindT tg x g1 with
        | none => .bad
        | some g2 => evSs cl body g2) items (lockAll r.2 r.1)).after (unlock r.2)
  | .whl c body, g => whL g (ev cl true c) (evSs cl body) fuel g
  | .ret e, g => retOf cl e g
  | .retN, g => .rt .none false g
  | .brk, g => .bk g
  | .cont, g => .ct g
  | .pass, g => .nx g
  | .raise c, g => .exc c g
  | .never, _ => .bad
def evSs (cl : Call) : List Sm → Gm → Fl
  | [], g => .nx g
  | s :: ss, g => match evS cl s g with
    | .nx g1 => evSs cl ss g1
    | r => r
end

/-! ### defs -/
structure Fn where
  np : Nat
  mp : List Nat
  ns : Nat
  body : List Sm
def initG (fn : Fn) (ds : List D) : Gm := (ds.zipIdx.map fun p => some ⟨p.1, if fn.mp.contains p.2 then .prm else .frz⟩) ++ List.replicate (fn.ns - fn.np) none
def lentD (g : Gm) : List Nat → Option (List D)
  | [] => some []
  | i :: r => (match g[i]? with
    | some (some ⟨d, .prm⟩) => some d
    | _ => none).bind fun d => (lentD g r).map (d :: ·)
def finish (mp : List Nat) : Fl → FOut
  | .nx g => (match lentD g mp with | some ms => .ok (.none, false, ms) | none => .bad)
  | .rt d f g => (match lentD g mp with | some ms => .ok (d, f, ms) | none => .bad)
  | .exc c g => (match lentD g mp with | some ms => .exc c ms | none => .bad)
  | _ => .bad
/-- what is lent is a list or a dict -/
def mpOk (mp : List Nat) (ds : List D) : Bool := mp.all fun i => match ds[i]? with
  | some d => isMutD d
  | none => false
def evFn (tbl : List Fn) : Nat → Call
  | 0 => fun _ _ => .bad
  | k + 1 => fun f ds => match tbl[f]? with
    | none => .bad
    | some fn => if decide (ds.length = fn.np) && mpOk fn.mp ds then finish fn.mp (evSs (evFn tbl k) fn.body (initG fn ds)) else .bad
end Ev

end

-- EvTr
section
/-! Ev: from the model's syntax to ours; each step checks what the rules want of the text. -/
namespace Ev
open PySem L2

structure Tc where
  N : List Str
  fn : List (Str × Nat × Nat × List Nat)
  cs : List (Str × D)
  xs : List (Str × Nat)

inductive Mo where
  | val | bor | tst
  deriving DecidableEq

def slotOf : List Str → Str → Option Nat
  | [], _ => none
  | y :: r, x => if y = x then some 0 else (slotOf r x).map (· + 1)
def visB (sc : Scope) (x : Str) : Bool := match sc.names.lookup x with
  | some .local => true
  | some .cell => true
  | some .free => true
  | _ => false
def glB (sc : Scope) (x : Str) : Bool := match sc.names.lookup x with
  | some .globalImplicit => true
  | _ => false
def locB (sc : Scope) (x : Str) : Bool := match sc.names.lookup x with
  | some .local => true
  | _ => false
/-- a name that a block may store: a local, or a cell of its own -/
def stoB (sc : Scope) (fn : Str → Bool) (x : Str) : Bool := match sc.names.lookup x with
  | some .local => true
  | some .cell => fn x
  | _ => false
def oddB (x : Str) : Bool := decide (x = ("__debug__" : Str)) || decide (x = ("__classdict__" : Str)) || decide (x = ("__name__" : Str))
def isStar : Expr → Bool
  | .Starred _ _ => true
  | _ => false

def trC : Const → Option D
  | .none => some .none
  | .bool b => some (.bool b)
  | .int i => some (.int i)
  | .str s => if line s.length then some (.str s) else none
  | _ => none
def trOp : Operator → Option Pr
  | .Add => some .add
  | .Sub => some .sub
  | .Mult => some .mul
  | .FloorDiv => some .fdiv
  | .Mod => some .mod
  | .Pow => some .pow
  | _ => none
def trCmp : CmpOp → Option Pr
  | .Eq => some .eq
  | .NotEq => some .ne
  | .Lt => some .lt
  | .LtE => some .le
  | .Gt => some .gt
  | .GtE => some .ge
  | .In => some .isIn
  | .NotIn => some .notIn
  | _ => none
def trTy (sc : Scope) : Expr → Option Ty
  | .Name x _ => if glB sc x then (if x = ("int" : Str) then some .int else if x = ("bool" : Str) then some .bool else if x = ("str" : Str) then some .str else if x = ("list" : Str) then some .list
      else if x = ("tuple" : Str) then some .tuple else if x = ("dict" : Str) then some .dict else none) else none
  | _ => none
/-- a built-in of one argument or more, as a primitive -/
def trBi (x : Str) (n : Nat) : Option Pr :=
  if x = ("len" : Str) ∧ n = 1 then some .len else if x = ("abs" : Str) ∧ n = 1 then some .abs else if x = ("min" : Str) ∧ n = 1 then some .min1 else if x = ("max" : Str) ∧ n = 1 then some .max1
  else if x = ("min" : Str) ∧ n = 2 then some .min2 else if x = ("max" : Str) ∧ n = 2 then some .max2 else if x = ("sum" : Str) ∧ n = 1 then some .sum1
  else if x = ("all" : Str) ∧ n = 1 then some .all else if x = ("any" : Str) ∧ n = 1 then some .any else if x = ("sorted" : Str) ∧ n = 1 then some .sorted else if x = ("tuple" : Str) ∧ n = 1 then some .tupOf
  else if x = ("list" : Str) ∧ n = 1 then some .lstOf else if x = ("int" : Str) ∧ n = 1 then some .intOf else if x = ("repr" : Str) ∧ n = 1 then some .repr else if x = ("dict" : Str) ∧ n = 1 then some .dictOf else none
def trIt (x : Str) (n : Nat) : Option ItK :=
  if x = ("range" : Str) ∧ 1 ≤ n ∧ n ≤ 3 then some .rng else if x = ("enumerate" : Str) ∧ n = 1 then some .enu else if x = ("zip" : Str) ∧ 2 ≤ n ∧ n ≤ 3 then some .zip else none
def trMt (x : Str) (n : Nat) : Option Pr :=
  if x = ("count" : Str) ∧ n = 1 then some .count else if x = ("index" : Str) ∧ n = 1 then some .index else if x = ("get" : Str) ∧ n = 1 then some .get1 else if x = ("get" : Str) ∧ n = 2 then some .get2
  else if x = ("join" : Str) ∧ n = 1 then some .join else none
def trMu (x : Str) (n : Nat) : Option Mu :=
  if x = ("append" : Str) ∧ n = 1 then some .append else if x = ("extend" : Str) ∧ n = 1 then some .extend else if x = ("pop" : Str) ∧ n = 0 then some .pop0 else if x = ("pop" : Str) ∧ n = 1 then some .pop1
  else if x = ("update" : Str) ∧ n = 1 then some .update else if x = ("remove" : Str) ∧ n = 1 then some .remove else none

def trSlot (c : Tc) (sc : Scope) : Expr → Option Nat
  | .Name x _ => if visB sc x && !oddB x then slotOf c.N x else none
  | _ => none
/-- the lent arguments of a call, and the others -/
def splitA (c : Tc) (sc : Scope) (mp : List Nat) : Nat → List Expr → Option (List Am × List Expr)
  | _, [] => some ([], [])
  | j, e :: es => (splitA c sc mp (j + 1) es).bind fun r => if mp.contains j then (match trSlot c sc e with
      | some i => some (.ln i :: r.1, r.2)
      | none => some (.tm :: r.1, e :: r.2))
    else some (.pl :: r.1, e :: r.2)
mutual
def trG (c : Tc) (sc : Scope) (fn : Str → Bool) : Expr → Option Tg
  | .Name x _ => if stoB sc fn x && !oddB x then (slotOf c.N x).map .nm else none
  | .Tuple ts _ _ => (trGs c sc fn ts).map .tup
  | _ => none
def trGs (c : Tc) (sc : Scope) (fn : Str → Bool) : List Expr → Option (List Tg)
  | [] => some []
  | t :: ts => (trG c sc fn t).bind fun a => (trGs c sc fn ts).map (a :: ·)
end
def optAll {α β : Type} (f : α → Option β) : List α → Option (List β)
  | [] => some []
  | a :: r => (f a).bind fun b => (optAll f r).map (b :: ·)
/-- a comprehension's own names with their slots -/
def ownOf (N : List Str) : List (Str × NameKind) → List (Str × Nat)
  | [] => []
  | (x, k) :: r => match k, slotOf N x with
    | .local, some i => (x, i) :: ownOf N r
    | .cell, some i => (x, i) :: ownOf N r
    | _, _ => ownOf N r
def cellB (scope : Scope) (x : Str) : Bool := decide (scope.names.lookup x = some .cell)
def flat : List (Option Expr) → List Expr → Option (List Expr)
  | [], [] => some []
  | some k :: ks, v :: vs => (flat ks vs).map fun r => k :: v :: r
  | _, _ => none
def isSet1 (sc : Scope) : List Expr → Option Expr
  | [.Call (.Name x _) [e] [] _] => if glB sc x ∧ x = ("set" : Str) ∧ isStar e = false then some e else none
  | _ => none
def isIter1 (sc : Scope) : List Expr → Option (ItK × List Expr)
  | [.Call (.Name x _) es [] _] => if glB sc x then (trIt x es.length).map fun k => (k, es) else none
  | _ => none
def notStars (es : List Expr) : Bool := es.all fun e => !isStar e
/-- what is walked -/
def walked (sc : Scope) (e : Expr) : ItK × List Expr := match isIter1 sc [e] with
  | some r => r
  | none => (.seq, [e])
def isSetDisp : Expr → Bool
  | .Set _ _ _ => true
  | _ => false
def isCompE : Expr → Bool
  | .ListComp _ _ _ _ => true
  | .SetComp _ _ _ _ => true
  | .DictComp _ _ _ _ _ => true
  | _ => false

/-- how a part is translated -/
abbrev TrF := Scope → Mo → Expr → Option Ex
def foldB (op : BoolOp) : List Ex → Option Ex
  | [] => none
  | [x] => some x
  | x :: y :: r => (foldB op (y :: r)).map fun z => match op with
    | .And => .and x z
    | .Or => .or x z
def inner (m : Mo) : Mo := if m = .tst then .tst else .val
def trName (c : Tc) (sc : Scope) (m : Mo) (x : Str) : Option Ex :=
  if oddB x then none else if visB sc x then (slotOf c.N x).map fun i => if m = .val then .var i else .bor i else if glB sc x then (c.cs.lookup x).map .lit else none
def trIs (r : TrF) (sc : Scope) (neg : Bool) (l : Expr) : Const → Option Ex
  | .none => (r sc .bor l).map fun x => .ap (if neg then .notNo else .isNo) [x]
  | .bool b => (r sc .bor l).map fun x => .ap (if neg then .notB b else .isB b) [x]
  | _ => none
def trCmp1 (r : TrF) (sc : Scope) (l : Expr) (op : CmpOp) (a : Expr) : Option Ex :=
  if isSetDisp a then none else (trCmp op).bind fun p => (r sc .bor l).bind fun x => (r sc .bor a).map fun y => .ap p [x, y]
def constOf : Expr → Option Const
  | .Constant k _ _ => some k
  | _ => none
def trCompare (r : TrF) (sc : Scope) (l : Expr) : List CmpOp → List Expr → Option Ex
  | [op], [a] => if op = .Is then (constOf a).bind (trIs r sc false l) else if op = .IsNot then (constOf a).bind (trIs r sc true l) else trCmp1 r sc l op a
  | [o1, o2], [a, b] => if isSetDisp a || isSetDisp b then none else (trCmp o1).bind fun p1 => (trCmp o2).bind fun p2 => (r sc .bor l).bind fun x => (r sc .bor a).bind fun y => (r sc .bor b).map fun z => .chn x [p1, p2] [y, z]
  | [o1, o2, o3], [a, b, d] => if isSetDisp a || isSetDisp b || isSetDisp d then none else (trCmp o1).bind fun p1 => (trCmp o2).bind fun p2 => (trCmp o3).bind fun p3 => (r sc .bor l).bind fun x => (r sc .bor a).bind fun y => (r sc .bor b).bind fun z => (r sc .bor d).map fun u => .chn x [p1, p2, p3] [y, z, u]
  | _, _ => none
def isM1 : Expr → Bool
  | .UnaryOp .USub (.Constant (.int 1) _ _) _ => true
  | _ => false
def trSub (r : TrF) (sc : Scope) (v : Expr) : Expr → Option Ex
  | .Slice none none (some s) _ => if isM1 s then (r sc .bor v).map fun x => .ap .rev [x] else none
  | .Slice (some lo) (some hi) none _ => (r sc .bor v).bind fun x => (r sc .bor lo).bind fun y => (r sc .bor hi).map fun z => .ap (.sl true true) [x, y, z]
  | .Slice (some lo) none none _ => (r sc .bor v).bind fun x => (r sc .bor lo).map fun y => .ap (.sl true false) [x, y]
  | .Slice none (some hi) none _ => (r sc .bor v).bind fun x => (r sc .bor hi).map fun y => .ap (.sl false true) [x, y]
  | .Slice _ _ _ _ => none
  | i => (r sc .bor v).bind fun x => (r sc .bor i).map fun y => .ap .ix [x, y]
def trIsi (r : TrF) (sc : Scope) : List Expr → Option Ex
  | [a, t] => (trTy sc t).bind fun ty => (r sc .bor a).map fun y => .ap (.isi ty) [y]
  | _ => none
def trBuilt (r : TrF) (sc : Scope) (x : Str) (es : List Expr) : Option Ex := match isSet1 sc es with
  | some a => if x = ("len" : Str) then (r sc .bor a).map fun y => .ap .lenSet [y] else if x = ("sorted" : Str) then (r sc .bor a).map fun y => .ap .sortSet [y] else none
  | none => match isIter1 sc es with
    | some (k, as) => if notStars as && decide (k = .rng) && decide (as.length ≤ 2) then (if x = ("list" : Str) then (optAll (r sc .bor) as).map fun xs => .ap (.lstIt k) xs else if x = ("tuple" : Str) then (optAll (r sc .bor) as).map fun xs => .ap (.tupIt k) xs else none) else none
    | none => (trBi x es.length).bind fun p => (optAll (r sc .bor) es).map fun xs => .ap p xs
def trCallN (c : Tc) (r : TrF) (sc : Scope) (x : Str) (es : List Expr) : Option Ex :=
  if oddB x || !glB sc x || !notStars es then none else match c.fn.lookup x with
    | some (f, np, mp) => if es.length = np then (splitA c sc mp 0 es).bind fun q => (optAll (r sc .bor) q.2).map fun xs => .call f q.1 xs else none
    | none => if x = ("isinstance" : Str) then trIsi r sc es else trBuilt r sc x es
def okBase : Expr → Bool
  | .Call (.Name _ _) [] _ _ => false
  | _ => true
def trCallM (c : Tc) (r : TrF) (sc : Scope) (v : Expr) (a : Str) (es : List Expr) (ok : Bool) : Option Ex :=
  if !notStars es || !okBase v || !ok then none else match trMu a es.length with
    | some mt => (trSlot c sc v).bind fun i => (optAll (r sc .val) es).map fun xs => .mu mt i xs
    | none => (trMt a es.length).bind fun p => (r sc .bor v).bind fun x => (optAll (r sc .bor) es).map fun xs => .mt p x xs
def trCall (c : Tc) (r : TrF) (sc : Scope) (es : List Expr) (pos : Pos) : Expr → Option Ex
  | .Name x _ => trCallN c r sc x es
  | .Attribute v a apos => trCallM c r sc v a es (apos.endLine == pos.line)
  | _ => none
def trIfs (r : TrF) (sc : Scope) : List Expr → Option Ex
  | [] => some (.lit (.bool true))
  | [t] => r sc .tst t
  | _ => none
def isTupE : Expr → Bool
  | .Tuple _ _ _ => true
  | _ => false
/-- pairs are walked with a tuple of names alone -/
def tgFits (k : ItK) (tg : Expr) : Bool := match k with
  | .enu => isTupE tg
  | .zip => isTupE tg
  | _ => true
def trComp (c : Tc) (r : TrF) (sc : Scope) (elt tg iter : Expr) (ifs : List Expr) (scope : Scope) : Option Ex :=
  if blkC c.N sc scope (ownOf c.N scope.names) && notStars (walked sc iter).2 && !isSetDisp iter && tgFits (walked sc iter).1 tg then (optAll (r sc .bor) (walked sc iter).2).bind fun xs => (trG c (relS scope sc) (cellB scope) tg).bind fun g =>
    (trIfs r (relS scope sc) ifs).bind fun t => (r (relS scope sc) .val elt).map fun y => .lc (walked sc iter).1 xs g t y ((ownOf c.N scope.names).map (·.2))
  else none
def stepE (c : Tc) (r : TrF) : TrF := fun sc m e => match e with
  | .Constant k _ _ => (trC k).map .lit
  | .Name x _ => trName c sc m x
  | .Tuple es _ _ => if notStars es then (optAll (r sc .val) es).map .tup else none
  | .List es _ => if notStars es then (optAll (r sc .val) es).map .lst else none
  | .Dict ks vs _ => if decide (ks.length ≤ 15) then (flat ks vs).bind fun es => (optAll (r sc .val) es).map .dct else none
  | .BinOp a op b _ => (trOp op).bind fun p => (r sc .bor a).bind fun x => (r sc .bor b).map fun y => .ap p [x, y]
  | .UnaryOp op a _ => (match op with
    | .Not => (r sc (inner m) a).map .not
    | .USub => (r sc .bor a).map fun x => .ap .neg [x]
    | _ => none)
  | .BoolOp op es _ => (optAll (r sc (inner m)) es).bind (foldB op)
  | .IfExp t a b _ => (r sc .tst t).bind fun x => (r sc (inner m) a).bind fun y => (r sc (inner m) b).map fun z => .ite x y z
  | .Compare l ops rs _ => trCompare r sc l ops rs
  | .Subscript v i _ => trSub r sc v i
  | .Call f es [] pos => trCall c r sc es pos f
  | .ListComp elt [⟨tg, iter, ifs, 0⟩] scope _ => trComp c r sc elt tg iter ifs scope
  | _ => none
def trE (c : Tc) : Nat → TrF
  | 0 => fun _ _ _ => none
  | n + 1 => stepE c (trE c n)

/-! ### statements -/
/-- which stores are exchanged (the model's swappedStores, by the scope alone); outside: none is told -/
def swapB (sc : Scope) (ts vs : List Expr) : Option (Option (List Str)) :=
  if !(ts.length == 2 || ts.length == 3) || vs.length != ts.length then some none
  else if vs.any isStar then some none
  else
    let line := (ts.head?.map (·.pos.line)).getD 0
    let names := ts.filterMap fun | .Name id pos => if sc.names.lookup id == some .local && pos.line == line then some id else none | _ => none
    if names.length != ts.length || names.eraseDups.length != names.length then some none
    else if vs.all (foldedForSure 8) then some none
    else if vs.all (constantsAlone 8) then none
    else some (some names)
def trTa (c : Tc) (n : Nat) (sc : Scope) : Expr → Option Ta
  | .Name x _ => if stoB sc (fun _ => true) x && !oddB x then (slotOf c.N x).map .nm else none
  | .Subscript (.Name x _) i _ => (match i with
    | .Slice _ _ _ _ => none
    | _ => if visB sc x && !oddB x then (slotOf c.N x).bind fun s => (trE c n sc .val i).map fun e => .sub s e else none)
  | _ => none
def trTa2 (c : Tc) (n : Nat) (sc : Scope) : Expr → Option Ta
  | .Tuple ts _ _ => (optAll (trTa c n sc) ts).map .tup
  | e => trTa c n sc e
/-- a name is handed back as it stands -/
def retB (e : Expr) (x : Ex) : Bool := match x, e with
  | .var _, .Name _ _ => true
  | .var _, _ => false
  | _, _ => true
/-- how a statement within is translated -/
abbrev TrFS := Stmt → Option Sm
def trAsg (c : Tc) (n : Nat) (sc : Scope) (t e : Expr) : Option Sm := (trTa2 c n sc t).bind fun ta => (trE c n sc .val e).map fun x => .asg ta x
def tupE : Expr → Option (List Expr)
  | .Tuple es _ _ => some es
  | _ => none
def trAssign (c : Tc) (n : Nat) (sc : Scope) (t e : Expr) : Option Sm := match tupE t, tupE e with
  | some ts, some vs => (swapB sc ts vs).bind fun _ => if notStars vs && decide (vs.length ≤ 64) then (optAll (trTa c n sc) ts).bind fun tas => (optAll (trE c n sc .val) vs).map fun xs => .mas tas xs else none
  | _, _ => trAsg c n sc t e
def trRaise (c : Tc) (sc : Scope) : Expr → Sm
  | .Call (.Name x _) [] [] _ => if glB sc x && !oddB x then (match c.xs.lookup x with | some k => .raise k | none => .never) else .never
  | _ => .never
def stepS (c : Tc) (sc : Scope) (r : TrFS) : TrFS := fun s => match s with
  | .Expr e _ => if isCompE e then none else (trE c 60 sc .val e).map .ex
  | .Assign [t] e _ => trAssign c 60 sc t e
  | .If t a b _ => (trE c 60 sc .tst t).bind fun x => (optAll r a).bind fun y => (optAll r b).map fun z => .ite x y z
  | .For tg iter body [] _ => if notStars (walked sc iter).2 && !isSetDisp iter && tgFits (walked sc iter).1 tg then (optAll (trE c 60 sc .bor) (walked sc iter).2).bind fun xs => (trG c sc (fun _ => true) tg).bind fun g => (optAll r body).map fun b => .for (walked sc iter).1 xs g b else none
  | .While t body [] _ => (trE c 60 sc .tst t).bind fun x => (optAll r body).map fun b => .whl x b
  | .Return (some e) _ => (trE c 60 sc .val e).bind fun x => if retB e x then some (.ret x) else none
  | .Return none _ => some .retN
  | .Pass _ => some .pass
  | .Break _ => some .brk
  | .Continue _ => some .cont
  | .Raise (some e) none _ => some (trRaise c sc e)
  | _ => none
def trS (c : Tc) (sc : Scope) : Nat → TrFS
  | 0 => fun _ => none
  | n + 1 => stepS c sc (trS c sc n)
def trB (c : Tc) (sc : Scope) (body : List Stmt) : Option (List Sm) := optAll (trS c sc 60) body
end Ev

end

-- EvRep
section
/-! Ev: how data lie in the abstract heap; frames of slots; steps between states. -/
namespace Ev
open PySem L2

def keyD : Key → D
  | .inl i => .int i
  | .inr x => .str x
def tkeyD (ks : List Key) : D := .tuple (ks.map keyD)

def DkOk (kvs : List (Key × V)) : Prop := kvs.length ≤ sizeLine ∧ ∀ p ∈ kvs, ∀ x, p.1 = Sum.inr x → x.length ≤ sizeLine
/-- keys that are tuples: none is a tuple of the module's text -/
def DtOk (kvs : List (List Key × V)) : Prop := kvs.length ≤ sizeLine ∧ kvs ≠ [] ∧ ∀ p ∈ kvs, isC (tkeyD p.1) = false ∧ p.1.length ≤ sizeLine ∧ ∀ x, Sum.inr x ∈ p.1 → x.length ≤ sizeLine
/-- a tuple: made by the run; or of the module's text -/
def TupR (K : PySem.W.Frag) (H : Hp) (a : Addr) (vs : List V) (ds : List D) : Prop := H a = some (.tup vs) ∨ (SqT K H a vs ∧ isC (.tuple ds) = true)
theorem TupR.sq {K : PySem.W.Frag} {H : Hp} {a : Addr} {vs : List V} {ds : List D} (h : TupR K H a vs ds) : SqT K H a vs := by
  rcases h with h | h
  · exact .inl (.inl h)
  · exact h.1
theorem TupR.own {K : PySem.W.Frag} {H : Hp} {a : Addr} {vs : List V} {ds : List D} (h : TupR K H a vs ds) (hc : isC (.tuple ds) = false) : H a = some (.tup vs) := by
  rcases h with h | h
  · exact h
  · rw [h.2] at hc; cases hc
mutual
/-- the value v stands for the data d; no list or dict within lies at one of S -/
inductive Rep (K : PySem.W.Frag) (H : Hp) (S : List Addr) : V → D → Prop
  | non : Rep K H S .non .none
  | bl (b : Bool) : Rep K H S (.bl b) (.bool b)
  | int (i : Int) : Rep K H S (.int i) (.int i)
  | str {x : Str} : x.length ≤ sizeLine → Rep K H S (.str x) (.str x)
  | lst {a : Addr} {vs : List V} {ds : List D} : a ∉ S → Rd H a (.lst vs) → vs.length ≤ sizeLine → Reps K H S vs ds → Rep K H S (.ref a) (.list ds)
  | tup {a : Addr} {vs : List V} {ds : List D} : TupR K H a vs ds → vs.length ≤ sizeLine → Reps K H S vs ds → Rep K H S (.ref a) (.tuple ds)
  | dK {a : Addr} {kvs : List (Key × V)} {es : List D} {kv : List (D × D)} : a ∉ S → Rd H a (.dK kvs) → DkOk kvs → Reps K H S (kvs.map Prod.snd) es → kv = (kvs.map fun p => keyD p.1).zip es → Rep K H S (.ref a) (.dict kv)
  | dT {a : Addr} {kvs : List (List Key × V)} {es : List D} {kv : List (D × D)} : a ∉ S → Rd H a (.dT kvs) → DtOk kvs → Reps K H S (kvs.map Prod.snd) es → kv = (kvs.map fun p => tkeyD p.1).zip es → Rep K H S (.ref a) (.dict kv)
inductive Reps (K : PySem.W.Frag) (H : Hp) (S : List Addr) : List V → List D → Prop
  | nil : Reps K H S [] []
  | cons {v : V} {d : D} {vs : List V} {ds : List D} : Rep K H S v d → Reps K H S vs ds → Reps K H S (v :: vs) (d :: ds)
end

section
variable {K : PySem.W.Frag} {H H' : Hp} {S S' : List Addr}
theorem Reps.len : ∀ {vs : List V} {ds : List D}, Reps K H S vs ds → vs.length = ds.length
  | _, _, .nil => rfl
  | _, _, .cons _ r => by rw [List.length_cons, List.length_cons, r.len]
theorem Reps.app : ∀ {vs ws : List V} {ds es : List D}, Reps K H S vs ds → Reps K H S ws es → Reps K H S (vs ++ ws) (ds ++ es)
  | _, _, _, _, .nil, q => q
  | _, _, _, _, .cons a r, q => .cons a (r.app q)
theorem Reps.one {v : V} {d : D} (h : Rep K H S v d) : Reps K H S [v] [d] := .cons h .nil
theorem Reps.get : ∀ {vs : List V} {ds : List D} {i : Nat} {d : D}, Reps K H S vs ds → ds[i]? = some d → ∃ v, vs[i]? = some v ∧ Rep K H S v d
  | _, _, _, _, .nil, e => by simp at e
  | _, _, 0, _, .cons a _, e => by simp at e; subst e; exact ⟨_, rfl, a⟩
  | _, _, i + 1, d, .cons _ r, e => by
    obtain ⟨v, h1, h2⟩ := r.get (i := i) (d := d) (by simpa using e)
    exact ⟨v, by simpa using h1, h2⟩
theorem Reps.getV : ∀ {vs : List V} {ds : List D} {i : Nat} {v : V}, Reps K H S vs ds → vs[i]? = some v → ∃ d, ds[i]? = some d ∧ Rep K H S v d
  | _, _, _, _, .nil, e => by simp at e
  | _, _, 0, _, .cons a _, e => by simp at e; subst e; exact ⟨_, rfl, a⟩
  | _, _, i + 1, d, .cons _ r, e => by
    obtain ⟨v, h1, h2⟩ := r.getV (i := i) (v := d) (by simpa using e)
    exact ⟨v, by simpa using h1, h2⟩
theorem Reps.set {v : V} {d : D} (h : Rep K H S v d) : ∀ {vs : List V} {ds : List D} (i : Nat), Reps K H S vs ds → Reps K H S (vs.set i v) (ds.set i d)
  | _, _, _, .nil => .nil
  | _, _, 0, .cons _ r => .cons h r
  | _, _, i + 1, .cons a r => .cons a (Reps.set h i r)
theorem Reps.drop : ∀ {vs : List V} {ds : List D} (n : Nat), Reps K H S vs ds → Reps K H S (vs.drop n) (ds.drop n)
  | _, _, 0, r => r
  | _, _, _ + 1, .nil => .nil
  | _, _, n + 1, .cons _ r => r.drop n
theorem Reps.take : ∀ {vs : List V} {ds : List D} (n : Nat), Reps K H S vs ds → Reps K H S (vs.take n) (ds.take n)
  | _, _, 0, _ => .nil
  | _, _, _ + 1, .nil => .nil
  | _, _, n + 1, .cons a r => .cons a (r.take n)
theorem Reps.rev : ∀ {vs : List V} {ds : List D}, Reps K H S vs ds → Reps K H S vs.reverse ds.reverse
  | _, _, .nil => .nil
  | _, _, .cons a r => by
    rw [List.reverse_cons, List.reverse_cons]
    exact (Reps.rev r).app (.one a)
theorem Reps.erase : ∀ {vs : List V} {ds : List D} (n : Nat), Reps K H S vs ds → Reps K H S (vs.eraseIdx n) (ds.eraseIdx n)
  | _, _, _, .nil => .nil
  | _, _, 0, .cons _ r => r
  | _, _, n + 1, .cons a r => .cons a (r.erase n)

theorem Rd.live {a : Addr} {u : HO} (h : Rd H a u) : ∃ o, H a = some o := by
  rcases h with h | ⟨o, h⟩
  · exact ⟨_, h⟩
  · exact ⟨_, h⟩

theorem kp_rd (hk : ∀ b o, b ∉ S → H b = some o → H' b = some o) {b : Addr} {u : HO} (n : b ∉ S) (h : Rd H b u) : Rd H' b u := by
  rcases h with h | ⟨o, h⟩
  · exact .inl (hk b _ n h)
  · exact .inr ⟨o, hk b _ n h⟩
mutual
/-- to another heap that keeps what is looked at, and to other guarded places -/
theorem Rep.to (hk : ∀ b o, b ∉ S → H b = some o → H' b = some o) (ht : ∀ b xs, Rd H b (.tup xs) → b ∉ S) (hs : ∀ b o, b ∉ S → H b = some o → b ∉ S') : ∀ {v : V} {d : D}, Rep K H S v d → Rep K H' S' v d
  | _, _, .non => .non
  | _, _, .bl b => .bl b
  | _, _, .int i => .int i
  | _, _, .str h => .str h
  | _, _, .lst n r l q => .lst (let ⟨o, e⟩ := Rd.live r; hs _ o n e) (kp_rd hk n r) l (Reps.to hk ht hs q)
  | _, _, .tup r l q => .tup (by
      rcases r with r | ⟨r, c⟩
      · exact .inl (hk _ _ (ht _ _ (.inl r)) r)
      · rcases r with r | r
        · exact .inr ⟨.inl (kp_rd hk (ht _ _ r) r), c⟩
        · exact .inr ⟨.inr r, c⟩) l (Reps.to hk ht hs q)
  | _, _, .dK n r l q e => .dK (let ⟨o, e⟩ := Rd.live r; hs _ o n e) (kp_rd hk n r) l (Reps.to hk ht hs q) e
  | _, _, .dT n r l q e => .dT (let ⟨o, e⟩ := Rd.live r; hs _ o n e) (kp_rd hk n r) l (Reps.to hk ht hs q) e
theorem Reps.to (hk : ∀ b o, b ∉ S → H b = some o → H' b = some o) (ht : ∀ b xs, Rd H b (.tup xs) → b ∉ S) (hs : ∀ b o, b ∉ S → H b = some o → b ∉ S') : ∀ {vs : List V} {ds : List D}, Reps K H S vs ds → Reps K H' S' vs ds
  | _, _, .nil => .nil
  | _, _, .cons a r => .cons (Rep.to hk ht hs a) (Reps.to hk ht hs r)
end
theorem rd_tup {b : Addr} {xs : List V} (h : Rd H b (.tup xs)) (hS : ∀ b ∈ S, ∃ o, H b = some o ∧ (∀ ys, o ≠ .tup ys) ∧ ∀ o' ys, o ≠ .frz o' (.tup ys)) : b ∉ S := fun hb => by
  obtain ⟨o, e, h1, h2⟩ := hS b hb
  rcases h with h | ⟨o', h⟩
  · rw [h] at e; cases e; exact h1 _ rfl
  · rw [h] at e; cases e; exact h2 _ _ rfl
theorem Rep.mono {v : V} {d : D} (h : Rep K H S v d) (hs : ∀ b ∈ S', b ∈ S) (ht : ∀ b xs, Rd H b (.tup xs) → b ∉ S) : Rep K H S' v d := h.to (fun _ _ _ q => q) ht fun b _ n _ z => n (hs b z)
theorem Rep.flat {v : V} {d : D} (h : Rep K H S v d) (hf : flatD d = true) : Rep K H' S' v d := by
  cases h with
  | non => exact .non
  | bl b => exact .bl b
  | int i => exact .int i
  | str h => exact .str h
  | lst _ _ _ _ => exact absurd hf (by simp [flatD])
  | tup _ _ _ => exact absurd hf (by simp [flatD])
  | dK _ _ _ _ _ => exact absurd hf (by simp [flatD])
  | dT _ _ _ _ _ => exact absurd hf (by simp [flatD])

/-- a list or dict at a: its items -/
inductive Top (K : PySem.W.Frag) (H : Hp) (S : List Addr) (a : Addr) : D → Prop
  | lst {vs : List V} {ds : List D} : Rd H a (.lst vs) → vs.length ≤ sizeLine → Reps K H S vs ds → Top K H S a (.list ds)
  | dK {kvs : List (Key × V)} {es : List D} {kv : List (D × D)} : Rd H a (.dK kvs) → DkOk kvs → Reps K H S (kvs.map Prod.snd) es → kv = (kvs.map fun p => keyD p.1).zip es → Top K H S a (.dict kv)
  | dT {kvs : List (List Key × V)} {es : List D} {kv : List (D × D)} : Rd H a (.dT kvs) → DtOk kvs → Reps K H S (kvs.map Prod.snd) es → kv = (kvs.map fun p => tkeyD p.1).zip es → Top K H S a (.dict kv)
theorem Top.rep {a : Addr} {d : D} (h : Top K H S a d) (hs : ∀ b ∈ S', b ∈ S) (ht : ∀ b xs, Rd H b (.tup xs) → b ∉ S) (ha : a ∉ S') : Rep K H S' (.ref a) d := by
  have m : ∀ {vs ds}, Reps K H S vs ds → Reps K H S' vs ds := fun q => q.to (fun _ _ _ q => q) ht fun b _ n _ z => n (hs b z)
  cases h with
  | lst r l q => exact .lst ha r l (m q)
  | dK r l q e => exact .dK ha r l (m q) e
  | dT r l q e => exact .dT ha r l (m q) e
theorem Top.to {a : Addr} {d : D} (h : Top K H S a d) (ha : ∀ u, Rd H a u → Rd H' a u) (hk : ∀ b o, b ∉ S → H b = some o → H' b = some o) (ht : ∀ b xs, Rd H b (.tup xs) → b ∉ S) (hs : ∀ b o, b ∉ S → H b = some o → b ∉ S') : Top K H' S' a d := by
  cases h with
  | lst r l q => exact .lst (ha _ r) l (q.to hk ht hs)
  | dK r l q e => exact .dK (ha _ r) l (q.to hk ht hs) e
  | dT r l q e => exact .dT (ha _ r) l (q.to hk ht hs) e
theorem Rep.top {a : Addr} {d : D} (h : Rep K H S (.ref a) d) (hm : isMutD d = true) : Top K H S a d ∧ a ∉ S := by
  cases h with
  | lst n r l q => exact ⟨.lst r l q, n⟩
  | dK n r l q e => exact ⟨.dK r l q e, n⟩
  | dT n r l q e => exact ⟨.dT r l q e, n⟩
  | tup _ _ _ => exact absurd hm (by simp [isMutD])
theorem Top.mut {a : Addr} {d : D} (h : Top K H S a d) : isMutD d = true := by
  cases h <;> rfl
theorem Top.live {a : Addr} {d : D} (h : Top K H S a d) : ∃ o, H a = some o := by
  cases h with
  | lst r _ _ => exact Rd.live r
  | dK r _ _ _ => exact Rd.live r
  | dT r _ _ _ => exact Rd.live r
end

/-! ### frames -/
def owS (ow : List (Option Addr)) : List Addr := ow.filterMap id
theorem mem_owS {ow : List (Option Addr)} {a : Addr} : a ∈ owS ow ↔ ∃ i : Nat, ow[i]? = some (some a) := by
  unfold owS
  rw [List.mem_filterMap]
  constructor
  · rintro ⟨o, h1, h2⟩
    obtain ⟨i, hi⟩ := List.mem_iff_getElem?.mp h1
    have h2' : o = some a := h2
    subst h2'
    exact ⟨i, hi⟩
  · rintro ⟨i, hi⟩
    exact ⟨some a, List.mem_iff_getElem?.mpr ⟨i, hi⟩, rfl⟩
/-- it is a list or dict, tracked -/
def LiveM (H : Hp) (b : Addr) : Prop := ∃ o, H b = some o ∧ (∀ ys, o ≠ .tup ys) ∧ ∀ o' ys, o ≠ .frz o' (.tup ys)
/-- what a slot in its mode says -/
def SlOk (K : PySem.W.Frag) (H : Hp) (S : List Addr) (oa : Option Addr) (v : V) (s : Sl) : Prop := match s.m with
  | .frz => Rep K H S v s.d
  | .own => ∃ a, oa = some a ∧ v = .ref a ∧ Top K H S a s.d ∧ Mut (H a)
  | .prm => ∃ a, oa = some a ∧ v = .ref a ∧ Top K H S a s.d ∧ Mut (H a)
  | .lck => ∃ a, oa = some a ∧ v = .ref a ∧ Top K H S a s.d
structure FrOk (K : PySem.W.Frag) (T : List Addr) (ow : List (Option Addr)) (g : Gm) (σ : St) (H : Hp) : Prop where
  nd : (T ++ owS ow).Nodup
  lv : ∀ b ∈ T ++ owS ow, LiveM H b
  ln : g.length = σ.length
  lo : ow.length = σ.length
  sl : ∀ (i : Nat) s, g[i]? = some (some s) → ∃ v oa, σ[i]? = some (some v) ∧ ow[i]? = some oa ∧ SlOk K H (T ++ owS ow) oa v s
/-- what may be changed -/
def Own (g : Gm) (ow : List (Option Addr)) (b : Addr) : Prop := ∃ (i : Nat) (s : Sl), g[i]? = some (some s) ∧ (s.m = .own ∨ s.m = .prm) ∧ ow[i]? = some (some b)
theorem Own.mem {g : Gm} {ow : List (Option Addr)} {b : Addr} (h : Own g ow b) : b ∈ owS ow := let ⟨i, _, _, _, e⟩ := h; mem_owS.mpr ⟨i, e⟩

/-- from one state to a later one -/
structure Step (K : PySem.W.Frag) (T : List Addr) (ow : List (Option Addr)) (g : Gm) (σ : St) (H : Hp) (T' : List Addr) (ow' : List (Option Addr)) (g' : Gm) (σ' : St) (H' : Hp) : Prop where
  fr : FrOk K T' ow' g' σ' H'
  tt : ∀ b ∈ T, b ∈ T'
  nw : ∀ b ∈ T', b ∈ T ++ owS ow ∨ H b = none
  os : ∀ b ∈ owS ow', b ∈ owS ow ∨ H b = none
  kx : ∀ b o, H b = some o → ¬ Own g ow b → H' b = some o
  lv : ∀ b o, H b = some o → ∃ o', H' b = some o'
  on : ∀ b, Own g' ow' b → Own g ow b ∨ H b = none
  st : ∀ (i : Nat) s, g[i]? = some (some s) → (s.m = .lck ∨ s.m = .prm) → ow'[i]? = ow[i]? ∧ σ'[i]? = σ[i]? ∧ ∃ d', g'[i]? = some (some ⟨d', s.m⟩) ∧ (s.m = .lck → d' = s.d)
  ls : σ'.length = σ.length
  nl : ∀ (i : Nat) s, g'[i]? = some (some s) → s.m = .lck → ∃ s0, g[i]? = some (some s0) ∧ s0.m = .lck

section
variable {K : PySem.W.Frag} {H H1 H' : Hp} {T T1 T' : List Addr} {ow ow1 ow' : List (Option Addr)} {g g1 g' : Gm} {σ σ1 σ' : St}
theorem FrOk.tup (F : FrOk K T ow g σ H) : ∀ b xs, Rd H b (.tup xs) → b ∉ T ++ owS ow := fun _ _ h => rd_tup h F.lv
theorem Step.refl (F : FrOk K T ow g σ H) : Step K T ow g σ H T ow g σ H :=
  ⟨F, fun _ h => h, fun _ h => .inl (List.mem_append_left _ h), fun _ h => .inl h, fun _ _ h _ => h, fun _ o h => ⟨o, h⟩, fun _ h => .inl h, fun _ s h _ => ⟨rfl, rfl, s.d, h, fun _ => rfl⟩, rfl, fun _ s h m => ⟨s, h, m⟩⟩
theorem Step.trans (a : Step K T ow g σ H T1 ow1 g1 σ1 H1) (b : Step K T1 ow1 g1 σ1 H1 T' ow' g' σ' H') : Step K T ow g σ H T' ow' g' σ' H' := by
  have back : ∀ c, H1 c = none → H c = none := fun c n => by
    cases e : H c with
    | none => rfl
    | some o =>
      obtain ⟨o', e'⟩ := a.lv c o e
      rw [n] at e'; cases e'
  refine ⟨b.fr, fun c h => b.tt c (a.tt c h), fun c h => ?_, fun c h => ?_, fun c o h n => ?_, fun c o h => ?_, fun c h => ?_, fun i s h m => ?_, b.ls.trans a.ls, fun i s h m => let ⟨s1, h1, m1⟩ := b.nl i s h m; a.nl i s1 h1 m1⟩
  · rcases b.nw c h with h | h
    · rcases List.mem_append.mp h with h | h
      · exact a.nw c h
      · rcases a.os c h with h | h
        · exact .inl (List.mem_append_right _ h)
        · exact .inr h
    · exact .inr (back c h)
  · rcases b.os c h with h | h
    · exact a.os c h
    · exact .inr (back c h)
  · refine b.kx c o (a.kx c o h n) fun z => ?_
    rcases a.on c z with z | z
    · exact n z
    · rw [h] at z; cases z
  · obtain ⟨o1, h1⟩ := a.lv c o h
    exact b.lv c o1 h1
  · rcases b.on c h with h | h
    · exact a.on c h
    · exact .inr (back c h)
  · obtain ⟨e1, e2, d1, e3, e4⟩ := a.st i s h m
    obtain ⟨f1, f2, d2, f3, f4⟩ := b.st i _ e3 m
    exact ⟨f1.trans e1, f2.trans e2, d2, f3, fun z => (f4 z).trans (e4 z)⟩
theorem Step.rd (a : Step K T ow g σ H T' ow' g' σ' H') {b : Addr} {u : HO} (h : Rd H b u) (n : ¬ Own g ow b) : Rd H' b u := by
  rcases h with h | ⟨o, h⟩
  · exact .inl (a.kx b _ h n)
  · exact .inr ⟨o, a.kx b _ h n⟩
theorem Step.rd2 (a : Step K T ow g σ H T' ow' g' σ' H') : ∀ b o, b ∉ T ++ owS ow → H b = some o → H' b = some o := fun b o n h => a.kx b o h fun z => n (List.mem_append_right _ z.mem)
theorem Step.gd (a : Step K T ow g σ H T' ow' g' σ' H') : ∀ b o, b ∉ T ++ owS ow → H b = some o → b ∉ T' ++ owS ow' := fun b o n h z => by
  rcases List.mem_append.mp z with z | z
  · rcases a.nw b z with z | z
    · exact n z
    · rw [h] at z; cases z
  · rcases a.os b z with z | z
    · exact n (List.mem_append_right _ z)
    · rw [h] at z; cases z
/-- a shared value stays -/
theorem Step.rep (a : Step K T ow g σ H T' ow' g' σ' H') (F : FrOk K T ow g σ H) {v : V} {d : D} (h : Rep K H (T ++ owS ow) v d) : Rep K H' (T' ++ owS ow') v d := h.to a.rd2 F.tup a.gd
theorem Step.reps (a : Step K T ow g σ H T' ow' g' σ' H') (F : FrOk K T ow g σ H) {v : List V} {d : List D} (h : Reps K H (T ++ owS ow) v d) : Reps K H' (T' ++ owS ow') v d := h.to a.rd2 F.tup a.gd
theorem FrOk.tNotOwn (F : FrOk K T ow g σ H) {b : Addr} (h : b ∈ T) : ¬ Own g ow b := fun z => (List.nodup_append.mp F.nd).2.2 b h b z.mem rfl
/-- a new object of ours stays -/
theorem Step.top (a : Step K T ow g σ H T' ow' g' σ' H') (F : FrOk K T ow g σ H) {p : Addr} {d : D} (hp : p ∈ T) (h : Top K H (T ++ owS ow) p d) : Top K H' (T' ++ owS ow') p d :=
  h.to (fun _ r => a.rd r (F.tNotOwn hp)) a.rd2 F.tup a.gd
theorem Step.mut (a : Step K T ow g σ H T' ow' g' σ' H') (F : FrOk K T ow g σ H) {p : Addr} (hp : p ∈ T) (h : Mut (H p)) : Mut (H' p) := by
  cases e : H p with
  | none => rw [e] at h; exact h.elim
  | some o => rw [a.kx p o e (F.tNotOwn hp)]; rw [e] at h; exact h
theorem Step.back (a : Step K T ow g σ H T' ow' g' σ' H') {c : Addr} (n : H' c = none) : H c = none := by
  cases e : H c with
  | none => rfl
  | some o =>
    obtain ⟨o', e'⟩ := a.lv c o e
    rw [n] at e'; cases e'
/-- new objects that none wants any more are dropped -/
theorem FrOk.dropT (F : FrOk K T' ow g σ H) (hs : ∀ b ∈ T, b ∈ T') (hn : T.Nodup) : FrOk K T ow g σ H := by
  obtain ⟨n1, n2, n3⟩ := List.nodup_append.mp F.nd
  have sub : ∀ b ∈ T ++ owS ow, b ∈ T' ++ owS ow := fun b h => (List.mem_append.mp h).elim (fun h => List.mem_append_left _ (hs b h)) fun h => List.mem_append_right _ h
  refine ⟨List.nodup_append.mpr ⟨hn, n2, fun a h b h' => n3 a (hs a h) b h'⟩, fun b h => F.lv b (sub b h), F.ln, F.lo, fun i s h => ?_⟩
  obtain ⟨v, oa, e1, e2, q⟩ := F.sl i s h
  refine ⟨v, oa, e1, e2, ?_⟩
  have top : ∀ {a d}, Top K H (T' ++ owS ow) a d → Top K H (T ++ owS ow) a d := fun q => q.to (fun _ r => r) (fun _ _ _ r => r) F.tup fun b _ n _ z => n (sub b z)
  cases hm : s.m with
  | frz => simp only [SlOk, hm] at q ⊢; exact q.mono sub F.tup
  | own => simp only [SlOk, hm] at q ⊢; obtain ⟨a, q1, q2, q3, q4⟩ := q; exact ⟨a, q1, q2, top q3, q4⟩
  | prm => simp only [SlOk, hm] at q ⊢; obtain ⟨a, q1, q2, q3, q4⟩ := q; exact ⟨a, q1, q2, top q3, q4⟩
  | lck => simp only [SlOk, hm] at q ⊢; obtain ⟨a, q1, q2, q3⟩ := q; exact ⟨a, q1, q2, top q3⟩
theorem Step.dropT (a : Step K T ow g σ H T1 ow' g' σ' H') (ht : ∀ b ∈ T, b ∈ T') (hs : ∀ b ∈ T', b ∈ T1) (hn : T'.Nodup) : Step K T ow g σ H T' ow' g' σ' H' :=
  ⟨a.fr.dropT hs hn, ht, fun b h => a.nw b (hs b h), a.os, a.kx, a.lv, a.on, a.st, a.ls, a.nl⟩
end
end Ev

end

-- EvRead
section
/-! Ev: changes of frames; the readings of expressions. -/
namespace Ev
open PySem L2

section
variable {K : PySem.W.Frag} {H H1 H' : Hp} {T T1 T' S S' : List Addr} {ow ow1 ow' : List (Option Addr)} {g g1 g' : Gm} {σ σ1 σ' : St}

theorem upd_rd {p : Addr} {o : HO} (hp : H p = none) : ∀ b u, Rd H b u → Rd (upd H p o) b u := fun b u h => by
  have hb : b ≠ p := fun e => by
    obtain ⟨o', e'⟩ := Rd.live h
    rw [e, hp] at e'; cases e'
  rcases h with h | ⟨o', h⟩
  · exact .inl (by rw [upd_ne hb]; exact h)
  · exact .inr ⟨o', by rw [upd_ne hb]; exact h⟩
theorem upd_kp {p : Addr} {o : HO} (hp : H p = none) {b : Addr} {o' : HO} (e : H b = some o') : upd H p o b = some o' := by rw [upd_ne (fun z => by rw [z, hp] at e; cases e)]; exact e
theorem SlOk.to {oa : Option Addr} {v : V} {s : Sl} (h : SlOk K H S oa v s) (hk : ∀ b o, b ∉ S → H b = some o → H' b = some o) (ht : ∀ b xs, Rd H b (.tup xs) → b ∉ S) (hs : ∀ b o, b ∉ S → H b = some o → b ∉ S')
    (ha : ∀ a, oa = some a → (∀ u, Rd H a u → Rd H' a u) ∧ (Mut (H a) → Mut (H' a))) : SlOk K H' S' oa v s := by
  cases hm : s.m with
  | frz => simp only [SlOk, hm] at h ⊢; exact h.to hk ht hs
  | own => simp only [SlOk, hm] at h ⊢; obtain ⟨a, q1, q2, q3, q4⟩ := h; exact ⟨a, q1, q2, q3.to (ha a q1).1 hk ht hs, (ha a q1).2 q4⟩
  | prm => simp only [SlOk, hm] at h ⊢; obtain ⟨a, q1, q2, q3, q4⟩ := h; exact ⟨a, q1, q2, q3.to (ha a q1).1 hk ht hs, (ha a q1).2 q4⟩
  | lck => simp only [SlOk, hm] at h ⊢; obtain ⟨a, q1, q2, q3⟩ := h; exact ⟨a, q1, q2, q3.to (ha a q1).1 hk ht hs⟩
theorem SlOk.live {oa : Option Addr} {v : V} {s : Sl} (h : SlOk K H S oa v s) (hm : s.m ≠ .frz) : ∃ a, oa = some a ∧ v = .ref a ∧ Top K H S a s.d := by
  cases hq : s.m with
  | frz => exact absurd hq hm
  | own => simp only [SlOk, hq] at h; obtain ⟨a, q1, q2, q3, _⟩ := h; exact ⟨a, q1, q2, q3⟩
  | prm => simp only [SlOk, hq] at h; obtain ⟨a, q1, q2, q3, _⟩ := h; exact ⟨a, q1, q2, q3⟩
  | lck => simp only [SlOk, hq] at h; obtain ⟨a, q1, q2, q3⟩ := h; exact ⟨a, q1, q2, q3⟩

/-- a new object -/
theorem FrOk.alloc (F : FrOk K T ow g σ H) {p : Addr} {o : HO} (hp : H p = none) : Step K T ow g σ H T ow g σ (upd H p o) := by
  have ne : ∀ {b o'}, H b = some o' → b ≠ p := fun e z => by rw [z, hp] at e; cases e
  refine ⟨⟨F.nd, fun b h => ?_, F.ln, F.lo, fun i s h => ?_⟩, fun _ h => h, fun _ h => .inl (List.mem_append_left _ h), fun _ h => .inl h, fun b o' e _ => by rw [upd_ne (ne e)]; exact e, fun b o' e => ⟨o', by rw [upd_ne (ne e)]; exact e⟩, fun _ h => .inl h, fun i s h _ => ⟨rfl, rfl, s.d, h, fun _ => rfl⟩, rfl, fun _ s h m => ⟨s, h, m⟩⟩
  · obtain ⟨o', e, q⟩ := F.lv b h
    exact ⟨o', by rw [upd_ne (ne e)]; exact e, q⟩
  · obtain ⟨v, oa, e1, e2, q⟩ := F.sl i s h
    refine ⟨v, oa, e1, e2, q.to (fun b u _ e => upd_kp hp e) F.tup (fun b _ n _ => n) fun a ea => ⟨fun u r => upd_rd hp a u r, fun m => ?_⟩⟩
    cases e : H a with
    | none => rw [e] at m; exact m.elim
    | some o' => rw [upd_ne (ne e), e]; rw [e] at m; exact m
/-- a new list or dict that none else knows -/
theorem FrOk.allocT (F : FrOk K T ow g σ H) {p : Addr} (hp : H p = none) (S1 : Step K T ow g σ H T ow g σ H1) (hl : LiveM H1 p) (hnn : ∀ b o, H b = some o → H1 b = some o) : Step K T ow g σ H (p :: T) ow g σ H1 := by
  have np : p ∉ T ++ owS ow := fun h => by
    obtain ⟨o, e, _⟩ := F.lv p h
    rw [hp] at e; cases e
  have F1 := S1.fr
  refine ⟨⟨List.nodup_cons.mpr ⟨np, F1.nd⟩, fun b h => ?_, F1.ln, F1.lo, fun i s h => ?_⟩, fun b h => List.mem_cons_of_mem _ h, fun b h => ?_, S1.os, S1.kx, S1.lv, S1.on, S1.st, S1.ls, S1.nl⟩
  · rcases List.mem_cons.mp h with rfl | h
    · exact hl
    · exact F1.lv b h
  · obtain ⟨v, oa, e1, e2, q⟩ := F.sl i s h
    refine ⟨v, oa, e1, e2, q.to (fun b u _ r => hnn _ _ r) F.tup (fun b o n e z => ?_) fun a ea => ⟨fun u r => ?_, fun m => ?_⟩⟩
    · rcases List.mem_cons.mp z with rfl | z
      · rw [hp] at e; cases e
      · exact n z
    · rcases r with r | ⟨o', r⟩
      · exact .inl (hnn _ _ r)
      · exact .inr ⟨o', hnn _ _ r⟩
    · cases e : H a with
      | none => rw [e] at m; exact m.elim
      | some o' => rw [hnn a o' e]; rw [e] at m; exact m
  · rcases List.mem_cons.mp h with rfl | h
    · exact .inr hp
    · exact .inl (List.mem_append_left _ h)
/-- nothing tracked is lost, and all that is new is new -/
def KeepA (H H' : Hp) : Prop := ∀ b o, H b = some o → H' b = some o
theorem KeepA.refl (H : Hp) : KeepA H H := fun _ _ e => e
theorem KeepA.upd {p : Addr} {o : HO} (hp : H p = none) : KeepA H (upd H p o) := fun b o' e => by rw [upd_ne (fun z => by rw [z, hp] at e; cases e)]; exact e
theorem KeepA.rd (k : KeepA H H') {b : Addr} {u : HO} (h : Rd H b u) : Rd H' b u := by
  rcases h with h | ⟨o, h⟩
  · exact .inl (k _ _ h)
  · exact .inr ⟨o, k _ _ h⟩
theorem KeepA.mut (k : KeepA H H') {a : Addr} (m : Mut (H a)) : Mut (H' a) := by
  cases e : H a with
  | none => rw [e] at m; exact m.elim
  | some o' => rw [k a o' e]; rw [e] at m; exact m
theorem KeepA.live (k : KeepA H H') {b : Addr} (h : LiveM H b) : LiveM H' b := let ⟨o, e, q⟩ := h; ⟨o, k _ _ e, q⟩
theorem FrOk.keepA (F : FrOk K T ow g σ H) (k : KeepA H H') : Step K T ow g σ H T ow g σ H' := by
  refine ⟨⟨F.nd, fun b h => k.live (F.lv b h), F.ln, F.lo, fun i s h => ?_⟩, fun _ h => h, fun _ h => .inl (List.mem_append_left _ h), fun _ h => .inl h, fun b o' e _ => k b o' e, fun b o' e => ⟨o', k b o' e⟩, fun _ h => .inl h, fun i s h _ => ⟨rfl, rfl, s.d, h, fun _ => rfl⟩, rfl, fun _ s h m => ⟨s, h, m⟩⟩
  obtain ⟨v, oa, e1, e2, q⟩ := F.sl i s h
  exact ⟨v, oa, e1, e2, q.to (fun b u _ e => k _ _ e) F.tup (fun b _ n _ => n) fun a ea => ⟨fun u r => k.rd r, fun m => k.mut m⟩⟩

/-! ### values behind an expression -/
/-- v stands for d: shared; or (f) a new list or dict that none else knows -/
def RV (K : PySem.W.Frag) (H0 H' : Hp) (T' : List Addr) (ow' : List (Option Addr)) (v : V) (d : D) (f : Bool) : Prop := match f with
  | false => Rep K H' (T' ++ owS ow') v d
  | true => ∃ p, v = .ref p ∧ p ∈ T' ∧ H0 p = none ∧ Top K H' (T' ++ owS ow') p d ∧ Mut (H' p)
def VR (K : PySem.W.Frag) (σ : St) (H0 H' : Hp) (T' : List Addr) (ow' : List (Option Addr)) (v : V) : Vl → Prop
  | .v d f => RV K H0 H' T' ow' v d f
  | .b i => σ[i]? = some (some v)
def newOf : List V → List Vl → List Addr
  | .ref p :: vs, .v _ true :: ls => p :: newOf vs ls
  | _ :: vs, _ :: ls => newOf vs ls
  | _, _ => []
structure VRs (K : PySem.W.Frag) (σ : St) (H0 H' : Hp) (T' : List Addr) (ow' : List (Option Addr)) (vs : List V) (ls : List Vl) : Prop where
  all : Paired (VR K σ H0 H' T' ow') vs ls
  nd : (newOf vs ls).Nodup
theorem RV.step {H0 : Hp} {v : V} {d : D} {f : Bool} (h : RV K H0 H1 T1 ow1 v d f) (F : FrOk K T1 ow1 g1 σ1 H1) (a : Step K T1 ow1 g1 σ1 H1 T' ow' g' σ' H') : RV K H0 H' T' ow' v d f := by
  cases f with
  | false => exact a.rep F h
  | true =>
    obtain ⟨p, e, h1, h2, h3, h4⟩ := h
    exact ⟨p, e, a.tt p h1, h2, a.top F h1 h3, a.mut F h1 h4⟩
theorem RV.old {H0 : Hp} {v : V} {d : D} {f : Bool} (h : RV K H1 H' T' ow' v d f) (hb : ∀ c, H1 c = none → H0 c = none) : RV K H0 H' T' ow' v d f := by
  cases f with
  | false => exact h
  | true =>
    obtain ⟨p, e, h1, h2, h3, h4⟩ := h
    exact ⟨p, e, h1, hb p h2, h3, h4⟩
theorem VR.step {H0 : Hp} {v : V} {l : Vl} (h : VR K σ H0 H1 T1 ow1 v l) (F : FrOk K T1 ow1 g1 σ1 H1) (a : Step K T1 ow1 g1 σ1 H1 T' ow' g' σ' H') : VR K σ H0 H' T' ow' v l := by
  cases l with
  | v d f => exact RV.step h F a
  | b i => exact h
theorem VR.old {H0 : Hp} {v : V} {l : Vl} (h : VR K σ H1 H' T' ow' v l) (hb : ∀ c, H1 c = none → H0 c = none) : VR K σ H0 H' T' ow' v l := by
  cases l with
  | v d f => exact RV.old h hb
  | b i => exact h
theorem VRs.nil {H0 : Hp} : VRs K σ H0 H' T' ow' [] [] := ⟨.nil, by simp [newOf]⟩
theorem newOf_mem {H0 : Hp} : ∀ {vs : List V} {ls : List Vl}, Paired (VR K σ H0 H' T' ow') vs ls → ∀ p ∈ newOf vs ls, p ∈ T' ∧ H0 p = none
  | _, _, .nil, p, h => by simp [newOf] at h
  | v :: vs, l :: ls, .cons r t, p, h => by
    cases l with
    | b i =>
      have h' : p ∈ newOf vs ls := by cases v <;> simpa [newOf] using h
      exact newOf_mem t p h'
    | v d f =>
      cases f with
      | false =>
        have h' : p ∈ newOf vs ls := by cases v <;> simpa [newOf] using h
        exact newOf_mem t p h'
      | true =>
        obtain ⟨q, e, h1, h2, _⟩ := r
        subst e
        have h' : p = q ∨ p ∈ newOf vs ls := by simpa [newOf] using h
        rcases h' with rfl | h'
        · exact ⟨h1, h2⟩
        · exact newOf_mem t p h'
theorem VRs.cons {H0 : Hp} {v : V} {l : Vl} {vs : List V} {ls : List Vl} (h : VR K σ H0 H' T' ow' v l) (ht : VRs K σ H0 H' T' ow' vs ls) (hd : ∀ d, l = .v d true → ∀ p, v = .ref p → p ∉ newOf vs ls) : VRs K σ H0 H' T' ow' (v :: vs) (l :: ls) := by
  refine ⟨.cons h ht.all, ?_⟩
  cases l with
  | b i => cases v <;> exact ht.nd
  | v d f =>
    cases f with
    | false => cases v <;> exact ht.nd
    | true =>
      obtain ⟨q, e, _⟩ := h
      subst e
      exact List.nodup_cons.mpr ⟨hd d rfl q rfl, ht.nd⟩

/-- an argument that is only read -/
def ArgR (K : PySem.W.Frag) (H : Hp) (S : List Addr) (v : V) (d : D) : Prop := Rep K H S v d ∨ ∃ p, v = .ref p ∧ p ∈ S ∧ Top K H S p d
theorem ArgR.read {v : V} {d : D} (h : ArgR K H S v d) (ht : ∀ b xs, Rd H b (.tup xs) → b ∉ S) : Rep K H [] v d := by
  rcases h with h | ⟨p, e, _, h⟩
  · exact h.mono (fun _ z => absurd z (by simp)) ht
  · subst e; exact h.rep (fun _ z => absurd z (by simp)) ht (by simp)
theorem RV.arg {H0 : Hp} {v : V} {d : D} {f : Bool} (h : RV K H0 H' T' ow' v d f) : ArgR K H' (T' ++ owS ow') v d := by
  cases f with
  | false => exact .inl h
  | true =>
    obtain ⟨p, e, h1, _, h3, _⟩ := h
    exact .inr ⟨p, e, List.mem_append_left _ h1, h3⟩
theorem FrOk.slot (F : FrOk K T ow g σ H) {i : Nat} {d : D} (h : slotD g i = some d) : ∃ v, σ[i]? = some (some v) ∧ ArgR K H (T ++ owS ow) v d := by
  unfold slotD at h
  cases e : g[i]? with
  | none => rw [e] at h; cases h
  | some o =>
    cases o with
    | none => rw [e] at h; cases h
    | some s =>
      rw [e] at h
      cases h
      obtain ⟨v, oa, e1, e2, q⟩ := F.sl i s e
      refine ⟨v, e1, ?_⟩
      by_cases hm : s.m = .frz
      · simp only [SlOk, hm] at q; exact .inl q
      · obtain ⟨a, q1, q2, q3⟩ := q.live hm
        subst q1
        exact .inr ⟨a, q2, List.mem_append_right _ (mem_owS.mpr ⟨i, e2⟩), q3⟩
theorem VR.arg {H0 : Hp} {v : V} {l : Vl} {d : D} (h : VR K σ H0 H' T' ow' v l) (F : FrOk K T' ow' g' σ H') (hr : l.res g' = some d) : ArgR K H' (T' ++ owS ow') v d := by
  cases l with
  | v e f => cases hr; exact RV.arg h
  | b i =>
    obtain ⟨v', e1, q⟩ := F.slot hr
    have h' : σ[i]? = some (some v) := h
    rw [h'] at e1; cases e1
    exact q
theorem VRs.args {H0 : Hp} : ∀ {vs : List V} {ls : List Vl} {ds : List D}, Paired (VR K σ H0 H' T' ow') vs ls → FrOk K T' ow' g' σ H' → resAll g' ls = some ds → Paired (ArgR K H' (T' ++ owS ow')) vs ds
  | _, _, _, .nil, _, h => by cases h; exact .nil
  | v :: vs, l :: ls, ds, .cons r t, F, h => by
    unfold resAll at h
    cases e : l.res g' with
    | none => rw [e] at h; cases h
    | some d =>
      cases e2 : resAll g' ls with
      | none => rw [e, e2] at h; cases h
      | some r2 =>
        rw [e, e2] at h
        cases h
        exact .cons (r.arg F e) (VRs.args t F e2)
end

/-! ### readings -/
section
variable (K : PySem.W.Frag) (cl : Call) (W : Nat → St → Hp → Prop)
def tEv (ex : Ex) : TE := fun σ H Q => ∃ T ow g, FrOk K T ow g σ H ∧ match ev cl false ex g with
  | .ok r => ∀ T' ow' H' v, Step K T ow g σ H T' ow' r.2.2 σ H' → RV K H H' T' ow' v r.1 r.2.1 → Q v H'
  | .exc c g' => ∀ T' ow' H', Step K T ow g σ H T' ow' g' σ H' → W c σ H'
  | .bad => False
def tVl (ex : Ex) : TE := fun σ H Q => ∃ T ow g, FrOk K T ow g σ H ∧ match vl (isBor ex) (ev cl false ex g) g with
  | .ok r => ∀ T' ow' H' v, Step K T ow g σ H T' ow' r.2 σ H' → VR K σ H H' T' ow' v r.1 → Q v H'
  | .exc c g' => ∀ T' ow' H', Step K T ow g σ H T' ow' g' σ H' → W c σ H'
  | .bad => False
def tTs (ex : Ex) : TT := fun σ H Q => ∃ T ow g, FrOk K T ow g σ H ∧ match ev cl true ex g with
  | .ok r => ∀ T' ow' H', Step K T ow g σ H T' ow' r.2.2 σ H' → ∃ b, r.1 = .bool b ∧ Q b H'
  | .exc c g' => ∀ T' ow' H', Step K T ow g σ H T' ow' g' σ H' → W c σ H'
  | .bad => False
def tArgs (exs : List Ex) : TA := fun σ H Q => ∃ T ow g, FrOk K T ow g σ H ∧ match evs cl exs g with
  | .ok r => ∀ T' ow' H' vs, Step K T ow g σ H T' ow' r.2 σ H' → VRs K σ H H' T' ow' vs r.1 → Q vs H'
  | .exc c g' => ∀ T' ow' H', Step K T ow g σ H T' ow' g' σ H' → W c σ H'
  | .bad => False
end
section
variable {K : PySem.W.Frag} {cl : Call} {W : Nat → St → Hp → Prop} {σ : St} {H : Hp}
theorem tArgs_nil {Q : List V → Hp → Prop} (h : tArgs K cl W [] σ H Q) : Q [] H := by
  obtain ⟨T, ow, g, F, h⟩ := h
  simp only [evs] at h
  exact h T ow H [] (Step.refl F) VRs.nil
theorem tArgs_cons {e : Ex} {es : List Ex} {Q : List V → Hp → Prop} (h : tArgs K cl W (e :: es) σ H Q) : tVl K cl W e σ H fun x H1 => tArgs K cl W es σ H1 fun ys H2 => Q (x :: ys) H2 := by
  obtain ⟨T, ow, g, F, h⟩ := h
  refine ⟨T, ow, g, F, ?_⟩
  simp only [evs] at h
  cases e1 : vl (isBor e) (ev cl false e g) g with
  | bad => rw [e1] at h; exact h
  | exc c g' => rw [e1] at h; exact h
  | ok r =>
    rw [e1] at h
    intro T1 ow1 H1 v S1 r1
    refine ⟨T1, ow1, r.2, S1.fr, ?_⟩
    simp only [Out.bind] at h
    cases e2 : evs cl es r.2 with
    | bad => rw [e2] at h; exact h
    | exc c g' => rw [e2] at h; exact fun T2 ow2 H2 S2 => h T2 ow2 H2 (S1.trans S2)
    | ok q =>
      rw [e2] at h
      intro T2 ow2 H2 vs S2 r2
      have r2' : VRs K σ H H2 T2 ow2 vs q.1 := ⟨Paired.mapP r2.all fun _ _ z => z.old fun c n => S1.back n, r2.nd⟩
      refine h T2 ow2 H2 (v :: vs) (S1.trans S2) (.cons (r1.step S1.fr S2) r2' fun d ed p ep z => ?_)
      obtain ⟨_, z2⟩ := newOf_mem r2.all p z
      rw [ed] at r1
      obtain ⟨p', ep', h1, _, h3, _⟩ := r1
      rw [ep] at ep'; cases ep'
      obtain ⟨o, eo⟩ := h3.live
      rw [z2] at eo; cases eo
end
end Ev

end

-- EvPrA
section
/-! Ev: the primitives' rules, first part: numbers, sequences. -/
namespace Ev
open PySem PySem.Spec PyProof.Rows L2

/-- what a primitive hands back: shared; or (f) a new list or dict -/
def ResR (K : PySem.W.Frag) (H H' : Hp) (S : List Addr) (v : V) (d : D) (f : Bool) : Prop := match f with
  | false => Rep K H' S v d
  | true => ∃ p, v = .ref p ∧ H p = none ∧ Top K H' (p :: S) p d ∧ Mut (H' p)
def rPr (K : PySem.W.Frag) (p : List D → Option (D × Bool)) (vs : List V) (H : Hp) (Q : VK) : Prop :=
  ∃ S ds d f, (∀ b ∈ S, LiveM H b) ∧ Paired (ArgR K H S) vs ds ∧ p ds = some (d, f) ∧ ∀ v H', KeepA H H' → ResR K H H' S v d f → Q v H'
abbrev rPr1 (K : PySem.W.Frag) (p : List D → Option (D × Bool)) (x : V) (H : Hp) (Q : VK) : Prop := rPr K p [x] H Q
abbrev rPr2 (K : PySem.W.Frag) (p : List D → Option (D × Bool)) (x y : V) (H : Hp) (Q : VK) : Prop := rPr K p [x, y] H Q

section
variable {K : PySem.W.Frag} {H H' : Hp} {S : List Addr} {v : V}
theorem live_tup (hS : ∀ b ∈ S, LiveM H b) : ∀ b xs, Rd H b (.tup xs) → b ∉ S := fun _ _ h => rd_tup h hS
theorem ArgR.int {i : Int} (h : ArgR K H S v (.int i)) : v = .int i := by
  rcases h with h | ⟨p, _, _, h⟩
  · cases h; rfl
  · cases h
theorem ArgR.bl {b : Bool} (h : ArgR K H S v (.bool b)) : v = .bl b := by
  rcases h with h | ⟨p, _, _, h⟩
  · cases h; rfl
  · cases h
theorem ArgR.str {x : Str} (h : ArgR K H S v (.str x)) : v = .str x ∧ x.length ≤ sizeLine := by
  rcases h with h | ⟨p, _, _, h⟩
  · cases h with
    | str l => exact ⟨rfl, l⟩
  · cases h
theorem ArgR.list {ds : List D} (h : ArgR K H S v (.list ds)) : ∃ a vs, v = .ref a ∧ Rd H a (.lst vs) ∧ vs.length ≤ sizeLine ∧ Reps K H S vs ds := by
  rcases h with h | ⟨p, e, _, h⟩
  · cases h with
    | lst _ r l q => exact ⟨_, _, rfl, r, l, q⟩
  · cases h with
    | lst r l q => exact ⟨_, _, e, r, l, q⟩
theorem ArgR.tuple {ds : List D} (h : ArgR K H S v (.tuple ds)) : ∃ a vs, v = .ref a ∧ TupR K H a vs ds ∧ vs.length ≤ sizeLine ∧ Reps K H S vs ds := by
  rcases h with h | ⟨p, e, _, h⟩
  · cases h with
    | tup r l q => exact ⟨_, _, rfl, r, l, q⟩
  · cases h
theorem Rep.new {p : Addr} {o : HO} {d : D} (h : Rep K H S v d) (hS : ∀ b ∈ S, LiveM H b) (hp : H p = none) : Rep K (upd H p o) (p :: S) v d :=
  h.to (fun b u _ e => upd_kp hp e) (live_tup hS) fun b o' n e z => by
    rcases List.mem_cons.mp z with rfl | z
    · rw [hp] at e; cases e
    · exact n z
theorem Reps.new {p : Addr} {o : HO} {vs : List V} {ds : List D} (h : Reps K H S vs ds) (hS : ∀ b ∈ S, LiveM H b) (hp : H p = none) : Reps K (upd H p o) (p :: S) vs ds :=
  h.to (fun b u _ e => upd_kp hp e) (live_tup hS) fun b o' n e z => by
    rcases List.mem_cons.mp z with rfl | z
    · rw [hp] at e; cases e
    · exact n z
theorem Reps.upd {p : Addr} {o : HO} {vs : List V} {ds : List D} (h : Reps K H S vs ds) (hS : ∀ b ∈ S, LiveM H b) (hp : H p = none) : Reps K (upd H p o) S vs ds :=
  h.to (fun b u _ e => upd_kp hp e) (live_tup hS) fun b o' n e => n
theorem Rep.kp {d : D} (h : Rep K H S v d) (hS : ∀ b ∈ S, LiveM H b) (k : KeepA H H') : Rep K H' S v d := h.to (fun b u _ e => k _ _ e) (live_tup hS) fun b o' n e => n
theorem Reps.kp {vs : List V} {ds : List D} (h : Reps K H S vs ds) (hS : ∀ b ∈ S, LiveM H b) (k : KeepA H H') : Reps K H' S vs ds := h.to (fun b u _ e => k _ _ e) (live_tup hS) fun b o' n e => n
/-- a new list comes back -/
theorem res_lst {p : Addr} {vs : List V} {ds : List D} (hS : ∀ b ∈ S, LiveM H b) (hp : H p = none) (hl : vs.length ≤ sizeLine) (h : Reps K H S vs ds) : ResR K H (upd H p (.lst vs)) S (.ref p) (.list ds) true :=
  ⟨p, rfl, hp, .lst (.inl upd_same) hl (h.new hS hp), by rw [upd_same]; exact trivial⟩
theorem rep_tup {p : Addr} {vs : List V} {ds : List D} (hS : ∀ b ∈ S, LiveM H b) (hp : H p = none) (hl : vs.length ≤ sizeLine) (h : Reps K H S vs ds) : Rep K (upd H p (.tup vs)) S (.ref p) (.tuple ds) :=
  .tup (.inl upd_same) hl (h.upd hS hp)
end

section
variable {X : Cx} {pins : List (Addr × Obj)} {σ : L2.St} {H : Hp} {s : Shared}
theorem Inv.rdL {l : Addr} {xs : List V} (I : Inv X pins σ H s) (h : Rd H l (.lst xs)) : ∃ (its : List Value) (n : Nat), Vals xs its ∧ xs.length = its.length ∧ s.heap.get? l = some { cls := .type "list", data := .seq its.toArray n } := by
  obtain ⟨z, its, n, r, e⟩ := h.ok I.hok
  exact ⟨its, n, r, r.length, e⟩
mutual
/-- what stands for data reads as it (no dict within) -/
theorem Rep.reads {S : List Addr} (I : Inv X pins σ H s) : ∀ {d : D} {v : V} {u : Value}, Rep X.K H S v d → RelV v u → d.plain = true → ∃ as, Reads s.heap u d as
  | .none, _, _, h, r, _ => by cases h; cases r; exact ⟨_, .none⟩
  | .bool b, _, _, h, r, _ => by cases h; cases r; exact ⟨_, .bool b⟩
  | .int i, _, _, h, r, _ => by cases h; obtain ⟨t, rfl⟩ := r; exact ⟨_, .int i t⟩
  | .str x, _, _, h, r, _ => by cases h; obtain ⟨t, rfl⟩ := r; exact ⟨_, .str x t⟩
  | .list ds, _, _, h, r, hp => by
    cases h with
    | lst n hr l q =>
      cases r
      obtain ⟨its, k, rv, _, e⟩ := Ev.Inv.rdL I hr
      obtain ⟨as, hh⟩ := Reps.reads I q rv (by simpa [PyData.plain] using hp)
      exact ⟨_, Reads.list e rfl rfl (by simpa using hh)⟩
  | .tuple ds, _, _, h, r, hp => by
    cases h with
    | tup hr l q =>
      cases r
      obtain ⟨its, rv, ⟨o, ho, hc, n, hd⟩, _⟩ := I.tuple hr.sq
      obtain ⟨as, hh⟩ := Reps.reads I q rv (by simpa [PyData.plain] using hp)
      exact ⟨_, Reads.tuple ho hc hd (by simpa using hh)⟩
  | .dict _, _, _, _, _, hp => by simp [PyData.plain] at hp
theorem Reps.reads {S : List Addr} (I : Inv X pins σ H s) : ∀ {ds : List D} {vs : List V} {us : List Value}, Reps X.K H S vs ds → Vals vs us → PyData.plainAll ds = true → ∃ as, ReadsAll s.heap us ds as
  | [], _, _, h, r, _ => by cases h; cases r; exact ⟨_, .nil⟩
  | d :: ds, _, _, h, r, hp => by
    cases h with
    | cons h1 h2 =>
      cases r with
      | cons r1 r2 =>
        rw [PyData.plainAll, Bool.and_eq_true] at hp
        obtain ⟨as, q1⟩ := Rep.reads I h1 r1 hp.1
        obtain ⟨bs, q2⟩ := Reps.reads I h2 r2 hp.2
        exact ⟨_, .cons q1 q2⟩
end
theorem ArgR.reads {S : List Addr} {d : D} {v : V} {u : Value} (I : Inv X pins σ H s) (hS : ∀ b ∈ S, LiveM H b) (h : ArgR X.K H S v d) (r : RelV v u) (hp : d.plain = true) : ∃ as, Reads s.heap u d as :=
  Rep.reads I (h.read (live_tup hS)) r hp
theorem depth_of {d : D} {A : Around} {e : D} (h : d.depth ≤ 64) (hu : A.units + 80 < cLine) : A.units + min d.depth e.depth < cLine := by
  have := Nat.min_le_left d.depth e.depth
  omega
end

/-! ### numbers -/
section
variable {X : Cx}
theorem op_of {op : Operator} {p : List D → Option (D × Bool)} {f : V → V → Hp → VK → Prop} (h : OpR X (binaryOp op) f) (hr : ∀ x y H Q, rPr2 X.K p x y H Q → f x y H Q) : OpR X (binaryOp op) (rPr2 X.K p) :=
  fun pins s σ H x y v u Q I rx ry q => h pins s σ H x y v u Q I rx ry (hr x y H Q q)
theorem o_sub : OpR X (binaryOp .Sub) (rPr2 X.K prSub) := op_of op_sub fun x y H Q ⟨S, ds, d, f, hS, ha, hp, q⟩ => by
  cases ha with | cons a ha => cases ha with | cons b ha =>
  cases ha
  unfold prSub at hp
  split at hp <;> cases hp
  rename_i e; cases e
  exact ⟨_, _, a.int, b.int, q _ H (KeepA.refl H) (.int _)⟩
theorem o_fdiv : OpR X (binaryOp .FloorDiv) (rPr2 X.K prFdiv) := op_of op_fdivN fun x y H Q ⟨S, ds, d, f, hS, ha, hp, q⟩ => by
  cases ha with | cons a ha => cases ha with | cons b ha =>
  cases ha
  unfold prFdiv at hp
  split at hp
  · rename_i e; cases e
    split at hp <;> cases hp
    rename_i hc
    rw [Bool.and_eq_true, decide_eq_true_eq, decide_eq_true_eq] at hc
    exact ⟨_, _, a.int, b.int, hc, q _ H (KeepA.refl H) (.int _)⟩
  · cases hp
theorem o_mod : OpR X (binaryOp .Mod) (rPr2 X.K prMod) := op_of op_modN fun x y H Q ⟨S, ds, d, f, hS, ha, hp, q⟩ => by
  cases ha with | cons a ha => cases ha with | cons b ha =>
  cases ha
  unfold prMod at hp
  split at hp
  · rename_i e; cases e
    split at hp <;> cases hp
    rename_i hc
    rw [decide_eq_true_eq] at hc
    exact ⟨_, _, a.int, b.int, hc, q _ H (KeepA.refl H) (.int _)⟩
  · cases hp
theorem o_pow : OpR X (binaryOp .Pow) (rPr2 X.K prPow) := op_of op_pow fun x y H Q ⟨S, ds, d, f, hS, ha, hp, q⟩ => by
  cases ha with | cons a ha => cases ha with | cons b ha =>
  cases ha
  unfold prPow at hp
  split at hp
  · rename_i e; cases e
    split at hp <;> cases hp
    rename_i hc
    simp only [Bool.and_eq_true, decide_eq_true_eq] at hc
    exact ⟨_, _, a.int, b.int, ⟨hc.1.1, by omega, by have := hc.2; omega⟩, q _ H (KeepA.refl H) (.int _)⟩
  · cases hp
theorem u_neg : UnR X (unaryOp .USub) (rPr1 X.K prNeg) := fun pins s σ H x v Q I rx ⟨S, ds, d, f, hS, ha, hp, q⟩ => by
  cases ha with | cons a ha =>
  cases ha
  unfold prNeg at hp
  split at hp <;> cases hp
  rename_i e; cases e
  exact un_neg pins s σ H x v Q I rx ⟨_, a.int, q _ H (KeepA.refl H) (.int _)⟩

/-! ### + -/
theorem rd_sql {K : PySem.W.Frag} {H : Hp} {a : Addr} {xs : List V} (h : Rd H a (.lst xs)) : SqL K H a xs := .inl h
/-- two lists, whoever holds them -/
theorem cat_lists : OpR X (binaryOp .Add) (fun x y H Q => ∃ l b xs zs, x = .ref l ∧ y = .ref b ∧ Rd H l (.lst xs) ∧ Rd H b (.lst zs) ∧ xs.length + zs.length ≤ sizeLine ∧ ∀ p, H p = none → Q (.ref p) (upd H p (.lst (xs ++ zs)))) := by
  intro pins s σ H x y v u Q I rx ry ⟨l, b, xs, zs, e1, e2, hx, hz, hl, q⟩
  subst e1; subst e2
  cases rx; cases ry
  obtain ⟨i1, n1, r1, l1, g1⟩ := Ev.Inv.rdL I hx
  obtain ⟨i2, n2, r2, l2, g2⟩ := Ev.Inv.rdL I hz
  have ea : i1.toArray ++ i2.toArray = (i1 ++ i2).toArray := by simp
  have hs : i1.toArray.size + i2.toArray.size ≤ sizeLine := by simp only [List.size_toArray]; omega
  refine PySem.P.add_list g1 g2 ?_ hs
  rw [ea]
  exact ⟨.ref _, _, I.lnew (t' := s.toks) (r1.append r2) (by simp only [List.length_append]; omega), rfl, q _ I.fresh⟩
theorem line_le {n : Nat} (h : line n = true) : n ≤ sizeLine := by
  rw [sizeLine_eq]
  exact of_decide_eq_true h
theorem o_add (hu : True := trivial) : OpR X (binaryOp .Add) (rPr2 X.K prAdd) := by
  intro pins s σ H x y v u Q I rx ry ⟨S, ds, d, f, hS, ha, hp, q⟩
  cases ha with | cons a ha => cases ha with | cons b ha =>
  cases ha
  unfold prAdd at hp
  split at hp
  · rename_i e; cases e; cases hp
    exact op_add pins s σ H x y v u Q I rx ry ⟨_, _, a.int, b.int, q _ H (KeepA.refl H) (.int _)⟩
  · rename_i e; cases e; cases hp
    exact op_add_ib pins s σ H x y v u Q I rx ry ⟨_, _, a.int, b.bl, q _ H (KeepA.refl H) (.int _)⟩
  · rename_i e; cases e
    split at hp <;> cases hp
    rename_i hl
    refine op_add_str pins s σ H x y v u Q I rx ry ⟨_, _, a.str.1, b.str.1, line_le hl, q _ H (KeepA.refl H) (.str ?_)⟩
    rw [Str.length_append]
    exact line_le hl
  · rename_i e; cases e
    split at hp <;> cases hp
    rename_i hl
    obtain ⟨p1, vs1, e1, r1, l1, q1⟩ := a.list
    obtain ⟨p2, vs2, e2, r2, l2, q2⟩ := b.list
    have hz : vs1.length + vs2.length ≤ sizeLine := by rw [q1.len, q2.len]; exact line_le hl
    refine cat_lists pins s σ H x y v u Q I rx ry ⟨p1, p2, vs1, vs2, e1, e2, r1, r2, hz, fun p hp => q _ _ (KeepA.upd hp) (res_lst hS hp (by rw [List.length_append]; exact hz) (q1.app q2))⟩
  · rename_i e; cases e
    split at hp <;> cases hp
    rename_i hl
    obtain ⟨p1, vs1, e1, r1, l1, q1⟩ := a.tuple
    obtain ⟨p2, vs2, e2, r2, l2, q2⟩ := b.tuple
    have hz : vs1.length + vs2.length ≤ sizeLine := by rw [q1.len, q2.len]; exact line_le hl
    refine op_catA pins s σ H x y v u Q I rx ry ⟨p1, p2, vs1, vs2, e1, e2, r1.sq, r2.sq, hz, fun z => ?_, fun z z2 => ?_, fun z z2 p hp => q _ _ (KeepA.upd hp) (rep_tup hS hp (by rw [List.length_append]; exact hz) (q1.app q2))⟩
    · subst z
      cases q1
      exact q _ H (KeepA.refl H) (.tup r2 l2 q2)
    · subst z2
      cases q2
      rw [List.append_nil] at q
      exact q _ H (KeepA.refl H) (.tup r1 l1 q1)
  · cases hp

/-! ### * -/
theorem Reps.rep {K : PySem.W.Frag} {S : List Addr} {H : Hp} {vs : List V} {ds : List D} (h : Reps K H S vs ds) : ∀ n : Nat, Reps K H S (List.replicate n vs).flatten (repD ds n)
  | 0 => .nil
  | n + 1 => by
    rw [List.replicate_succ, List.flatten_cons]
    exact h.app (Reps.rep h n)
theorem repD_len {α : Type} (xs : List α) : ∀ n : Nat, (repD xs n).length = xs.length * n
  | 0 => rfl
  | n + 1 => by
    show (xs ++ repD xs n).length = _
    rw [List.length_append, repD_len xs n, Nat.mul_succ, Nat.add_comm]
theorem repD_flat {α : Type} (xs : List α) : ∀ n : Nat, repD xs n = (List.replicate n xs).flatten
  | 0 => rfl
  | n + 1 => by
    show xs ++ repD xs n = _
    rw [repD_flat xs n, List.replicate_succ, List.flatten_cons]
theorem rep_size (its : List Value) (m : Nat) : (List.foldl (fun x1 x2 => x1 ++ x2) #[] (List.replicate m its.toArray)) = (List.replicate m its).flatten.toArray := by
  have := foldl_rep its m []
  rw [List.nil_append] at this
  exact this
/-- t * k where nothing is copied: t itself -/
theorem tmul_same (l : Addr) (its : Array Value) (n : Nat) (dd : Option Addr) (sl : Array (Option Value)) (x : Int) (u : Tok) (c0 : (decide (x < -(2 ^ 63)) || decide (x ≥ 2 ^ 63)) = false) (c1 : (its.isEmpty || x == 1) = true) :
    Meets (Builtin.«tuple.__mul__» ⟨[.ref l, .int x u], []⟩) (fun _ R s => s.heap.get? l = some { cls := .type "tuple", dict := dd, data := .seq its n, slots := sl } ∧ R (.ok (.ret (Value.ref l))) s) :=
  .of_wp fun prog w A R s h => by
    obtain ⟨hp, g, d, tk, os⟩ := s
    obtain ⟨hl, h⟩ := h
    have f1 := AutoSeq1.idx_int
    wp_walk using PySem.AutoSeq1.wpAny_loadPart' hl
    repeat (first
      | (refine wpAny_ite_false (decide_eq_false (by rw [c0]; exact Bool.false_ne_true)) ?_; wp_walk using PySem.AutoSeq1.wpAny_loadPart' hl)
      | (refine wpAny_ite_true (decide_eq_true c1) ?_; wp_walk using PySem.AutoSeq1.wpAny_loadPart' hl))
    exact ⟨_, rfl, h⟩
/-- t * k, k not above 0: a new empty tuple -/
theorem tmul_none (l : Addr) (its : Array Value) (n : Nat) (dd : Option Addr) (sl : Array (Option Value)) (x : Int) (u : Tok) (c0 : (decide (x < -(2 ^ 63)) || decide (x ≥ 2 ^ 63)) = false) (c1 : (its.isEmpty || x == 1) = false) (c2 : (decide (x ≤ 0) || its.isEmpty) = true) :
    Meets (Builtin.«tuple.__mul__» ⟨[.ref l, .int x u], []⟩) (fun _ R s => s.heap.get? l = some { cls := .type "tuple", dict := dd, data := .seq its n, slots := sl } ∧
      R (.ok (.ret (Value.ref s.heap.objs.size))) { s with heap := s.heap.push { cls := Value.type "tuple", data := Data.seq #[] }, toks := s.toks }) :=
  .of_wp fun prog w A R s h => by
    obtain ⟨hp, g, d, tk, os⟩ := s
    obtain ⟨hl, h⟩ := h
    have f1 := AutoSeq1.idx_int
    wp_walk using PySem.AutoSeq1.wpAny_loadPart' hl
    repeat (first
      | (refine wpAny_ite_false (decide_eq_false (by rw [c0]; exact Bool.false_ne_true)) ?_; wp_walk using PySem.AutoSeq1.wpAny_loadPart' hl)
      | (refine wpAny_ite_false (decide_eq_false (by rw [c1]; exact Bool.false_ne_true)) ?_; wp_walk using PySem.AutoSeq1.wpAny_loadPart' hl)
      | (refine wpAny_ite_true (decide_eq_true c2) ?_; wp_walk using PySem.AutoSeq1.wpAny_loadPart' hl))
    exact ⟨_, rfl, h⟩
theorem Inv.tup1 {pins : List (Addr × Obj)} {σ : L2.St} {H : Hp} {s : Shared} {a : Addr} {xs : List V} (I : Inv X pins σ H s) (h : SqT X.K H a xs) : ∃ (its : List Value) (n : Nat) (dd : Option Addr) (sl : Array (Option Value)), Vals xs its ∧ xs.length = its.length ∧ s.heap.get? a = some { cls := .type "tuple", dict := dd, data := .seq its.toArray n, slots := sl } := by
  obtain ⟨its, r, ⟨⟨cls, dd, data, sl⟩, ho, hc, n, hd⟩, _⟩ := I.tuple h
  simp only at hc hd
  subst hc hd
  exact ⟨its, n, dd, sl, r, r.length, ho⟩
theorem smallI_of {i : Int} (h : smallI i = true) : -16777216 ≤ i ∧ i ≤ 16777216 := by
  unfold smallI at h
  rw [Bool.and_eq_true, decide_eq_true_eq, decide_eq_true_eq] at h
  exact h
theorem rep_tuples : OpR X (binaryOp .Mult) (fun x y H Q => ∃ l k xs, x = .ref l ∧ y = .int k ∧ SqT X.K H l xs ∧ smallI k = true ∧ xs.length * k.toNat ≤ sizeLine ∧ ((xs = [] ∨ k = 1) → Q (.ref l) H) ∧ ∀ p, H p = none → Q (.ref p) (upd H p (.tup (List.replicate k.toNat xs).flatten))) := by
  intro pins s σ H x y v u Q I rx ry ⟨l, k, xs, e1, e2, hT, hk, hz, q1, q2⟩
  subst e1; subst e2
  cases rx
  obtain ⟨t, rfl⟩ := ry
  obtain ⟨its, n, dd, sl, r, hl, ho⟩ := Ev.Inv.tup1 I hT
  obtain ⟨k1, k2⟩ := smallI_of hk
  have c0 : (decide (k < -(2 ^ 63)) || decide (k ≥ 2 ^ 63)) = false := by
    rw [Bool.or_eq_false_iff, decide_eq_false_iff_not, decide_eq_false_iff_not]
    omega
  by_cases h1 : xs = [] ∨ k = 1
  · have c1 : (its.toArray.isEmpty || k == 1) = true := by
      rcases h1 with h1 | h1
      · subst h1; cases r; simp
      · subst h1; simp
    exact wpAny_binaryOp_repeat_ref (T := "tuple") (U := "int") (by decide) ⟨_, ho, rfl⟩ (fun s' => typeIs_int s' k t) noFill_tuple_mul F.fills_int_mul F.slot_int_rmul repeat_tuple F.slot_int_index.lookup
      (call_meets F.slot_int_rmul (typeIs_int s k t) F.entry_int_rmul (F.args_int_rmul_2 _ _) (int_rmul_tuple k t l its.toArray n dd sl)
        ⟨ho, rfl, ⟨_, ho, rfl⟩, call_meets F.slot_tuple_mul ⟨_, ho, rfl⟩ F.entry_tuple_mul (F.args_tuple_mul_2 _ _) (tmul_same l its.toArray n dd sl k t c0 c1) ⟨ho, .ref l, H, I, rfl, q1 h1⟩⟩)
  · have hne : its ≠ [] := fun e => h1 (.inl (by subst e; cases r; rfl))
    have hi : its.toArray.isEmpty = false := by
      cases its with
      | nil => exact absurd rfl hne
      | cons a b => rfl
    have c1 : (its.toArray.isEmpty || k == 1) = false := by
      rw [hi, Bool.false_or]
      exact beq_eq_false_iff_ne.mpr fun e => h1 (.inr e)
    by_cases h2 : k ≤ 0
    · have c2 : (decide (k ≤ 0) || its.toArray.isEmpty) = true := by rw [decide_eq_true h2]; rfl
      refine wpAny_binaryOp_repeat_ref (T := "tuple") (U := "int") (by decide) ⟨_, ho, rfl⟩ (fun s' => typeIs_int s' k t) noFill_tuple_mul F.fills_int_mul F.slot_int_rmul repeat_tuple F.slot_int_index.lookup
        (call_meets F.slot_int_rmul (typeIs_int s k t) F.entry_int_rmul (F.args_int_rmul_2 _ _) (int_rmul_tuple k t l its.toArray n dd sl)
          ⟨ho, rfl, ⟨_, ho, rfl⟩, call_meets F.slot_tuple_mul ⟨_, ho, rfl⟩ F.entry_tuple_mul (F.args_tuple_mul_2 _ _) (tmul_none l its.toArray n dd sl k t c0 c1 c2) ⟨ho, ?_⟩⟩)
      have e0 : (List.replicate k.toNat xs).flatten = [] := by rw [show k.toNat = 0 by omega]; rfl
      have q3 := q2 _ I.fresh
      rw [e0] at q3
      exact ⟨.ref s.heap.objs.size, _, I.laid (t' := s.toks) (o := .tup []) (fun _ _ z => Heap.get?_push_of_some _ z) (Nat.le_refl _) ⟨Nat.zero_le _, [], .nil, IsTup.new _ _⟩, rfl, q3⟩
    · have c2 : (decide (k ≤ 0) || its.toArray.isEmpty) = false := by rw [hi, Bool.or_false]; exact decide_eq_false h2
      have hzz : xs.length * k.toNat ≤ 16777216 := by rw [sizeLine_eq] at hz; exact hz
      have hm : ((its.toArray.size : Nat) : Int) * k ≤ 16777216 := by
        have e1 : ((its.toArray.size : Nat) : Int) * k = ((xs.length * k.toNat : Nat) : Int) := by
          rw [List.size_toArray, ← hl, Int.natCast_mul, Int.toNat_of_nonneg (by omega)]
        omega
      have c4 : Builtin.Tuple.tupleTooMany (((its.toArray.size : Nat) : Int) * k) = false := by
        unfold Builtin.Tuple.tupleTooMany
        rw [sizeLine_eq]
        exact decide_eq_false (by omega)
      have flen : (List.replicate k.toNat its).flatten.length ≤ sizeLine := by
        rw [← repD_flat, repD_len, ← hl]
        exact hz
      refine wpAny_binaryOp_repeat_ref (T := "tuple") (U := "int") (by decide) ⟨_, ho, rfl⟩ (fun s' => typeIs_int s' k t) noFill_tuple_mul F.fills_int_mul F.slot_int_rmul repeat_tuple F.slot_int_index.lookup
        (call_meets F.slot_int_rmul (typeIs_int s k t) F.entry_int_rmul (F.args_int_rmul_2 _ _) (int_rmul_tuple k t l its.toArray n dd sl)
          ⟨ho, rfl, ⟨_, ho, rfl⟩, call_meets F.slot_tuple_mul ⟨_, ho, rfl⟩ F.entry_tuple_mul (F.args_tuple_mul_2 _ _) (tuple_mulW l its.toArray n dd sl k t c0 c1 c2 (by omega) c4 (by rw [rep_size, List.size_toArray]; exact flen)) ⟨ho, ?_⟩⟩)
      rw [rep_size]
      exact ⟨.ref s.heap.objs.size, _, I.laid (t' := s.toks) (o := .tup (List.replicate k.toNat xs).flatten) (fun _ _ z => Heap.get?_push_of_some _ z) (Nat.le_refl _) ⟨by rw [← repD_flat, repD_len]; exact hz, _, r.rep k.toNat, IsTup.new _ _⟩, rfl, q2 _ I.fresh⟩
theorem rep_lists : OpR X (binaryOp .Mult) (fun x y H Q => ∃ l k xs, x = .ref l ∧ y = .int k ∧ Rd H l (.lst xs) ∧ smallI k = true ∧ xs.length * k.toNat ≤ sizeLine ∧ ∀ p, H p = none → Q (.ref p) (upd H p (.lst (List.replicate k.toNat xs).flatten))) := by
  intro pins s σ H x y v u Q I rx ry ⟨l, k, xs, e1, e2, hR, hk, hz, q⟩
  subst e1; subst e2
  cases rx
  obtain ⟨t, rfl⟩ := ry
  obtain ⟨its, n, r, hl, e⟩ := Ev.Inv.rdL I hR
  obtain ⟨k1, k2⟩ := smallI_of hk
  have hlen : its.toArray.size * k.toNat ≤ sizeLine := by rw [List.size_toArray, ← hl]; exact hz
  have cap : ¬ its.toArray.size * k.toNat > (2 ^ 63 - 1) / 8 := by
    rw [sizeLine_eq] at hlen
    omega
  have fit : ¬ (!Builtin.List.listFitsIndex k) = true := by
    rw [fitsIndex_both (by omega) (by omega)]
    exact Bool.false_ne_true
  have long : ¬ Builtin.List.listTooLong (its.toArray.size * k.toNat) = true := by
    rw [notLongL hlen]
    exact Bool.false_ne_true
  have new : List.foldl (fun x1 x2 => x1 ++ x2) #[] (List.replicate (if its.toArray.isEmpty = true then 0 else k.toNat) its.toArray) = (List.replicate k.toNat its).flatten.toArray := by
    rw [rep_size]
    cases its with
    | nil => simp
    | cons a b => rw [if_neg (by simp)]
  refine wpAny_binaryOp_repeat_ref (T := "list") (U := "int") (by decide) ⟨_, e, rfl⟩ (fun s' => typeIs_int s' k t) noFill_list_mul F.fills_int_mul F.slot_int_rmul repeat_list F.slot_int_index.lookup
    (call_meets F.slot_int_rmul (typeIs_int s k t) F.entry_int_rmul (F.args_int_rmul_2 _ _) (int___rmul___int_list k t l its.toArray n)
      ⟨e, rfl, ⟨_, e, rfl⟩, call_meets F.slot_list_mul ⟨_, e, rfl⟩ F.entry_list_mul (F.args_list_mul_2 _ _) (AutoListH.list___mul___list_int_3 l its.toArray n k t fit cap long) ⟨e, ?_⟩⟩)
  rw [new]
  exact ⟨.ref _, _, I.lnew (t' := s.toks) (r.rep k.toNat) (by rw [← repD_flat, repD_len]; exact hz), rfl, q _ I.fresh⟩
theorem fold_rep (x : Array Nat) : ∀ (n : Nat) (acc : Array Nat), (List.replicate n x).foldl (· ++ ·) acc = acc ++ (repD x.toList n).toArray
  | 0, acc => by simp [repD]
  | n + 1, acc => by
    rw [List.replicate_succ, List.foldl_cons, fold_rep x n]
    show acc ++ x ++ _ = acc ++ (x.toList ++ repD x.toList n).toArray
    rw [Array.append_assoc]
    congr 1
    apply Array.toList_inj.mp
    simp
theorem rep_texts : OpR X (binaryOp .Mult) (fun x y H Q => ∃ z k, x = .str z ∧ y = .int k ∧ smallI k = true ∧ z.length * k.toNat ≤ sizeLine ∧ Q (.str ⟨(repD z.cps.toList k.toNat).toArray⟩) H) := by
  intro pins s σ H x y v u Q I rx ry ⟨z, k, e1, e2, hk, hz, q⟩
  subst e1; subst e2
  obtain ⟨t, rfl⟩ := rx
  obtain ⟨t', rfl⟩ := ry
  obtain ⟨k1, k2⟩ := smallI_of hk
  rw [sizeLine_eq] at hz
  refine P.mul_str (by rw [Bool.or_eq_false_iff, decide_eq_false_iff_not, decide_eq_false_iff_not]; omega) (fun h1 h2 => ?_) (fun h1 h2 => ?_) ?_
  · have : (2 ^ 63 - 1) / k ≥ (z.length : Int) := by
      refine Int.le_ediv_of_mul_le (by omega) ?_
      have e1 : (z.length : Int) * k = ((z.length * k.toNat : Nat) : Int) := by rw [Int.natCast_mul, Int.toNat_of_nonneg (by omega)]
      omega
    omega
  · refine decide_eq_false ?_
    rw [sizeLine_eq]
    omega
  · by_cases h1 : k < 1
    · rw [if_pos h1]
      have e0 : (⟨(repD z.cps.toList k.toNat).toArray⟩ : Str) = Str.empty := by rw [show k.toNat = 0 by omega]; rfl
      rw [e0] at q
      exact ⟨by decide, .str Str.empty, H, I.tok _, ⟨_, rfl⟩, q⟩
    · rw [if_neg h1]
      by_cases h2 : (k == 1 || z.length == 0) = true
      · rw [if_pos h2]
        have e0 : (⟨(repD z.cps.toList k.toNat).toArray⟩ : Str) = z := by
          rcases (Bool.or_eq_true _ _).mp h2 with h3 | h3
          · have : k = 1 := eq_of_beq h3
            subst this
            show (⟨(z.cps.toList ++ []).toArray⟩ : Str) = z
            simp
          · have h4 : z.cps.size = 0 := eq_of_beq h3
            have h5 : z.cps = #[] := Array.size_eq_zero_iff.mp h4
            have h6 : ∀ n, repD ([] : List Nat) n = [] := fun n => List.eq_nil_of_length_eq_zero (by rw [repD_len]; simp)
            cases z
            simp only at h5
            subst h5
            simp [h6]
        rw [e0] at q
        exact ⟨.str z, H, I, ⟨_, rfl⟩, q⟩
      · rw [if_neg h2]
        have e0 : (⟨(List.replicate k.toNat z.cps).foldl (· ++ ·) #[]⟩ : Str) = ⟨(repD z.cps.toList k.toNat).toArray⟩ := by rw [fold_rep]; simp
        rw [e0]
        refine ⟨?_, .str _, H, I.tok _, ⟨_, rfl⟩, q⟩
        show (repD z.cps.toList k.toNat).toArray.size ≤ sizeLine
        rw [List.size_toArray, repD_len, sizeLine_eq]
        exact hz
theorem o_mul : OpR X (binaryOp .Mult) (rPr2 X.K prMul) := by
  intro pins s σ H x y v u Q I rx ry ⟨S, ds, d, f, hS, ha, hp, q⟩
  cases ha with | cons a ha => cases ha with | cons b ha =>
  cases ha
  unfold prMul at hp
  split at hp
  · rename_i e; cases e
    split at hp <;> cases hp
    rename_i hc
    refine op_mul pins s σ H x y v u Q I rx ry ⟨_, _, a.int, b.int, ?_, q _ H (KeepA.refl H) (.int _)⟩
    unfold mulOk at hc
    simp only [Bool.or_eq_true, Bool.and_eq_true, decide_eq_true_eq] at hc
    exact hc
  · rename_i e; cases e
    split at hp <;> cases hp
    rename_i hc
    rw [Bool.and_eq_true] at hc
    refine rep_texts pins s σ H x y v u Q I rx ry ⟨_, _, a.str.1, b.int, hc.2, line_le hc.1, q _ H (KeepA.refl H) (.str ?_)⟩
    show (repD _ _).toArray.size ≤ sizeLine
    rw [List.size_toArray, repD_len]
    exact line_le hc.1
  · rename_i e; cases e
    split at hp <;> cases hp
    rename_i _ k hc
    rw [Bool.and_eq_true] at hc
    obtain ⟨p1, vs1, e1, r1, l1, q1⟩ := a.list
    have hz : vs1.length * k.toNat ≤ sizeLine := by rw [q1.len]; exact line_le hc.1
    refine rep_lists pins s σ H x y v u Q I rx ry ⟨p1, _, vs1, e1, b.int, r1, hc.2, hz, fun p hp => q _ _ (KeepA.upd hp) (res_lst hS hp (by rw [← repD_flat, repD_len]; exact hz) (q1.rep _))⟩
  · rename_i e; cases e
    split at hp <;> cases hp
    rename_i _ k hc
    rw [Bool.and_eq_true] at hc
    obtain ⟨p1, vs1, e1, r1, l1, q1⟩ := a.tuple
    have hz : vs1.length * k.toNat ≤ sizeLine := by rw [q1.len]; exact line_le hc.1
    refine rep_tuples pins s σ H x y v u Q I rx ry ⟨p1, _, vs1, e1, b.int, r1.sq, hc.2, hz, fun z => ?_, fun p hp => q _ _ (KeepA.upd hp) (rep_tup hS hp (by rw [← repD_flat, repD_len]; exact hz) (q1.rep _))⟩
    rcases z with z | z
    · subst z
      cases q1
      have e0 : ∀ n, repD ([] : List D) n = [] := fun n => List.eq_nil_of_length_eq_zero (by rw [repD_len]; simp)
      rw [e0] at q
      exact q _ H (KeepA.refl H) (.tup r1 l1 .nil)
    · subst z
      have e0 : ∀ xs : List D, repD xs (1 : Int).toNat = xs := fun xs => List.append_nil xs
      rw [e0] at q
      exact q _ H (KeepA.refl H) (.tup r1 l1 q1)
  · cases hp
end
end Ev

end

-- EvOrd
section
/-! Ev: the order of data, in the library's words and in ours. -/
namespace Ev
open PySem PySem.W PyProof.Rows

theorem ltN_iff : ∀ a b : List Nat, ltN a b = decide (a < b)
  | [], [] => by simp [ltN]
  | _ :: _, [] => by simp [ltN]
  | [], _ :: _ => by simp [ltN]
  | x :: a, y :: b => by
    have ih := ltN_iff a b
    unfold ltN
    by_cases h : x = y
    · subst h; rw [if_pos rfl, ih]; simp [List.cons_lt_cons_iff]
    · rw [if_neg h]; simp [List.cons_lt_cons_iff, h]
theorem row_nn : rowLt [] [] = false := lex_irrefl _
theorem row_nc (y : PyData) (ys : List PyData) : rowLt [] (y :: ys) = true := by
  unfold rowLt
  rw [toks_all_cons]
  simp only [keyToksAll]
  rw [lex_diff (O := itemOrd) (by simp)]
  rfl
theorem row_cn (y : PyData) (ys : List PyData) : rowLt (y :: ys) [] = false := by
  unfold rowLt
  rw [toks_all_cons]
  simp only [keyToksAll]
  rw [lex_diff (O := itemOrd) (by simp)]
  rfl
theorem row_cc {x y : PyData} (h : alike x y = true) (xs ys : List PyData) : rowLt (x :: xs) (y :: ys) = if PyData.eqv x y = true then rowLt xs ys else dataLt x y := dataLt_cons h xs ys
mutual
theorem dataLt_ltD : ∀ x y : D, alike x y = true → dataLt x y = ltD x y
  | .none, .none, _ => by
    rw [show dataLt .none .none = false from lex_irrefl _]
    rfl
  | .int a, .int b, _ => by rw [dataLt_int]; rfl
  | .bool a, .bool b, _ => by rw [dataLt_bool]; cases a <;> cases b <;> rfl
  | .str a, .str b, _ => by rw [dataLt_str]; exact (ltN_iff _ _).symm
  | .tuple xs, .tuple ys, h => by rw [dataLt_tuple]; exact rowLt_ltDs xs ys (by simpa [alike] using h)
  | .list xs, .list ys, h => by rw [dataLt_list]; exact rowLt_ltDs xs ys (by simpa [alike] using h)
  | .none, .bool _, h => by simp [alike] at h
  | .none, .int _, h => by simp [alike] at h
  | .none, .str _, h => by simp [alike] at h
  | .none, .tuple _, h => by simp [alike] at h
  | .none, .list _, h => by simp [alike] at h
  | .none, .dict _, h => by simp [alike] at h
  | .bool _, .none, h => by simp [alike] at h
  | .bool _, .int _, h => by simp [alike] at h
  | .bool _, .str _, h => by simp [alike] at h
  | .bool _, .tuple _, h => by simp [alike] at h
  | .bool _, .list _, h => by simp [alike] at h
  | .bool _, .dict _, h => by simp [alike] at h
  | .int _, .none, h => by simp [alike] at h
  | .int _, .bool _, h => by simp [alike] at h
  | .int _, .str _, h => by simp [alike] at h
  | .int _, .tuple _, h => by simp [alike] at h
  | .int _, .list _, h => by simp [alike] at h
  | .int _, .dict _, h => by simp [alike] at h
  | .str _, .none, h => by simp [alike] at h
  | .str _, .bool _, h => by simp [alike] at h
  | .str _, .int _, h => by simp [alike] at h
  | .str _, .tuple _, h => by simp [alike] at h
  | .str _, .list _, h => by simp [alike] at h
  | .str _, .dict _, h => by simp [alike] at h
  | .tuple _, .none, h => by simp [alike] at h
  | .tuple _, .bool _, h => by simp [alike] at h
  | .tuple _, .int _, h => by simp [alike] at h
  | .tuple _, .str _, h => by simp [alike] at h
  | .tuple _, .list _, h => by simp [alike] at h
  | .tuple _, .dict _, h => by simp [alike] at h
  | .list _, .none, h => by simp [alike] at h
  | .list _, .bool _, h => by simp [alike] at h
  | .list _, .int _, h => by simp [alike] at h
  | .list _, .str _, h => by simp [alike] at h
  | .list _, .tuple _, h => by simp [alike] at h
  | .list _, .dict _, h => by simp [alike] at h
  | .dict _, _, h => by simp [alike] at h
theorem rowLt_ltDs : ∀ xs ys : List D, alikeAll xs ys = true → rowLt xs ys = ltDs xs ys
  | [], [], _ => row_nn
  | [], y :: ys, _ => row_nc y ys
  | x :: xs, [], _ => row_cn x xs
  | x :: xs, y :: ys, h => by
    rw [alikeAll, Bool.and_eq_true] at h
    rw [row_cc h.1, dataLt_ltD x y h.1, rowLt_ltDs xs ys h.2, ltDs]
end
theorem alike_comm {x y : D} (h : alike x y = true) : alike y x = true := by
  have key : ∀ n, ∀ x y : D, sizeOf x ≤ n → alike x y = true → alike y x = true := by
    intro n
    induction n with
    | zero => intro x y hn; cases x <;> simp at hn
    | succ n ih =>
      have all : ∀ xs ys : List D, sizeOf xs ≤ n → alikeAll xs ys = true → alikeAll ys xs = true := by
        intro xs
        induction xs with
        | nil => intro ys _ _; cases ys <;> simp [alikeAll]
        | cons a l ih2 =>
          intro ys hn h
          cases ys with
          | nil => simp [alikeAll]
          | cons b m =>
            simp only [alikeAll, Bool.and_eq_true] at h ⊢
            simp only [List.cons.sizeOf_spec] at hn
            exact ⟨ih a b (by omega) h.1, ih2 m (by omega) h.2⟩
      intro x y hn h
      cases x <;> cases y <;> first | (exfalso; simp [alike] at h; done) | (simp only [alike]; done) | (simp only [alike] at h ⊢; simp only [PyData.list.sizeOf_spec, PyData.tuple.sizeOf_spec] at hn; exact all _ _ (by omega) h)
  exact key _ x y (Nat.le_refl _) h
/-- what is alike another has no dict -/
theorem alike_plain {x y : D} (h : alike x y = true) (hx : x.plain = true) : True := trivial

/-! ### sorting -/
theorem dataLe_id (x y : D) : dataLe false id x y = !dataLt y x := rfl
theorem insD_perm (x : D) : ∀ l : List D, (insD x l).Perm (x :: l)
  | [] => List.Perm.refl _
  | y :: l => by
    unfold insD
    split
    · exact ((insD_perm x l).cons y).trans (List.Perm.swap x y l)
    · exact List.Perm.refl _
theorem sortD_perm : ∀ l : List D, (sortD l).Perm l
  | [] => List.Perm.refl _
  | x :: l => (insD_perm x (sortD l)).trans ((sortD_perm l).cons x)
theorem sortD_mem {l : List D} {x : D} : x ∈ sortD l ↔ x ∈ l := (sortD_perm l).mem_iff
theorem sortD_length (l : List D) : (sortD l).length = l.length := (sortD_perm l).length_eq

/-- an item put before those that are not less, in a sorted list, is a stable sort's -/
theorem insD_sort {x : D} {l : List D} (hall : ∀ a ∈ x :: l, ∀ b ∈ x :: l, alike a b = true) : insD x (l.mergeSort (dataLe false id)) = (x :: l).mergeSort (dataLe false id) := by
  have T := sortLe_total (listOrd itemOrd) false (fun b : D => keyToks b)
  have T' : TotalLe (dataLe false (id : D → D)) := T
  refine sort_unique T' ?_ fun c => ?_
  · have hp := sort_pairwise T' l
    have hm : ∀ a ∈ l.mergeSort (dataLe false id), a ∈ l := fun a h => List.mem_mergeSort.mp h
    generalize l.mergeSort (dataLe false id) = m at hp hm
    induction m with
    | nil => simp [insD]
    | cons y m ih =>
      unfold insD
      have hy : y ∈ l := hm y List.mem_cons_self
      have e : ltD y x = dataLt y x := (dataLt_ltD y x (hall y (List.mem_cons_of_mem _ hy) x List.mem_cons_self)).symm
      rw [List.pairwise_cons] at hp
      split
      · rename_i hlt
        rw [List.pairwise_cons]
        refine ⟨fun b hb => ?_, ih hp.2 fun a ha => hm a (List.mem_cons_of_mem _ ha)⟩
        rcases List.mem_cons.mp ((insD_perm x m).mem_iff.mp hb) with rfl | hb
        · have h1 := T'.total y b
          rcases h1 with h1 | h1
          · exact h1
          · rw [dataLe_id, ← e, hlt] at h1; exact absurd h1 (by simp)
        · exact hp.1 b hb
      · rename_i hlt
        have hxy : dataLe false id x y = true := by
          rw [dataLe_id, ← e]
          simpa using hlt
        rw [List.pairwise_cons]
        refine ⟨fun b hb => ?_, List.pairwise_cons.mpr hp⟩
        rcases List.mem_cons.mp hb with rfl | hb
        · exact hxy
        · exact T'.trans x y b hxy (hp.1 b hb)
  · have hst := sort_stable T' l c
    have hm : ∀ a ∈ l.mergeSort (dataLe false id), a ∈ l := fun a h => List.mem_mergeSort.mp h
    have key : ∀ m : List D, (∀ a ∈ m, a ∈ l) → (insD x m).filter (sameRank (dataLe false id) c) = (x :: m).filter (sameRank (dataLe false id) c) := by
      intro m hm
      induction m with
      | nil => rfl
      | cons y m ih =>
        unfold insD
        split
        · rename_i hlt
          have hy : y ∈ l := hm y List.mem_cons_self
          have e : ltD y x = dataLt y x := (dataLt_ltD y x (hall y (List.mem_cons_of_mem _ hy) x List.mem_cons_self)).symm
          rw [List.filter_cons, ih fun a ha => hm a (List.mem_cons_of_mem _ ha)]
          have hxy : dataLe false id x y = false := by rw [dataLe_id, ← e, hlt]; rfl
          -- x and y have not the same rank both
          have no : ¬ (sameRank (dataLe false id) c x = true ∧ sameRank (dataLe false id) c y = true) := by
            rintro ⟨h1, h2⟩
            simp only [sameRank, Bool.and_eq_true] at h1 h2
            have := T'.trans x c y (by first | exact h1.2 | exact h1.1) (by first | exact h2.1 | exact h2.2)
            rw [hxy] at this
            cases this
          rw [List.filter_cons (x := x), List.filter_cons (x := x), List.filter_cons (x := y)]
          cases h1 : sameRank (dataLe false id) c x <;> cases h2 : sameRank (dataLe false id) c y <;> simp [h1, h2] at no ⊢
        · rfl
    rw [key _ hm, List.filter_cons, hst, List.filter_cons]
theorem sortD_merge : ∀ l : List D, (∀ a ∈ l, ∀ b ∈ l, alike a b = true) → sortD l = l.mergeSort (dataLe false id)
  | [], _ => by simp [sortD]
  | x :: l, h => by
    unfold sortD
    rw [sortD_merge l fun a ha b hb => h a (List.mem_cons_of_mem _ ha) b (List.mem_cons_of_mem _ hb)]
    exact insD_sort h

/-! ### the least and the greatest -/
theorem fold_mem (f : D → D → Bool) : ∀ (xs : List D) (x : D), (xs.foldl (fun a y => if f y a then y else a) x) ∈ x :: xs
  | [], x => by simp
  | y :: ys, x => by
    rw [List.foldl_cons]
    rcases List.mem_cons.mp (fold_mem f ys (if f y x then y else x)) with h | h
    · rw [h]; split <;> simp
    · exact List.mem_cons_of_mem _ (List.mem_cons_of_mem _ h)
theorem minD_minDs {x : D} {xs : List D} (h : ∀ a ∈ x :: xs, ∀ b ∈ x :: xs, alike a b = true) : minDs (x :: xs) = some (minD x xs) := by
  show some _ = some _
  congr 1
  unfold minD
  induction xs generalizing x with
  | nil => rfl
  | cons y ys ih =>
    have e : dataLt y x = ltD y x := dataLt_ltD y x (h y (by simp) x (by simp))
    rw [List.foldl_cons, List.foldl_cons, e]
    refine ih fun a ha b hb => h a ?_ b ?_
    · rcases List.mem_cons.mp ha with rfl | ha
      · split <;> simp
      · simp [ha]
    · rcases List.mem_cons.mp hb with rfl | hb
      · split <;> simp
      · simp [hb]
theorem maxD_maxDs {x : D} {xs : List D} (h : ∀ a ∈ x :: xs, ∀ b ∈ x :: xs, alike a b = true) : maxDs (x :: xs) = some (maxD x xs) := by
  show some _ = some _
  congr 1
  unfold maxD
  induction xs generalizing x with
  | nil => rfl
  | cons y ys ih =>
    have e : dataLt x y = ltD x y := dataLt_ltD x y (h x (by simp) y (by simp))
    rw [List.foldl_cons, List.foldl_cons, e]
    refine ih fun a ha b hb => h a ?_ b ?_
    · rcases List.mem_cons.mp ha with rfl | ha
      · split <;> simp
      · simp [ha]
    · rcases List.mem_cons.mp hb with rfl | hb
      · split <;> simp
      · simp [hb]
end Ev

end

-- EvDict
section
/-! Ev: dicts of ours: what they hold at a key. -/
namespace Ev
open PySem PySem.Spec PyProof.Rows L2

theorem eqK_key (k k' : Key) : eqK (keyD k') (keyD k) = decide (k' = k) := by
  cases k <;> cases k'
  · rename_i a b; show (b == a) = _; by_cases h : b = a <;> simp [h]
  · rfl
  · rfl
  · rename_i a b; show (b == a) = _; by_cases h : b = a <;> simp [h]
theorem eqK0_key (k k' : Key) : eqK0 (keyD k') (keyD k) = decide (k' = k) := by
  cases k <;> cases k'
  · rename_i a b; show (b == a) = _; by_cases h : b = a <;> simp [h]
  · rfl
  · rfl
  · rename_i a b; show (b == a) = _; by_cases h : b = a <;> simp [h]
theorem eqKs_keys : ∀ ks ks' : List Key, eqKs (ks'.map keyD) (ks.map keyD) = decide (ks' = ks)
  | [], [] => rfl
  | [], _ :: _ => rfl
  | _ :: _, [] => rfl
  | k :: ks, k' :: ks' => by
    rw [List.map_cons, List.map_cons, eqKs, eqK0_key, eqKs_keys ks ks']
    by_cases h1 : k' = k <;> by_cases h2 : ks' = ks <;> simp [h1, h2]
theorem eqK_tkey (k k' : List Key) : eqK (tkeyD k') (tkeyD k) = decide (k' = k) := eqKs_keys k k'
theorem keyD_atom (k : Key) : isTupD (keyD k) = false := by cases k <;> rfl

section
variable {κ : Type} [DecidableEq κ] {toD : κ → D} (hD : ∀ k k', eqK (toD k') (toD k) = decide (k' = k)) {K : PySem.W.Frag} {S : List Addr} {H : Hp}
include hD
/-- what a dict of ours holds at k -/
theorem dGet_val : ∀ {kvs : List (κ × V)} {es : List D} (k : κ), Reps K H S (kvs.map Prod.snd) es → (∀ v, valV kvs k = some v → ∃ d, dGet (toD k) ((kvs.map fun p => toD p.1).zip es) = some d ∧ Rep K H S v d) ∧ (valV kvs k = none → dGet (toD k) ((kvs.map fun p => toD p.1).zip es) = none)
  | [], _, k, h => by
    refine ⟨fun v e => by simp [valV] at e, fun _ => rfl⟩
  | (k', v') :: kvs, _, k, h => by
    cases h with
    | cons h1 h2 =>
      obtain ⟨i1, i2⟩ := dGet_val k h2
      have e1 : eqK (toD k') (toD k) = decide (k' = k) := hD k k'
      by_cases hk : k' = k
      · subst hk
        refine ⟨fun v e => ?_, fun e => ?_⟩
        · have e' : v' = v := by simpa [valV] using e
          subst e'
          exact ⟨_, by simp [dGet, e1], h1⟩
        · simp [valV] at e
      · have e2 : valV ((k', v') :: kvs) k = valV kvs k := by simp [valV, hk]
        refine ⟨fun v e => ?_, fun e => ?_⟩
        · obtain ⟨d, q1, q2⟩ := i1 v (e2 ▸ e)
          exact ⟨d, by simpa [dGet, e1, hk] using q1, q2⟩
        · have := i2 (e2 ▸ e)
          simpa [dGet, e1, hk] using this
theorem any_val : ∀ {kvs : List (κ × V)} {es : List D} (k : κ), Reps K H S (kvs.map Prod.snd) es → (((kvs.map fun p => toD p.1).zip es).any fun p => eqK p.1 (toD k)) = (valV kvs k).isSome
  | [], _, k, h => by simp [valV]
  | (k', v') :: kvs, _, k, h => by
    cases h with
    | cons h1 h2 =>
      have e1 : eqK (toD k') (toD k) = decide (k' = k) := hD k k'
      have ih := any_val k h2
      rw [List.map_cons, List.zip_cons_cons, List.any_cons, ih]
      by_cases hk : k' = k
      · rw [e1, hk]; simp [valV]
      · simp [e1, hk, valV]
theorem put_map {v : V} {d : D} (hv : Rep K H S v d) (k : κ) : ∀ {kvs : List (κ × V)} {es : List D}, Reps K H S (kvs.map Prod.snd) es → ∃ es', Reps K H S ((kvs.map fun kv => if kv.1 = k then (kv.1, v) else kv).map Prod.snd) es' ∧
    ((kvs.map fun p => toD p.1).zip es).map (fun p => if eqK p.1 (toD k) then (p.1, d) else p) = ((kvs.map fun kv => if kv.1 = k then (kv.1, v) else kv).map fun p => toD p.1).zip es'
  | [], _, h => by cases h; exact ⟨[], .nil, rfl⟩
  | (k', v') :: kvs, e :: es, h => by
    cases h with
    | cons h1 h2 =>
      obtain ⟨es', i1, i2⟩ := put_map hv k h2
      have e1 : eqK (toD k') (toD k) = decide (k' = k) := hD k k'
      by_cases hk : k' = k
      · subst hk
        refine ⟨d :: es', ?_, ?_⟩
        · rw [List.map_cons, if_pos rfl, List.map_cons]; exact .cons hv i1
        · rw [List.map_cons, List.zip_cons_cons, List.map_cons, i2, List.map_cons, if_pos rfl, List.map_cons, List.zip_cons_cons]
          simp [e1]
      · refine ⟨e :: es', ?_, ?_⟩
        · rw [List.map_cons, if_neg hk, List.map_cons]; exact .cons h1 i1
        · rw [List.map_cons, List.zip_cons_cons, List.map_cons, i2, List.map_cons, if_neg hk, List.map_cons, List.zip_cons_cons]
          simp [e1, hk]
/-- what a put leaves -/
theorem dPut_val {v : V} {d : D} (hv : Rep K H S v d) (k : κ) {kvs : List (κ × V)} {es : List D} (h : Reps K H S (kvs.map Prod.snd) es) : ∃ es', Reps K H S ((putK kvs k v).map Prod.snd) es' ∧ dPut (toD k) d ((kvs.map fun p => toD p.1).zip es) = ((putK kvs k v).map fun p => toD p.1).zip es' := by
  unfold dPut putK
  rw [any_val hD k h, valV_any]
  by_cases c : (valV kvs k).isSome = true
  · rw [if_pos c, if_pos c]
    exact put_map hD hv k h
  · rw [if_neg c, if_neg c]
    have hl : kvs.length = es.length := by rw [← h.len, List.length_map]
    refine ⟨es ++ [d], ?_, ?_⟩
    · rw [List.map_append]; exact h.app (.one hv)
    · rw [List.map_append, List.zip_append (by rw [List.length_map]; exact hl)]
      rfl
end
theorem dGet_none (k : D) : ∀ kvs : List (D × D), (kvs.any fun p => eqK p.1 k) = (dGet k kvs).isSome
  | [] => rfl
  | (k', v) :: r => by
    rw [List.any_cons, dGet_none k r]
    show _ = (if eqK k' k then some v else dGet k r).isSome
    by_cases h : eqK k' k = true
    · rw [if_pos h]; simp [h]
    · rw [if_neg h]; simp [h]

/-- a dict's object, by its data -/
def DictR (K : PySem.W.Frag) (H : Hp) (S : List Addr) (a : Addr) (kv : List (D × D)) : Prop :=
  (∃ kvs es, Rd H a (.dK kvs) ∧ DkOk kvs ∧ Reps K H S (kvs.map Prod.snd) es ∧ kv = (kvs.map fun p => keyD p.1).zip es) ∨
  ∃ kvs es, Rd H a (.dT kvs) ∧ DtOk kvs ∧ Reps K H S (kvs.map Prod.snd) es ∧ kv = (kvs.map fun p => tkeyD p.1).zip es
theorem ArgR.dict {K : PySem.W.Frag} {S : List Addr} {H : Hp} {v : V} {kv : List (D × D)} (h : ArgR K H S v (.dict kv)) : ∃ a, v = .ref a ∧ DictR K H S a kv := by
  rcases h with h | ⟨p, e, _, h⟩
  · cases h with
    | dK _ r l q e => exact ⟨_, rfl, .inl ⟨_, _, r, l, q, e⟩⟩
    | dT _ r l q e => exact ⟨_, rfl, .inr ⟨_, _, r, l, q, e⟩⟩
  · cases h with
    | dK r l q e' => exact ⟨_, e, .inl ⟨_, _, r, l, q, e'⟩⟩
    | dT r l q e' => exact ⟨_, e, .inr ⟨_, _, r, l, q, e'⟩⟩
/-- a key as the dict takes it -/
inductive KeyR (H : Hp) : V → D → Prop
  | k (k : Key) : (∀ x, k = .inr x → x.length ≤ sizeLine) → KeyR H (kV k) (keyD k)
  | t (b : Addr) (k : List Key) : H b = some (.tup (k.map kV)) → isC (tkeyD k) = false → k.length ≤ sizeLine → (∀ x, Sum.inr x ∈ k → x.length ≤ sizeLine) → KeyR H (.ref b) (tkeyD k)
theorem keys_of {K : PySem.W.Frag} {H : Hp} {S : List Addr} : ∀ {vs : List V} {ds : List D}, Reps K H S vs ds → ds.all keyOk0 = true → ∃ ks : List Key, vs = ks.map kV ∧ ds = ks.map keyD ∧ ∀ x, Sum.inr x ∈ ks → x.length ≤ sizeLine
  | _, _, .nil, _ => ⟨[], rfl, rfl, fun x h => by simp at h⟩
  | _, d :: ds, .cons a r, h => by
    rw [List.all_cons, Bool.and_eq_true] at h
    obtain ⟨ks, e1, e2, e3⟩ := keys_of r h.2
    have h1 := h.1
    unfold keyOk0 at h1
    split at h1
    · cases a
      rename_i i
      exact ⟨.inl i :: ks, by rw [e1]; rfl, by rw [e2]; rfl, fun x hx => by
        rcases List.mem_cons.mp hx with hx | hx
        · cases hx
        · exact e3 x hx⟩
    · cases a
      rename_i z hz
      exact ⟨.inr z :: ks, by rw [e1]; rfl, by rw [e2]; rfl, fun x hx => by
        rcases List.mem_cons.mp hx with hx | hx
        · cases hx; exact hz
        · exact e3 x hx⟩
    · cases h1
theorem key_of_arg {K : PySem.W.Frag} {S : List Addr} {H : Hp} {v : V} {d : D} (h : ArgR K H S v d) (hk : keyOk d = true) : KeyR H v d := by
  unfold keyOk at hk
  split at hk
  · rw [h.int]; exact .k (.inl _) (fun x e => by cases e)
  · have := h.str
    rw [this.1]; exact .k (.inr _) (fun x e => by cases e; exact this.2)
  · rename_i xs
    rw [Bool.and_eq_true] at hk
    obtain ⟨a, vs, e1, r1, l1, q1⟩ := h.tuple
    have hc : isC (.tuple xs) = false := by simpa using hk.2
    obtain ⟨ks, e2, e3, e4⟩ := keys_of q1 hk.1
    subst e1; subst e2; subst e3
    exact .t a ks (r1.own hc) hc (by rw [List.length_map] at l1; exact l1) e4
  · cases hk
theorem zip_ne {α β : Type} {xs : List α} {ys : List β} (hl : xs.length = ys.length) (h : xs ≠ []) : xs.zip ys ≠ [] := fun e => by
  cases xs with
  | nil => exact h rfl
  | cons a l =>
    cases ys with
    | nil => simp at hl
    | cons b m => simp at e
/-- the dict looked at with a key that fits: what DGet says; or a tuple, and the dict is empty -/
theorem dict_get {K : PySem.W.Frag} {S : List Addr} {H : Hp} {a : Addr} {kv : List (D × D)} {y : V} {d : D} (h : DictR K H S a kv) (hk : KeyR H y d) (fit : keyFits d kv = true) :
    (∃ o, DGet H a y o ∧ (∀ v, o = some v → ∃ dv, dGet d kv = some dv ∧ Rep K H S v dv) ∧ (o = none → dGet d kv = none)) ∨ (Rd H a (.dK []) ∧ kv = [] ∧ ∃ (b : Addr) (k : List Key), y = .ref b ∧ H b = some (.tup (k.map kV))) := by
  unfold keyFits at fit
  rw [Bool.and_eq_true] at fit
  have kinds := List.all_eq_true.mp fit.2
  rcases h with ⟨kvs, es, r, l, q, e⟩ | ⟨kvs, es, r, l, q, e⟩
  · cases hk with
    | k k _ =>
      obtain ⟨g1, g2⟩ := dGet_val eqK_key k q
      subst e
      exact .inl ⟨valV kvs k, .inl ⟨kvs, k, r, rfl, rfl⟩, g1, g2⟩
    | t b k hb _ _ _ =>
      cases kvs with
      | nil => exact .inr ⟨r, (by rw [e]; rfl), b, k, rfl, hb⟩
      | cons p kvs =>
        cases q with
        | cons q1 q2 =>
          have := kinds (keyD p.1, _) (by rw [e]; exact List.mem_cons_self)
          rw [keyD_atom] at this
          exact absurd this (by simp [tkeyD, isTupD])
  · cases hk with
    | k k _ =>
      cases kvs with
      | nil => exact absurd rfl l.2.1
      | cons p kvs =>
        cases q with
        | cons q1 q2 =>
          have := kinds (tkeyD p.1, _) (by rw [e]; exact List.mem_cons_self)
          rw [keyD_atom] at this
          exact absurd this (by simp [tkeyD, isTupD])
    | t b k hb _ _ _ =>
      obtain ⟨g1, g2⟩ := dGet_val eqK_tkey k q
      subst e
      exact .inl ⟨valV kvs k, .inr ⟨kvs, k, b, r, rfl, hb, rfl⟩, g1, g2⟩
section
variable {X : Cx} {pins : List (Addr × Obj)} {σ : L2.St} {H : Hp} {s : Shared} {a : Addr}
/-- an empty dict serves for tuples, too -/
theorem dofH_nil {P : Program} {w : World} {h : Heap} (d : h.DictOf (mixKind P w) a []) : h.DictOfH (tupleKind (mixKind P w)) a [] := by
  obtain ⟨o, es, ep, h1, h2, h3, h4, h5, h6⟩ := d
  refine ⟨o, es, ep, h1, h2, h3, ?_, fun x hx => by simp at hx, by simp⟩
  cases e : es.toList with
  | nil => rfl
  | cons x xs => rw [e] at h5; cases h5
theorem inv_nil (I : L2.Inv X pins σ H s) (h : Rd H a (.dK [])) : (a == sysModules) = false ∧ s.heap.DictOfH (tupleKind (mixKind X.prog X.w)) a [] := by
  obtain ⟨_, hd, vs, rel, dd⟩ := dk_rd I.hok h
  cases rel
  exact ⟨hd, dofH_nil dd⟩
end
end Ev

end

-- EvPrB
section
/-! Ev: the primitives' rules, second part: comparisons, membership. -/
namespace Ev
open PySem PySem.Spec PyProof.Rows L2

theorem memD_any (x : D) : ∀ ys : List D, memD x ys = ys.any fun y => PyData.eqv y x
  | [] => rfl
  | y :: ys => by rw [memD, memD_any x ys, List.any_cons]
theorem okD_of {d : D} (h : okD d = true) : d.plain = true ∧ d.depth ≤ 64 := by
  unfold okD at h
  rw [Bool.and_eq_true, decide_eq_true_eq] at h
  exact h
theorem okDs_of {d : List D} (h : okDs d = true) : PyData.plainAll d = true ∧ PyData.depthAll d ≤ 64 := by
  unfold okDs at h
  rw [Bool.and_eq_true, decide_eq_true_eq] at h
  exact h

section
variable {X : Cx}
theorem plain_list {xs : List D} (h : PyData.plainAll xs = true) : PyData.plain (.list xs) = true := by rw [PyData.plain]; exact h
theorem plain_tuple {xs : List D} (h : PyData.plainAll xs = true) : PyData.plain (.tuple xs) = true := by rw [PyData.plain]; exact h

/-! ### ==, < -/
theorem c_eq (hu : X.A.units + 100 < cLine) : OpR X (compareOp .Eq) (rPr2 X.K prEq) := by
  intro pins s σ H x y v u Q I rx ry ⟨S, ds, d, f, hS, ha, hp, q⟩
  cases ha with | cons a ha => cases ha with | cons b ha =>
  cases ha
  rename_i dx dy
  have hp' : (eqD dx dy).map (fun b => ((.bool b : D), false)) = some (d, f) := hp
  unfold eqD at hp'
  split at hp'
  · rename_i hc
    rw [Bool.and_eq_true] at hc
    obtain ⟨p1, l1⟩ := okD_of hc.1
    obtain ⟨p2, l2⟩ := okD_of hc.2
    cases hp'
    obtain ⟨as, r1⟩ := a.reads I hS rx p1
    obtain ⟨bs, r2⟩ := b.reads I hS ry p2
    exact SeqAt.eq_plain r1 r2 p1 p2 (by have := Nat.min_le_left dx.depth dy.depth; omega) ⟨.bl _, H, I, rfl, q _ H (KeepA.refl H) (.bl _)⟩
  · cases hp'
theorem c_ne (hu : X.A.units + 100 < cLine) : OpR X (compareOp .NotEq) (rPr2 X.K prNe) := by
  intro pins s σ H x y v u Q I rx ry ⟨S, ds, d, f, hS, ha, hp, q⟩
  cases ha with | cons a ha => cases ha with | cons b ha =>
  cases ha
  rename_i dx dy
  have hp' : (eqD dx dy).map (fun b => ((.bool (!b) : D), false)) = some (d, f) := hp
  unfold eqD at hp'
  split at hp'
  · rename_i hc
    rw [Bool.and_eq_true] at hc
    obtain ⟨p1, l1⟩ := okD_of hc.1
    obtain ⟨p2, l2⟩ := okD_of hc.2
    cases hp'
    obtain ⟨as, r1⟩ := a.reads I hS rx p1
    obtain ⟨bs, r2⟩ := b.reads I hS ry p2
    exact SeqAt.ne_plain r1 r2 p1 p2 (by have := Nat.min_le_left dx.depth dy.depth; omega) ⟨.bl _, H, I, rfl, q _ H (KeepA.refl H) (.bl _)⟩
  · cases hp'
theorem cmpOk_of {x y : D} (h : cmpOk x y = true) : W.alike x y = true ∧ x ≠ .none ∧ x.depth ≤ 64 ∧ x.plain = true ∧ y.plain = true := by
  unfold cmpOk at h
  simp only [Bool.and_eq_true, decide_eq_true_eq] at h
  obtain ⟨⟨⟨⟨h1, p1⟩, p2⟩, h2⟩, h3⟩ := h
  exact ⟨h1, fun e => by rw [e] at h2; simp at h2, h3, p1, p2⟩
theorem c_lt (hu : X.A.units + 100 < cLine) : OpR X (compareOp .Lt) (rPr2 X.K prLt) := by
  intro pins s σ H x y v u Q I rx ry ⟨S, ds, d, f, hS, ha, hp, q⟩
  cases ha with | cons a ha => cases ha with | cons b ha =>
  cases ha
  rename_i dx dy
  have hp' : (if cmpOk dx dy then some ((.bool (ltD dx dy) : D), false) else none) = some (d, f) := hp
  split at hp'
  · rename_i hc
    obtain ⟨h1, h2, h3, p1, p2⟩ := cmpOk_of hc
    cases hp'
    obtain ⟨as, r1⟩ := a.reads I hS rx p1
    obtain ⟨bs, r2⟩ := b.reads I hS ry p2
    refine W.lt_data r1 r2 h1 h2 (by have := Nat.min_le_left dx.depth dy.depth; omega) ?_
    rw [dataLt_ltD _ _ h1]
    exact ⟨.bl _, H, I, rfl, q _ H (KeepA.refl H) (.bl _)⟩
  · cases hp'
theorem c_gt (hu : X.A.units + 100 < cLine) : OpR X (compareOp .Gt) (rPr2 X.K prGt) := by
  intro pins s σ H x y v u Q I rx ry ⟨S, ds, d, f, hS, ha, hp, q⟩
  cases ha with | cons a ha => cases ha with | cons b ha =>
  cases ha
  rename_i dx dy
  have hp' : (if cmpOk dx dy then some ((.bool (ltD dy dx) : D), false) else none) = some (d, f) := hp
  split at hp'
  · rename_i hc
    obtain ⟨h1, h2, h3, p1, p2⟩ := cmpOk_of hc
    cases hp'
    obtain ⟨as, r1⟩ := a.reads I hS rx p1
    obtain ⟨bs, r2⟩ := b.reads I hS ry p2
    refine W.gt_data r1 r2 h1 h2 (by have := Nat.min_le_left dx.depth dy.depth; omega) ?_
    rw [dataLt_ltD _ _ (alike_comm h1)]
    exact ⟨.bl _, H, I, rfl, q _ H (KeepA.refl H) (.bl _)⟩
  · cases hp'
theorem c_le (hu : X.A.units + 100 < cLine) : OpR X (compareOp .LtE) (rPr2 X.K prLe) := by
  intro pins s σ H x y v u Q I rx ry ⟨S, ds, d, f, hS, ha, hp, q⟩
  cases ha with | cons a ha => cases ha with | cons b ha =>
  cases ha
  rename_i dx dy
  have hp' : (if cmpOk dx dy then some ((.bool (!ltD dy dx) : D), false) else none) = some (d, f) := hp
  split at hp'
  · rename_i hc
    obtain ⟨h1, h2, h3, p1, p2⟩ := cmpOk_of hc
    cases hp'
    obtain ⟨as, r1⟩ := a.reads I hS rx p1
    obtain ⟨bs, r2⟩ := b.reads I hS ry p2
    refine W.le_data r1 r2 h1 h2 (by have := Nat.min_le_left dx.depth dy.depth; omega) ?_
    rw [dataLt_ltD _ _ (alike_comm h1)]
    exact ⟨.bl _, H, I, rfl, q _ H (KeepA.refl H) (.bl _)⟩
  · cases hp'
theorem c_ge (hu : X.A.units + 100 < cLine) : OpR X (compareOp .GtE) (rPr2 X.K prGe) := by
  intro pins s σ H x y v u Q I rx ry ⟨S, ds, d, f, hS, ha, hp, q⟩
  cases ha with | cons a ha => cases ha with | cons b ha =>
  cases ha
  rename_i dx dy
  have hp' : (if cmpOk dx dy then some ((.bool (!ltD dx dy) : D), false) else none) = some (d, f) := hp
  split at hp'
  · rename_i hc
    obtain ⟨h1, h2, h3, p1, p2⟩ := cmpOk_of hc
    cases hp'
    obtain ⟨as, r1⟩ := a.reads I hS rx p1
    obtain ⟨bs, r2⟩ := b.reads I hS ry p2
    refine W.ge_data r1 r2 h1 h2 (by have := Nat.min_le_left dx.depth dy.depth; omega) ?_
    rw [dataLt_ltD _ _ h1]
    exact ⟨.bl _, H, I, rfl, q _ H (KeepA.refl H) (.bl _)⟩
  · cases hp'

/-! ### in -/
theorem sign_of {c x : Str} {b : Bool} (h : signIn c x = some b) : ∃ n, c = ⟨#[n]⟩ ∧ b = decide (n ∈ x.cps.toList) := by
  unfold signIn at h
  split at h
  · rename_i k e
    cases h
    refine ⟨k, ?_, by simp⟩
    cases c with
    | mk cps =>
      simp only at e
      congr 1
      exact Array.toList_inj.mp (by simpa using e)
  · cases h
theorem c_in_gen (hu : X.A.units + 100 < cLine) {neg : Bool} {op : CmpOp} (hop : op = if neg then .NotIn else .In) : OpR X (compareOp op) (rPr2 X.K (if neg then prNotIn else prIsIn)) := by
  intro pins s σ H x y v u Q I rx ry ⟨S, ds, d, f, hS, ha, hp, q⟩
  cases ha with | cons a ha => cases ha with | cons b ha =>
  cases ha
  rename_i dx dy
  have hp' : (inD dx dy).map (fun b => ((.bool (if neg then !b else b) : D), false)) = some (d, f) := by
    cases neg
    · exact hp
    · exact hp
  have hf : f = false ∧ ∃ b, inD dx dy = some b ∧ d = .bool (if neg then !b else b) := by
    cases e : inD dx dy with
    | none => rw [e] at hp'; cases hp'
    | some b => rw [e] at hp'; cases hp'; exact ⟨rfl, b, rfl, rfl⟩
  obtain ⟨rfl, bb, e, rfl⟩ := hf
  clear hp hp'
  have fin : ∀ s', L2.Inv X pins σ H s' → EP X pins σ Q (.bool (if neg then !bb else bb)) s' := fun s' I' => ⟨.bl _, H, I', rfl, q _ H (KeepA.refl H) (.bl _)⟩
  unfold inD at e
  split at e
  · split at e
    · rename_i x2 ys hc
      rw [Bool.and_eq_true] at hc
      obtain ⟨p1, l1⟩ := okD_of hc.1
      obtain ⟨p2, l2⟩ := okDs_of hc.2
      cases e
      obtain ⟨as, r1⟩ := a.reads I hS rx p1
      obtain ⟨bs, r2⟩ := b.reads I hS ry (plain_list p2)
      rw [memD_any] at fin
      have hd : X.A.units + 1 + min (PyData.depthAll ys) (PyData.depth dx) < cLine := by have := Nat.min_le_left (PyData.depthAll ys) (PyData.depth dx); omega
      cases neg <;> subst hop
      · exact SeqAt.in_list_data r2 r1 p2 p1 hd (fin s I)
      · exact SeqAt.notIn_list_data r2 r1 p2 p1 hd (fin s I)
    · cases e
  · split at e
    · rename_i x2 ys hc
      rw [Bool.and_eq_true] at hc
      obtain ⟨p1, l1⟩ := okD_of hc.1
      obtain ⟨p2, l2⟩ := okDs_of hc.2
      cases e
      obtain ⟨as, r1⟩ := a.reads I hS rx p1
      obtain ⟨bs, r2⟩ := b.reads I hS ry (plain_tuple p2)
      rw [memD_any] at fin
      have hd : X.A.units + 1 + min (PyData.depthAll ys) (PyData.depth dx) < cLine := by have := Nat.min_le_left (PyData.depthAll ys) (PyData.depth dx); omega
      cases neg <;> subst hop
      · exact SeqAt.in_tuple_data r2 r1 p2 p1 hd (fin s I)
      · exact SeqAt.notIn_tuple_data r2 r1 p2 p1 hd (fin s I)
    · cases e
  · obtain ⟨n, e1, e2⟩ := sign_of e
    subst e1; subst e2
    cases neg <;> subst hop
    · exact op_in_sign pins s σ H x y v u Q I rx ry ⟨_, _, a.str.1, b.str.1, q _ H (KeepA.refl H) (.bl _)⟩
    · exact op_notIn_sign pins s σ H x y v u Q I rx ry ⟨_, _, a.str.1, b.str.1, q _ H (KeepA.refl H) (.bl _)⟩
  · split at e
    · rename_i hk
      cases e
      rename_i d1 kv
      have hkk : keyOk dx = true := by unfold keyFits at hk; rw [Bool.and_eq_true] at hk; exact hk.1
      have ky := key_of_arg a hkk
      obtain ⟨p, e3, hd⟩ := b.dict
      subst e3
      cases (show u = Value.ref p from ry)
      rw [dGet_none] at fin
      rcases dict_get hd ky hk with ⟨o, g, g1, g2⟩ | ⟨r, e4, b', k, e5, hb⟩
      · have eo : (dGet dx kv).isSome = o.isSome := by
          cases o with
          | none => rw [g2 rfl]; rfl
          | some v => obtain ⟨dv, h1, _⟩ := g1 v rfl; rw [h1]; rfl
        rw [eo] at fin
        cases neg <;> subst hop
        · exact d_in (by omega) I g rx fin
        · exact d_notIn (by omega) I g rx fin
      · subst e4; subst e5
        cases (show v = Value.ref b' from rx)
        obtain ⟨hs, dd⟩ := inv_nil I r
        cases neg <;> subst hop
        · exact wpAny_in_heap (tupleKind_room_in1 (by omega)) (key_of I.hok hb) hs dd (fin _ (I.tok _))
        · exact wpAny_notIn_heap (tupleKind_room_in1 (by omega)) (key_of I.hok hb) hs dd (fin _ (I.tok _))
    · cases e
  · cases e
theorem c_in (hu : X.A.units + 100 < cLine) : OpR X (compareOp .In) (rPr2 X.K prIsIn) := c_in_gen hu (neg := false) rfl
theorem c_notIn (hu : X.A.units + 100 < cLine) : OpR X (compareOp .NotIn) (rPr2 X.K prNotIn) := c_in_gen hu (neg := true) rfl
end
end Ev

end

-- EvPrC
section
/-! Ev: the primitives' rules, third part: subscripts, slices. -/
namespace Ev
open PySem PySem.Spec PyProof.Rows L2

theorem atI_eq {α : Type} (xs : List α) (i : Int) : Ev.atI xs i = L2.atI xs i := rfl
theorem sIx_eq (n d : Nat) (o : Option Int) : Ev.sIx n d o = HT.sIx n d o := by cases o <;> rfl
theorem Reps.atI {K : PySem.W.Frag} {H : Hp} {S : List Addr} {vs : List V} {ds : List D} {i : Int} {d : D} (h : Reps K H S vs ds) (e : Ev.atI ds i = some d) : ∃ v, L2.atI vs i = some v ∧ Rep K H S v d := by
  unfold Ev.atI at e
  cases e1 : Ev.ixN ds.length i with
  | none => rw [e1] at e; cases e
  | some j =>
    rw [e1] at e
    obtain ⟨v, h1, h2⟩ := h.get (i := j) (d := d) e
    refine ⟨v, ?_, h2⟩
    show (L2.ixN vs.length i).bind _ = _
    rw [h.len, show L2.ixN ds.length i = some j from e1]
    exact h1
theorem Reps.cut {K : PySem.W.Frag} {H : Hp} {S : List Addr} {vs : List V} {ds : List D} (h : Reps K H S vs ds) (lo hi : Option Int) : Reps K H S (cutV vs lo hi) (Ev.cut ds lo hi) := by
  unfold cutV Ev.cut
  rw [sIx_eq, sIx_eq, h.len]
  exact (h.drop _).take _
theorem sl_go {X : Cx} {σ : L2.St} {H : Hp} : True := trivial
/-- a rule for a primitive, given one for each way its arguments lie -/
def ixP (K : PySem.W.Frag) : R2 := rPr2 K prIx

section
variable {X : Cx}
theorem i_ix (hu : X.A.units + 100 < cLine) : IxR X (rPr2 X.K prIx) := by
  intro value slice pins s σ H x y v u Q I rx ry ⟨S, ds, d, f, hS, ha, hp, q⟩ hs
  cases ha with | cons a ha => cases ha with | cons b ha =>
  cases ha
  rename_i dx dy
  unfold prIx at hp
  split at hp
  · rename_i xs i e; cases e
    cases e1 : Ev.atI xs i with
    | none => rw [e1] at hp; cases hp
    | some z =>
      rw [e1] at hp; cases hp
      obtain ⟨p1, vs1, e2, r1, l1, q1⟩ := a.list
      obtain ⟨z', e3, r3⟩ := q1.atI e1
      exact ix_list value slice pins s σ H x y v u Q I rx ry ⟨p1, vs1, _, z', e2, b.int, .inl r1, e3, q _ H (KeepA.refl H) r3⟩ hs
  · rename_i xs i e; cases e
    cases e1 : Ev.atI xs i with
    | none => rw [e1] at hp; cases hp
    | some z =>
      rw [e1] at hp; cases hp
      obtain ⟨p1, vs1, e2, r1, l1, q1⟩ := a.tuple
      obtain ⟨z', e3, r3⟩ := q1.atI e1
      exact ix_tup value slice pins s σ H x y v u Q I rx ry ⟨p1, vs1, _, z', e2, b.int, r1.sq, e3, q _ H (KeepA.refl H) r3⟩ hs
  · rename_i x1 i e; cases e
    cases e1 : Ev.atI x1.cps.toList i with
    | none => rw [e1] at hp; cases hp
    | some z =>
      rw [e1] at hp; cases hp
      exact ix_str value slice pins s σ H x y v u Q I rx ry ⟨x1, _, z, a.str.1, b.int, a.str.2, e1, q _ H (KeepA.refl H) (.str (by rw [sizeLine_eq]; show (#[z] : Array Nat).size ≤ _; simp))⟩ hs
  · rename_i kv k e; cases e
    split at hp
    · rename_i hk
      have hkk : keyOk dy = true := by unfold keyFits at hk; rw [Bool.and_eq_true] at hk; exact hk.1
      have ky := key_of_arg b hkk
      obtain ⟨p, e3, hd⟩ := a.dict
      subst e3
      cases (show v = Value.ref p from rx)
      cases e5 : dGet dy kv with
      | none => rw [e5] at hp; cases hp
      | some dz =>
        rw [e5] at hp; cases hp
        rcases dict_get hd ky hk with ⟨o, g, g1, g2⟩ | ⟨r, e4, b', k', e6, hb⟩
        · cases o with
          | none => rw [g2 rfl] at e5; cases e5
          | some z =>
            obtain ⟨dv, h1, h2⟩ := g1 z rfl
            rw [e5] at h1; cases h1
            refine tail_any (dict_typeIs I g) PySem.F.slot_dict_getitem.lookup (d_getItem (by omega) I g ry fun w' s' I' rw' => ⟨z, H, I', rw', q _ H (KeepA.refl H) h2⟩) hs
        · subst e4; cases e5
    · cases hp
  · cases hp

/-! ### slices -/
def rSl (K : PySem.W.Frag) (p : List D → Option (D × Bool)) (m : Option Int → Option Int → Option (List V)) : V → Option Int → Option Int → Hp → VK → Prop := fun x lo hi H Q => ∃ r, m lo hi = some r ∧ rPr K p (x :: r) H Q
def mTT (lo hi : Option Int) : Option (List V) := lo.bind fun i => hi.map fun j => [.int i, .int j]
def mTF (lo hi : Option Int) : Option (List V) := match hi with | none => lo.map fun i => [.int i] | some _ => none
def mFT (lo hi : Option Int) : Option (List V) := match lo with | none => hi.map fun i => [.int i] | some _ => none
theorem sl_seq {S : List Addr} {lo hi : Option Int} {pins : List (Addr × Obj)} {s : Shared} {σ : L2.St} {H : Hp} {x : V} {v vl vu : Value} {sl : Addr} {Q : VK} {d0 : D} {d : D} {f : Bool} (I : L2.Inv X pins σ H s) (hS : ∀ b ∈ S, LiveM H b) (a : ArgR X.K H S x d0) (rx : RelV x v) (hs : s.heap.IsSliceOf sl vl vu .none) (pl : IsPart vl lo) (pu : IsPart vu hi)
    (hp : (match d0 with | .list xs => some (.list (Ev.cut xs lo hi), true) | .tuple xs => some (.tuple (Ev.cut xs lo hi), false) | .str z => some (.str (cutStr z lo hi), false) | _ => none) = some (d, f))
    (q : ∀ v H', KeepA H H' → ResR X.K H H' S v d f → Q v H') :
    ∃ T id, typeLookup (.type T) "__getitem__" = pure (some (.builtin id)) ∧ s.TypeIs v T ∧ wpAny (model X.prog X.w) X.A (getItem v (.ref sl)) (EP X pins σ Q) X.xe s := by
  cases d0 with
  | list xs =>
    cases hp
    obtain ⟨p1, vs1, e2, r1, l1, q1⟩ := a.list
    have hc := q1.cut lo hi
    exact sl_list pins s σ H x v vl vu lo hi sl Q I rx hs pl pu ⟨p1, vs1, e2, .inl r1, fun p hp => q _ _ (KeepA.upd hp) (res_lst hS hp (Nat.le_trans (cutV_length vs1 lo hi) l1) hc)⟩
  | tuple xs =>
    cases hp
    obtain ⟨p1, vs1, e2, r1, l1, q1⟩ := a.tuple
    have hc := q1.cut lo hi
    refine sl_tupA pins s σ H x v vl vu lo hi sl Q I rx hs pl pu ⟨p1, vs1, e2, r1.sq, fun hw => ?_, fun hw p hp => q _ _ (KeepA.upd hp) (rep_tup hS hp (Nat.le_trans (cutV_length vs1 lo hi) l1) hc)⟩
    have e : cutV vs1 lo hi = vs1 := by
      unfold cutV
      rw [hw.1, hw.2, List.drop_zero, Nat.sub_zero, List.take_length]
    have ex : Ev.cut xs lo hi = xs := by
      unfold Ev.cut
      rw [sIx_eq, sIx_eq, ← q1.len, hw.1, hw.2, List.drop_zero, Nat.sub_zero, q1.len, List.take_length]
    rw [ex] at q
    subst e2
    exact q _ H (KeepA.refl H) (.tup r1 l1 q1)
  | str z =>
    cases hp
    have e : cutS z lo hi = cutStr z lo hi := by
      unfold cutS cutStr Ev.cut
      rw [sIx_eq, sIx_eq]
      simp [Str.length]
    refine sl_str pins s σ H x v vl vu lo hi sl Q I rx hs pl pu ⟨z, a.str.1, a.str.2, ?_⟩
    rw [e]
    exact q _ H (KeepA.refl H) (.str (by rw [← e]; exact Nat.le_trans (cutS_length z lo hi) a.str.2))
  | _ => cases hp
theorem s_TT : SlR X (rSl X.K prSlTT mTT) := by
  intro pins s σ H x v vl vu lo hi sl Q I rx hs pl pu ⟨r, hm, S, ds, d, f, hS, ha, hp, q⟩
  cases lo with
  | none => cases hm
  | some i =>
    cases hi with
    | none => cases hm
    | some j =>
      cases hm
      cases ha with | cons a ha => cases ha with | cons b ha => cases ha with | cons c ha =>
      cases ha
      rename_i d0 d1 d2
      refine sl_seq I hS a rx hs pl pu ?_ q
      unfold prSlTT at hp
      split at hp
      · rename_i e; cases e; have := b.int; have := c.int; simp_all
      · rename_i e; cases e; have := b.int; have := c.int; simp_all
      · rename_i e; cases e; have := b.int; have := c.int; simp_all
      · cases hp
theorem s_TF : SlR X (rSl X.K prSlTF mTF) := by
  intro pins s σ H x v vl vu lo hi sl Q I rx hs pl pu ⟨r, hm, S, ds, d, f, hS, ha, hp, q⟩
  cases hi with
  | some i => cases hm
  | none =>
    cases lo with
    | none => cases hm
    | some j =>
      cases hm
      cases ha with | cons a ha => cases ha with | cons b ha =>
      cases ha
      refine sl_seq I hS a rx hs pl pu ?_ q
      unfold prSlTF at hp
      split at hp
      · rename_i e; cases e; have := b.int; simp_all
      · rename_i e; cases e; have := b.int; simp_all
      · rename_i e; cases e; have := b.int; simp_all
      · cases hp
theorem s_FT : SlR X (rSl X.K prSlFT mFT) := by
  intro pins s σ H x v vl vu lo hi sl Q I rx hs pl pu ⟨r, hm, S, ds, d, f, hS, ha, hp, q⟩
  cases lo with
  | some i => cases hm
  | none =>
    cases hi with
    | none => cases hm
    | some j =>
      cases hm
      cases ha with | cons a ha => cases ha with | cons b ha =>
      cases ha
      refine sl_seq I hS a rx hs pl pu ?_ q
      unfold prSlFT at hp
      split at hp
      · rename_i e; cases e; have := b.int; simp_all
      · rename_i e; cases e; have := b.int; simp_all
      · rename_i e; cases e; have := b.int; simp_all
      · cases hp

/-! ### [::-1] -/
theorem fm_congr {α β : Type} {f g : α → Option β} : ∀ {l : List α}, (∀ a ∈ l, f a = g a) → l.filterMap f = l.filterMap g
  | [], _ => rfl
  | a :: l, h => by rw [List.filterMap_cons, List.filterMap_cons, h a List.mem_cons_self, fm_congr fun b hb => h b (List.mem_cons_of_mem _ hb)]
theorem getItem_tuple_rev {prog : Program} {w : World} {A : Around} {E : Value → Shared → Prop} {s : Shared} {t sl : Addr} {items : Array Value} {vs : Value} {Q : Value → Shared → Prop} (ht : IsTup s.heap t items) (hs : s.heap.IsSliceOf sl .none .none vs) (pv : IsPart vs (some (-1)))
    (hsz : items.size ≤ sizeLine)
    (h : Q (.ref s.heap.objs.size) { s with heap := s.heap.push { cls := .type "tuple", data := .seq items.toList.reverse.toArray } }) : wpAny (model prog w) A (getItem (.ref t) (.ref sl)) Q E s := by
  have hrev : sizeOk (.seq items.toList.reverse.toArray) := by
    show items.toList.reverse.toArray.size ≤ sizeLine
    rw [List.size_toArray, List.length_reverse, Array.length_toList]
    exact hsz
  obtain ⟨os, hos, hcs, hds⟩ := id hs
  have hTs : s.TypeIs (.ref sl) "slice" := ⟨os, hos, hcs⟩
  cases pv with
  | int i tk =>
  unfold getItem
  try with_reducible refine wpAny_holding ?_
  first | refine wpAny_bind (wpAny_pure ?_) | skip
  refine wpAny_bind (wpAny_sequenceKey ht.typeIs (by decide) ?_)
  refine wpAny_bind (wpAny_callSpecial?_slot (name := Str.ofString "__getitem__") ht.typeIs PyProof.Rows.slot_tuple_getitem
    (wpAny_call_entry PyProof.Rows.slot_tuple_getitem ht.typeIs entry_tuple_getitem ?_ (args_tuple_getitem _ _)))
  show wpAny _ _ (Builtin.Tuple.tupleItemsOf (.ref t) >>= _) _ _ s
  refine wpAny_bind (tupleItemsOf_ ht ?_)
  refine wpAny_bind (wpAny_typeOf hTs ?_)
  rw [if_pos (by decide)]
  have sa : ∀ {Q : Int × Int × Nat → Shared → Prop}, Q ((items.size : Int) - 1, -1, items.size) s → wpAny (model prog w) A.in1 (Builtin.Slice.sliceApplied (.ref sl) (pure (items.size : Int))) Q E s := by
    intro Q h
    unfold Builtin.Slice.sliceApplied Builtin.Slice.sliceFields
    refine wpAny_bind (wpAny_bind (wpAny_field hos hds (x := .none) rfl (wpAny_bind (wpAny_field hos hds (x := .none) rfl (wpAny_bind (wpAny_field hos hds (x := .int (-1) tk) rfl (wpAny_pure ?_)))))))
    refine wpAny_bind (HT.slicePart_ (.int (-1) tk) ?_)
    show wpAny _ _ (if ((-1 : Int) == 0) = true then _ else _) _ _ s
    rw [if_neg (by decide)]
    refine wpAny_bind (HT.slicePart_ .none (wpAny_bind (HT.slicePart_ .none (wpAny_bind (wpAny_pure ?_)))))
    show wpAny _ _ (match Builtin.Slice.sliceAdjust none none (-1) (items.size : Int) with | (lo, hi) => pure (lo, (-1 : Int), Builtin.Slice.slicePlaces lo hi (-1))) _ _ s
    have e1 : Builtin.Slice.sliceAdjust none none (-1) (items.size : Int) = ((items.size : Int) - 1, -1) := by
      unfold Builtin.Slice.sliceAdjust
      simp
    rw [e1]
    have e2 : Builtin.Slice.slicePlaces ((items.size : Int) - 1) (-1) (-1) = items.size := by
      unfold Builtin.Slice.slicePlaces
      simp
      omega
    show wpAny _ _ (pure ((items.size : Int) - 1, (-1 : Int), Builtin.Slice.slicePlaces ((items.size : Int) - 1) (-1) (-1))) _ _ s
    rw [e2]
    exact wpAny_pure h
  refine wpAny_bind (sa ?_)
  have hno : ¬ ((((items.size : Int) - 1) == 0 && (-1 : Int) == 1 && items.size == items.size) = true) := by
    intro q
    rw [Bool.and_eq_true, Bool.and_eq_true] at q
    exact absurd q.1.2 (by decide)
  show wpAny _ _ (if (((items.size : Int) - 1) == 0 && (-1 : Int) == 1 && items.size == items.size) = true then _ else _) _ _ s
  rw [if_neg hno]
  have pk : ((List.range items.size).filterMap fun (m : Nat) => items[(((items.size : Int) - 1) + (m : Int) * (-1)).toNat]?).toArray = items.toList.reverse.toArray := by
    have e : (List.range items.size).filterMap (fun (m : Nat) => items[(((items.size : Int) - 1) + (m : Int) * (-1)).toNat]?) = ((List.range items.size).map fun k => items.size - 1 - k).filterMap (items[·]?) := by
      rw [List.filterMap_map]
      refine fm_congr fun m hm => ?_
      have hm' := List.mem_range.mp hm
      show items[(((items.size : Int) - 1) + (m : Int) * (-1)).toNat]? = items[items.size - 1 - m]?
      congr 1
      omega
    rw [e, W.krv_range, List.filterMap_reverse, W.krv_all]
  rw [pk]
  first
    | exact wpAny_bind (m := Builtin.Tuple.tupleExact _) (wpAny_newObj_type (wpAny_pure ⟨_, rfl, wpAny_pure h⟩) hrev)
    | exact wpAny_bind (m := Builtin.Tuple.tupleExact _) (wpAny_newObj_type (wpAny_bind (wpAny_pure (wpAny_pure ⟨_, rfl, wpAny_pure h⟩))) hrev)
    | exact wpAny_bind (wpAny_bind (m := Builtin.Tuple.tupleExact _) (wpAny_newObj_type (wpAny_pure (wpAny_pure ⟨_, rfl, wpAny_pure h⟩)) hrev))
    | exact wpAny_bind (wpAny_bind (m := Builtin.Tuple.tupleExact _) (wpAny_newObj_type (wpAny_pure ⟨_, rfl, wpAny_pure h⟩) hrev))
theorem getItem_str_rev {prog : Program} {w : World} {A : Around} {E : Value → Shared → Prop} {s : Shared} {sl : Addr} {x : Str} {t : Tok} {vs : Value} {Q : Value → Shared → Prop} (hs : s.heap.IsSliceOf sl .none .none vs) (pv : IsPart vs (some (-1)))
    (hsz : x.length ≤ sizeLine)
    (h : ∀ t' k, Q (.str ⟨x.cps.toList.reverse.toArray⟩ t') { s with toks := k }) : wpAny (model prog w) A (getItem (.str x t) (.ref sl)) Q E s := by
  obtain ⟨os, hos, hcs, hds⟩ := id hs
  cases pv with
  | int i tk =>
  refine wpAny_getItem_str_slice (l := none) (u := none) (st := some (-1, tk)) ⟨os, hos, hcs, hds⟩ rfl ?_
  have e1 : Builtin.Str.strSliceIndices none none (-1) x.length = (List.range x.length).reverse := by
    show sliceRange ((x.length : Int) - 1) (-1) (-1) = _
    rw [W.krv_sliceRange, W.krv_range]
  have e2 : (Builtin.Str.strSliceIndices none none (-1) x.length).filterMap (x.cps[·]?) = x.cps.toList.reverse := by
    rw [e1, List.filterMap_reverse]
    exact congrArg List.reverse (W.krv_all x.cps)
  show Made.post (if ((-1 : Int) == 1 && (Builtin.Str.strSliceIndices none none (-1) x.length).length == x.length) = true then Made.val (.str x t)
    else Made.str ⟨((Builtin.Str.strSliceIndices none none (-1) x.length).filterMap (x.cps[·]?)).toArray⟩) Q s
  rw [if_neg (by simp), e2]
  refine ⟨?_, h _ _⟩
  show x.cps.toList.reverse.toArray.size ≤ sizeLine
  rw [List.size_toArray, List.length_reverse, Array.length_toList]
  exact hsz
theorem slice_part_none {v : Value} (p : IsPart v none) : v = .none := by cases p; rfl
def tRev (K : PySem.W.Frag) (te : TE) : TE := fun σ H Q => te σ H fun x H1 => rPr1 K prRev x H1 Q
theorem pe_rev {e : Expr} {te : TE} {k : Nat} {p1 p2 p3 pos : Pos} (he : PE X e te) : PE X (.Subscript e (.Slice none none (some (.UnaryOp .USub (.Constant (.int 1) k p1) p2)) p3) pos) (tRev X.K te) := by
  refine ⟨fun pins s σ H Q I h => ?_⟩
  refine Subscript_ (thn (he.run pins s σ H _ I h) fun v s1 ⟨x, H1, I1, r1, q1⟩ => ?_)
  have hst : PO X (some (.UnaryOp .USub (.Constant (.int 1) k p1) p2)) (tPart (tUn (rU fun i => .int (-i)) (tC (.int 1)))) := po_some (pe_un un_neg pe_int)
  refine wpAny_Slice (thn (po_none.run pins s1 σ H1 (fun o H2 => o = none ∧ H2 = H1) I1 ⟨rfl, rfl⟩) fun vl s2 ⟨l, H2, I2, pl, el, e2⟩ => ?_)
  subst el e2
  refine thn (po_none.run pins s2 σ H2 (fun o H3 => o = none ∧ H3 = H2) I2 ⟨rfl, rfl⟩) fun vu s3 ⟨u, H3, I3, pu, eu, e3⟩ => ?_
  subst eu e3
  refine thn (hst.run pins s3 σ H3 (fun o H4 => o = some (-1) ∧ H4 = H3) I3 ⟨1, rfl, -1, rfl, rfl, rfl⟩) fun vs s4 ⟨o, H4, I4, ps, eo, e4⟩ => ?_
  subst eo e4
  obtain rfl := slice_part_none pl
  obtain rfl := slice_part_none pu
  have I5 : L2.Inv X pins σ H4 { s4 with heap := s4.heap.push { cls := .type "slice", data := .fields #[.none, .none, vs] } } := I4.kept (t' := s4.toks) fun b ob q => Heap.get?_push_of_some _ q
  show wpAny (model X.prog X.w) X.A (subscriptTail e (.Slice none none (some (.UnaryOp .USub (.Constant (.int 1) k p1) p2)) p3) v (.ref s4.heap.objs.size)) (EP X pins σ Q) X.xe { s4 with heap := s4.heap.push { cls := .type "slice", data := .fields #[.none, .none, vs] } }
  obtain ⟨S, ds, d, f, hS, ha, hp, q⟩ := q1
  cases ha with | cons a ha =>
  cases ha
  unfold prRev at hp
  split at hp
  · rename_i e; cases e; cases hp
    obtain ⟨p1, vs1, e2, hr, l1, q1⟩ := a.list
    subst e2
    cases r1
    obtain ⟨its, r, ht, hz⟩ := I5.list (.inl hr)
    have hlen := r.length
    refine tail_any (ops := [.ref p1, .ref s4.heap.objs.size]) ht.isList.typeIs (PySem.slot_list_getitem.lookup) ?_ (by with_unfolding_all rfl)
    refine wpAny_getItem_list_slice ht.isList (Heap.IsSliceOf.new _ _ _ vs) pl pu ps (by decide) ?_ (by rw [List.size_toArray]; omega)
    rw [PySem.W.krv_pick]
    refine ⟨.ref _, _, I5.laid (t' := s4.toks) (o := .lst vs1.reverse) (fun b ob q => Heap.get?_push_of_some _ q) (Nat.le_refl _) ?_, rfl, q _ _ (KeepA.upd (I5.hok.fresh (Nat.le_refl _))) (res_lst hS (I5.hok.fresh (Nat.le_refl _)) (by rw [List.length_reverse]; exact hz) q1.rev)⟩
    exact ⟨by rw [List.length_reverse]; exact hz, _, 0, r.reverse, Heap.get?_push_size _ rfl⟩
  · rename_i e; cases e; cases hp
    obtain ⟨p1, vs1, e2, hr, l1, q1⟩ := a.tuple
    subst e2
    cases r1
    obtain ⟨its, r, ht, hz⟩ := I5.tuple hr.sq
    have hlen := r.length
    refine tail_any (ops := [.ref p1, .ref s4.heap.objs.size]) ht.typeIs (PyProof.Rows.slot_tuple_getitem.lookup) ?_ (by with_unfolding_all rfl)
    refine getItem_tuple_rev ht (Heap.IsSliceOf.new _ _ _ vs) ps (by rw [List.size_toArray]; omega) ?_
    refine ⟨.ref _, _, I5.laid (t' := s4.toks) (o := .tup vs1.reverse) (fun b ob q => Heap.get?_push_of_some _ q) (Nat.le_refl _) ?_, rfl, q _ _ (KeepA.upd (I5.hok.fresh (Nat.le_refl _))) (rep_tup hS (I5.hok.fresh (Nat.le_refl _)) (by rw [List.length_reverse]; exact hz) q1.rev)⟩
    exact ⟨by rw [List.length_reverse]; exact hz, _, r.reverse, IsTup.new _ _⟩
  · rename_i z e; cases e; cases hp
    have hz := a.str.2
    have hx := a.str.1
    subst hx
    obtain ⟨t, rfl⟩ := r1
    refine tail_any (ops := [.ref s4.heap.objs.size, .str z t]) (typeIs_str _ _ _) F.slot_str_getitem.lookup ?_ (by with_unfolding_all rfl)
    refine getItem_str_rev (Heap.IsSliceOf.new _ _ _ vs) ps hz fun t' k => ⟨.str _, H4, I5.tok _, ⟨_, rfl⟩, q _ H4 (KeepA.refl H4) (.str ?_)⟩
    show z.cps.toList.reverse.toArray.size ≤ sizeLine
    rw [List.size_toArray, List.length_reverse, Array.length_toList]
    exact hz
  · cases hp
end
end Ev

end

-- EvPrD
section
/-! Ev: the primitives' rules, fourth part: built-ins of one list or tuple. -/
namespace Ev
open PySem PySem.Spec PyProof.Rows L2

/-- a list or tuple, whoever holds it -/
theorem lotD_of {K : PySem.W.Frag} {S : List Addr} {H : Hp} {v : V} {d : D} {xs : List D} (h : ArgR K H S v d) (e : lotD d = some xs) :
    ∃ a vs, v = .ref a ∧ vs.length ≤ sizeLine ∧ Reps K H S vs xs ∧ ((d = .list xs ∧ Rd H a (.lst vs)) ∨ (d = .tuple xs ∧ TupR K H a vs xs)) := by
  unfold lotD at e
  split at e
  · cases e
    obtain ⟨a, vs, h1, h2, h3, h4⟩ := h.list
    exact ⟨a, vs, h1, h3, h4, .inl ⟨rfl, h2⟩⟩
  · cases e
    obtain ⟨a, vs, h1, h2, h3, h4⟩ := h.tuple
    exact ⟨a, vs, h1, h3, h4, .inr ⟨rfl, h2⟩⟩
  · cases e
section
variable {X : Cx} {pins : List (Addr × Obj)} {σ : L2.St} {H : Hp} {s : Shared} {S : List Addr}
/-- its items, by the heap -/
theorem lot_items {a : Addr} {vs : List V} {d : D} {xs : List D} (I : L2.Inv X pins σ H s) (hS : ∀ b ∈ S, LiveM H b) (q : Reps X.K H S vs xs) (h : (d = .list xs ∧ Rd H a (.lst vs)) ∨ (d = .tuple xs ∧ TupR X.K H a vs xs)) (hp : PyData.plainAll xs = true) :
    ∃ its as, Vals vs its ∧ ReadsAll s.heap its xs as ∧ (s.heap.IsList a its.toArray ∨ s.heap.IsTuple a its.toArray) := by
  rcases h with ⟨_, h⟩ | ⟨_, h⟩
  · obtain ⟨its, r, pl, _⟩ := I.list (.inl h)
    obtain ⟨as, hh⟩ := Reps.reads I q r hp
    exact ⟨its, as, r, hh, .inl pl.isList⟩
  · obtain ⟨its, r, pl, _⟩ := I.tuple h.sq
    obtain ⟨as, hh⟩ := Reps.reads I q r hp
    exact ⟨its, as, r, hh, .inr pl⟩
theorem cmpAll_of {xs : List D} (h : cmpAll xs = true) : PyData.plainAll xs = true ∧ PyData.depthAll xs ≤ 64 ∧ W.AlikeAll xs := by
  unfold cmpAll at h
  rw [Bool.and_eq_true, Bool.and_eq_true, decide_eq_true_eq, List.all_eq_true] at h
  obtain ⟨⟨h1, h2⟩, h3⟩ := h
  refine ⟨h1, h2, fun x hx y hy => ?_, fun x hx e => ?_⟩
  · have := h3 x hx
    rw [Bool.and_eq_true, List.all_eq_true] at this
    exact this.2 y hy
  · have := h3 x hx
    subst e
    simp at this
theorem Vals.getB : ∀ {xs : List V} {us : List Value} {i : Nat} {u : Value}, Vals xs us → us[i]? = some u → ∃ x, xs[i]? = some x ∧ RelV x u
  | _, _, _, _, .nil, e => by simp at e
  | _, _, 0, _, .cons a _, e => by simp at e; subst e; exact ⟨_, rfl, a⟩
  | _, _, i + 1, d, .cons _ r, e => by
    obtain ⟨v, h1, h2⟩ := Vals.getB r (i := i) (u := d) (by simpa using e)
    exact ⟨v, by simpa using h1, h2⟩
theorem plainAll_mem {x : D} : ∀ {xs : List D}, PyData.plainAll xs = true → x ∈ xs → x.plain = true
  | [], _, h => by simp at h
  | y :: ys, hp, h => by
    rw [PyData.plainAll, Bool.and_eq_true] at hp
    rcases List.mem_cons.mp h with rfl | h
    · exact hp.1
    · exact plainAll_mem hp.2 h
/-- the item that reads as d -/
theorem item_of {vs : List V} {xs : List D} {its : List Value} {i : Nat} {u : Value} {d : D} {bs : List Addr} {h' : Heap} {tk : Nat} (I : L2.Inv X pins σ H s) (I' : L2.Inv X pins σ H { s with heap := h', toks := tk }) (q : Reps X.K H S vs xs) (hS : ∀ b ∈ S, LiveM H b) (r : Vals vs its) (hp : PyData.plainAll xs = true) (e : its[i]? = some u) (hr : Reads h' u d bs) : ∃ v, RelV v u ∧ Rep X.K H S v d := by
  obtain ⟨v, e1, r1⟩ := Vals.getB r e
  obtain ⟨d', e2, r2⟩ := q.getV e1
  have hp' : d'.plain = true := plainAll_mem hp (List.mem_of_getElem? e2)
  obtain ⟨as, h2⟩ := Rep.reads I' r2 r1 hp'
  have := SeqAt.plain_unique d' d u as bs hp' h2 hr
  subst this
  exact ⟨v, r1, r2⟩
end

section
variable {X : Cx}
theorem k_len : CallR X (.builtin "len") (rPr X.K prLen) := by
  intro pins s σ H xs us Q I r ⟨S, ds, d, f, hS, ha, hp, q⟩
  unfold prLen at hp
  split at hp
  · cases hp; cases ha with | cons a ha =>
    cases ha
    obtain ⟨p1, vs1, e2, r1, l1, q1⟩ := a.list
    refine call_len_seq pins s σ H _ us Q I r ⟨p1, vs1, by rw [e2], .inl (.inl r1), ?_⟩
    rw [q1.len]
    exact q _ H (KeepA.refl H) (.int _)
  · cases hp; cases ha with | cons a ha =>
    cases ha
    obtain ⟨p1, vs1, e2, r1, l1, q1⟩ := a.tuple
    refine call_len_seq pins s σ H _ us Q I r ⟨p1, vs1, by rw [e2], .inr r1.sq, ?_⟩
    rw [q1.len]
    exact q _ H (KeepA.refl H) (.int _)
  · cases hp; cases ha with | cons a ha =>
    cases ha
    exact call_len_str pins s σ H _ us Q I r ⟨_, by rw [a.str.1], a.str.2, q _ H (KeepA.refl H) (.int _)⟩
  · cases hp; cases ha with | cons a ha =>
    cases ha
    obtain ⟨p, e3, hd⟩ := a.dict
    subst e3
    rcases hd with ⟨kvs, es, r3, l, q2, e4⟩ | ⟨kvs, es, r3, l, q2, e4⟩
    · rw [Vals.ref1 r]
      refine d_len I r3 fun t s' I' => ⟨.int kvs.length, H, I', ⟨t, rfl⟩, ?_⟩
      have : (kvs.length : Int) = ((List.length ((kvs.map fun p => keyD p.1).zip es) : Nat) : Int) := by
        have := q2.len
        rw [List.length_map] at this
        rw [List.length_zip, List.length_map, ← this, Nat.min_self]
      rw [this, ← e4]
      exact q _ H (KeepA.refl H) (.int _)
    · rw [Vals.ref1 r]
      obtain ⟨hz, hs, ys, rel, dd⟩ := dt_rd I.hok r3
      have hly : kvs.length = ys.length := Paired.length rel
      have h63 := line63
      refine call_len_dictH hs dd (by omega) ⟨.int kvs.length, H, I.tok _, ⟨_, by rw [← hly]⟩, ?_⟩
      have : (kvs.length : Int) = ((List.length ((kvs.map fun p => tkeyD p.1).zip es) : Nat) : Int) := by
        have := q2.len
        rw [List.length_map] at this
        rw [List.length_zip, List.length_map, ← this, Nat.min_self]
      rw [this, ← e4]
      exact q _ H (KeepA.refl H) (.int _)
  · cases hp
theorem k_abs : CallR X (.builtin "abs") (rPr X.K prAbs) := by
  intro pins s σ H xs us Q I r ⟨S, ds, d, f, hS, ha, hp, q⟩
  unfold prAbs at hp
  split at hp
  · cases hp; cases ha with | cons a ha =>
    cases ha
    exact call_abs pins s σ H _ us Q I r ⟨_, by rw [a.int], q _ H (KeepA.refl H) (.int _)⟩
  · cases hp
theorem k_min2 (hc : X.calm = true) : CallR X (.builtin "min") (rPr X.K prMin2) := by
  intro pins s σ H xs us Q I r ⟨S, ds, d, f, hS, ha, hp, q⟩
  unfold prMin2 at hp
  split at hp
  · cases hp; cases ha with | cons a ha => cases ha with | cons b ha =>
    cases ha
    exact call_min2 hc pins s σ H _ us Q I r ⟨_, _, by rw [a.int, b.int], q _ H (KeepA.refl H) (.int _)⟩
  · cases hp
theorem k_max2 (hc : X.calm = true) : CallR X (.builtin "max") (rPr X.K prMax2) := by
  intro pins s σ H xs us Q I r ⟨S, ds, d, f, hS, ha, hp, q⟩
  unfold prMax2 at hp
  split at hp
  · cases hp; cases ha with | cons a ha => cases ha with | cons b ha =>
    cases ha
    exact call_max2 hc pins s σ H _ us Q I r ⟨_, _, by rw [a.int, b.int], q _ H (KeepA.refl H) (.int _)⟩
  · cases hp
theorem k_intOf : CallR X (.type "int") (rPr X.K prIntOf) := by
  intro pins s σ H xs us Q I r ⟨S, ds, d, f, hS, ha, hp, q⟩
  unfold prIntOf at hp
  split at hp
  · cases hp; cases ha with | cons a ha =>
    cases ha
    exact call_int1 pins s σ H _ us Q I r (.inl ⟨_, by rw [a.int], q _ H (KeepA.refl H) (.int _)⟩)
  · cases hp; cases ha with | cons a ha =>
    cases ha
    exact call_int1 pins s σ H _ us Q I r (.inr ⟨_, by rw [a.bl], q _ H (KeepA.refl H) (.int _)⟩)
  · cases hp
theorem k_tupOf : CallR X (.type "tuple") (rPr X.K prTupOf) := by
  intro pins s σ H xs us Q I r ⟨S, ds, d, f, hS, ha, hp, q⟩
  unfold prTupOf at hp
  split at hp
  · cases hp; cases ha with | cons a ha =>
    cases ha
    obtain ⟨p1, vs1, e2, r1, l1, q1⟩ := a.list
    exact call_tuple_of pins s σ H _ us Q I r ⟨p1, vs1, by rw [e2], .inl ⟨.inl r1, fun l hl => q _ _ (KeepA.upd hl) (rep_tup hS hl l1 q1)⟩⟩
  · cases hp; cases ha with | cons a ha =>
    cases ha
    obtain ⟨p1, vs1, e2, r1, l1, q1⟩ := a.tuple
    exact call_tuple_of pins s σ H _ us Q I r ⟨p1, vs1, by rw [e2], .inr ⟨r1.sq, q _ H (KeepA.refl H) (.tup r1 l1 q1)⟩⟩
  · cases hp
theorem rep_keys {K : PySem.W.Frag} {H : Hp} {S : List Addr} : ∀ {ks : List Key}, (∀ x, Sum.inr x ∈ ks → x.length ≤ sizeLine) → Reps K H S (ks.map kV) (ks.map keyD)
  | [], _ => .nil
  | .inl i :: ks, h => .cons (.int i) (rep_keys fun x hx => h x (List.mem_cons_of_mem _ hx))
  | .inr x :: ks, h => .cons (.str (h x List.mem_cons_self)) (rep_keys fun x hx => h x (List.mem_cons_of_mem _ hx))
theorem k_min1 (hc : X.calm = true) (hu : X.A.units + 100 < cLine) : CallR X (.builtin "min") (rPr X.K prMin1) := by
  intro pins s σ H xs us Q I r ⟨S, ds, d, f, hS, ha, hp, q⟩
  unfold prMin1 at hp
  split at hp
  · rename_i d0
    cases ha with | cons a ha =>
    cases ha
    cases e : lotD d0 with
    | none => rw [e] at hp; cases hp
    | some ys =>
      rw [e] at hp
      simp only [Option.bind] at hp
      split at hp
      · rename_i hcm
        obtain ⟨hpl, hd, hal⟩ := cmpAll_of hcm
        obtain ⟨a1, vs, e1, l1, q1, hk⟩ := lotD_of a e
        subst e1
        rw [Vals.ref1 r]
        obtain ⟨its, as, rv, rr, hh⟩ := lot_items I hS q1 hk hpl
        cases ys with
        | nil => cases hp
        | cons y ys =>
          rw [minD_minDs hal.1] at hp
          cases hp
          have fin : ∀ (i : Nat) v h' tk bs, its.toArray[i]? = some v → Reads h' v (W.minD y ys) bs → (∀ b o, s.heap.get? b = some o → h'.get? b = some o) → EP X pins σ Q v { s with heap := h', toks := tk } := fun i v h' tk bs ei hr hk' => by
            have I' : L2.Inv X pins σ H { s with heap := h', toks := tk } := I.kept hk'
            obtain ⟨v', r1, r2⟩ := item_of I I' q1 hS rv hpl (by simpa using ei) hr
            exact ⟨v', H, I', r1, q _ H (KeepA.refl H) r2⟩
          rcases hh with hh | hh
          · exact W.min_list_data (I.ok.hd hc) hh (by simpa using rr) hal (by omega) fin
          · exact W.min_tuple_data (I.ok.hd hc) hh (by simpa using rr) hal (by omega) fin
      · cases hp
  · cases hp
theorem k_max1 (hc : X.calm = true) (hu : X.A.units + 100 < cLine) : CallR X (.builtin "max") (rPr X.K prMax1) := by
  intro pins s σ H xs us Q I r ⟨S, ds, d, f, hS, ha, hp, q⟩
  unfold prMax1 at hp
  split at hp
  · rename_i d0
    cases ha with | cons a ha =>
    cases ha
    cases e : lotD d0 with
    | none => rw [e] at hp; cases hp
    | some ys =>
      rw [e] at hp
      simp only [Option.bind] at hp
      split at hp
      · rename_i hcm
        obtain ⟨hpl, hd, hal⟩ := cmpAll_of hcm
        obtain ⟨a1, vs, e1, l1, q1, hk⟩ := lotD_of a e
        subst e1
        rw [Vals.ref1 r]
        obtain ⟨its, as, rv, rr, hh⟩ := lot_items I hS q1 hk hpl
        cases ys with
        | nil => cases hp
        | cons y ys =>
          rw [maxD_maxDs hal.1] at hp
          cases hp
          have fin : ∀ (i : Nat) v h' tk bs, its.toArray[i]? = some v → Reads h' v (W.maxD y ys) bs → (∀ b o, s.heap.get? b = some o → h'.get? b = some o) → EP X pins σ Q v { s with heap := h', toks := tk } := fun i v h' tk bs ei hr hk' => by
            have I' : L2.Inv X pins σ H { s with heap := h', toks := tk } := I.kept hk'
            obtain ⟨v', r1, r2⟩ := item_of I I' q1 hS rv hpl (by simpa using ei) hr
            exact ⟨v', H, I', r1, q _ H (KeepA.refl H) r2⟩
          rcases hh with hh | hh
          · exact W.max_list_data (I.ok.hd hc) hh (by simpa using rr) hal (by omega) fin
          · exact W.max_tuple_data (I.ok.hd hc) hh (by simpa using rr) hal (by omega) fin
      · cases hp
  · cases hp
mutual
theorem rep_fits {K : PySem.W.Frag} {H : Hp} {S : List Addr} : ∀ {v : V} {d : D}, Rep K H S v d → d.fits63
  | _, _, .non => trivial
  | _, _, .bl _ => trivial
  | _, _, .int _ => trivial
  | _, _, .str h => by rw [sizeLine_eq] at h; show (_ : Int) < 2 ^ 63; omega
  | _, _, .lst _ _ l q => by rw [sizeLine_eq, q.len] at l; show (_ : Int) < 2 ^ 63; omega
  | _, _, .tup _ l q => by rw [sizeLine_eq, q.len] at l; show (_ : Int) < 2 ^ 63; omega
  | _, _, .dK _ _ _ _ _ => trivial
  | _, _, .dT _ _ _ _ _ => trivial
end
theorem reps_fits {K : PySem.W.Frag} {H : Hp} {S : List Addr} : ∀ {vs : List V} {ds : List D}, Reps K H S vs ds → ∀ x ∈ ds, x.fits63
  | _, _, .nil, x, h => by simp at h
  | _, _, .cons a r, x, h => by
    rcases List.mem_cons.mp h with rfl | h
    · exact rep_fits a
    · exact reps_fits r x h
theorem k_all (hc : X.calm = true) : CallR X (.builtin "all") (rPr X.K prAll) := by
  intro pins s σ H xs us Q I r ⟨S, ds, d, f, hS, ha, hp, q⟩
  unfold prAll at hp
  split at hp
  · rename_i d0
    cases ha with | cons a ha =>
    cases ha
    cases e : lotD d0 with
    | none => rw [e] at hp; cases hp
    | some ys =>
      rw [e] at hp
      simp only [Option.bind] at hp
      split at hp
      · rename_i hcm
        obtain ⟨hpl, hd⟩ := okDs_of hcm
        cases hp
        obtain ⟨a1, vs, e1, l1, q1, hk⟩ := lotD_of a e
        subst e1
        rw [Vals.ref1 r]
        obtain ⟨its, as, rv, rr, hh⟩ := lot_items I hS q1 hk hpl
        have fin : ∀ h' tk, (∀ b o, s.heap.get? b = some o → h'.get? b = some o) → EP X pins σ Q (.bool (ys.all PyData.truthy)) { s with heap := h', toks := tk } := fun h' tk hk' => ⟨.bl _, H, I.kept hk', rfl, q _ H (KeepA.refl H) (.bl _)⟩
        rcases hh with hh | hh
        · exact W.all_list_data (I.ok.hd hc) hh (by simpa using rr) hpl (reps_fits q1) fin
        · exact W.all_tuple_data (I.ok.hd hc) hh (by simpa using rr) hpl (reps_fits q1) fin
      · cases hp
  · cases hp
theorem k_any (hc : X.calm = true) : CallR X (.builtin "any") (rPr X.K prAny) := by
  intro pins s σ H xs us Q I r ⟨S, ds, d, f, hS, ha, hp, q⟩
  unfold prAny at hp
  split at hp
  · rename_i d0
    cases ha with | cons a ha =>
    cases ha
    cases e : lotD d0 with
    | none => rw [e] at hp; cases hp
    | some ys =>
      rw [e] at hp
      simp only [Option.bind] at hp
      split at hp
      · rename_i hcm
        obtain ⟨hpl, hd⟩ := okDs_of hcm
        cases hp
        obtain ⟨a1, vs, e1, l1, q1, hk⟩ := lotD_of a e
        subst e1
        rw [Vals.ref1 r]
        obtain ⟨its, as, rv, rr, hh⟩ := lot_items I hS q1 hk hpl
        have fin : ∀ h' tk, (∀ b o, s.heap.get? b = some o → h'.get? b = some o) → EP X pins σ Q (.bool (ys.any PyData.truthy)) { s with heap := h', toks := tk } := fun h' tk hk' => ⟨.bl _, H, I.kept hk', rfl, q _ H (KeepA.refl H) (.bl _)⟩
        rcases hh with hh | hh
        · exact W.any_list_data (I.ok.hd hc) hh (by simpa using rr) hpl (reps_fits q1) fin
        · exact W.any_tuple_data (I.ok.hd hc) hh (by simpa using rr) hpl (reps_fits q1) fin
      · cases hp
  · cases hp
theorem reps_ints {K : PySem.W.Frag} {H : Hp} {S : List Addr} : ∀ {vs : List V} {ds : List D} {ns : List Int}, Reps K H S vs ds → intsOf ds = some ns → vs = ns.map V.int
  | _, _, _, .nil, e => by cases e; rfl
  | _, d :: ds, ns, .cons a r, e => by
    unfold intsOf at e
    split at e
    · rename_i e'; cases e'
    · rename_i e'
      cases e'
      cases a
      rename_i i
      cases e1 : intsOf ds with
      | none => rw [e1] at e; cases e
      | some ms =>
        rw [e1] at e; cases e
        rw [reps_ints r e1]; rfl
    · cases e
theorem preSum_ints (ns : List Int) : ∀ j, PySem.preSum (fun i => ns.getD i 0) j = (ns.take j).sum
  | 0 => by simp [preSum]
  | j + 1 => by rw [preSum, preSum_ints ns j, PySem.sum_take_succ]
theorem k_sum1 (hc : X.calm = true) : CallR X (.builtin "sum") (rPr X.K prSum1) := by
  intro pins s σ H xs us Q I r ⟨S, ds, d, f, hS, ha, hp, q⟩
  unfold prSum1 at hp
  split at hp
  · rename_i d0
    cases ha with | cons a ha =>
    cases ha
    cases e : lotD d0 with
    | none => rw [e] at hp; cases hp
    | some ys =>
      rw [e] at hp
      simp only [Option.bind] at hp
      cases e2 : intsOf ys with
      | none => rw [e2] at hp; cases hp
      | some ns =>
        rw [e2] at hp
        cases hp
        obtain ⟨a1, vs, e1, l1, q1, hk⟩ := lotD_of a e
        have ev := reps_ints q1 e2
        subst e1; subst ev
        rcases hk with ⟨_, hk⟩ | ⟨_, hk⟩
        · exact cr_sum hc pins s σ H _ us Q I r ⟨a1, ns, rfl, .inl hk, q _ H (KeepA.refl H) (.int _)⟩
        · rw [Vals.ref1 r]
          obtain ⟨its, rv, pl, _⟩ := I.tuple hk.sq
          refine call_sum_walkAnyS (W.iter_tupleW (A := X.A.in1) (I.ok.hd hc) pl fun s₂ e Wk st hfp hw hk => ?_)
          refine ⟨_, _, _, _, _, _, _, fun i => ns.getD i 0, rfl, Wk, st, hfp, fun i v hv => ?_, fun s' t' m => ?_⟩
          · obtain ⟨x, h1, h2⟩ := Vals.getB rv (by simpa using hv)
            rw [List.getElem?_map] at h1
            cases e3 : ns[i]? with
            | none => rw [e3] at h1; cases h1
            | some n =>
              rw [e3] at h1; cases h1
              obtain ⟨t, rfl⟩ := h2
              exact ⟨t, by simp [List.getD, e3]⟩
          · obtain ⟨h', tk, rfl, hk'⟩ := W.moved_old e rfl m
            have hl : its.toArray.size = ns.length := by rw [List.size_toArray, ← rv.length, List.length_map]
            rw [hl, preSum_ints, List.take_length]
            exact ⟨.int _, H, I.kept hk', ⟨_, rfl⟩, q _ H (KeepA.refl H) (.int _)⟩
  · cases hp

/-! ### list(x) -/
theorem vals_at : ∀ {xs : List V} {us : List Value}, xs.length = us.length → (∀ (i : Nat) x u, xs[i]? = some x → us[i]? = some u → RelV x u) → Vals xs us
  | [], [], _, _ => .nil
  | x :: xs, u :: us, h, k => .cons (k 0 x u rfl rfl) (vals_at (by simpa using h) fun i y w a b => k (i + 1) y w (by simpa using a) (by simpa using b))
  | [], _ :: _, h, _ => by simp at h
  | _ :: _, [], h, _ => by simp at h
theorem reps_of {K : PySem.W.Frag} {H : Hp} {S : List Addr} {f : V → D} : ∀ {vs : List V}, (∀ v ∈ vs, Rep K H S v (f v)) → Reps K H S vs (vs.map f)
  | [], _ => .nil
  | v :: vs, h => .cons (h v List.mem_cons_self) (reps_of fun w hw => h w (List.mem_cons_of_mem _ hw))
theorem keys_zip {α β : Type} : ∀ {xs : List α} {ys : List β}, xs.length = ys.length → (xs.zip ys).map Prod.fst = xs
  | [], [], _ => rfl
  | x :: xs, y :: ys, h => by
    rw [List.zip_cons_cons, List.map_cons, keys_zip (by simpa using h)]
  | [], _ :: _, h => by simp at h
  | _ :: _, [], h => by simp at h
/-- the keys of a dict of tuples -/
theorem rep_tkeys {K : PySem.W.Frag} {H : Hp} {S : List Addr} : ∀ {kvs : List (List Key × V)} {bs : List Addr}, IsKeys H kvs bs → (∀ p ∈ kvs, isC (tkeyD p.1) = false ∧ p.1.length ≤ sizeLine ∧ ∀ x, Sum.inr x ∈ p.1 → x.length ≤ sizeLine) → Reps K H S (bs.map V.ref) (kvs.map fun p => tkeyD p.1)
  | _, _, .nil, _ => .nil
  | p :: _, _, .cons h t, l => .cons (.tup (.inl h) (by rw [List.length_map]; exact (l p List.mem_cons_self).2.1) (rep_keys (l p List.mem_cons_self).2.2)) (rep_tkeys t fun q hq => l q (List.mem_cons_of_mem _ hq))
theorem k_lstOf (hc : X.calm = true) : CallR X (.type "list") (rPr X.K prLstOf) := by
  intro pins s σ H xs us Q I r ⟨S, ds, d, f, hS, ha, hp, q⟩
  unfold prLstOf at hp
  split at hp
  · rename_i d0
    cases ha with | cons a ha =>
    cases ha
    cases e : seqD d0 with
    | none => rw [e] at hp; cases hp
    | some ys =>
      rw [e] at hp
      cases hp
      unfold seqD at e
      split at e
      · cases e
        obtain ⟨p1, vs1, e2, r1, l1, q1⟩ := a.list
        exact call_list_of pins s σ H _ us Q I r ⟨p1, vs1, by rw [e2], .inl (.inl r1), fun l hl => q _ _ (KeepA.upd hl) (res_lst hS hl l1 q1)⟩
      · cases e
        obtain ⟨p1, vs1, e2, r1, l1, q1⟩ := a.tuple
        exact call_list_of pins s σ H _ us Q I r ⟨p1, vs1, by rw [e2], .inr r1.sq, fun l hl => q _ _ (KeepA.upd hl) (res_lst hS hl l1 q1)⟩
      · rename_i x
        cases e
        have hx := a.str.1
        have hz := a.str.2
        subst hx
        obtain ⟨u, rfl, t, rfl⟩ := vals1 r
        refine call_list_str (I.ok.hd hc) x t (fun h' tk acc' c' hk hS' hacc => ?_) hz
        have rv : Vals (x.cps.toList.map fun c => V.str (sign c)) acc'.toList := by
          refine vals_at (by rw [List.length_map, Array.length_toList, Array.length_toList]; exact hacc.1.symm) fun i y w e1 e2 => ?_
          obtain ⟨c, t', h1, h2⟩ := hacc.2 i w (by rw [← Array.getElem?_toList]; exact e2)
          rw [List.getElem?_map, Array.getElem?_toList, h1] at e1
          cases e1
          exact ⟨t', h2⟩
        have hn := I.hok.fresh (Nat.le_refl _)
        refine ⟨.ref s.heap.objs.size, _, I.laid (t' := tk) hk (Nat.le_refl _) (show ObjOk X.prog X.w _ h' _ (.lst (x.cps.toList.map fun c => V.str (sign c))) from ⟨by rw [List.length_map]; exact hz, acc'.toList, c', rv, by simpa using hS'⟩), rfl, q _ _ (KeepA.upd hn) (res_lst hS hn (by rw [List.length_map]; exact hz) ?_)⟩
        rw [show (x.cps.toList.map fun c => (PyData.str (sign c) : D)) = (x.cps.toList.map fun c => V.str (sign c)).map fun v => match v with | .str z => .str z | _ => .none by rw [List.map_map]; rfl]
        refine reps_of fun v hv => ?_
        obtain ⟨c, _, rfl⟩ := List.mem_map.mp hv
        exact .str (by rw [sizeLine_eq]; show (#[c] : Array Nat).size ≤ _; simp)
      · rename_i kv
        cases e
        obtain ⟨p, e3, hd⟩ := a.dict
        rcases hd with ⟨kvs, es, r3, l, q2, e4⟩ | ⟨kvs, es, r3, l, q2, e4⟩
        · refine call_listD hc pins s σ H _ us Q I r ⟨p, kvs, by rw [e3], r3, fun l' hl => q _ _ (KeepA.upd hl) (res_lst hS hl (by rw [List.length_map]; exact l.1) ?_)⟩
          have hl : kvs.length = es.length := by rw [← q2.len, List.length_map]
          rw [e4, keys_zip (by rw [List.length_map]; exact hl)]
          have := rep_keys (K := X.K) (H := H) (S := S) (ks := kvs.map Prod.fst) (fun x hx => by
            obtain ⟨p', hp', ex⟩ := List.mem_map.mp hx
            exact l.2 p' hp' x ex)
          rw [List.map_map, List.map_map] at this
          exact this
        · refine call_list_dT hc pins s σ H _ us Q I r ⟨p, kvs, by rw [e3], r3, fun l' bs hl hb => ?_⟩
          have hlb : kvs.length = bs.length := Paired.length hb
          refine q _ _ (KeepA.upd hl) (res_lst hS hl (by rw [List.length_map, ← hlb]; exact l.1) ?_)
          have hl : kvs.length = es.length := by rw [← q2.len, List.length_map]
          rw [e4, keys_zip (by rw [List.length_map]; exact hl)]
          exact rep_tkeys hb l.2.2
      · cases e
  · cases hp

/-! ### sorted(xs) -/
theorem eachIs_zip {K : PySem.W.Frag} {H : Hp} {S : List Addr} : ∀ {vs : List V} {ds : List D} {us : List Value}, Reps K H S vs ds → Vals vs us → W.EachIs (fun u (p : V × D) => RelV p.1 u ∧ Rep K H S p.1 p.2) us (vs.zip ds)
  | _, _, _, .nil, .nil => .nil
  | _, _, _, .cons a r, .cons b t => .cons ⟨b, a⟩ (eachIs_zip r t)
theorem eachIs_read {K : PySem.W.Frag} {H : Hp} {S : List Addr} {h : Heap} : ∀ {vs : List V} {ds : List D} {us : List Value} {as : List Addr}, Reps K H S vs ds → ReadsAll h us ds as → W.EachIs (fun u (p : V × D) => ∃ as, Reads h u p.2 as) us (vs.zip ds)
  | _, _, _, _, .nil, .nil => .nil
  | _, _, _, _, .cons a r, .cons b t => .cons ⟨_, b⟩ (eachIs_read r t)
theorem eachIs_vals {K : PySem.W.Frag} {H : Hp} {S : List Addr} : ∀ {us : List Value} {ps : List (V × D)}, W.EachIs (fun u (p : V × D) => RelV p.1 u ∧ Rep K H S p.1 p.2) us ps → Vals (ps.map Prod.fst) us ∧ Reps K H S (ps.map Prod.fst) (ps.map Prod.snd)
  | _, _, .nil => ⟨.nil, .nil⟩
  | _, _, .cons h t => ⟨.cons h.1 (eachIs_vals t).1, .cons h.2 (eachIs_vals t).2⟩
theorem zip_snd {α β : Type} : ∀ {xs : List α} {ys : List β}, xs.length = ys.length → (xs.zip ys).map Prod.snd = ys
  | [], [], _ => rfl
  | x :: xs, y :: ys, h => by
    rw [List.zip_cons_cons, List.map_cons, zip_snd (by simpa using h)]
  | [], _ :: _, h => by simp at h
  | _ :: _, [], h => by simp at h
theorem depthAll_mem {x : D} : ∀ {xs : List D}, x ∈ xs → x.depth ≤ PyData.depthAll xs
  | y :: ys, h => by
    rw [PyData.depthAll]
    rcases List.mem_cons.mp h with rfl | h
    · exact Nat.le_max_left _ _
    · exact Nat.le_trans (depthAll_mem h) (Nat.le_max_right _ _)
theorem k_sorted (hu : X.A.units + 100 < cLine) : CallR X (.builtin "sorted") (rPr X.K prSortedL) := by
  intro pins s σ H xs us Q I r ⟨S, ds, d, f, hS, ha, hp, q⟩
  unfold prSortedL at hp
  split at hp
  · rename_i ys
    cases ha with | cons a ha =>
    cases ha
    split at hp
    · rename_i hk
      cases hp
      unfold sortOk at hk
      rw [Bool.and_eq_true] at hk
      obtain ⟨hpl, hd, hal⟩ := cmpAll_of hk.1
      obtain ⟨p1, vs1, e2, r1, l1, q1⟩ := a.list
      subst e2
      rw [Vals.ref1 r]
      obtain ⟨its, rv, pl, hz⟩ := I.list (.inl r1)
      obtain ⟨as, rr⟩ := Reps.reads I q1 rv hpl
      have hlz : vs1.length = ys.length := q1.len
      have ez : (vs1.zip ys).map Prod.snd = ys := zip_snd hlz
      have hsk : W.Sortable ys := by
        rcases (Bool.or_eq_true _ _).mp hk.2 with h | h
        · refine .inl fun d hd => ?_
          have := List.all_eq_true.mp h d hd
          split at this
          · exact ⟨_, _, rfl⟩
          · cases this
        · refine .inr fun d hd => ⟨hal.2 d hd, fun zs e => ?_⟩
          have := List.all_eq_true.mp h d hd
          subst e
          cases this
      refine W.sorted_data (enc := fun p : V × D => p.2) pl.isList (eachIs_zip q1 rv) (eachIs_read q1 rr) (by rw [ez]; exact hal.1) (by rw [ez]; exact hsk) (by rw [List.length_zip, hlz, Nat.min_self, ← hlz]; exact l1) (fun b hb => ?_) fun out ho eo => ?_
      · have hm : b.2 ∈ ys := by rw [← ez]; exact List.mem_map_of_mem hb
        have := depthAll_mem hm
        omega
      · obtain ⟨w1, w2⟩ := eachIs_vals eo
        have em : ((vs1.zip ys).mergeSort (W.dataLe false fun p : V × D => p.2)).map Prod.snd = sortD ys := by
          rw [sortD_merge ys hal.1]
          conv => rhs; rw [← ez]
          exact W.sort_maps (s := W.dataLe false id) Prod.snd fun a _ b _ => rfl
        rw [em] at w2
        obtain ⟨ep, he'⟩ := PyProof.Rows.sortedAll_at s.heap its out.toArray
        have hn : H (s.heap.objs.size + 1) = none := I.hok.fresh (Nat.le_succ _)
        have hl2 : (((vs1.zip ys).mergeSort (W.dataLe false fun p : V × D => p.2)).map Prod.fst).length ≤ sizeLine := by
          rw [List.length_map, List.length_mergeSort, List.length_zip, hlz, Nat.min_self, ← hlz]; exact l1
        exact ⟨.ref _, upd H (s.heap.objs.size + 1) (.lst _), I.laid (t' := s.toks) (fun _ _ => PyProof.Rows.sortedAll_old) (Nat.le_succ _) ⟨hl2, out, ep, w1, he'⟩, rfl, q _ _ (KeepA.upd hn) (res_lst hS hn hl2 w2)⟩
    · cases hp
  · cases hp
end
end Ev

end

-- EvSet
section
/-! Ev: set(xs) of ints, xs a list or tuple: made, counted, sorted. -/
namespace Ev
open PySem PySem.Spec PyProof.Rows L2

section
variable {P : Program} {w : World} {A : Around} {E : Value → Shared → Prop} {s : Shared}
abbrev freshSet (w : World) : Obj := { cls := .type "set", dict := none, data := .set #[] 0 (.fresh 0 0 (!w.params.followText "set-order")) }
/-- set(x), by what its __init__ does -/
theorem set_new {a : Value} {Q : Value → Shared → Prop}
    (hnext : wpAny (model P w) A.in1.in1 (Builtin.«set.__init__» ⟨[.ref s.heap.objs.size, a], []⟩)
        (fun fin s' => match fin with | .done f => wants (fun r s₂ => r = .none ∧ Q (.ref s.heap.objs.size) s₂) E (.ok f) s' | .again c' => c'.quiet = true ∧ codeAny (model P w) A.in1 c' (wants (fun r s₂ => r = .none ∧ Q (.ref s.heap.objs.size) s₂) E) s')
        (fun e s' => wants (fun r s₂ => r = .none ∧ Q (.ref s.heap.objs.size) s₂) E (.error e) s') { s with heap := s.heap.push (freshSet w) }) :
    wpAny (model P w) A (call (.type "set") [a]) Q E s := by
  obtain ⟨c, tl, hmro⟩ := F.called_set.mro
  have hmade := F.called_set.made
  have hsub := F.called_set.sub
  refine wpAny_call (codeAny_of_tree ?_)
  show wpAny _ _ (callAny (.type "set") _) _ _ _
  refine wpAny_pure ⟨Code.quiet_builtin _ (by decide +kernel), codeAny_builtin F.entry_type_call ?_⟩
  rw [Around.under_plain (weight_type_call_type "set" [a] []) rfl]
  have h1 := F.called_set.notType
  have h2 := F.called_set.canCreate
  have hct := F.typeCall_set_1 a
  repeat (any_goals (first | assumption | wp_step))
  refine codeAny_mono (code_set_led1 a (E := E) (Q₁ := fun obj s₁ => obj = .ref s.heap.objs.size ∧ s₁ = { s with heap := s.heap.push (freshSet w) }) ⟨rfl, rfl⟩) fun r s₁ hr => ?_
  cases r with
  | error e => exact hr
  | ok fl =>
    cases fl with
    | ret obj =>
      obtain ⟨rfl, rfl⟩ := hr
      have hT : Shared.TypeIs { s with heap := s.heap.push (freshSet w) } (.ref s.heap.objs.size) "set" := ⟨_, Heap.get?_push_size _ rfl, rfl⟩
      have hli := F.called_set.init.lookup
      have hbi := F.called_set.init.bind (.ref s.heap.objs.size)
      repeat (any_goals (first | assumption | wp_step))
      refine codeAny_mono (codeAny_call_builtin F.called_set.init.plain F.entry_set_init (check_set_init_1 hT hnext)) fun r₂ s₂ hr₂ => ?_
      cases r₂ with
      | error e => exact hr₂
      | ok fl₂ =>
        cases fl₂ with
        | ret r =>
          obtain ⟨rfl, hq⟩ := hr₂
          repeat (any_goals (first | assumption | wp_step))
        | _ => exact hr₂.elim
    | _ => exact hr.elim
set_option maxHeartbeats 3200000 in
theorem set_ints {l : Addr} {items : Array Value} (ns : List Int) {Q : Value → Shared → Prop} (hh : A.handled = none) (hl : s.heap.IsList l items ∨ s.heap.IsTuple l items) (hit : IntsAre items.toList ns) (hb : ns.length + 1 < scanBound)
    (h : ∀ (h' : Heap) (tk c : Nat), SetR w h' s.heap.objs.size (fun j => decide (j ∈ ns)) c → c ≤ ns.length → (∀ b o, s.heap.get? b = some o → h'.get? b = some o) → Q (.ref s.heap.objs.size) { s with heap := h', toks := tk }) :
    wpAny (model P w) A (call (.type "set") [.ref l]) Q E s := by
  rcases hl with hl | hl
  · have hisz : items.size = ns.length := by
      have q := IntsAre.length hit
      rw [Array.length_toList] at q
      exact q
    have hS : (s.heap.push (freshSet w)).get? s.heap.objs.size = some (freshSet w) := Heap.get?_push_size _ rfl
    refine set_new ?_
    obtain ⟨⟨ocls, odict, odata, oslots⟩, hol, hcl, nl, hdl⟩ := hl
    simp only at hcl hdl
    subst hcl; subst hdl
    have hol' : (s.heap.push (freshSet w)).get? l = some { cls := .type "list", dict := odict, data := .seq items nl, slots := oslots } := Heap.get?_push_of_some _ hol
    have hsls := F.sub_list_set
    have hslf := F.sub_list_frozenset
    have hne : (Value.type "list" == Value.type "dict") = false := by decide
    have hl1 : (s.heap.push (freshSet w)).IsList l items := ⟨_, hol', rfl, nl, rfl⟩
    unfold Builtin.«set.__init__» noKeywords Builtin.Frozenset.updateFrom
    generalize hPI : pyIter = PI
    wp_walk
    subst hPI
    refine wpAny_pyIter_list hl1 ?_
    refine wpAny_bind (wpAny_runValue ?_)
    have hlS : l < s.heap.objs.size := Heap.lt_size hol
    have hneI : l ≠ (s.heap.push (freshSet w)).objs.size := by rw [Heap.size_push]; exact Nat.ne_of_lt (Nat.lt_succ_of_lt hlS)
    have hSf : s.heap.objs.size ∉ [(s.heap.push (freshSet w)).objs.size, l] := by
      rw [Heap.size_push]; simp only [List.mem_cons, List.mem_singleton, List.not_mem_nil, or_false, not_or]
      exact ⟨Nat.ne_of_lt (Nat.lt_succ_self _), Nat.ne_of_gt hlS⟩
    have hval : ∀ (i : Nat) (v : Value), items[i]? = some v → ∃ k t, ns[i]? = some k ∧ v = .int k t := fun i v hv => by
      have hi : i < ns.length := by rw [← hisz]; exact (Array.getElem?_eq_some_iff.mp hv).1
      obtain ⟨t, e⟩ := PyProof.Rows.IntsAre.int_at hit i v (by rw [Array.getElem?_toList]; exact hv)
      refine ⟨ns[i], t, List.getElem?_eq_getElem hi, ?_⟩
      rw [e, List.getD_eq_getElem?_getD, List.getElem?_eq_getElem hi] <;> rfl
    refine set_update_ints ((Walks.list (by simp [hh]) _ l hneI items).toS) s.heap.objs.size
      hSf ns hisz hb hval (items.size - 0) 0 _ (by omega) (Nat.zero_le _)
      ⟨⟨_, Heap.get?_push_size _ rfl, rfl, rfl⟩, (hl1.push _)⟩ ⟨0, Nat.le_refl 0, setR_new_at (Heap.get?_push_of_some _ hS)⟩ fun s' c' hm hc' hS' => ?_
    obtain ⟨h', g2, d', tk', os'⟩ := s'
    obtain rfl : g2 = s.gens := hm.gens
    obtain rfl : d' = s.drawn := hm.drawn
    obtain rfl : os' = s.os := hm.os
    show wpAny _ _ _ _ _ _
    refine wpAny_pure ?_
    show wpAny _ _ (ret Value.none) _ _ _
    rw [hisz] at hc'
    refine wpAny_pure ⟨rfl, h _ _ _ hS' hc' fun b o e => ?_⟩
    have hb0 : b < s.heap.objs.size := Heap.lt_size e
    have hb2 : b ≠ (s.heap.push (freshSet w)).objs.size := by rw [Heap.size_push]; exact Nat.ne_of_lt (Nat.lt_succ_of_lt hb0)
    exact hm.heap b o (by simp only [List.mem_cons, List.mem_singleton, List.not_mem_nil, or_false, not_or]; exact ⟨Nat.ne_of_lt hb0, hb2⟩) (Heap.get?_push_of_some _ (Heap.get?_push_of_some _ e))
  · exact call_set_tupI ns hh hl hit hb h
end

/-! ### what is met once -/
theorem eqK_int (a b : Int) : eqK (.int a) (.int b) = decide (a = b) := by
  show (a == b) = _
  by_cases h : a = b <;> simp [h]
def dedupI : List Int → List Int
  | [] => []
  | x :: xs => if x ∈ xs then dedupI xs else x :: dedupI xs
theorem dedup_ints : ∀ ns : List Int, dedup (ns.map PyData.int) = (dedupI ns).map PyData.int
  | [] => rfl
  | x :: xs => by
    rw [List.map_cons]
    unfold dedup dedupI
    have e : (xs.map PyData.int).any (eqK (.int x)) = decide (x ∈ xs) := by
      rw [List.any_map]
      induction xs with
      | nil => simp
      | cons y ys ih =>
        have e1 : (eqK (.int x) ∘ PyData.int) y = decide (x = y) := eqK_int x y
        rw [List.any_cons, ih, e1]
        by_cases h : x = y <;> simp [h]
    rw [e, dedup_ints xs]
    by_cases h : x ∈ xs <;> simp [h]
theorem mem_dedupI {k : Int} : ∀ {ns : List Int}, k ∈ dedupI ns ↔ k ∈ ns
  | [] => Iff.rfl
  | x :: xs => by
    unfold dedupI
    by_cases h : x ∈ xs
    · rw [if_pos h, mem_dedupI, List.mem_cons]
      exact ⟨.inr, fun z => z.elim (fun e => e ▸ h) id⟩
    · rw [if_neg h, List.mem_cons, List.mem_cons, mem_dedupI]
theorem nodup_dedupI : ∀ ns : List Int, (dedupI ns).Nodup
  | [] => List.Pairwise.nil
  | x :: xs => by
    unfold dedupI
    by_cases h : x ∈ xs
    · rw [if_pos h]; exact nodup_dedupI xs
    · rw [if_neg h]
      exact List.nodup_cons.mpr ⟨fun z => h (mem_dedupI.mp z), nodup_dedupI xs⟩
theorem intsOf_map : ∀ {ds : List D} {ns : List Int}, intsOf ds = some ns → ds = ns.map PyData.int
  | [], ns, e => by cases e; rfl
  | d :: ds, ns, e => by
    unfold intsOf at e
    split at e
    · rename_i e'; cases e'
    · rename_i e'
      cases e'
      cases e1 : intsOf ds with
      | none => rw [e1] at e; cases e
      | some ms =>
        rw [e1] at e; cases e
        rw [intsOf_map e1]; rfl
    · cases e
theorem nodup_perm {l m : List Int} (hl : l.Nodup) (hm : m.Nodup) (h : ∀ k, k ∈ l ↔ k ∈ m) : l.Perm m := by
  rw [List.perm_ext_iff_of_nodup hl hm]
  exact h
theorem lt_sorted_eq : ∀ {l m : List Int}, l.Pairwise (· < ·) → m.Pairwise (· < ·) → (∀ k, k ∈ l ↔ k ∈ m) → l = m
  | [], [], _, _, _ => rfl
  | [], y :: ys, _, _, h => by have := (h y).mpr List.mem_cons_self; simp at this
  | x :: xs, [], _, _, h => by have := (h x).mp List.mem_cons_self; simp at this
  | x :: xs, y :: ys, hl, hm, h => by
    obtain ⟨l1, l2⟩ := List.pairwise_cons.mp hl
    obtain ⟨m1, m2⟩ := List.pairwise_cons.mp hm
    have e : x = y := by
      rcases List.mem_cons.mp ((h x).mp List.mem_cons_self) with e | hx
      · exact e
      · rcases List.mem_cons.mp ((h y).mpr List.mem_cons_self) with e | hy
        · exact e.symm
        · have := m1 x hx
          have := l1 y hy
          omega
    subst e
    congr 1
    refine lt_sorted_eq l2 m2 fun k => ⟨fun hk => ?_, fun hk => ?_⟩
    · rcases List.mem_cons.mp ((h k).mp (List.mem_cons_of_mem _ hk)) with e | hk'
      · subst e; have := l1 k hk; omega
      · exact hk'
    · rcases List.mem_cons.mp ((h k).mpr (List.mem_cons_of_mem _ hk)) with e | hk'
      · subst e; have := m1 k hk; omega
      · exact hk'
theorem reps_any {K : PySem.W.Frag} {H : Hp} {S : List Addr} : ∀ ms : List Int, Reps K H S (ms.map V.int) (ms.map PyData.int)
  | [] => .nil
  | m :: ms => .cons (.int m) (reps_any ms)
/-- our sorting of ints -/
def insI (x : Int) : List Int → List Int
  | [] => [x]
  | y :: ys => if y < x then y :: insI x ys else x :: y :: ys
def sortI : List Int → List Int
  | [] => []
  | x :: xs => insI x (sortI xs)
theorem insD_ints (x : Int) : ∀ l : List Int, insD (.int x) (l.map PyData.int) = (insI x l).map PyData.int
  | [] => rfl
  | y :: l => by
    rw [List.map_cons]
    unfold insD insI
    have e : ltD (.int y) (.int x) = decide (y < x) := rfl
    rw [e]
    by_cases h : y < x
    · simp [h, insD_ints x l]
    · simp [h]
theorem sortD_ints : ∀ l : List Int, sortD (l.map PyData.int) = (sortI l).map PyData.int
  | [] => rfl
  | x :: l => by
    rw [List.map_cons]
    unfold sortD sortI
    rw [sortD_ints l, insD_ints]
theorem insI_perm (x : Int) : ∀ l : List Int, (insI x l).Perm (x :: l)
  | [] => List.Perm.refl _
  | y :: l => by
    unfold insI
    split
    · exact ((insI_perm x l).cons y).trans (List.Perm.swap x y l)
    · exact List.Perm.refl _
theorem sortI_perm : ∀ l : List Int, (sortI l).Perm l
  | [] => List.Perm.refl _
  | x :: l => (insI_perm x (sortI l)).trans ((sortI_perm l).cons x)
theorem insI_sorted {x : Int} : ∀ {l : List Int}, l.Pairwise (· ≤ ·) → (insI x l).Pairwise (· ≤ ·)
  | [], _ => by simp [insI]
  | y :: l, h => by
    obtain ⟨h1, h2⟩ := List.pairwise_cons.mp h
    unfold insI
    split
    · rename_i hlt
      refine List.pairwise_cons.mpr ⟨fun z hz => ?_, insI_sorted h2⟩
      rcases List.mem_cons.mp ((insI_perm x l).mem_iff.mp hz) with rfl | hz
      · omega
      · exact h1 z hz
    · rename_i hlt
      refine List.pairwise_cons.mpr ⟨fun z hz => ?_, h⟩
      rcases List.mem_cons.mp hz with rfl | hz
      · omega
      · have := h1 z hz; omega
theorem sortI_sorted : ∀ l : List Int, (sortI l).Pairwise (· ≤ ·)
  | [] => List.Pairwise.nil
  | x :: l => insI_sorted (sortI_sorted l)
theorem mem_sortI {k : Int} {l : List Int} : k ∈ sortI l ↔ k ∈ l := (sortI_perm l).mem_iff

section
variable {X : Cx}
/-- set(xs) of ints -/
def rSetNew (K : PySem.W.Frag) (w : World) : List V → Hp → VK → Prop := fun vs H Q => ∃ S d xs ns v, (∀ b ∈ S, LiveM H b) ∧ vs = [v] ∧ ArgR K H S v d ∧ lotD d = some xs ∧ intsOf xs = some ns ∧ ns.length ≤ 1000 ∧
  ∀ p c, H p = none → c ≤ ns.length → Q (.ref p) (upd H p (SetO w p (fun j => decide (j ∈ ns)) c))
theorem k_setNew (hc : X.calm = true) : CallR X (.type "set") (rSetNew X.K X.w) := by
  intro pins s σ H xs us Q I r ⟨S, d, ds, ns, v, hS, e, ha, e1, e2, hl, q⟩
  subst e
  obtain ⟨a1, vs, e3, l1, q1, hk⟩ := lotD_of ha e1
  have ev := reps_ints q1 e2
  subst e3; subst ev
  rw [Vals.ref1 r]
  have hit : ∃ its : Array Value, (s.heap.IsList a1 its ∨ s.heap.IsTuple a1 its) ∧ IntsAre its.toList ns := by
    rcases hk with ⟨_, hk⟩ | ⟨_, hk⟩
    · obtain ⟨its, rv, pl, _⟩ := I.list (.inl hk)
      exact ⟨its.toArray, .inl pl.isList, by simpa using rv.ints⟩
    · obtain ⟨its, rv, pl, _⟩ := I.tuple hk.sq
      exact ⟨its.toArray, .inr pl, by simpa using rv.ints⟩
  obtain ⟨its, h1, h2⟩ := hit
  refine set_ints ns (I.ok.hd hc) h1 h2 (by unfold scanBound; omega) fun h' tk c R hcl hk' => ?_
  exact ⟨.ref _, upd H s.heap.objs.size (SetO X.w s.heap.objs.size (fun j => decide (j ∈ ns)) c), I.laid (t' := tk) hk' (Nat.le_refl _) (setO_new R), rfl, q _ c (I.hok.fresh (Nat.le_refl _)) hcl⟩
/-- len(a set of ints) -/
def rLenSetO (w : World) : List V → Hp → VK → Prop := fun vs H Q => ∃ a ns c, vs = [V.ref a] ∧ H a = some (SetO w a (fun j => decide (j ∈ ns)) c) ∧ Q (.int (dedupI ns).length) H
theorem k_lenSetO : CallR X (.builtin "len") (rLenSetO X.w) := by
  intro pins s σ H vs us Q I r ⟨a, ns, c, e, ha, q⟩
  subst e
  rw [Vals.ref1 r]
  obtain ⟨o, es, ep, t, ho, hex, hd, g, nd, hm, hb, hf, hn, _, _⟩ := setO_get I ha
  have hlen : es.size = (dedupI ns).length := by
    have p := nodup_perm nd (nodup_dedupI ns) fun k => by rw [← hm k, decide_eq_true_eq, mem_dedupI]
    have := p.length_eq
    rw [List.length_map, Array.length_toList] at this
    exact this
  exact call_len_set ho hex hd hf (by unfold scanBound at hb; omega) ⟨.int _, H, I.tok _, ⟨_, by rw [hlen]⟩, q⟩
theorem setAt_new {H : Hp} {p : Addr} {w : World} {ns : List Int} {c : Nat} : (upd H p (SetO w p (fun j => decide (j ∈ ns)) c)) p = some (SetO w p (fun j => decide (j ∈ ns)) c) := upd_same
/-- len(set(e)), sorted(set(e)) -/
theorem lenSet_to {x : V} {H : Hp} {Q : VK} (h : rPr1 X.K prLenSet x H Q) : rSetNew X.K X.w [x] H fun y H2 => rLenSetO X.w [y] H2 Q := by
  obtain ⟨S, ds, d, f, hS, ha, hp, q⟩ := h
  cases ha with | cons a ha =>
  cases ha
  rename_i d0
  have hp' : ((lotD d0).bind fun xs => (intsOf xs).bind fun ns => if decide (ns.length ≤ 1000) then some ((.int (dedup xs).length : D), false) else none) = some (d, f) := hp
  cases e1 : lotD d0 with
  | none => rw [e1] at hp'; cases hp'
  | some xs =>
    rw [e1] at hp'
    cases e2 : intsOf xs with
    | none => simp only [Option.bind, e2] at hp'; cases hp'
    | some ns =>
      simp only [Option.bind, e2] at hp'
      split at hp'
      · rename_i hl
        cases hp'
        refine ⟨S, d0, xs, ns, x, hS, rfl, a, e1, e2, of_decide_eq_true hl, fun p c hn hc => ⟨p, ns, c, rfl, setAt_new, ?_⟩⟩
        have e3 : (dedup xs).length = (dedupI ns).length := by rw [intsOf_map e2, dedup_ints, List.length_map]
        rw [← e3]
        exact q _ _ (KeepA.upd hn) (.int _)
      · cases hp'
theorem sortSet_to {x : V} {H : Hp} {Q : VK} (h : rPr1 X.K prSortSetI x H Q) : rSetNew X.K X.w [x] H fun y H2 => rSortedSet X.w [y] H2 Q := by
  obtain ⟨S, ds, d, f, hS, ha, hp, q⟩ := h
  cases ha with | cons a ha =>
  cases ha
  rename_i d0
  have hp' : ((lotD d0).bind fun xs => (intsOf xs).bind fun ns => if decide (ns.length < 64) then some ((.list (sortD (dedup xs)) : D), true) else none) = some (d, f) := hp
  cases e1 : lotD d0 with
  | none => rw [e1] at hp'; cases hp'
  | some xs =>
    rw [e1] at hp'
    cases e2 : intsOf xs with
    | none => simp only [Option.bind, e2] at hp'; cases hp'
    | some ns =>
      simp only [Option.bind, e2] at hp'
      split at hp'
      · rename_i hl
        have hl := of_decide_eq_true hl
        cases hp'
        refine ⟨S, d0, xs, ns, x, hS, rfl, a, e1, e2, by omega, fun p c hn hc => ⟨p, _, c, rfl, setAt_new, by omega, fun ms p2 m1 m2 m3 hp2 => ?_⟩⟩
        have e3 : sortD (dedup xs) = ms.map PyData.int := by
          rw [intsOf_map e2, dedup_ints, sortD_ints]
          congr 1
          refine lt_sorted_eq (lt_of_le_nodup _ (sortI_sorted _) ((sortI_perm _).nodup_iff.mpr (nodup_dedupI ns))) m1 fun k => ?_
          rw [mem_sortI, mem_dedupI, m2 k, decide_eq_true_eq]
        rw [e3] at q
        have hne : p2 ≠ p := fun z => by rw [z, upd_same] at hp2; cases hp2
        have hn2 : H p2 = none := by rw [← upd_ne (H := H) (o := SetO X.w p (fun j => decide (j ∈ ns)) c) hne]; exact hp2
        have kp : KeepA H (upd (upd H p (SetO X.w p (fun j => decide (j ∈ ns)) c)) p2 (.lst (ms.map V.int))) := fun b o e => upd_kp hp2 (upd_kp hn e)
        have hlen : (ms.map V.int).length ≤ sizeLine := by rw [List.length_map, m3, sizeLine_eq]; omega
        exact q (.ref p2) _ kp ⟨p2, rfl, hn2, .lst (.inl upd_same) hlen (reps_any ms), by rw [upd_same]; exact trivial⟩
      · cases hp'
/-! ### tuples of ints -/
theorem natsOf_ints : ∀ {ds : List D} {ns : List Int}, natsOf ds = some ns → ds = ns.map PyData.int ∧ ∀ m ∈ ns, 0 ≤ m
  | [], ns, e => by cases e; exact ⟨rfl, by simp⟩
  | d :: ds, ns, e => by
    unfold natsOf at e
    split at e
    · rename_i e'; cases e'
    · rename_i i r e'
      cases e'
      by_cases h : 0 ≤ i
      · rw [if_pos h] at e
        cases e1 : natsOf ds with
        | none => rw [e1] at e; cases e
        | some ms =>
          rw [e1] at e; cases e
          obtain ⟨h1, h2⟩ := natsOf_ints e1
          exact ⟨by rw [h1]; rfl, fun m hm => by
            rcases List.mem_cons.mp hm with z | z
            · rw [z]; exact h
            · exact h2 m z⟩
      · rw [if_neg h] at e; cases e
    · cases e
def tI (ns : List Int) : D := .tuple (ns.map PyData.int)
theorem tupsOf_tups {n : Nat} : ∀ {ds : List D} {ts : List (List Int)}, tupsOf n ds = some ts → ds = ts.map tI ∧ ∀ ns ∈ ts, ns.length = n ∧ ∀ m ∈ ns, 0 ≤ m
  | [], ts, e => by cases e; exact ⟨rfl, by simp⟩
  | d :: ds, ts, e => by
    unfold tupsOf at e
    split at e
    · rename_i e'; cases e'
    · rename_i xs r e'
      cases e'
      cases e1 : natsOf xs with
      | none => rw [e1] at e; cases e
      | some ns =>
        rw [e1] at e
        simp only [Option.bind] at e
        by_cases h : ns.length = n
        · rw [if_pos h] at e
          cases e2 : tupsOf n ds with
          | none => rw [e2] at e; cases e
          | some tr =>
            rw [e2] at e; cases e
            obtain ⟨h1, h2⟩ := tupsOf_tups e2
            obtain ⟨h3, h4⟩ := natsOf_ints e1
            exact ⟨by rw [h1, h3]; rfl, fun q hq => by
              rcases List.mem_cons.mp hq with z | z
              · rw [z]; exact ⟨h, h4⟩
              · exact h2 q z⟩
        · rw [if_neg h] at e; cases e
    · cases e
/-- tuples of ints, in a list of the heap -/
theorem reps_tups {K : PySem.W.Frag} {H : Hp} {S : List Addr} : ∀ {vs : List V} {ts : List (List Int)}, Reps K H S vs (ts.map tI) → ∃ ks : List (Addr × List Int), vs = ks.map (fun p => V.ref p.1) ∧ ks.map (·.2) = ts ∧ ∀ p ∈ ks, SqT K H p.1 (p.2.map V.int) ∧ Rep K H S (.ref p.1) (tI p.2)
  | _, [], .nil => ⟨[], rfl, rfl, by simp⟩
  | _, t :: ts, .cons a r => by
    obtain ⟨ks, h1, h2, h3⟩ := reps_tups r
    have a0 := a
    cases a with
    | tup ht hl hq =>
      rename_i p vs
      have e := reps_ints hq (show intsOf (t.map PyData.int) = some t from by
        clear h1 h2 h3 r hl ht hq a0
        induction t with
        | nil => rfl
        | cons x t ih => rw [List.map_cons]; unfold intsOf; rw [ih]; rfl)
      subst e
      refine ⟨(p, t) :: ks, by rw [h1]; rfl, by rw [List.map_cons, h2], fun q hq => ?_⟩
      rcases List.mem_cons.mp hq with z | z
      · rw [z]; exact ⟨ht.sq, a0⟩
      · exact h3 q z
theorem sqT_upd {K : PySem.W.Frag} {H : Hp} {a b : Addr} {o : HO} {xs : List V} (hb : H b = none) (h : SqT K H a xs) : SqT K (upd H b o) a xs := by
  rcases h with (h | ⟨o', h⟩) | h
  · exact .inl (.inl (upd_kp hb h))
  · exact .inl (.inr ⟨_, upd_kp hb h⟩)
  · exact .inr h
theorem reps_refs {K : PySem.W.Frag} {H : Hp} {S : List Addr} : ∀ {L : List (Addr × List Int)}, (∀ p ∈ L, Rep K H S (.ref p.1) (tI p.2)) → Reps K H S (L.map fun p => V.ref p.1) ((L.map (·.2)).map tI)
  | [], _ => .nil
  | p :: L, h => .cons (h p List.mem_cons_self) (reps_refs fun q hq => h q (List.mem_cons_of_mem _ hq))
theorem live_upd {H : Hp} {b c : Addr} {o : HO} (hc : H c = none) (h : LiveM H b) : LiveM (upd H c o) b := by
  obtain ⟨u, e, q⟩ := h
  exact ⟨u, upd_kp hc e, q⟩
/-- order of lots of ints -/
def ltT : List Int → List Int → Bool
  | _, [] => false
  | [], _ :: _ => true
  | a :: x, b :: y => if a = b then ltT x y else decide (a < b)
theorem eqv_int (a b : Int) : PyData.eqv (.int a) (.int b) = decide (a = b) := by
  by_cases h : a = b
  · subst h; simp [PyData.eqv]
  · simp [PyData.eqv, h]
theorem ltDs_ints : ∀ x y : List Int, ltDs (x.map PyData.int) (y.map PyData.int) = ltT x y
  | x, [] => by cases x <;> rfl
  | [], _ :: _ => rfl
  | a :: x, b :: y => by
    rw [List.map_cons, List.map_cons]
    unfold ltDs ltT
    rw [eqv_int, ltDs_ints x y]
    have e : ltD (.int a) (.int b) = decide (a < b) := rfl
    rw [e]
    by_cases h : a = b <;> simp [h]
theorem ltD_tups (x y : List Int) : ltD (tI x) (tI y) = ltT x y := ltDs_ints x y
theorem ltT_code {B : Int} : ∀ {x y : List Int}, x.length = y.length → TS.Bd B x → TS.Bd B y → (ltT x y = true ↔ TS.code B x < TS.code B y)
  | [], [], _, _, _ => by simp [ltT]
  | a :: x, b :: y, hl, hx, hy => by
    have hl' : x.length = y.length := by simpa using hl
    unfold ltT
    by_cases h : a = b
    · subst h
      rw [if_pos rfl, ltT_code hl' hx.tail hy.tail, TS.code_same hl']
    · rw [if_neg h, decide_eq_true_eq]
      constructor
      · intro hlt; exact TS.code_lt hl' hx.tail hy.tail hlt
      · intro hc
        by_cases h2 : a < b
        · exact h2
        · have := TS.code_lt (B := B) hl'.symm hy.tail hx.tail (show b < a by omega)
          omega
def insT (x : List Int) : List (List Int) → List (List Int)
  | [] => [x]
  | y :: ys => if ltT y x then y :: insT x ys else x :: y :: ys
def sortT : List (List Int) → List (List Int)
  | [] => []
  | x :: xs => insT x (sortT xs)
theorem insD_tups (x : List Int) : ∀ l : List (List Int), insD (tI x) (l.map tI) = (insT x l).map tI
  | [] => rfl
  | y :: l => by
    rw [List.map_cons]
    unfold insD insT
    rw [ltD_tups]
    by_cases h : ltT y x = true
    · simp [h, insD_tups x l]
    · simp [h]
theorem sortD_tups : ∀ l : List (List Int), sortD (l.map tI) = (sortT l).map tI
  | [] => rfl
  | x :: l => by
    rw [List.map_cons]
    unfold sortD sortT
    rw [sortD_tups l, insD_tups]
theorem insT_perm (x : List Int) : ∀ l : List (List Int), (insT x l).Perm (x :: l)
  | [] => List.Perm.refl _
  | y :: l => by
    unfold insT
    split
    · exact ((insT_perm x l).cons y).trans (List.Perm.swap x y l)
    · exact List.Perm.refl _
theorem sortT_perm : ∀ l : List (List Int), (sortT l).Perm l
  | [] => List.Perm.refl _
  | x :: l => (insT_perm x (sortT l)).trans ((sortT_perm l).cons x)
/-- x comes not behind y -/
def leT (x y : List Int) : Prop := ltT y x = false
theorem ltT_tri : ∀ a b : List Int, ltT a b = false → ltT b a = false → a = b
  | [], [], _, _ => rfl
  | [], _ :: _, h, _ => by simp [ltT] at h
  | _ :: _, [], _, h => by simp [ltT] at h
  | x :: a, y :: b, h1, h2 => by
    unfold ltT at h1 h2
    by_cases h : x = y
    · subst h
      rw [if_pos rfl] at h1 h2
      rw [ltT_tri a b h1 h2]
    · rw [if_neg h] at h1
      rw [if_neg (Ne.symm h)] at h2
      simp at h1 h2
      omega
theorem ltT_asym : ∀ a b : List Int, ltT a b = true → ltT b a = false
  | _, [], h => by
    rename_i a; cases a <;> simp [ltT] at h
  | [], _ :: _, _ => rfl
  | x :: a, y :: b, h => by
    unfold ltT at h ⊢
    by_cases e : x = y
    · subst e
      rw [if_pos rfl] at h ⊢
      exact ltT_asym a b h
    · rw [if_neg e] at h
      rw [if_neg (Ne.symm e)]
      simp at h ⊢; omega
theorem ltT_nil : ∀ c : List Int, ltT c [] = false
  | [] => rfl
  | _ :: _ => rfl
theorem ltT_trans : ∀ a b c : List Int, ltT b a = false → ltT c b = false → ltT c a = false
  | [], _, c, _, _ => ltT_nil c
  | x :: a, [], _, h, _ => by simp [ltT] at h
  | x :: a, y :: b, [], _, h => by simp [ltT] at h
  | x :: a, y :: b, z :: c, h1, h2 => by
    unfold ltT at h1 h2 ⊢
    by_cases e1 : y = x
    · subst e1
      rw [if_pos rfl] at h1
      by_cases e2 : z = y
      · subst e2
        rw [if_pos rfl] at h2 ⊢
        exact ltT_trans a b c h1 h2
      · rw [if_neg e2] at h2 ⊢; exact h2
    · rw [if_neg e1] at h1
      by_cases e2 : z = y
      · subst e2
        rw [if_neg e1]; exact h1
      · rw [if_neg e2] at h2
        simp at h1 h2
        have e3 : z ≠ x := by omega
        rw [if_neg e3]; simp; omega
theorem insT_sorted {x : List Int} : ∀ {l : List (List Int)}, l.Pairwise leT → (insT x l).Pairwise leT
  | [], _ => by simp [insT]
  | y :: l, h => by
    obtain ⟨h1, h2⟩ := List.pairwise_cons.mp h
    unfold insT
    split
    · rename_i hlt
      refine List.pairwise_cons.mpr ⟨fun z hz => ?_, insT_sorted h2⟩
      rcases List.mem_cons.mp ((insT_perm x l).mem_iff.mp hz) with rfl | hz
      · exact ltT_asym _ _ hlt
      · exact h1 z hz
    · rename_i hlt
      have hxy : leT x y := by simpa [leT] using hlt
      refine List.pairwise_cons.mpr ⟨fun z hz => ?_, h⟩
      rcases List.mem_cons.mp hz with rfl | hz
      · exact hxy
      · exact ltT_trans _ _ _ hxy (h1 z hz)
theorem sortT_sorted : ∀ l : List (List Int), (sortT l).Pairwise leT
  | [] => List.Pairwise.nil
  | x :: l => insT_sorted (sortT_sorted l)
theorem sortT_uniq {l m : List (List Int)} (h1 : l.Pairwise leT) (h2 : m.Pairwise leT) (hp : l.Perm m) : l = m :=
  hp.eq_of_pairwise (fun a b _ _ x y => ltT_tri _ _ y x) h1 h2
theorem eqKs_tups : ∀ x y : List Int, eqKs (x.map PyData.int) (y.map PyData.int) = decide (x = y)
  | [], [] => rfl
  | [], _ :: _ => rfl
  | _ :: _, [] => rfl
  | a :: x, b :: y => by
    rw [List.map_cons, List.map_cons]
    have e1 : eqKs (.int a :: x.map PyData.int) (.int b :: y.map PyData.int) = ((a == b) && eqKs (x.map PyData.int) (y.map PyData.int)) := rfl
    rw [e1, eqKs_tups x y]
    by_cases h : a = b <;> by_cases h2 : x = y <;> simp [h, h2]
theorem eqK_tups (x y : List Int) : eqK (tI x) (tI y) = decide (x = y) := eqKs_tups x y
def dedupT : List (List Int) → List (List Int)
  | [] => []
  | x :: xs => if x ∈ xs then dedupT xs else x :: dedupT xs
theorem dedup_tups : ∀ ns : List (List Int), dedup (ns.map tI) = (dedupT ns).map tI
  | [] => rfl
  | x :: xs => by
    rw [List.map_cons]
    unfold dedup dedupT
    have e : (xs.map tI).any (eqK (tI x)) = decide (x ∈ xs) := by
      rw [List.any_map]
      induction xs with
      | nil => simp
      | cons y ys ih =>
        have e1 : (eqK (tI x) ∘ tI) y = decide (x = y) := eqK_tups x y
        rw [List.any_cons, ih, e1]
        by_cases h : x = y <;> simp [h]
    rw [e, dedup_tups xs]
    by_cases h : x ∈ xs <;> simp [h]
theorem mem_dedupT {k : List Int} : ∀ {ns : List (List Int)}, k ∈ dedupT ns ↔ k ∈ ns
  | [] => Iff.rfl
  | x :: xs => by
    unfold dedupT
    by_cases h : x ∈ xs
    · rw [if_pos h, mem_dedupT, List.mem_cons]
      exact ⟨.inr, fun z => z.elim (fun e => e ▸ h) id⟩
    · rw [if_neg h, List.mem_cons, List.mem_cons, mem_dedupT]
theorem nodup_dedupT : ∀ ns : List (List Int), (dedupT ns).Nodup
  | [] => List.Pairwise.nil
  | x :: xs => by
    unfold dedupT
    by_cases h : x ∈ xs
    · rw [if_pos h]; exact nodup_dedupT xs
    · rw [if_neg h]
      exact List.nodup_cons.mpr ⟨fun z => h (mem_dedupT.mp z), nodup_dedupT xs⟩
def bound : List (List Int) → Int
  | [] => 1
  | x :: xs => max (x.foldl max 0 + 1) (bound xs)
theorem foldl_ge : ∀ (x : List Int) (a : Int), a ≤ x.foldl max a ∧ ∀ m ∈ x, m ≤ x.foldl max a
  | [], a => ⟨Int.le_refl _, by simp⟩
  | y :: x, a => by
    rw [List.foldl_cons]
    obtain ⟨h1, h2⟩ := foldl_ge x (max a y)
    refine ⟨by omega, fun m hm => ?_⟩
    rcases List.mem_cons.mp hm with z | z
    · subst z; omega
    · exact h2 m z
theorem bound_ok : ∀ {ts : List (List Int)} {x : List Int}, x ∈ ts → (∀ m ∈ x, 0 ≤ m) → TS.Bd (bound ts) x
  | t :: ts, x, h, h0 => by
    intro m hm
    refine ⟨h0 m hm, ?_⟩
    unfold bound
    rcases List.mem_cons.mp h with z | z
    · subst z
      have := (foldl_ge x 0).2 m hm
      omega
    · have := (bound_ok z h0 m hm).2
      omega
theorem sortSetT_to {x : V} {H : Hp} {Q : VK} (h : rPr1 X.K prSortSetT x H Q) : rSetOfT X.K X.prog X.w [x] H fun y H2 => rSortedT X.K X.prog X.w [y] H2 Q := by
  obtain ⟨S, ds, d, f, hS, ha, hp, q⟩ := h
  cases ha with | cons a ha =>
  cases ha
  unfold prSortSetT at hp
  split at hp
  case h_2 => cases hp
  rename_i xs e0
  cases e0
  by_cases hc : (decide (1 ≤ firstLen xs) && decide (xs.length < 64)) = true
  case neg => rw [if_neg hc] at hp; cases hp
  rw [if_pos hc] at hp
  simp only [Bool.and_eq_true, decide_eq_true_eq] at hc
  cases e1 : tupsOf (firstLen xs) xs with
  | none => rw [e1] at hp; cases hp
  | some ts =>
    rw [e1] at hp
    cases hp
    obtain ⟨h1, h2⟩ := tupsOf_tups e1
    obtain ⟨p1, vs1, e2, r1, l1, q1⟩ := a.list
    subst e2
    rw [h1] at q1
    obtain ⟨ks, k1, k2, k3⟩ := reps_tups q1
    subst k1
    have hlen : ks.length < 64 := by
      have := q1.len
      rw [List.length_map, List.length_map] at this
      have e3 : xs.length = ts.length := by rw [h1, List.length_map]
      rw [h1, List.length_map] at hc
      omega
    refine ⟨p1, ks, rfl, .inl r1, fun p hp => (k3 p hp).1, hlen, fun b L hb hL1 hL2 => ?_⟩
    refine ⟨b, L, firstLen xs, bound ts, rfl, upd_same, fun p hp => sqT_upd hb (k3 p (hL1 p hp)).1, hc.1, fun p hp => ?_, fun L' p2 m1 m2 m3 m4 hp2 => ?_⟩
    · have hm : p.2 ∈ ts := by rw [← k2]; exact List.mem_map_of_mem (hL1 p hp)
      exact ⟨(h2 _ hm).1, bound_ok hm (h2 _ hm).2⟩
    · have hLk : ∀ p ∈ L', p ∈ ks := fun p hp => hL1 p (m1.mem_iff.mp hp)
      have hts : ∀ p ∈ L', p.2 ∈ ts := fun p hp => by rw [← k2]; exact List.mem_map_of_mem (hLk p hp)
      have e5 : sortD (dedup xs) = (L'.map (·.2)).map tI := by
        rw [h1, dedup_tups, sortD_tups]
        congr 1
        refine sortT_uniq (sortT_sorted _) ?_ ?_
        · rw [List.pairwise_map]
          refine m4.imp_of_mem fun {p r} hp hr hle => ?_
          show ltT r.2 p.2 = false
          cases e6 : ltT r.2 p.2 with
          | false => rfl
          | true =>
            have a1 := h2 _ (hts p hp)
            have a2 := h2 _ (hts r hr)
            have := (ltT_code (B := bound ts) (a2.1.trans a1.1.symm) (bound_ok (hts r hr) a2.2) (bound_ok (hts p hp) a1.2)).mp e6
            omega
        · refine (sortT_perm _).trans ?_
          rw [List.perm_ext_iff_of_nodup (nodup_dedupT ts) m2]
          intro k
          rw [mem_dedupT]
          constructor
          · intro hk
            rw [← k2] at hk
            obtain ⟨p, hp, rfl⟩ := List.mem_map.mp hk
            obtain ⟨p', hp', e⟩ := List.mem_map.mp (hL2 p hp)
            exact List.mem_map.mpr ⟨p', m1.mem_iff.mpr hp', e⟩
          · intro hk
            obtain ⟨p, hp, rfl⟩ := List.mem_map.mp hk
            exact hts p hp
      rw [e5] at q
      have hne : p2 ≠ b := fun z => by rw [z, upd_same] at hp2; cases hp2
      have hn2 : H p2 = none := by rw [← upd_ne (H := H) (o := SetTO X.prog X.w b L) hne]; exact hp2
      have kp : KeepA H (upd (upd H b (SetTO X.prog X.w b L)) p2 (.lst (L'.map fun q => V.ref q.1))) := fun b o e => upd_kp hp2 (upd_kp hb e)
      have hlz : (L'.map fun q => V.ref q.1).length ≤ sizeLine := by rw [List.length_map, sizeLine_eq]; omega
      have hr0 := reps_refs (K := X.K) (H := H) (S := S) (L := L') fun p hp => (k3 p (hLk p hp)).2
      have hr1 : Reps X.K (upd H b (SetTO X.prog X.w b L)) S _ _ := hr0.kp hS (KeepA.upd hb)
      exact q (.ref p2) _ kp ⟨p2, rfl, hn2, .lst (.inl upd_same) hlz (hr1.new (fun b hb' => live_upd hb (hS b hb')) hp2), by rw [upd_same]; exact trivial⟩
/-- either way -/
theorem cr_or {id : Value} {r1 r2 : List V → Hp → VK → Prop} (h1 : CallR X id r1) (h2 : CallR X id r2) : CallR X id (fun vs H Q => r1 vs H Q ∨ r2 vs H Q) := by
  intro pins s σ H xs us Q I r hq
  rcases hq with hq | hq
  · exact h1 pins s σ H xs us Q I r hq
  · exact h2 pins s σ H xs us Q I r hq
def rSetA (X : Cx) : List V → Hp → VK → Prop := fun vs H Q => rSetNew X.K X.w vs H Q ∨ rSetOfT X.K X.prog X.w vs H Q
theorem k_setA (hc : X.calm = true) (hu : X.A.units + 100 < cLine) : CallR X (.type "set") (rSetA X) := cr_or (k_setNew hc) (cr_setOfT hc (by omega))
def rSortA (X : Cx) : List V → Hp → VK → Prop := fun vs H Q => rSortedSet X.w vs H Q ∨ rSortedT X.K X.prog X.w vs H Q
theorem k_sortSetA (hc : X.calm = true) : CallR X (.builtin "sorted") (rSortA X) := cr_or (cr_sortedSet hc) (cr_sortedT hc)
theorem rSetNew_mono {vs : List V} {H : Hp} {K : PySem.W.Frag} {w : World} {Q Q' : VK} (hq : ∀ v H, Q v H → Q' v H) (h : rSetNew K w vs H Q) : rSetNew K w vs H Q' := by
  obtain ⟨S, d, xs, ns, v, a1, a2, a3, a4, a5, a6, a7⟩ := h
  exact ⟨S, d, xs, ns, v, a1, a2, a3, a4, a5, a6, fun p c h1 h2 => hq _ _ (a7 p c h1 h2)⟩
theorem sortSetA_to {x : V} {H : Hp} {Q : VK} (h : rPr1 X.K prSortSet x H Q) : rSetA X [x] H fun y H2 => rSortA X [y] H2 Q := by
  obtain ⟨S, ds, d, f, hS, ha, hp, q⟩ := h
  unfold prSortSet at hp
  split at hp
  · right
    obtain ⟨l, ks, b1, b2, b3, b4, b5⟩ := sortSetT_to (X := X) ⟨S, _, d, f, hS, ha, hp, q⟩
    exact ⟨l, ks, b1, b2, b3, b4, fun a L c1 c2 c3 => .inr (b5 a L c1 c2 c3)⟩
  · left
    exact rSetNew_mono (fun v H h => .inl h) (sortSet_to (X := X) ⟨S, _, d, f, hS, ha, hp, q⟩)
theorem lenSetA_to {x : V} {H : Hp} {Q : VK} (h : rPr1 X.K prLenSet x H Q) : rSetA X [x] H fun y H2 => rLenSetO X.w [y] H2 Q := .inl (lenSet_to h)
end
end Ev

end

-- EvPrE
section
/-! Ev: the primitives' rules, fifth part: isinstance, methods that only look, list(range), tuple(range). -/
namespace Ev
open PySem PySem.Spec PyProof.Rows L2

def tyN : Ty → String
  | .int => "int"
  | .bool => "bool"
  | .str => "str"
  | .list => "list"
  | .tuple => "tuple"
  | .dict => "dict"
def ofTag : D → String
  | .none => "NoneType"
  | .bool _ => "bool"
  | .int _ => "int"
  | .str _ => "str"
  | .list _ => "list"
  | .tuple _ => "tuple"
  | .dict _ => "dict"
theorem kit_isTy (K : PySem.W.Frag) (t : Ty) (d : D) : W.kitOne K (.type (ofTag d)) (.type (tyN t)) = some (isTy t d) := by
  refine kit_ty ?_
  cases t <;> cases d <;> (dsimp only [ofTag, tyN, isTy]; decide +kernel)
section
variable {X : Cx} {pins : List (Addr × Obj)} {σ : L2.St} {H : Hp} {s : Shared}
theorem ArgR.typeIs {S : List Addr} {v : V} {d : D} {u : Value} (h : ArgR X.K H S v d) (I : L2.Inv X pins σ H s) (r : RelV v u) (hm : tag d = 4 ∨ tag d = 5 ∨ tag d = 6) : ∃ a, u = .ref a ∧ s.TypeIs (.ref a) (ofTag d) := by
  cases d with
  | list xs =>
    obtain ⟨a, vs, e, h1, _, _⟩ := h.list
    subst e
    cases r
    obtain ⟨its, _, pl, _⟩ := I.list (.inl h1)
    exact ⟨a, rfl, pl.isList.typeIs⟩
  | tuple xs =>
    obtain ⟨a, vs, e, h1, _, _⟩ := h.tuple
    subst e
    cases r
    obtain ⟨its, _, pl, _⟩ := I.tuple h1.sq
    exact ⟨a, rfl, pl.typeIs⟩
  | dict kv =>
    obtain ⟨a, e, hd⟩ := h.dict
    subst e
    cases r
    rcases hd with ⟨kvs, es, r, _⟩ | ⟨kvs, es, r, _⟩
    · obtain ⟨_, _, _, _, dd⟩ := dk_rd I.hok r
      exact ⟨a, rfl, dd.typeIs⟩
    · obtain ⟨_, _, _, _, dd⟩ := dt_rd I.hok r
      exact ⟨a, rfl, dd.typeIs⟩
  | _ => simp [tag] at hm
end
section
variable {X : Cx}
theorem k_isi (t : Ty) : CallR X (.builtin "isinstance") (fun vs H Q => ∃ v, vs = [v, .ty (tyN t)] ∧ rPr1 X.K (prIsi t) v H Q) := by
  intro pins s σ H xs us Q I r ⟨v, e, S, ds, d, f, hS, ha, hp, q⟩
  subst e
  obtain ⟨u, w', rfl, ru, rw'⟩ := vals2 r
  cases (show w' = Value.type (tyN t) from rw')
  cases ha with | cons a ha =>
  cases ha
  rename_i d0
  have hp' : some ((.bool (isTy t d0) : D), false) = some (d, f) := hp
  cases hp'
  have e := kit_isTy X.K t d0
  have fin : ∀ tk, EP X pins σ Q (.bool (isTy t d0)) { s with toks := tk } := fun tk => ⟨.bl _, H, I.tok tk, rfl, q _ H (KeepA.refl H) (.bl _)⟩
  cases d0 with
  | none =>
    have hv : v = .non := by
      rcases a with h | ⟨p, _, _, h⟩
      · cases h; rfl
      · cases h
    subst hv
    cases (show u = Value.none from ru)
    exact PySem.W.kia_one PySem.W.kitx_none I.kIn True.intro e (fun z => nomatch z) fin
  | bool y =>
    have hv := a.bl
    subst hv
    cases (show u = Value.bool y from ru)
    exact PySem.W.kia_one PySem.W.kitx_bool I.kIn True.intro e (fun z => nomatch z) fin
  | int y =>
    have hv := a.int
    subst hv
    obtain ⟨t', rfl⟩ := ru
    exact PySem.W.kia_one PySem.W.kitx_int I.kIn True.intro e (fun z => nomatch z) fin
  | str y =>
    have hv := a.str.1
    subst hv
    obtain ⟨t', rfl⟩ := ru
    exact PySem.W.kia_one PySem.W.kitx_str I.kIn True.intro e (fun z => nomatch z) fin
  | list y =>
    obtain ⟨p, rfl, o, h1, h2⟩ := ArgR.typeIs a I ru (.inl rfl)
    exact PySem.W.kia_one PySem.W.kitx_list I.kIn ⟨o, h1, h2⟩ e (fun z => nomatch z) fin
  | tuple y =>
    obtain ⟨p, rfl, o, h1, h2⟩ := ArgR.typeIs a I ru (.inr (.inl rfl))
    exact PySem.W.kia_one PySem.W.kitx_tuple I.kIn ⟨o, h1, h2⟩ e (fun z => nomatch z) fin
  | dict y =>
    obtain ⟨p, rfl, o, h1, h2⟩ := ArgR.typeIs a I ru (.inr (.inr rfl))
    exact PySem.W.kia_one PySem.W.kitx_dict I.kIn ⟨o, h1, h2⟩ e (fun z => nomatch z) fin

/-! ### xs.count(x), xs.index(x) -/
theorem cntD_countP (x : D) : ∀ ys : List D, cntD x ys = ys.countP fun y => PyData.eqv y x
  | [] => rfl
  | y :: ys => by
    rw [cntD, cntD_countP x ys, List.countP_cons]
    by_cases h : PyData.eqv y x = true <;> simp [h]
    omega
theorem findD_idx (x : D) : ∀ (ys : List D) (n : Nat), findD x ys = some n → true ∈ (ys.map fun y => PyData.eqv y x) ∧ (ys.map fun y => PyData.eqv y x).idxOf true = n
  | [], n, h => by cases h
  | y :: ys, n, h => by
    unfold findD at h
    by_cases c : PyData.eqv y x = true
    · rw [if_pos c] at h
      cases h
      simp [c]
    · rw [if_neg c] at h
      cases e : findD x ys with
      | none => rw [e] at h; cases h
      | some m =>
        rw [e] at h
        cases h
        obtain ⟨h1, h2⟩ := findD_idx x ys m e
        have c' : PyData.eqv y x = false := by simpa using c
        refine ⟨by rw [List.map_cons]; exact List.mem_cons_of_mem _ h1, ?_⟩
        rw [List.map_cons, c', List.idxOf_cons]
        simp [h2]
theorem k_count (hu : X.A.units + 100 < cLine) : CallR X (.builtin "list.count") (rPr X.K prCountL) := by
  intro pins s σ H xs us Q I r ⟨S, ds, d, f, hS, ha, hp, q⟩
  unfold prCountL at hp
  split at hp
  · cases ha with | cons a ha => cases ha with | cons b ha =>
    cases ha
    rename_i ys dx v1 v2
    split at hp
    · rename_i hc
      cases hp
      rw [Bool.and_eq_true] at hc
      obtain ⟨p1, l1⟩ := okDs_of hc.1
      obtain ⟨p2, l2⟩ := okD_of hc.2
      obtain ⟨l, vs1, e2, r1, _, q1⟩ := a.list
      subst e2
      obtain ⟨u, w', rfl, ru, rw'⟩ := vals2 r
      cases ru
      obtain ⟨its, rv, pl, _⟩ := I.list (.inl r1)
      obtain ⟨as, rr⟩ := Reps.reads I q1 rv p1
      obtain ⟨bs, rx⟩ := b.reads I hS rw' p2
      refine SeqAt.count_list_data pl.isList (by simpa using rr) rx p1 p2 (by have := Nat.min_le_left (PyData.depthAll ys) (PyData.depth dx); omega) ?_
      rw [← cntD_countP]
      exact ⟨.int _, H, I.tok _, ⟨_, rfl⟩, q _ H (KeepA.refl H) (.int _)⟩
    · cases hp
  · cases hp
theorem readOf_get {h : Heap} : ∀ {vs : List Value} {xs : List D} {as : List Addr}, ReadsAll h vs xs as → PyData.plainAll xs = true → ∀ (i : Nat) (h1 : i < vs.length) (h2 : i < xs.length), SeqAt.readOf h vs[i] = xs[i]
  | _, _, _, .nil, _, i, h1, _ => absurd h1 (by simp)
  | _, _, _, .cons r rs, hp, i, h1, h2 => by
    rw [PyData.plainAll, Bool.and_eq_true] at hp
    cases i with
    | zero => exact SeqAt.readOf_plain hp.1 r
    | succ i => exact readOf_get rs hp.2 i (by simpa using h1) (by simpa using h2)
theorem k_index (hu : X.A.units + 100 < cLine) : CallR X (.builtin "list.index") (rPr X.K prIndex) := by
  intro pins s σ H xs us Q I r ⟨S, ds, d, f, hS, ha, hp, q⟩
  unfold prIndex at hp
  split at hp
  · cases ha with | cons a ha => cases ha with | cons b ha =>
    cases ha
    rename_i ys dx v1 v2
    split at hp
    · rename_i hc
      cases e : findD dx ys with
      | none => rw [e] at hp; cases hp
      | some n =>
        rw [e] at hp
        cases hp
        rw [Bool.and_eq_true] at hc
        obtain ⟨p1, l1⟩ := okDs_of hc.1
        obtain ⟨p2, l2⟩ := okD_of hc.2
        obtain ⟨l, vs1, e2, r1, lz, q1⟩ := a.list
        subst e2
        obtain ⟨u, w', rfl, ru, rw'⟩ := vals2 r
        cases ru
        obtain ⟨its, rv, pl, _⟩ := I.list (.inl r1)
        obtain ⟨as, rr⟩ := Reps.reads I q1 rv p1
        obtain ⟨bs, rx⟩ := b.reads I hS rw' p2
        obtain ⟨f1, f2⟩ := findD_idx dx ys n e
        have hlen : its.length = ys.length := by rw [← rv.length, q1.len]
        have heq := SeqAt.items_plain (A := X.A) (vs := its.toArray) (by simpa using rr) rx p1 p2 (by have := Nat.min_le_left (PyData.depthAll ys) (PyData.depth dx); omega)
        refine SeqAt.call_list_index (ks := ys.map fun y => PyData.eqv y dx) (k := true) pl.isList ⟨by rw [List.length_map]; exact hlen, fun j h1 h2 => ?_⟩ (by rw [List.length_map, ← q1.len]; exact lz) f1 ?_
        · have := heq its[j] (by simp)
          rw [readOf_get rr p1 j h1 (by simpa using h2)] at this
          rw [List.getElem_map]
          simpa using this
        · rw [f2]
          exact ⟨.int _, H, I.tok _, ⟨_, rfl⟩, q _ H (KeepA.refl H) (.int _)⟩
    · cases hp
  · cases hp

/-! ### d.get(k), d.get(k, x) -/
theorem Rep.non_of {K : PySem.W.Frag} {H : Hp} {S : List Addr} : Rep K H S .non .none := .non
theorem k_get1 (hu : X.A.units + 100 < cLine) : CallR X (.builtin "dict.get") (rPr X.K prGet1) := by
  intro pins s σ H xs us Q I r ⟨S, ds, d, f, hS, ha, hp, q⟩
  unfold prGet1 at hp
  split at hp
  · cases ha with | cons a ha => cases ha with | cons b ha =>
    cases ha
    rename_i kv dk v1 v2
    split at hp
    · rename_i hk
      cases hp
      have hkk : keyOk dk = true := by unfold keyFits at hk; rw [Bool.and_eq_true] at hk; exact hk.1
      have ky := key_of_arg b hkk
      obtain ⟨p, e3, hd⟩ := a.dict
      subst e3
      obtain ⟨u, w', rfl, ru, rw'⟩ := vals2 r
      cases (show u = Value.ref p from ru)
      rcases dict_get hd ky hk with ⟨o, g, g1, g2⟩ | ⟨rz, e4, b', k', e6, hb⟩
      · refine d_get1 (by omega) I g rw' fun w2 s' I' r2 => ?_
        cases o with
        | none =>
          rw [g2 rfl] at q
          exact ⟨.non, H, I', r2, q _ H (KeepA.refl H) .non⟩
        | some z =>
          obtain ⟨dv, h1, h2⟩ := g1 z rfl
          rw [h1] at q
          exact ⟨z, H, I', r2, q _ H (KeepA.refl H) h2⟩
      · subst e4; subst e6
        cases (show w' = Value.ref b' from rw')
        obtain ⟨hs, dd⟩ := inv_nil I rz
        refine call_meetsIn PySem.F.slot_dict_get dd.typeIs PySem.F.entry_dict_get (PySem.F.args_dict_get_2 _ _) (meetsH_dict_get (tupleKind (mixKind X.prog X.w)) p b' hs) ⟨tupleKind_room_in1 (by omega), k', [], key_of I.hok hb, dd, ?_⟩
        exact ⟨.non, H, I.tok _, rfl, q _ H (KeepA.refl H) .non⟩
    · cases hp
  · cases hp
theorem k_get2 (hu : X.A.units + 100 < cLine) : CallR X (.builtin "dict.get") (rPr X.K prGet2) := by
  intro pins s σ H xs us Q I r ⟨S, ds, d, f, hS, ha, hp, q⟩
  unfold prGet2 at hp
  split at hp
  · cases ha with | cons a ha => cases ha with | cons b ha => cases ha with | cons c ha =>
    cases ha
    rename_i kv dk dx v1 v2 v3
    split at hp
    · rename_i hk
      rw [Bool.and_eq_true] at hk
      obtain ⟨hk, hmx⟩ := hk
      have hmx : isMutD dx = false := by simpa using hmx
      cases hp
      have hkk : keyOk dk = true := by unfold keyFits at hk; rw [Bool.and_eq_true] at hk; exact hk.1
      have ky := key_of_arg b hkk
      obtain ⟨p, e3, hd⟩ := a.dict
      subst e3
      have hr : ∃ u w' w3, us = [u, w', w3] ∧ RelV (.ref p) u ∧ RelV v2 w' ∧ RelV v3 w3 := by
        cases r with | cons ru r => cases r with | cons rw' r => cases r with | cons rx r =>
        cases r
        exact ⟨_, _, _, rfl, ru, rw', rx⟩
      obtain ⟨u, w', w3, rfl, ru, rw', rx⟩ := hr
      cases (show u = Value.ref p from ru)
      -- the default is shared
      have hx : Rep X.K H S v3 dx := by
        rcases c with h | ⟨p', _, _, h⟩
        · exact h
        · rw [h.mut] at hmx; cases hmx
      rcases dict_get hd ky hk with ⟨o, g, g1, g2⟩ | ⟨rz, e4, b', k', e6, hb⟩
      · refine d_get2 (by omega) I g rw' rx fun w2 s' I' r2 => ?_
        cases o with
        | none =>
          rw [g2 rfl] at q
          exact ⟨v3, H, I', r2, q _ H (KeepA.refl H) hx⟩
        | some z =>
          obtain ⟨dv, h1, h2⟩ := g1 z rfl
          rw [h1] at q
          exact ⟨z, H, I', r2, q _ H (KeepA.refl H) h2⟩
      · subst e4; subst e6
        cases (show w' = Value.ref b' from rw')
        obtain ⟨hs, dd⟩ := inv_nil I rz
        refine call_meetsIn PySem.F.slot_dict_get dd.typeIs PySem.F.entry_dict_get (PySem.F.args_dict_get_3 _ _ _) (meetsH_dict_get_default (tupleKind (mixKind X.prog X.w)) p b' hs _) ⟨tupleKind_room_in1 (by omega), k', [], key_of I.hok hb, dd, ?_⟩
        exact ⟨v3, H, I.tok _, rx, q _ H (KeepA.refl H) hx⟩
    · cases hp
  · cases hp
end
end Ev

end

-- EvSrc
section
/-! Ev: enumerate and zip over lists, tuples and texts, in any mix. -/
namespace Ev
open PySem PySem.Spec PyProof.Rows L2

theorem not_old {h : Heap} {b : Addr} {o : Obj} (ho : h.get? b = some o) (hb : h.objs.size ≤ b) : False := absurd (Heap.lt_size ho) (Nat.not_lt.mpr hb)
/-- where items come from -/
inductive Src where
  | l (a : Addr)
  | t (a : Addr)
  | s (z : Str)
def Src.Is (K : PySem.W.Frag) (H : Hp) : Src → List V → Prop
  | .l a, xs => SqL K H a xs
  | .t a, xs => SqT K H a xs
  | .s z, xs => xs = z.cps.toList.map fun c => V.str (sign c)
def Src.vl : Src → L2.V
  | .l a => .ref a
  | .t a => .ref a
  | .s z => .str z
/-- the iterator at place i -/
def Src.Iter (h : Heap) (it : Addr) : Src → Nat → Prop
  | .l a, i => h.IsListIter it a i ∧ a ≠ it
  | .t a, i => h.IsTupleIter it a i ∧ a ≠ it
  | .s z, i => ∃ t, h.IsStrIter it (strIterType z) z t i
def Src.first (p : Src) (u : Value) : Obj := match p, u with
  | .l a, _ => { cls := .type "list_iterator", data := .fields #[.ref a, .int 0 0] }
  | .t a, _ => { cls := .type "tuple_iterator", data := .fields #[.ref a, .int 0 0] }
  | .s z, u => { cls := .type (strIterType z), data := .fields #[u, .int 0 0] }
/-- what is drawn at a source stands beside its iterator -/
def Src.at : Src → List Addr
  | .l a => [a]
  | .t a => [a]
  | .s _ => []
section
variable {X : Cx} {pins : List (Addr × Obj)} {σ : L2.St} {H : Hp} {s : Shared}
/-- a source, ready to be drawn from -/
structure Src.Ok (K : PySem.W.Frag) (P : Program) (w : World) (A : Around) (p : Src) (it : Addr) (n : Nat) (xs : List V) (St : Nat → Heap → Prop) (Pv : Nat → Value → Prop) : Prop where
  draws : Draws P w A it (it :: p.at) n Pv St
  len : n = xs.length
  val : ∀ i v, Pv i v → ∃ x, xs[i]? = some x ∧ RelV x v
theorem Src.ready {A : Around} (hA : A.handled = none) (I : L2.Inv X pins σ H s) {p : Src} {xs : List V} {it : Addr} (hx : p.Is X.K H xs) {i : Nat} (hi : p.Iter s.heap it i) :
    ∃ n St Pv, Src.Ok X.K X.prog X.w A p it n xs St Pv ∧ St i s.heap ∧ ∀ j h, St j h → p.Iter h it j := by
  cases p with
  | l a =>
    obtain ⟨its, rv, pl, _⟩ := I.list (show SqL X.K H a xs from hx)
    refine ⟨_, _, _, ⟨Draws.list hA it a hi.2 its.toArray, by rw [List.size_toArray, rv.length], fun j v h => ?_⟩, ⟨hi.1, pl.isList⟩, fun j h e => ⟨e.1, hi.2⟩⟩
    have h' : its[j]? = some v := by simpa using h
    exact Vals.getB rv h'
  | t a =>
    obtain ⟨its, rv, pl, _⟩ := I.tuple (show SqT X.K H a xs from hx)
    refine ⟨_, _, _, ⟨Draws.tuple hA it a hi.2 its.toArray, by rw [List.size_toArray, rv.length], fun j v h => ?_⟩, ⟨hi.1, pl⟩, fun j h e => ⟨e.1, hi.2⟩⟩
    have h' : its[j]? = some v := by simpa using h
    exact Vals.getB rv h'
  | s z =>
    obtain ⟨t, ht⟩ := hi
    have hx : xs = z.cps.toList.map fun c => V.str (sign c) := hx
    refine ⟨_, _, _, ⟨Draws.text hA it z t, by rw [hx]; simp, fun j v h => ?_⟩, ht, fun j h e => ⟨t, e⟩⟩
    obtain ⟨c, u, h1, h2⟩ := h
    refine ⟨V.str (sign c), by rw [hx, List.getElem?_map, Array.getElem?_toList, h1]; rfl, ?_⟩
    exact ⟨u, h2⟩
theorem Src.begins (I : L2.Inv X pins σ H s) {p : Src} {xs : List V} (hx : p.Is X.K H xs) {u : Value} (r : RelV p.vl u) : ∃ Hq, Begins u (p.first u) Hq ∧ Hq s.heap := by
  cases p with
  | l a =>
    obtain ⟨its, rv, pl, _⟩ := I.list (show SqL X.K H a xs from hx)
    cases r
    exact ⟨_, begins_list a its.toArray, pl.isList⟩
  | t a =>
    obtain ⟨its, rv, pl, _⟩ := I.tuple (show SqT X.K H a xs from hx)
    cases r
    exact ⟨_, begins_tuple a its.toArray, pl⟩
  | s z =>
    obtain ⟨t, rfl⟩ := r
    exact ⟨_, begins_text z t, trivial⟩
/-- the new iterator stands apart from what it walks -/
theorem Src.iter0 (I : L2.Inv X pins σ H s) {p : Src} {xs : List V} (hx : p.Is X.K H xs) {u : Value} (r : RelV p.vl u) {h' : Heap} {it : Addr} (hge : s.heap.objs.size ≤ it) (h : h'.get? it = some (p.first u)) : p.Iter h' it 0 := by
  cases p with
  | l a =>
    obtain ⟨its, rv, pl, _⟩ := I.list (show SqL X.K H a xs from hx)
    obtain ⟨o, ho, _⟩ := pl.isList
    exact ⟨⟨_, h, rfl, rfl⟩, fun e => not_old ho (e ▸ hge)⟩
  | t a =>
    obtain ⟨its, rv, pl, _⟩ := I.tuple (show SqT X.K H a xs from hx)
    obtain ⟨o, ho, _⟩ := pl
    exact ⟨⟨_, h, rfl, rfl⟩, fun e => not_old ho (e ▸ hge)⟩
  | s z =>
    obtain ⟨t, rfl⟩ := r
    exact ⟨t, _, h, rfl, rfl⟩
theorem Src.atLt (I : L2.Inv X pins σ H s) {p : Src} {xs : List V} (hx : p.Is X.K H xs) : ∀ b ∈ p.at, b < s.heap.objs.size := by
  intro b hb
  cases p with
  | l a =>
    obtain ⟨its, rv, pl, _⟩ := I.list (show SqL X.K H a xs from hx)
    obtain ⟨o, ho, _⟩ := pl.isList
    have e : b = a := by simpa [Src.at] using hb
    subst e
    exact Heap.lt_size ho
  | t a =>
    obtain ⟨its, rv, pl, _⟩ := I.tuple (show SqT X.K H a xs from hx)
    obtain ⟨o, ho, _⟩ := pl
    have e : b = a := by simpa [Src.at] using hb
    subst e
    exact Heap.lt_size ho
  | s z => simp [Src.at] at hb
theorem Src.iter_keep {h h' : Heap} {it : Addr} {p : Src} {i : Nat} (hp : p.Iter h it i) (hk : ∀ o, h.get? it = some o → h'.get? it = some o) : p.Iter h' it i := by
  cases p with
  | l a => obtain ⟨⟨o, h1, h2⟩, hn⟩ := hp; exact ⟨⟨o, hk o h1, h2⟩, hn⟩
  | t a => obtain ⟨⟨o, h1, h2⟩, hn⟩ := hp; exact ⟨⟨o, hk o h1, h2⟩, hn⟩
  | s z => obtain ⟨t, o, h1, h2⟩ := hp; exact ⟨t, o, hk o h1, h2⟩
theorem Src.iter_obj {h : Heap} {it : Addr} {p : Src} {i : Nat} (hp : p.Iter h it i) : ∃ o, h.get? it = some o ∧ ∀ v, o.data ≠ Data.cell v := by
  cases p with
  | l a => obtain ⟨⟨o, h1, _, h3⟩, _⟩ := hp; exact ⟨o, h1, fun v e => by rw [h3] at e; cases e⟩
  | t a => obtain ⟨⟨o, h1, _, h3⟩, _⟩ := hp; exact ⟨o, h1, fun v e => by rw [h3] at e; cases e⟩
  | s z => obtain ⟨t, o, h1, _, h3⟩ := hp; exact ⟨o, h1, fun v e => by rw [h3] at e; cases e⟩
end

/-! ### enumerate -/
def IteA (K : PySem.W.Frag) (p : Src) (xs : List V) : It :=
  ⟨fun i H => p.Is K H xs ∧ i < xs.length,
   fun i H v H' => ∃ T x, v = .ref T ∧ H T = none ∧ H' = upd H T (.tup [.int i, x]) ∧ xs[i]? = some x,
   fun i H => p.Is K H xs ∧ i = xs.length⟩
theorem obj_tup {P : Program} {w : World} {H : Hp} {h : Heap} {T : Addr} {xs : List V} {us : List Value} (r : Vals xs us) (hl : xs.length ≤ sizeLine) (h1 : h.IsTuple T us.toArray) : ObjOk P w H h T (.tup xs) :=
  ⟨hl, us, r, h1⟩
theorem turn_enumA {P : Program} {w : World} {K : PySem.W.Frag} {elts : List Expr} {kk : Nat} {tpos : Pos} {p : Src} {xs : List V} {e it : Addr} (hne : e ≠ it) (hat : e ∉ p.at) (hit : it ∉ p.at) :
    Turn P w K (.Tuple elts kk tpos) (IteA K p xs) [e, it] e fun i h => (∃ old, IsEnum h e it i old) ∧ p.Iter h it i := by
  refine ⟨by simp, ?_, ?_, ?_, ?_, ?_⟩
  · rintro i h ⟨⟨old, h1⟩, h2⟩ b hb
    rcases List.mem_cons.mp hb with rfl | hb
    · exact ⟨_, h1, fun v e => by cases e⟩
    · have e : b = it := by simpa using hb
      subst e; exact Src.iter_obj h2
  · rintro i h h' ⟨⟨old, h1⟩, h2⟩ hk
    exact ⟨⟨old, hk e (by simp) _ h1⟩, Src.iter_keep h2 fun o ho => hk it (by simp) o ho⟩
  · intro X hP hw hK hc i pins s σ H E I hf ⟨⟨old, h1⟩, h2⟩ ⟨hx, hi⟩
    subst hP; subst hw; subst hK
    have hA : X.A.in1.handled = none := by simp [I.ok.hd hc]
    obtain ⟨n, St, Pv, O, h3, h4⟩ := Src.ready hA I hx h2
    have G := GoesN.enumFrom (elts := elts) (x1 := kk) (pos := tpos) 0 O.draws e hne (by simp only [List.mem_cons, not_or]; exact ⟨hne, hat⟩) (by simp)
    refine G.goes i s _ E (by rw [O.len]; exact hi) ⟨⟨old, by rw [Int.zero_add]; exact h1⟩, h3⟩ fun v h' tk hY hS hk htk => ?_
    obtain ⟨T, t, x, rfl, hT, hP, hT2⟩ := hY
    obtain ⟨x', e1, r1⟩ := O.val i x hP
    rw [Int.zero_add] at hT2
    have hne2 : H T = none := I.hok.fresh hT
    have hT3 : h'.IsTuple T ([Value.int (i : Int) t, x] : List Value).toArray := hT2
    refine ⟨.ref T, upd H T (.tup [.int i, x']), Inv.turnedNew I (ch := [e, it]) (fun b o hb ho => hk b o hb ho) hf hT (obj_tup (.cons ⟨t, rfl⟩ (.cons r1 .nil)) (by show 2 ≤ sizeLine; rw [sizeLine_eq]; decide) hT3), rfl, ⟨T, x', rfl, hne2, rfl, e1⟩, ?_, fun b hb => ?_⟩
    · obtain ⟨⟨old', g1⟩, g2⟩ := hS
      refine ⟨⟨old', ?_⟩, h4 _ _ g2⟩
      rw [Int.zero_add] at g1
      exact g1
    · have hb0 := (hf b hb).1
      have hbT : b ≠ T := fun z => by
        subst z
        rcases List.mem_cons.mp hb with z | z
        · subst z; exact not_old h1 hT
        · have e : b = it := by simpa using z
          subst e
          obtain ⟨o, ho, _⟩ := Src.iter_obj h2
          exact not_old ho hT
      rw [upd_ne hbT]; exact hb0
  · intro X hP hw hK hc i pins s σ H E I hf ⟨⟨old, h1⟩, h2⟩ ⟨hx, hi⟩
    subst hP; subst hw; subst hK
    have hA : X.A.in1.handled = none := by simp [I.ok.hd hc]
    obtain ⟨n, St, Pv, O, h3, h4⟩ := Src.ready hA I hx h2
    have G := GoesN.enumFrom (elts := elts) (x1 := kk) (pos := tpos) 0 O.draws e hne (by simp only [List.mem_cons, not_or]; exact ⟨hne, hat⟩) (by simp)
    have hn : i = n := by rw [O.len]; exact hi
    subst hn
    exact G.stops s (fun s1 => L2.Inv X pins σ H s1) E ⟨⟨old, by rw [Int.zero_add]; exact h1⟩, h3⟩ fun h' tk hk htk => Inv.turnedL I (ch := [e, it]) (fun b o hb ho => hk b o hb ho) hf
  · intro A i s Q E ⟨⟨old, h1⟩, h2⟩ hq
    exact wpAny_pyIter_enum h1 hq
theorem meets_enum1 {v : Value} {o : Obj} {H : Heap → Prop} (B : Begins v o H) : Meets (Builtin.«enumerate.__new__» ⟨[.type "enumerate", v], []⟩) fun x R s => H s.heap ∧
    R (.ok (.ret (.ref (s.heap.push o).objs.size))) { s with heap := (s.heap.push o).push { cls := .type "enumerate", data := .fields #[.none, .bool false, .ref s.heap.objs.size, rawInt 0, .none, .none] } } := by
  refine Meets.of_wp fun prog w A R s h => ?_
  obtain ⟨hp, g, d, tk, os⟩ := s
  obtain ⟨h1, h2⟩ := h
  have hsub := PySem.sub_enumerate
  unfold Builtin.«enumerate.__new__»
  generalize hPI : pyIter = PI
  wp_walk
  refine wpAny_stack_any fun st => wpAny_pure ?_
  have key : wpAny (model prog w) A.in1 (PI v) (fun a s' => a = .ref hp.objs.size ∧ s' = { heap := hp.push o, gens := g, drawn := d, toks := tk, os := os }) (fun e s' => R (.error e) s') { heap := hp, gens := g, drawn := d, toks := tk, os := os } := by
    subst hPI
    exact B.iter prog w A.in1 _ _ _ h1 ⟨rfl, rfl⟩
  have fin : wpAny (model prog w) A.in1 (PI v) (fun a s' => wpAny (model prog w) A.in1 (do
          let r ← Builtin.SmallTypes.newRecord (Value.type "enumerate") (Builtin.SmallTypes.ownedTupleFields ++ [a, rawInt 0, Value.none, Value.none])
          ret r) (fun fl s' => ∃ v, fl = .done (.ret v) ∧ R (.ok (.ret v)) s') (fun e s' => R (.error e) s') s') (fun e s' => R (.error e) s') { heap := hp, gens := g, drawn := d, toks := tk, os := os } := by
    refine wpAny_mono key (fun a s' h => ?_) fun _ _ h => h
    obtain ⟨rfl, rfl⟩ := h
    wp_walk
    exact ⟨_, rfl, h2⟩
  show wpAny (model prog w) A.in1 (if _ then _ else _) _ _ _
  split
  · rename_i c _ _ _ _ _
    generalize (c == Value.type "enumerate") = b
    cases b
    · wp_walk
      exact fin
    · wp_walk
      exact fin
  · wp_walk
    exact fin
theorem call_enum1 {prog : Program} {w : World} {A : Around} {E : Value → Shared → Prop} {s : Shared} {v : Value} {o : Obj} {H : Heap → Prop} {Q : Value → Shared → Prop} (B : Begins v o H) (h1 : H s.heap)
    (h : ∀ h' : Heap, IsEnum h' (s.heap.objs.size + 1) s.heap.objs.size 0 .none → h'.get? s.heap.objs.size = some o → (∀ b o, s.heap.get? b = some o → h'.get? b = some o) → Q (.ref (s.heap.objs.size + 1)) { s with heap := h' }) :
    wpAny (model prog w) A (call (.type "enumerate") [v]) Q E s := by
  refine callType_new F.called_enumerate (by decide) (F.typeCall_enumerate_1 v) (F.newCall_enumerate_1 v) (fun obj => F.args_object_init_2 obj v) F.entry_enumerate_new (meets_enum1 B) ⟨h1, ?_⟩
  have hz := Heap.size_push s.heap o
  have he := Heap.get?_push_size (o := { cls := Value.type "enumerate", data := .fields #[.none, .bool false, .ref s.heap.objs.size, rawInt 0, .none, .none] }) (s.heap.push o) rfl
  show _ ∧ Q _ _
  rw [hz] at he ⊢
  exact ⟨⟨_, he, rfl⟩, h _ he (Heap.get?_push_of_some _ (Heap.get?_push_size _ B.free)) fun b o' e => Heap.get?_push_of_some _ (Heap.get?_push_of_some _ e)⟩
section
variable {X : Cx} {e e2 e3 : Expr} {ta : TA} {p pos tpos : Pos} {elts : List Expr} {kk : Nat}
theorem pi_enumA (hg : Gl X "enumerate") (hm : X.mg "enumerate" = none) (ha : PA X [e] ta) (hs : starEach [e] X.env = [(false, eval e X.env)]) :
    PI X (.Tuple elts kk tpos) (.Call (.Name "enumerate" p) [e] [] pos) (fun σ H R => ta σ H fun vs H1 => ∃ (q : Src) (xs : List V), vs = [q.vl] ∧ q.Is X.K H1 xs ∧ R (IteA X.K q xs) H1) := by
  refine ⟨fun pins s σ H R I h => ?_⟩
  refine Call_ (ld_blt I hg hm boot_enumerate (callWith_type1 (thn (ha.run pos pins s σ H _ I h) fun us s1 ⟨vs, H1, I1, r1, q, xs, ev, hx, hR⟩ => ?_) hs (by rfl)))
  subst ev
  cases r1 with | cons r rr =>
  cases rr
  rename_i u
  obtain ⟨Hq, B, hq⟩ := Src.begins I1 hx r
  refine call_enum1 B hq fun h' g1 g2 g3 => ?_
  refine wpAny_pyIter_enum g1 ?_
  show ∃ it fp tn J H', _
  refine ⟨s1.heap.objs.size + 1, [s1.heap.objs.size + 1, s1.heap.objs.size], _, _, H1, rfl, I1.kept (t' := s1.toks) g3, turn_enumA (p := q) (xs := xs) (it := s1.heap.objs.size) ?_ ?_ ?_, ⟨⟨_, g1⟩, Src.iter0 I1 hx r (Nat.le_refl _) g2⟩, fun b hb => ?_, hR⟩
  · exact Nat.succ_ne_self _
  · intro z; have := Src.atLt I1 hx _ z; exact absurd this (Nat.not_lt.mpr (Nat.le_succ _))
  · intro z; have := Src.atLt I1 hx _ z; exact absurd this (Nat.lt_irrefl _)
  · have hb' : s1.heap.objs.size ≤ b := by
      rcases List.mem_cons.mp hb with z | z
      · subst z; exact Nat.le_succ _
      · have e : b = s1.heap.objs.size := by simpa using z
        subst e; exact Nat.le_refl _
    exact I1.fpOk hb' (I1.hok.fresh hb')
end

/-! ### zip of two -/
def ItzA (K : PySem.W.Frag) (p q : Src) (xs ys : List V) : It :=
  ⟨fun i H => p.Is K H xs ∧ q.Is K H ys ∧ i < xs.length ∧ i < ys.length,
   fun i H v H' => ∃ T x y, v = .ref T ∧ H T = none ∧ H' = upd H T (.tup [x, y]) ∧ xs[i]? = some x ∧ ys[i]? = some y,
   fun i H => p.Is K H xs ∧ q.Is K H ys ∧ i = min xs.length ys.length⟩
theorem turn_zipA {P : Program} {w : World} {K : PySem.W.Frag} {elts : List Expr} {kk : Nat} {tpos : Pos} {p q : Src} {xs ys : List V} {z TI TO i1 i2 : Addr} (hz : ZipSep2 z TI TO i1 i2 (i1 :: p.at) (i2 :: q.at)) :
    Turn P w K (.Tuple elts kk tpos) (ItzA K p q xs ys) [z, TI, TO, i1, i2] z fun i h => IsZip h z TI TO .none ∧ IsTupOf2 h TI (.ref i1) (.ref i2) ∧ (∃ a1 a2, IsTupOf2 h TO a1 a2) ∧ p.Iter h i1 i ∧ q.Iter h i2 i := by
  have hch : ∀ b ∈ [z, TO, i1, i2], b ∈ [z, TI, TO, i1, i2] := by
    intro b hb
    simp only [List.mem_cons, List.not_mem_nil, or_false] at hb ⊢
    rcases hb with h | h | h | h <;> simp [h]
  refine ⟨by simp, ?_, ?_, ?_, ?_, ?_⟩
  · rintro i h ⟨h1, h2, ⟨a1, a2, h3⟩, h4, h5⟩ b hb
    simp only [List.mem_cons, List.not_mem_nil, or_false] at hb
    rcases hb with rfl | rfl | rfl | rfl | rfl
    · exact ⟨_, h1, fun v e => by cases e⟩
    · exact ⟨_, h2, fun v e => by cases e⟩
    · exact ⟨_, h3, fun v e => by cases e⟩
    · exact Src.iter_obj h4
    · exact Src.iter_obj h5
  · rintro i h h' ⟨h1, h2, ⟨a1, a2, h3⟩, h4, h5⟩ hk
    exact ⟨hk z (by simp) _ h1, hk TI (by simp) _ h2, ⟨a1, a2, hk TO (by simp) _ h3⟩, Src.iter_keep h4 fun o ho => hk i1 (by simp) o ho, Src.iter_keep h5 fun o ho => hk i2 (by simp) o ho⟩
  · intro X hP hw hK hc i pins s σ H E I hf ⟨h1, h2, h3, h4, h5⟩ ⟨hx, hy, hi, hj⟩
    subst hP; subst hw; subst hK
    have hA : X.A.in1.handled = none := by simp [I.ok.hd hc]
    obtain ⟨n, St, Pv, O, k3, k4⟩ := Src.ready hA I hx h4
    obtain ⟨n2, St2, Pv2, O2, m3, m4⟩ := Src.ready hA I hy h5
    have G := GoesN.zip2 (elts := elts) (x1 := kk) (pos := tpos) hz O.draws O2.draws
    refine G.goes i s _ E (by rw [O.len, O2.len]; omega) ⟨h1, h2, h3, k3, m3⟩ fun v h' tk hY hS hk htk => ?_
    obtain ⟨T, x, y, rfl, hT, hP, hP2, hT2⟩ := hY
    obtain ⟨x', e1, r1⟩ := O.val i x hP
    obtain ⟨y', e2, r2⟩ := O2.val i y hP2
    have hne2 : H T = none := I.hok.fresh hT
    have hT3 : h'.IsTuple T ([x, y] : List Value).toArray := hT2
    refine ⟨.ref T, upd H T (.tup [x', y']), Inv.turnedNew I (ch := [z, TO, i1, i2]) (fun b o hb ho => hk b o hb ho) (fun b hb => hf b (hch b hb)) hT (obj_tup (.cons r1 (.cons r2 .nil)) (by show 2 ≤ sizeLine; rw [sizeLine_eq]; decide) hT3), rfl, ⟨T, x', y', rfl, hne2, rfl, e1, e2⟩, ?_, fun b hb => ?_⟩
    · obtain ⟨g1, g2, g3, g4, g5⟩ := hS
      exact ⟨g1, g2, g3, k4 _ _ g4, m4 _ _ g5⟩
    · have hb0 := (hf b hb).1
      have hbT : b ≠ T := fun e => by
        subst e
        simp only [List.mem_cons, List.not_mem_nil, or_false] at hb
        rcases hb with rfl | rfl | rfl | rfl | rfl
        · exact not_old h1 hT
        · exact not_old h2 hT
        · obtain ⟨a1, a2, h3⟩ := h3; exact not_old h3 hT
        · obtain ⟨o, ho, _⟩ := Src.iter_obj h4; exact not_old ho hT
        · obtain ⟨o, ho, _⟩ := Src.iter_obj h5; exact not_old ho hT
      rw [upd_ne hbT]; exact hb0
  · intro X hP hw hK hc i pins s σ H E I hf ⟨h1, h2, h3, h4, h5⟩ ⟨hx, hy, hi⟩
    subst hP; subst hw; subst hK
    have hA : X.A.in1.handled = none := by simp [I.ok.hd hc]
    obtain ⟨n, St, Pv, O, k3, k4⟩ := Src.ready hA I hx h4
    obtain ⟨n2, St2, Pv2, O2, m3, m4⟩ := Src.ready hA I hy h5
    have G := GoesN.zip2 (elts := elts) (x1 := kk) (pos := tpos) hz O.draws O2.draws
    have hn : i = min n n2 := by rw [O.len, O2.len]; exact hi
    subst hn
    exact G.stops s (fun s1 => L2.Inv X pins σ H s1) E ⟨h1, h2, h3, k3, m3⟩ fun h' tk hk htk => Inv.turnedL I (ch := [z, TO, i1, i2]) (fun b o hb ho => hk b o hb ho) (fun b hb => hf b (hch b hb))
  · intro A i s Q E ⟨h1, _⟩ hq
    exact wpAny_pyIter_zip h1 hq
section
variable {X : Cx} {e e2 e3 : Expr} {ta : TA} {p pos tpos : Pos} {elts : List Expr} {kk : Nat}
theorem pi_zip2A (hg : Gl X "zip") (hm : X.mg "zip" = none) (ha : PA X [e, e2] ta) (hs : starEach [e, e2] X.env = (false, eval e X.env) :: starEach [e2] X.env) (hpl : ((backTo pos (starEach [e2] X.env)).any fun x => x.1) = false) :
    PI X (.Tuple elts kk tpos) (.Call (.Name "zip" p) [e, e2] [] pos) (fun σ H R => ta σ H fun vs H1 => ∃ (q r : Src) (xs ys : List V), vs = [q.vl, r.vl] ∧ q.Is X.K H1 xs ∧ r.Is X.K H1 ys ∧ R (ItzA X.K q r xs ys) H1) := by
  refine ⟨fun pins s σ H R I h => ?_⟩
  refine Call_ (ld_blt I hg hm boot_zip (callWith_type1 (thn (ha.run pos pins s σ H _ I h) fun us s1 ⟨vs, H1, I1, r1, q, r, xs, ys, ev, hx, hy, hR⟩ => ?_) hs hpl))
  subst ev
  cases r1 with | cons ru rr =>
  cases rr with | cons rv rr =>
  cases rr
  obtain ⟨Hq, B, hq⟩ := Src.begins I1 hx ru
  obtain ⟨Hq2, B2, hq2⟩ := Src.begins I1 hy rv
  refine zip_begins2 B B2 hq hq2 fun h' g1 g2 g3 g4 g5 g6 g7 => ?_
  refine wpAny_pyIter_zip g1 ?_
  show ∃ it fp tn J H', _
  refine ⟨s1.heap.objs.size + 4, [s1.heap.objs.size + 4, s1.heap.objs.size + 2, s1.heap.objs.size + 3, s1.heap.objs.size, s1.heap.objs.size + 1], _, _, H1, rfl, I1.kept (t' := s1.toks) g7, turn_zipA (p := q) (q := r) (xs := xs) (ys := ys) (zip_sep2 (Src.atLt I1 hx) (Src.atLt I1 hy)), ⟨g1, g2, ⟨_, _, g3⟩, Src.iter0 I1 hx ru (Nat.le_refl _) g4, Src.iter0 I1 hy rv (Nat.le_succ _) g5⟩, fun b hb => ?_, hR⟩
  have hb' : s1.heap.objs.size ≤ b := by
    simp only [List.mem_cons, List.not_mem_nil, or_false] at hb
    rcases hb with h | h | h | h | h <;> (rw [h]; first | exact Nat.le_refl _ | exact Nat.le_add_right _ _)
  exact I1.fpOk hb' (I1.hok.fresh hb')
end

/-! ### zip of three -/
def Itz3A (K : PySem.W.Frag) (p q r : Src) (xs ys zs : List V) : It :=
  ⟨fun i H => p.Is K H xs ∧ q.Is K H ys ∧ r.Is K H zs ∧ i < xs.length ∧ i < ys.length ∧ i < zs.length,
   fun i H v H' => ∃ T x y u, v = .ref T ∧ H T = none ∧ H' = upd H T (.tup [x, y, u]) ∧ xs[i]? = some x ∧ ys[i]? = some y ∧ zs[i]? = some u,
   fun i H => p.Is K H xs ∧ q.Is K H ys ∧ r.Is K H zs ∧ i = min (min xs.length ys.length) zs.length⟩
theorem turn_zip3A {P : Program} {w : World} {K : PySem.W.Frag} {elts : List Expr} {kk : Nat} {tpos : Pos} {p q r : Src} {xs ys zs : List V} {z TI TO i1 i2 i3 : Addr} (hz : ZipSep3 z TI TO i1 i2 i3 (i1 :: p.at) (i2 :: q.at) (i3 :: r.at)) :
    Turn P w K (.Tuple elts kk tpos) (Itz3A K p q r xs ys zs) [z, TI, TO, i1, i2, i3] z fun i h => IsZip h z TI TO .none ∧ IsTupOf3 h TI (.ref i1) (.ref i2) (.ref i3) ∧ (∃ a1 a2 a3, IsTupOf3 h TO a1 a2 a3) ∧ p.Iter h i1 i ∧ q.Iter h i2 i ∧ r.Iter h i3 i := by
  have hch : ∀ b ∈ [z, TO, i1, i2, i3], b ∈ [z, TI, TO, i1, i2, i3] := by
    intro b hb
    simp only [List.mem_cons, List.not_mem_nil, or_false] at hb ⊢
    rcases hb with h | h | h | h | h <;> simp [h]
  refine ⟨by simp, ?_, ?_, ?_, ?_, ?_⟩
  · rintro i h ⟨h1, h2, ⟨a1, a2, a3, h3⟩, h4, h5, h6⟩ b hb
    simp only [List.mem_cons, List.not_mem_nil, or_false] at hb
    rcases hb with rfl | rfl | rfl | rfl | rfl | rfl
    · exact ⟨_, h1, fun v e => by cases e⟩
    · exact ⟨_, h2, fun v e => by cases e⟩
    · exact ⟨_, h3, fun v e => by cases e⟩
    · exact Src.iter_obj h4
    · exact Src.iter_obj h5
    · exact Src.iter_obj h6
  · rintro i h h' ⟨h1, h2, ⟨a1, a2, a3, h3⟩, h4, h5, h6⟩ hk
    exact ⟨hk z (by simp) _ h1, hk TI (by simp) _ h2, ⟨a1, a2, a3, hk TO (by simp) _ h3⟩, Src.iter_keep h4 fun o ho => hk i1 (by simp) o ho, Src.iter_keep h5 fun o ho => hk i2 (by simp) o ho, Src.iter_keep h6 fun o ho => hk i3 (by simp) o ho⟩
  · intro X hP hw hK hc i pins s σ H E I hf ⟨h1, h2, h3, h4, h5, h6⟩ ⟨hx, hy, hzz, hi, hj, hk0⟩
    subst hP; subst hw; subst hK
    have hA : X.A.in1.handled = none := by simp [I.ok.hd hc]
    obtain ⟨n, St, Pv, O, k3, k4⟩ := Src.ready hA I hx h4
    obtain ⟨n2, St2, Pv2, O2, m3, m4⟩ := Src.ready hA I hy h5
    obtain ⟨n3, St3, Pv3, O3, l3, l4⟩ := Src.ready hA I hzz h6
    have G := GoesN.zip3 (elts := elts) (x1 := kk) (pos := tpos) hz O.draws O2.draws O3.draws
    refine G.goes i s _ E (by rw [O.len, O2.len, O3.len]; omega) ⟨h1, h2, h3, k3, m3, l3⟩ fun v h' tk hY hS hk htk => ?_
    obtain ⟨T, x, y, u, rfl, hT, hP, hP2, hP3, hT2⟩ := hY
    obtain ⟨x', e1, r1⟩ := O.val i x hP
    obtain ⟨y', e2, r2⟩ := O2.val i y hP2
    obtain ⟨u', e3, r3⟩ := O3.val i u hP3
    have hne2 : H T = none := I.hok.fresh hT
    have hT3 : h'.IsTuple T ([x, y, u] : List Value).toArray := hT2
    refine ⟨.ref T, upd H T (.tup [x', y', u']), Inv.turnedNew I (ch := [z, TO, i1, i2, i3]) (fun b o hb ho => hk b o hb ho) (fun b hb => hf b (hch b hb)) hT (obj_tup (.cons r1 (.cons r2 (.cons r3 .nil))) (by show 3 ≤ sizeLine; rw [sizeLine_eq]; decide) hT3), rfl, ⟨T, x', y', u', rfl, hne2, rfl, e1, e2, e3⟩, ?_, fun b hb => ?_⟩
    · obtain ⟨g1, g2, g3, g4, g5, g6⟩ := hS
      exact ⟨g1, g2, g3, k4 _ _ g4, m4 _ _ g5, l4 _ _ g6⟩
    · have hb0 := (hf b hb).1
      have hbT : b ≠ T := fun e => by
        subst e
        simp only [List.mem_cons, List.not_mem_nil, or_false] at hb
        rcases hb with rfl | rfl | rfl | rfl | rfl | rfl
        · exact not_old h1 hT
        · exact not_old h2 hT
        · obtain ⟨a1, a2, a3, h3⟩ := h3; exact not_old h3 hT
        · obtain ⟨o, ho, _⟩ := Src.iter_obj h4; exact not_old ho hT
        · obtain ⟨o, ho, _⟩ := Src.iter_obj h5; exact not_old ho hT
        · obtain ⟨o, ho, _⟩ := Src.iter_obj h6; exact not_old ho hT
      rw [upd_ne hbT]; exact hb0
  · intro X hP hw hK hc i pins s σ H E I hf ⟨h1, h2, h3, h4, h5, h6⟩ ⟨hx, hy, hzz, hi⟩
    subst hP; subst hw; subst hK
    have hA : X.A.in1.handled = none := by simp [I.ok.hd hc]
    obtain ⟨n, St, Pv, O, k3, k4⟩ := Src.ready hA I hx h4
    obtain ⟨n2, St2, Pv2, O2, m3, m4⟩ := Src.ready hA I hy h5
    obtain ⟨n3, St3, Pv3, O3, l3, l4⟩ := Src.ready hA I hzz h6
    have G := GoesN.zip3 (elts := elts) (x1 := kk) (pos := tpos) hz O.draws O2.draws O3.draws
    have hn : i = min (min n n2) n3 := by rw [O.len, O2.len, O3.len]; exact hi
    subst hn
    exact G.stops s (fun s1 => L2.Inv X pins σ H s1) E ⟨h1, h2, h3, k3, m3, l3⟩ fun h' tk hk htk => Inv.turnedL I (ch := [z, TO, i1, i2, i3]) (fun b o hb ho => hk b o hb ho) (fun b hb => hf b (hch b hb))
  · intro A i s Q E ⟨h1, _⟩ hq
    exact wpAny_pyIter_zip h1 hq
section
variable {X : Cx} {e e2 e3 : Expr} {ta : TA} {p pos tpos : Pos} {elts : List Expr} {kk : Nat}
theorem pi_zip3A (hg : Gl X "zip") (hm : X.mg "zip" = none) (ha : PA X [e, e2, e3] ta) (hs : starEach [e, e2, e3] X.env = (false, eval e X.env) :: starEach [e2, e3] X.env) (hpl : ((backTo pos (starEach [e2, e3] X.env)).any fun x => x.1) = false) :
    PI X (.Tuple elts kk tpos) (.Call (.Name "zip" p) [e, e2, e3] [] pos) (fun σ H R => ta σ H fun vs H1 => ∃ (q r t : Src) (xs ys zs : List V), vs = [q.vl, r.vl, t.vl] ∧ q.Is X.K H1 xs ∧ r.Is X.K H1 ys ∧ t.Is X.K H1 zs ∧ R (Itz3A X.K q r t xs ys zs) H1) := by
  refine ⟨fun pins s σ H R I h => ?_⟩
  refine Call_ (ld_blt I hg hm boot_zip (callWith_type1 (thn (ha.run pos pins s σ H _ I h) fun us s1 ⟨vs, H1, I1, r1, q, r, t, xs, ys, zs, ev, hx, hy, hzz, hR⟩ => ?_) hs hpl))
  subst ev
  cases r1 with | cons ru rr =>
  cases rr with | cons rv rr =>
  cases rr with | cons rw' rr =>
  cases rr
  obtain ⟨Hq, B, hq⟩ := Src.begins I1 hx ru
  obtain ⟨Hq2, B2, hq2⟩ := Src.begins I1 hy rv
  obtain ⟨Hq3, B3, hq3⟩ := Src.begins I1 hzz rw'
  refine zip_begins3 B B2 B3 hq hq2 hq3 fun h' g1 g2 g3 g4 g5 g6 g7 g8 => ?_
  refine wpAny_pyIter_zip g1 ?_
  show ∃ it fp tn J H', _
  refine ⟨s1.heap.objs.size + 5, [s1.heap.objs.size + 5, s1.heap.objs.size + 3, s1.heap.objs.size + 4, s1.heap.objs.size, s1.heap.objs.size + 1, s1.heap.objs.size + 2], _, _, H1, rfl, I1.kept (t' := s1.toks) g8, turn_zip3A (p := q) (q := r) (r := t) (xs := xs) (ys := ys) (zs := zs) (zip_sep3 (Src.atLt I1 hx) (Src.atLt I1 hy) (Src.atLt I1 hzz)), ⟨g1, g2, ⟨_, _, _, g3⟩, Src.iter0 I1 hx ru (Nat.le_refl _) g4, Src.iter0 I1 hy rv (Nat.le_succ _) g5, Src.iter0 I1 hzz rw' (Nat.le_add_right _ 2) g6⟩, fun b hb => ?_, hR⟩
  have hb' : s1.heap.objs.size ≤ b := by
    simp only [List.mem_cons, List.not_mem_nil, or_false] at hb
    rcases hb with h | h | h | h | h | h <;> (rw [h]; first | exact Nat.le_refl _ | exact Nat.le_add_right _ _)
  exact I1.fpOk hb' (I1.hok.fresh hb')
end
end Ev

end

-- EvIt
section
/-! Ev: what is walked: locked slots, locked dicts, the turns' items. -/
namespace Ev
open PySem PySem.Spec PyProof.Rows L2

/-! ### a heap in which only a lock differs -/
def NF (u : HO) : Prop := ∀ o w, u ≠ .frz o w
theorem nfL {xs : List V} : NF (.lst xs) := fun _ _ e => by cases e
theorem nfT {xs : List V} : NF (.tup xs) := fun _ _ e => by cases e
theorem nfK {xs : List (Key × V)} : NF (.dK xs) := fun _ _ e => by cases e
theorem nfD {xs : List (List Key × V)} : NF (.dT xs) := fun _ _ e => by cases e
section
variable {K : PySem.W.Frag} {H H' : Hp} {S : List Addr}
mutual
theorem Rep.swap (hk : ∀ b u, NF u → Rd H b u → Rd H' b u) (ht : ∀ b xs, H b = some (.tup xs) → H' b = some (.tup xs)) : ∀ {v : V} {d : D}, Rep K H S v d → Rep K H' S v d
  | _, _, .non => .non
  | _, _, .bl b => .bl b
  | _, _, .int i => .int i
  | _, _, .str h => .str h
  | _, _, .lst n r l q => .lst n (hk _ _ nfL r) l (Reps.swap hk ht q)
  | _, _, .tup r l q => .tup (by
      rcases r with r | ⟨r, c⟩
      · exact .inl (ht _ _ r)
      · rcases r with r | r
        · exact .inr ⟨.inl (hk _ _ nfT r), c⟩
        · exact .inr ⟨.inr r, c⟩) l (Reps.swap hk ht q)
  | _, _, .dK n r l q e => .dK n (hk _ _ nfK r) l (Reps.swap hk ht q) e
  | _, _, .dT n r l q e => .dT n (hk _ _ nfD r) l (Reps.swap hk ht q) e
theorem Reps.swap (hk : ∀ b u, NF u → Rd H b u → Rd H' b u) (ht : ∀ b xs, H b = some (.tup xs) → H' b = some (.tup xs)) : ∀ {vs : List V} {ds : List D}, Reps K H S vs ds → Reps K H' S vs ds
  | _, _, .nil => .nil
  | _, _, .cons a r => .cons (Rep.swap hk ht a) (Reps.swap hk ht r)
end
theorem Top.swap (hk : ∀ b u, NF u → Rd H b u → Rd H' b u) (ht : ∀ b xs, H b = some (.tup xs) → H' b = some (.tup xs)) {a : Addr} {d : D} (h : Top K H S a d) : Top K H' S a d := by
  cases h with
  | lst r l q => exact .lst (hk _ _ nfL r) l (q.swap hk ht)
  | dK r l q e => exact .dK (hk _ _ nfK r) l (q.swap hk ht) e
  | dT r l q e => exact .dT (hk _ _ nfD r) l (q.swap hk ht) e
end
/-- a lock may come only upon what may be changed -/
structure Lk (H H' : Hp) (d : Addr) (u : HO) : Prop where
  here : H d = some u
  mu : Mut (some u)
  lock : ∃ od, H' d = some (.frz od u)
  els : ∀ b, b ≠ d → H' b = H b
theorem mut_tup {u : HO} (m : Mut (some u)) : (∀ ys, u ≠ .tup ys) ∧ ∀ o' ys, u ≠ .frz o' ys := ⟨fun ys e => by subst e; exact m, fun o' ys e => by subst e; exact m⟩
section
variable {K : PySem.W.Frag} {H H' : Hp} {d : Addr} {u : HO}
theorem Lk.to (L : Lk H H' d u) : ∀ b v, NF v → Rd H b v → Rd H' b v := fun b v nf h => by
  by_cases e : b = d
  · subst e
    obtain ⟨od, hl⟩ := L.lock
    rcases h with h | ⟨o, h⟩
    · rw [L.here] at h; cases h; exact .inr ⟨od, hl⟩
    · rw [L.here] at h; cases h; exact absurd rfl ((mut_tup L.mu).2 _ _)
  · unfold Rd; rw [L.els b e]; exact h
theorem Lk.back (L : Lk H H' d u) : ∀ b v, NF v → Rd H' b v → Rd H b v := fun b v nf h => by
  by_cases e : b = d
  · subst e
    obtain ⟨od, hl⟩ := L.lock
    rcases h with h | ⟨o, h⟩
    · rw [hl] at h; cases h; exact absurd rfl (nf _ _)
    · rw [hl] at h; cases h; exact .inl L.here
  · unfold Rd at h ⊢; rw [L.els b e] at h; exact h
theorem Lk.tup (L : Lk H H' d u) : ∀ b xs, H b = some (.tup xs) → H' b = some (.tup xs) := fun b xs h => by
  have e : b ≠ d := fun e => by subst e; rw [L.here] at h; cases h; exact (mut_tup L.mu).1 _ rfl
  rw [L.els b e]; exact h
theorem Lk.tupB (L : Lk H H' d u) : ∀ b xs, H' b = some (.tup xs) → H b = some (.tup xs) := fun b xs h => by
  have e : b ≠ d := fun e => by subst e; obtain ⟨od, hl⟩ := L.lock; rw [hl] at h; cases h
  rw [← L.els b e]; exact h
theorem Lk.none (L : Lk H H' d u) {b : Addr} : H b = .none ↔ H' b = .none := by
  by_cases e : b = d
  · subst e
    obtain ⟨od, hl⟩ := L.lock
    rw [L.here, hl]
    simp
  · rw [L.els b e]
theorem Lk.liveM (L : Lk H H' d u) {b : Addr} (h : LiveM H b) : LiveM H' b := by
  by_cases e : b = d
  · subst e
    obtain ⟨od, hl⟩ := L.lock
    refine ⟨_, hl, (fun ys z => by cases z), fun o' ys z => ?_⟩
    cases z
    exact (mut_tup L.mu).1 _ rfl
  · obtain ⟨o, e1, q⟩ := h
    exact ⟨o, by rw [L.els b e]; exact e1, q⟩
theorem Lk.liveB (L : Lk H H' d u) {b : Addr} (h : LiveM H' b) : LiveM H b := by
  by_cases e : b = d
  · subst e
    exact ⟨u, L.here, (mut_tup L.mu).1, fun o' ys z => (mut_tup L.mu).2 _ _ z⟩
  · obtain ⟨o, e1, q⟩ := h
    exact ⟨o, by rw [← L.els b e]; exact e1, q⟩
variable {T T' : List Addr} {ow ow' : List (Option Addr)} {g g' : Gm} {σ σ' : L2.St}
theorem SlOk.lock (L : Lk H H' d u) {S : List Addr} {oa : Option Addr} {v : V} {s : Sl} (h : SlOk K H S oa v s) (hn : (s.m = .own ∨ s.m = .prm) → oa ≠ some d) : SlOk K H' S oa v s := by
  cases hm : s.m with
  | frz => simp only [SlOk, hm] at h ⊢; exact h.swap L.to L.tup
  | own => simp only [SlOk, hm] at h ⊢; obtain ⟨a, q1, q2, q3, q4⟩ := h; exact ⟨a, q1, q2, q3.swap L.to L.tup, by rw [L.els a (fun e => hn (.inl hm) (by rw [q1, e]))]; exact q4⟩
  | prm => simp only [SlOk, hm] at h ⊢; obtain ⟨a, q1, q2, q3, q4⟩ := h; exact ⟨a, q1, q2, q3.swap L.to L.tup, by rw [L.els a (fun e => hn (.inr hm) (by rw [q1, e]))]; exact q4⟩
  | lck => simp only [SlOk, hm] at h ⊢; obtain ⟨a, q1, q2, q3⟩ := h; exact ⟨a, q1, q2, q3.swap L.to L.tup⟩
theorem SlOk.unl (L : Lk H H' d u) {S : List Addr} {oa : Option Addr} {v : V} {s : Sl} (h : SlOk K H' S oa v s) : SlOk K H S oa v s := by
  have mb : ∀ {a}, Mut (H' a) → Mut (H a) := fun {a} m => by
    by_cases e : a = d
    · subst e; rw [L.here]; exact L.mu
    · rw [← L.els a e]; exact m
  cases hm : s.m with
  | frz => simp only [SlOk, hm] at h ⊢; exact h.swap L.back L.tupB
  | own => simp only [SlOk, hm] at h ⊢; obtain ⟨a, q1, q2, q3, q4⟩ := h; exact ⟨a, q1, q2, q3.swap L.back L.tupB, mb q4⟩
  | prm => simp only [SlOk, hm] at h ⊢; obtain ⟨a, q1, q2, q3, q4⟩ := h; exact ⟨a, q1, q2, q3.swap L.back L.tupB, mb q4⟩
  | lck => simp only [SlOk, hm] at h ⊢; obtain ⟨a, q1, q2, q3⟩ := h; exact ⟨a, q1, q2, q3.swap L.back L.tupB⟩
theorem FrOk.lock (F : FrOk K T ow g σ H) (L : Lk H H' d u) (hn : ¬ Own g ow d) : FrOk K T ow g σ H' := by
  refine ⟨F.nd, fun b h => L.liveM (F.lv b h), F.ln, F.lo, fun i s h => ?_⟩
  obtain ⟨v, oa, e1, e2, q⟩ := F.sl i s h
  exact ⟨v, oa, e1, e2, q.lock L fun m z => hn ⟨i, s, h, m, by rw [e2, z]⟩⟩
theorem FrOk.unl (F : FrOk K T ow g σ H') (L : Lk H H' d u) : FrOk K T ow g σ H := by
  refine ⟨F.nd, fun b h => L.liveB (F.lv b h), F.ln, F.lo, fun i s h => ?_⟩
  obtain ⟨v, oa, e1, e2, q⟩ := F.sl i s h
  exact ⟨v, oa, e1, e2, q.unl L⟩
/-- a step within the lock, seen from without -/
theorem Step.unl {H2 H2' : Hp} (L : Lk H H' d u) (L2 : Lk H2 H2' d u) (hn : ¬ Own g ow d) (a : Step K T ow g σ H' T' ow' g' σ' H2') : Step K T ow g σ H T' ow' g' σ' H2 := by
  refine ⟨a.fr.unl L2, a.tt, fun b h => ?_, fun b h => ?_, fun b o e n => ?_, fun b o e => ?_, fun b h => ?_, a.st, a.ls, a.nl⟩
  · rcases a.nw b h with h | h
    · exact .inl h
    · exact .inr (L.none.mpr h)
  · rcases a.os b h with h | h
    · exact .inl h
    · exact .inr (L.none.mpr h)
  · by_cases z : b = d
    · subst z; rw [L.here] at e; cases e; exact L2.here
    · rw [← L2.els b z]; exact a.kx b o (by rw [L.els b z]; exact e) n
  · by_cases z : b = d
    · subst z; exact ⟨u, L2.here⟩
    · obtain ⟨o', h⟩ := a.lv b o (by rw [L.els b z]; exact e)
      exact ⟨o', by rw [← L2.els b z]; exact h⟩
  · rcases a.on b h with h | h
    · exact .inl h
    · exact .inr (L.none.mpr h)
end

/-! ### locked slots -/
theorem lockAt_len (g : Gm) (l : Vl) : (lockAt g l).length = g.length := by
  cases l with
  | v d f => rfl
  | b i => unfold lockAt; simp only; split <;> simp
theorem lockAll_len : ∀ (g : Gm) (ls : List Vl), (lockAll g ls).length = g.length
  | g, [] => rfl
  | g, l :: ls => by rw [lockAll, lockAll_len, lockAt_len]
/-- how a slot looks once some are locked -/
def LkSl : Option (Option Sl) → Option (Option Sl) → Prop := fun a b => a = b ∨ ∃ d, (a = some (some ⟨d, .own⟩) ∨ a = some (some ⟨d, .prm⟩)) ∧ b = some (some ⟨d, .lck⟩)
theorem lockAt_at (g : Gm) (l : Vl) (j : Nat) : LkSl g[j]? (lockAt g l)[j]? := by
  cases l with
  | v d f => exact .inl rfl
  | b i =>
    unfold lockAt
    simp only
    split
    · rename_i d e
      by_cases h : i = j
      · subst h
        refine .inr ⟨d, .inl e, ?_⟩
        rw [List.getElem?_set_self (List.getElem?_eq_some_iff.mp e).1]
      · rw [List.getElem?_set_ne h]; exact .inl rfl
    · rename_i d e
      by_cases h : i = j
      · subst h
        refine .inr ⟨d, .inr e, ?_⟩
        rw [List.getElem?_set_self (List.getElem?_eq_some_iff.mp e).1]
      · rw [List.getElem?_set_ne h]; exact .inl rfl
    · exact .inl rfl
theorem LkSl.trans {a b c : Option (Option Sl)} (h : LkSl a b) (k : LkSl b c) : LkSl a c := by
  rcases h with h | ⟨d, h, e⟩
  · rw [h]; exact k
  · rcases k with k | ⟨d', k, e'⟩
    · exact .inr ⟨d, h, k ▸ e⟩
    · rw [e] at k; rcases k with k | k <;> cases k
theorem lockAll_at : ∀ (g : Gm) (ls : List Vl) (j : Nat), LkSl g[j]? (lockAll g ls)[j]?
  | g, [], j => .inl rfl
  | g, l :: ls, j => (lockAt_at g l j).trans (lockAll_at _ ls j)
section
variable {K : PySem.W.Frag} {H : Hp} {T : List Addr} {ow : List (Option Addr)} {g g1 : Gm} {σ : L2.St}
theorem FrOk.weak (F : FrOk K T ow g σ H) (hl : g1.length = g.length) (h : ∀ j : Nat, LkSl g[j]? g1[j]?) : FrOk K T ow g1 σ H := by
  refine ⟨F.nd, F.lv, hl.trans F.ln, F.lo, fun i s e => ?_⟩
  rcases h i with h | ⟨d, h, e'⟩
  · exact F.sl i s (h.trans e)
  · rw [e'] at e; cases e
    rcases h with h | h
    · obtain ⟨v, oa, e1, e2, q⟩ := F.sl i _ h
      obtain ⟨a, q1, q2, q3⟩ := q.live (by simp)
      exact ⟨v, oa, e1, e2, a, q1, q2, q3⟩
    · obtain ⟨v, oa, e1, e2, q⟩ := F.sl i _ h
      obtain ⟨a, q1, q2, q3⟩ := q.live (by simp)
      exact ⟨v, oa, e1, e2, a, q1, q2, q3⟩
theorem FrOk.lockAll (F : FrOk K T ow g σ H) (ls : List Vl) : FrOk K T ow (Ev.lockAll g ls) σ H := F.weak (lockAll_len g ls) (lockAll_at g ls)
theorem own_weak (h : ∀ j : Nat, LkSl g[j]? g1[j]?) {b : Addr} (o : Own g1 ow b) : Own g ow b := by
  obtain ⟨i, s, e, m, w⟩ := o
  rcases h i with h | ⟨d, h, e'⟩
  · exact ⟨i, s, h.trans e, m, w⟩
  · rw [e'] at e; cases e; rcases m with m | m <;> cases m
/-- one address serves one slot -/
theorem ow_inj : ∀ {ow : List (Option Addr)} {i j : Nat} {a : Addr}, (owS ow).Nodup → ow[i]? = some (some a) → ow[j]? = some (some a) → i = j
  | [], _, _, _, _, h, _ => by simp at h
  | o :: ow, i, j, a, nd, h, k => by
    have nd' : (owS ow).Nodup := by
      cases o with
      | none => exact nd
      | some b => exact (List.nodup_cons.mp (show (b :: owS ow).Nodup from nd)).2
    cases i with
    | zero =>
      cases j with
      | zero => rfl
      | succ j =>
        simp at h; subst h
        have : a ∈ owS ow := mem_owS.mpr ⟨j, by simpa using k⟩
        exact absurd this (List.nodup_cons.mp (show (a :: owS ow).Nodup from nd)).1
    | succ i =>
      cases j with
      | zero =>
        simp at k; subst k
        have : a ∈ owS ow := mem_owS.mpr ⟨i, by simpa using h⟩
        exact absurd this (List.nodup_cons.mp (show (a :: owS ow).Nodup from nd)).1
      | succ j => rw [ow_inj nd' (i := i) (j := j) (by simpa using h) (by simpa using k)]
theorem FrOk.owNd (F : FrOk K T ow g σ H) : (owS ow).Nodup := (List.nodup_append.mp F.nd).2.1
/-- an argument that stays as it is while it is looked at -/
def ArgK (K : PySem.W.Frag) (T : List Addr) (ow : List (Option Addr)) (g : Gm) (H : Hp) (v : V) (d : D) : Prop := Rep K H (T ++ owS ow) v d ∨ ∃ p, v = .ref p ∧ ¬ Own g ow p ∧ Top K H (T ++ owS ow) p d
theorem lockAll_mem : ∀ {g : Gm} {ls : List Vl} {i : Nat}, Vl.b i ∈ ls → ∀ s, (Ev.lockAll g ls)[i]? = some (some s) → s.m ≠ .own ∧ s.m ≠ .prm
  | g, [], i, h, s, e => by simp at h
  | g, l :: ls, i, h, s, e => by
    rcases List.mem_cons.mp h with h | h
    · subst h
      -- what is locked once stays locked
      have h1 : ∀ s1, (lockAt g (.b i))[i]? = some (some s1) → s1.m ≠ .own ∧ s1.m ≠ .prm := fun s1 e1 => by
        unfold lockAt at e1
        simp only at e1
        split at e1
        · rename_i d e2
          rw [List.getElem?_set_self (List.getElem?_eq_some_iff.mp e2).1] at e1
          cases e1; exact ⟨(fun z => by cases z), fun z => by cases z⟩
        · rename_i d e2
          rw [List.getElem?_set_self (List.getElem?_eq_some_iff.mp e2).1] at e1
          cases e1; exact ⟨(fun z => by cases z), fun z => by cases z⟩
        · rename_i n1 n2
          obtain ⟨d, m⟩ := s1
          refine ⟨fun z => n1 d (by rw [e1, ← z]), fun z => n2 d (by rw [e1, ← z])⟩
      rw [Ev.lockAll] at e
      rcases lockAll_at (lockAt g (.b i)) ls i with k | ⟨d, k, e'⟩
      · exact h1 s (k.trans e)
      · rw [e'] at e; cases e; exact ⟨(fun z => by cases z), fun z => by cases z⟩
    · rw [Ev.lockAll] at e
      exact lockAll_mem h s e
/-- the arguments, once their slots are locked -/
theorem VRs.argK {H0 : Hp} {vs : List V} {ls : List Vl} {ds : List D} (h : Paired (VR K σ H0 H T ow) vs ls) (F : FrOk K T ow g σ H) (e : resAll g ls = some ds) : Paired (ArgK K T ow (Ev.lockAll g ls) H) vs ds := by
  have F1 := F.lockAll ls
  have key : ∀ (ls0 : List Vl) {vs : List V} {ds : List D}, (∀ l ∈ ls0, l ∈ ls) → Paired (VR K σ H0 H T ow) vs ls0 → resAll g ls0 = some ds → Paired (ArgK K T ow (Ev.lockAll g ls) H) vs ds := by
    intro ls0
    induction ls0 with
    | nil => intro vs ds _ h e; cases h; cases e; exact .nil
    | cons l ls0 ih =>
      intro vs ds hm h e
      cases h with
      | cons r t =>
        unfold resAll at e
        cases e1 : l.res g with
        | none => rw [e1] at e; cases e
        | some d =>
          cases e2 : resAll g ls0 with
          | none => rw [e1, e2] at e; cases e
          | some r2 =>
            rw [e1, e2] at e
            cases e
            refine .cons ?_ (ih (fun l' h' => hm l' (List.mem_cons_of_mem _ h')) t e2)
            cases l with
            | v d' f =>
              cases e1
              cases f with
              | false => exact .inl r
              | true =>
                obtain ⟨p, h1, h2, _, h3, _⟩ := r
                refine .inr ⟨p, h1, fun o => F.tNotOwn h2 (own_weak (lockAll_at g ls) o), h3⟩
            | b i =>
              have e1' : slotD g i = some d := e1
              have r' : σ[i]? = some (some _) := r
              unfold slotD at e1'
              split at e1'
              · rename_i s0 es0
                cases e1'
                obtain ⟨v2, oa, w1, w2, w3⟩ := F.sl i s0 es0
                rw [r'] at w1; cases w1
                by_cases hf : s0.m = .frz
                · simp only [SlOk, hf] at w3; exact .inl w3
                · obtain ⟨a, y1, y2, y3⟩ := w3.live hf
                  rw [y1] at w2
                  refine .inr ⟨a, y2, fun o => ?_, y3⟩
                  obtain ⟨j, s, k1, k2, k3⟩ := o
                  have := ow_inj F.owNd w2 k3
                  subst this
                  obtain ⟨m1, m2⟩ := lockAll_mem (hm (.b i) List.mem_cons_self) s k1
                  rcases k2 with k2 | k2
                  · exact m1 k2
                  · exact m2 k2
              · cases e1'
  exact key ls (fun _ h => h) h e
end

/-! ### the walks -/
section
variable {K : PySem.W.Frag} {H : Hp} {T : List Addr} {ow : List (Option Addr)} {g : Gm} {σ : L2.St}
/-- what is walked: its items, one by one, while the frame goes on -/
def Wk (K : PySem.W.Frag) (J : It) (items : List D) (T : List Addr) (ow : List (Option Addr)) (g : Gm) (σ : L2.St) (H : Hp) : Prop :=
  ∃ (n : Nat) (G : Hp → Prop) (Y : Nat → Hp → V → Hp → Prop), Walk J n G Y ∧ n = items.length ∧ (∀ T' ow' g' σ' H', Step K T ow g σ H T' ow' g' σ' H' → G H') ∧
    ∀ T' ow' g' σ' H' i x H'' d, Step K T ow g σ H T' ow' g' σ' H' → Y i H' x H'' → items[i]? = some d → KeepA H' H'' ∧ Rep K H'' (T' ++ owS ow') x d
theorem Step.rdN {T' : List Addr} {ow' : List (Option Addr)} {g' : Gm} {σ' : L2.St} {H' : Hp} (a : Step K T ow g σ H T' ow' g' σ' H') {b : Addr} {u : HO} (h : Rd H b u) (n : ¬ Own g ow b) : Rd H' b u := a.rd h n
theorem ArgK.listK {v : V} {xs : List D} (h : ArgK K T ow g H v (.list xs)) : ∃ a vs, v = .ref a ∧ Rd H a (.lst vs) ∧ vs.length ≤ sizeLine ∧ Reps K H (T ++ owS ow) vs xs ∧ ¬ Own g ow a := by
  rcases h with h | ⟨p, e, n, h⟩
  · cases h with
    | lst n r l q => exact ⟨_, _, rfl, r, l, q, fun o => n (List.mem_append_right _ o.mem)⟩
  · cases h with
    | lst r l q => exact ⟨_, _, e, r, l, q, n⟩
theorem ArgK.tupleK {v : V} {xs : List D} (h : ArgK K T ow g H v (.tuple xs)) : ∃ a vs, v = .ref a ∧ TupR K H a vs xs ∧ vs.length ≤ sizeLine ∧ Reps K H (T ++ owS ow) vs xs := by
  rcases h with h | ⟨p, e, n, h⟩
  · cases h with
    | tup r l q => exact ⟨_, _, rfl, r, l, q⟩
  · cases h
theorem ArgK.intK {v : V} {i : Int} (h : ArgK K T ow g H v (.int i)) : v = .int i := by
  rcases h with h | ⟨p, e, n, h⟩
  · cases h; rfl
  · cases h
theorem ArgK.strK {v : V} {x : Str} (h : ArgK K T ow g H v (.str x)) : v = .str x ∧ x.length ≤ sizeLine := by
  rcases h with h | ⟨p, e, n, h⟩
  · cases h with
    | str l => exact ⟨rfl, l⟩
  · cases h
theorem Step.sqT {T' : List Addr} {ow' : List (Option Addr)} {g' : Gm} {σ' : L2.St} {H' : Hp} (a : Step K T ow g σ H T' ow' g' σ' H') (F : FrOk K T ow g σ H) {b : Addr} {vs : List V} (h : SqT K H b vs) : SqT K H' b vs := by
  rcases h with h | h
  · exact .inl (a.rd h fun o => F.tup b vs h (List.mem_append_right _ o.mem))
  · exact .inr h
theorem wk_list (F : FrOk K T ow g σ H) {a : Addr} {vs : List V} {xs : List D} (r : Rd H a (.lst vs)) (n : ¬ Own g ow a) (q : Reps K H (T ++ owS ow) vs xs) : Wk K (Itl K a) xs T ow g σ H :=
  ⟨vs.length, _, _, walk_list, q.len, fun _ _ _ _ _ S => .inl (S.rd r n), fun T' ow' g' σ' H' i x H'' d S y e => by
    obtain ⟨e1, e2⟩ := y
    subst e1
    refine ⟨KeepA.refl _, ?_⟩
    obtain ⟨v, h1, h2⟩ := (S.reps F q).get e
    rw [e2] at h1; cases h1
    exact h2⟩
theorem wk_tup (F : FrOk K T ow g σ H) {a : Addr} {vs : List V} {xs : List D} (r : SqT K H a vs) (q : Reps K H (T ++ owS ow) vs xs) : Wk K (Itt K a) xs T ow g σ H :=
  ⟨vs.length, _, _, walk_tup, q.len, fun _ _ _ _ _ S => S.sqT F r, fun T' ow' g' σ' H' i x H'' d S y e => by
    obtain ⟨e1, e2⟩ := y
    subst e1
    refine ⟨KeepA.refl _, ?_⟩
    obtain ⟨v, h1, h2⟩ := (S.reps F q).get e
    rw [e2] at h1; cases h1
    exact h2⟩
theorem wk_str {z : Str} : Wk K (Its z) (z.cps.toList.map fun c => .str (sign c)) T ow g σ H :=
  ⟨z.cps.size, _, _, walk_str, by simp, fun _ _ _ _ _ _ => trivial, fun T' ow' g' σ' H' i x H'' d S y e => by
    obtain ⟨e1, c, e2, e3⟩ := y
    subst e1; subst e3
    refine ⟨KeepA.refl _, ?_⟩
    rw [List.getElem?_map, Array.getElem?_toList, e2] at e
    cases e
    exact .str (by rw [sizeLine_eq]; show (#[c] : Array Nat).size ≤ _; simp)⟩
theorem rngD_one (a b : Int) : rngD a b 1 = (List.range (b - a).toNat).map fun (k : Nat) => .int (a + (k : Int)) := by
  unfold rngD
  rw [if_pos (by decide), show (b - a + 1 - 1) / 1 = b - a by rw [Int.ediv_one]; omega]
  congr 1
  funext k
  rw [Int.mul_one]
theorem rngD_down (a b : Int) : rngD a b (-1) = (List.range (a - b).toNat).map fun (k : Nat) => .int (a + (k : Int) * (-1)) := by
  unfold rngD
  rw [if_neg (by decide), if_pos (by decide), show (a - b - -1 - 1) / (- -1) = a - b by rw [show (- -1 : Int) = 1 by decide, Int.ediv_one]; omega]
theorem wk_rng {lo hi : Int} : Wk K (Itr lo (hi - lo).toNat) (rngD lo hi 1) T ow g σ H :=
  ⟨(hi - lo).toNat, _, _, walk_range, by rw [rngD_one]; simp, fun _ _ _ _ _ _ => trivial, fun T' ow' g' σ' H' i x H'' d S y e => by
    obtain ⟨e1, e2⟩ := y
    subst e1; subst e2
    refine ⟨KeepA.refl _, ?_⟩
    rw [rngD_one, List.getElem?_map] at e
    cases e3 : (List.range (hi - lo).toNat)[i]? with
    | none => rw [e3] at e; cases e
    | some k =>
      rw [e3] at e; cases e
      have := (List.getElem?_eq_some_iff.mp e3)
      obtain ⟨h1, h2⟩ := this
      rw [List.getElem_range] at h2
      subst h2
      exact .int _⟩
theorem wk_down {lo hi : Int} : Wk K (Itc lo (-1) (lo - hi).toNat) (rngD lo hi (-1)) T ow g σ H :=
  ⟨(lo - hi).toNat, _, _, walk_rangeC, by rw [rngD_down]; simp, fun _ _ _ _ _ _ => trivial, fun T' ow' g' σ' H' i x H'' d S y e => by
    obtain ⟨e1, e2⟩ := y
    subst e1; subst e2
    refine ⟨KeepA.refl _, ?_⟩
    rw [rngD_down, List.getElem?_map] at e
    cases e3 : (List.range (lo - hi).toNat)[i]? with
    | none => rw [e3] at e; cases e
    | some k =>
      rw [e3] at e; cases e
      obtain ⟨h1, h2⟩ := (List.getElem?_eq_some_iff.mp e3)
      rw [List.getElem_range] at h2
      subst h2
      exact .int _⟩
theorem enuD_get : ∀ (xs : List D) (n : Int) (i : Nat), (enuD n xs)[i]? = xs[i]?.map fun x => .tuple [.int (n + i), x]
  | [], n, i => by simp [enuD]
  | x :: xs, n, 0 => by simp [enuD]
  | x :: xs, n, i + 1 => by
    rw [enuD, List.getElem?_cons_succ, List.getElem?_cons_succ, enuD_get xs (n + 1) i]
    congr 1
    funext y
    congr 3
    push_cast
    omega
theorem enuD_len : ∀ (xs : List D) (n : Int), (enuD n xs).length = xs.length
  | [], n => rfl
  | x :: xs, n => by rw [enuD, List.length_cons, List.length_cons, enuD_len xs]
/-- a new pair -/
theorem rep_pair {S : List Addr} (hS : ∀ b ∈ S, LiveM H b) {p : Addr} {x y : V} {dx dy : D} (hp : H p = none) (hx : Rep K H S x dx) (hy : Rep K H S y dy) : KeepA H (upd H p (.tup [x, y])) ∧ Rep K (upd H p (.tup [x, y])) S (.ref p) (.tuple [dx, dy]) :=
  ⟨KeepA.upd hp, rep_tup hS hp (by show 2 ≤ sizeLine; rw [sizeLine_eq]; decide) (.cons hx (.cons hy .nil))⟩
theorem zip2D_get : ∀ (xs ys : List D) (i : Nat) (d : D), (zip2D xs ys)[i]? = some d → ∃ x y, xs[i]? = some x ∧ ys[i]? = some y ∧ d = .tuple [x, y]
  | [], ys, i, d, h => by simp [zip2D] at h
  | x :: xs, [], i, d, h => by simp [zip2D] at h
  | x :: xs, y :: ys, 0, d, h => by
    simp [zip2D] at h
    exact ⟨x, y, rfl, rfl, h.symm⟩
  | x :: xs, y :: ys, i + 1, d, h => by
    rw [zip2D, List.getElem?_cons_succ] at h
    obtain ⟨a, b, h1, h2, h3⟩ := zip2D_get xs ys i d h
    exact ⟨a, b, by simpa using h1, by simpa using h2, h3⟩
theorem zip2D_len : ∀ (xs ys : List D), (zip2D xs ys).length = min xs.length ys.length
  | [], ys => by simp [zip2D]
  | x :: xs, [] => by simp [zip2D]
  | x :: xs, y :: ys => by
    rw [zip2D, List.length_cons, zip2D_len xs ys, List.length_cons, List.length_cons]
    omega
theorem zip3D_get : ∀ (xs ys zs : List D) (i : Nat) (d : D), (zip3D xs ys zs)[i]? = some d → ∃ x y z, xs[i]? = some x ∧ ys[i]? = some y ∧ zs[i]? = some z ∧ d = .tuple [x, y, z]
  | [], ys, zs, i, d, h => by simp [zip3D] at h
  | x :: xs, [], zs, i, d, h => by simp [zip3D] at h
  | x :: xs, y :: ys, [], i, d, h => by simp [zip3D] at h
  | x :: xs, y :: ys, z :: zs, 0, d, h => by
    simp [zip3D] at h
    exact ⟨x, y, z, rfl, rfl, rfl, h.symm⟩
  | x :: xs, y :: ys, z :: zs, i + 1, d, h => by
    rw [zip3D, List.getElem?_cons_succ] at h
    obtain ⟨a, b, c, h1, h2, h3, h4⟩ := zip3D_get xs ys zs i d h
    exact ⟨a, b, c, by simpa using h1, by simpa using h2, by simpa using h3, h4⟩
theorem zip3D_len : ∀ (xs ys zs : List D), (zip3D xs ys zs).length = min (min xs.length ys.length) zs.length
  | [], ys, zs => by simp [zip3D]
  | x :: xs, [], zs => by simp [zip3D]
  | x :: xs, y :: ys, [] => by simp [zip3D]
  | x :: xs, y :: ys, z :: zs => by
    rw [zip3D, List.length_cons, zip3D_len xs ys zs, List.length_cons, List.length_cons, List.length_cons]
    omega
/-- what is walked stands still -/
structure SrcK (K : PySem.W.Frag) (p : Src) (xs : List V) (items : List D) (T : List Addr) (ow : List (Option Addr)) (g : Gm) (σ : L2.St) (H : Hp) : Prop where
  here : p.Is K H xs
  len : xs.length = items.length
  stay : ∀ (T' : List Addr) (ow' : List (Option Addr)) (g' : Gm) (σ' : L2.St) (H' : Hp), Step K T ow g σ H T' ow' g' σ' H' → p.Is K H' xs
  rep : ∀ (T' : List Addr) (ow' : List (Option Addr)) (g' : Gm) (σ' : L2.St) (H' : Hp) (i : Nat) (dx : D), Step K T ow g σ H T' ow' g' σ' H' → items[i]? = some dx → ∃ v : V, xs[i]? = some v ∧ Rep K H' (T' ++ owS ow') v dx
theorem src_of (F : FrOk K T ow g σ H) {v : V} {d : D} {items : List D} (h : ArgK K T ow g H v d) (e : linD d = some items) : ∃ p xs, v = p.vl ∧ SrcK K p xs items T ow g σ H := by
  cases d with
  | list xs =>
    cases e
    obtain ⟨a, ws, e1, r, l, q, n⟩ := h.listK
    exact ⟨.l a, ws, e1, .inl r, q.len, fun _ _ _ _ _ S => .inl (S.rd r n), fun _ _ _ _ _ i dx S e => (S.reps F q).get e⟩
  | tuple xs =>
    cases e
    obtain ⟨a, ws, e1, r, l, q⟩ := h.tupleK
    exact ⟨.t a, ws, e1, r.sq, q.len, fun _ _ _ _ _ S => S.sqT F r.sq, fun _ _ _ _ _ i dx S e => (S.reps F q).get e⟩
  | str z =>
    cases e
    refine ⟨.s z, _, h.strK.1, rfl, by simp, fun _ _ _ _ _ S => rfl, fun _ _ _ _ _ i dx S e => ?_⟩
    rw [List.getElem?_map] at e
    cases e2 : z.cps.toList[i]? with
    | none => rw [e2] at e; cases e
    | some c =>
      rw [e2] at e; cases e
      refine ⟨V.str (sign c), by rw [List.getElem?_map, e2]; rfl, .str (by rw [sizeLine_eq]; show (#[c] : Array Nat).size ≤ _; simp)⟩
  | _ => cases e
theorem wk_enuA {p : Src} {xs : List V} {items : List D} (s : SrcK K p xs items T ow g σ H) : Wk K (IteA K p xs) (enuD 0 items) T ow g σ H :=
  ⟨xs.length, fun H => p.Is K H xs, fun i H v H' => ∃ T x, v = .ref T ∧ H T = none ∧ H' = upd H T (.tup [.int i, x]) ∧ xs[i]? = some x, ⟨fun i H hi hg => ⟨hg, hi⟩, fun H hg => ⟨hg, rfl⟩, fun i H x H' hi hg hy => hy⟩, by rw [enuD_len]; exact s.len,
    fun _ _ _ _ _ S => s.stay _ _ _ _ _ S, fun T' ow' g' σ' H' i x H'' d S y e => by
    obtain ⟨p, v2, e1, hp, e2, e4⟩ := y
    subst e1; subst e2
    rw [enuD_get] at e
    cases e5 : items[i]? with
    | none => rw [e5] at e; cases e
    | some dx =>
      rw [e5] at e; cases e
      obtain ⟨v, h1, h2⟩ := s.rep _ _ _ _ _ _ _ S e5
      rw [e4] at h1; cases h1
      rw [Int.zero_add]
      exact rep_pair S.fr.lv hp (.int _) h2⟩
theorem wk_zipA {p q : Src} {xs ys : List V} {items its : List D} (s : SrcK K p xs items T ow g σ H) (t : SrcK K q ys its T ow g σ H) : Wk K (ItzA K p q xs ys) (zip2D items its) T ow g σ H :=
  ⟨min xs.length ys.length, fun H => p.Is K H xs ∧ q.Is K H ys, fun i H v H' => ∃ T x y, v = .ref T ∧ H T = none ∧ H' = upd H T (.tup [x, y]) ∧ xs[i]? = some x ∧ ys[i]? = some y, ⟨fun i H hi hg => ⟨hg.1, hg.2, by omega, by omega⟩, fun H hg => ⟨hg.1, hg.2, rfl⟩, fun i H x H' hi hg hy => hy⟩, by rw [zip2D_len, s.len, t.len],
    fun _ _ _ _ _ S => ⟨s.stay _ _ _ _ _ S, t.stay _ _ _ _ _ S⟩, fun T' ow' g' σ' H' i x H'' d S y e => by
    obtain ⟨p, v1, v2, e1, hp, e2, e3, e4⟩ := y
    subst e1; subst e2
    obtain ⟨dx, dy, f1, f2, f3⟩ := zip2D_get items its i d e
    subst f3
    obtain ⟨v, h1, h2⟩ := s.rep _ _ _ _ _ _ _ S f1
    obtain ⟨v', h3, h4⟩ := t.rep _ _ _ _ _ _ _ S f2
    rw [e3] at h1; cases h1
    rw [e4] at h3; cases h3
    exact rep_pair S.fr.lv hp h2 h4⟩
theorem rep_triple {S : List Addr} (hS : ∀ b ∈ S, LiveM H b) {p : Addr} {x y z : V} {dx dy dz : D} (hp : H p = none) (hx : Rep K H S x dx) (hy : Rep K H S y dy) (hz : Rep K H S z dz) : KeepA H (upd H p (.tup [x, y, z])) ∧ Rep K (upd H p (.tup [x, y, z])) S (.ref p) (.tuple [dx, dy, dz]) :=
  ⟨KeepA.upd hp, rep_tup hS hp (by show 3 ≤ sizeLine; rw [sizeLine_eq]; decide) (.cons hx (.cons hy (.cons hz .nil)))⟩
theorem wk_zip3A {p q r : Src} {xs ys zs : List V} {items its it3 : List D} (s : SrcK K p xs items T ow g σ H) (t : SrcK K q ys its T ow g σ H) (u : SrcK K r zs it3 T ow g σ H) : Wk K (Itz3A K p q r xs ys zs) (zip3D items its it3) T ow g σ H :=
  ⟨min (min xs.length ys.length) zs.length, fun H => p.Is K H xs ∧ q.Is K H ys ∧ r.Is K H zs, fun i H v H' => ∃ T x y u, v = .ref T ∧ H T = none ∧ H' = upd H T (.tup [x, y, u]) ∧ xs[i]? = some x ∧ ys[i]? = some y ∧ zs[i]? = some u, ⟨fun i H hi hg => ⟨hg.1, hg.2.1, hg.2.2, by omega, by omega, by omega⟩, fun H hg => ⟨hg.1, hg.2.1, hg.2.2, rfl⟩, fun i H x H' hi hg hy => hy⟩, by rw [zip3D_len, s.len, t.len, u.len],
    fun _ _ _ _ _ S => ⟨s.stay _ _ _ _ _ S, t.stay _ _ _ _ _ S, u.stay _ _ _ _ _ S⟩, fun T' ow' g' σ' H' i x H'' d S y e => by
    obtain ⟨p, v1, v2, v3, e1, hp, e2, e3, e4, e5⟩ := y
    subst e1; subst e2
    obtain ⟨dx, dy, dz, f1, f2, f4, f3⟩ := zip3D_get items its it3 i d e
    subst f3
    obtain ⟨v, h1, h2⟩ := s.rep _ _ _ _ _ _ _ S f1
    obtain ⟨v', h3, h4⟩ := t.rep _ _ _ _ _ _ _ S f2
    obtain ⟨v'', h5, h6⟩ := u.rep _ _ _ _ _ _ _ S f4
    rw [e3] at h1; cases h1
    rw [e4] at h3; cases h3
    rw [e5] at h5; cases h5
    exact rep_triple S.fr.lv hp h2 h4 h6⟩
/-- a locked dict's keys -/
theorem wk_keys {d : Addr} {o : Obj} {kvs : List (Key × V)} (h : H d = some (.frz o (.dK kvs))) (n : ¬ Own g ow d) (l : DkOk kvs) : Wk K (Itk d o kvs) (kvs.map fun p => keyD p.1) T ow g σ H :=
  ⟨kvs.length, _, _, walk_keys, by simp, fun _ _ _ _ _ S => S.kx d _ h n, fun T' ow' g' σ' H' i x H'' d' S y e => by
    obtain ⟨e1, k, v, e2, e3⟩ := y
    subst e1; subst e3
    refine ⟨KeepA.refl _, ?_⟩
    rw [List.getElem?_map, e2] at e
    cases e
    have hm := List.mem_of_getElem? e2
    cases k with
    | inl i => exact .int i
    | inr z => exact .str (l.2 _ hm z rfl)⟩
theorem wk_keysT (F : FrOk K T ow g σ H) {d : Addr} {o : Obj} {kvs : List (List Key × V)} (h : H d = some (.frz o (.dT kvs))) (n : ¬ Own g ow d) (l : DtOk kvs) : Wk K (Itkt d o kvs) (kvs.map fun p => tkeyD p.1) T ow g σ H :=
  ⟨kvs.length, _, _, walk_keysT, by simp, fun _ _ _ _ _ S => S.kx d _ h n, fun T' ow' g' σ' H' i x H'' d' S y e => by
    obtain ⟨e1, k, v, q, e2, e3, e4⟩ := y
    subst e1; subst e3
    refine ⟨KeepA.refl _, ?_⟩
    rw [List.getElem?_map, e2] at e
    cases e
    have hm := List.mem_of_getElem? e2
    obtain ⟨_, l2, l3⟩ := l.2.2 _ hm
    exact .tup (.inl e4) (by rw [List.length_map]; exact l2) (rep_keys l3)⟩
end
end Ev

end

-- EvFr
section
/-! Ev: changes of slots. -/
namespace Ev
open PySem PySem.Spec PyProof.Rows L2

theorem owS_set_sub {ow : List (Option Addr)} {i : Nat} {b : Addr} (h : b ∈ owS (ow.set i none)) : b ∈ owS ow := by
  obtain ⟨j, e⟩ := mem_owS.mp h
  by_cases hj : i = j
  · subst hj
    by_cases hl : i < ow.length
    · rw [List.getElem?_set_self hl] at e; cases e
    · rw [List.set_eq_of_length_le (by omega)] at e; exact mem_owS.mpr ⟨i, e⟩
  · rw [List.getElem?_set_ne hj] at e; exact mem_owS.mpr ⟨j, e⟩
theorem owS_set_nodup : ∀ {ow : List (Option Addr)} {i : Nat}, (owS ow).Nodup → (owS (ow.set i none)).Nodup
  | [], _, _ => by simp [owS]
  | o :: ow, 0, h => by
    cases o with
    | none => exact h
    | some b => exact (List.nodup_cons.mp (show (b :: owS ow).Nodup from h)).2
  | o :: ow, i + 1, h => by
    cases o with
    | none => exact owS_set_nodup (ow := ow) h
    | some b =>
      obtain ⟨h1, h2⟩ := List.nodup_cons.mp (show (b :: owS ow).Nodup from h)
      exact (List.nodup_cons.mpr ⟨fun z => h1 (owS_set_sub z), owS_set_nodup (ow := ow) h2⟩ : (b :: owS (ow.set i none)).Nodup)
theorem owS_put_mem {ow : List (Option Addr)} {i : Nat} {p b : Addr} (h : b ∈ owS (ow.set i (some p))) : b = p ∨ b ∈ owS (ow.set i none) := by
  obtain ⟨j, e⟩ := mem_owS.mp h
  by_cases hj : i = j
  · subst hj
    by_cases hl : i < ow.length
    · rw [List.getElem?_set_self hl] at e; cases e; exact .inl rfl
    · rw [List.set_eq_of_length_le (by omega)] at e
      exact .inr (by rw [List.set_eq_of_length_le (by omega)]; exact mem_owS.mpr ⟨i, e⟩)
  · rw [List.getElem?_set_ne hj] at e
    exact .inr (mem_owS.mpr ⟨j, by rw [List.getElem?_set_ne hj]; exact e⟩)
theorem owS_put_nodup : ∀ {ow : List (Option Addr)} {i : Nat} {p : Addr}, (owS ow).Nodup → p ∉ owS ow → (owS (ow.set i (some p))).Nodup
  | [], _, _, _, _ => by simp [owS]
  | o :: ow, 0, p, h, hp => by
    have h' : (owS ow).Nodup ∧ p ∉ owS ow := by
      cases o with
      | none => exact ⟨h, hp⟩
      | some b => exact ⟨(List.nodup_cons.mp (show (b :: owS ow).Nodup from h)).2, fun z => hp (List.mem_cons_of_mem _ z)⟩
    exact (List.nodup_cons.mpr ⟨h'.2, h'.1⟩ : (p :: owS ow).Nodup)
  | o :: ow, i + 1, p, h, hp => by
    cases o with
    | none => exact owS_put_nodup (ow := ow) h hp
    | some b =>
      obtain ⟨h1, h2⟩ := List.nodup_cons.mp (show (b :: owS ow).Nodup from h)
      refine (List.nodup_cons.mpr ⟨fun z => ?_, owS_put_nodup (ow := ow) h2 fun z => hp (List.mem_cons_of_mem _ z)⟩ : (b :: owS (ow.set i (some p))).Nodup)
      rcases owS_put_mem z with z | z
      · subst z; exact hp List.mem_cons_self
      · exact h1 (owS_set_sub z)
theorem freeAt_of {g : Gm} {i : Nat} (h : freeAt g i = true) : i < g.length ∧ ∀ s, g[i]? = some (some s) → s.m = .frz ∨ s.m = .own := by
  unfold freeAt at h
  split at h
  · rename_i e; exact ⟨(List.getElem?_eq_some_iff.mp e).1, fun s e' => by rw [e] at e'; cases e'⟩
  · rename_i d e; exact ⟨(List.getElem?_eq_some_iff.mp e).1, fun s e' => by rw [e] at e'; cases e'; exact .inl rfl⟩
  · rename_i d e; exact ⟨(List.getElem?_eq_some_iff.mp e).1, fun s e' => by rw [e] at e'; cases e'; exact .inr rfl⟩
  · cases h
section
variable {K : PySem.W.Frag} {H H1 H' : Hp} {T T1 T' : List Addr} {ow ow1 : List (Option Addr)} {g g1 : Gm} {σ : L2.St}
theorem sub_app {ow' : List (Option Addr)} (h : ∀ b ∈ owS ow', b ∈ owS ow) : ∀ b ∈ T ++ owS ow', b ∈ T ++ owS ow := fun b z => (List.mem_append.mp z).elim (fun z => List.mem_append_left _ z) fun z => List.mem_append_right _ (h b z)
/-- fewer are guarded: all that was said still holds -/
theorem SlOk.sub {S S' : List Addr} {oa : Option Addr} {v : V} {s : Sl} (h : SlOk K H S oa v s) (hs : ∀ b ∈ S', b ∈ S) (ht : ∀ b xs, Rd H b (.tup xs) → b ∉ S) : SlOk K H S' oa v s :=
  h.to (fun _ _ _ q => q) ht (fun b _ n _ z => n (hs b z)) fun _ _ => ⟨fun _ r => r, fun m => m⟩
/-- slot i takes a shared value -/
theorem FrOk.setFrz (F : FrOk K T ow g σ H) {i : Nat} {v : V} {d : D} (hf : freeAt g i = true) (h : Rep K H (T ++ owS ow) v d) : Step K T ow g σ H T (ow.set i none) (g.set i (some ⟨d, .frz⟩)) (σ.set i (some v)) H := by
  have sub : ∀ b ∈ T ++ owS (ow.set i none), b ∈ T ++ owS ow := sub_app fun b z => owS_set_sub z
  obtain ⟨n1, n2, n3⟩ := List.nodup_append.mp F.nd
  obtain ⟨hi, hfr⟩ := freeAt_of hf
  refine ⟨⟨List.nodup_append.mpr ⟨n1, owS_set_nodup n2, fun a x b y => n3 a x b (owS_set_sub y)⟩, fun b z => F.lv b (sub b z), by rw [List.length_set, List.length_set, F.ln], by rw [List.length_set, List.length_set, F.lo], fun j s e => ?_⟩, fun _ z => z, fun _ z => .inl (List.mem_append_left _ z), fun b z => .inl (owS_set_sub z), fun _ _ e _ => e, fun _ o e => ⟨o, e⟩, fun b z => .inl ?_, fun j s e m => ?_, by rw [List.length_set], fun j s e m => ?_⟩
  · by_cases hj : i = j
    · subst hj
      rw [List.getElem?_set_self hi] at e
      cases e
      refine ⟨v, none, by rw [List.getElem?_set_self (by rw [← F.ln]; exact hi)], by rw [List.getElem?_set_self (by rw [F.lo, ← F.ln]; exact hi)], ?_⟩
      exact h.mono sub F.tup
    · rw [List.getElem?_set_ne hj] at e
      obtain ⟨v', oa, e1, e2, q⟩ := F.sl j s e
      exact ⟨v', oa, by rw [List.getElem?_set_ne hj]; exact e1, by rw [List.getElem?_set_ne hj]; exact e2, q.sub sub F.tup⟩
  · obtain ⟨j, s, e, m, w⟩ := z
    by_cases hj : i = j
    · subst hj; rw [List.getElem?_set_self hi] at e; cases e; rcases m with m | m <;> cases m
    · rw [List.getElem?_set_ne hj] at e w; exact ⟨j, s, e, m, w⟩
  · have hj : i ≠ j := fun hj => by
      subst hj
      rcases hfr s e with h | h <;> rcases m with m | m <;> rw [h] at m <;> cases m
    exact ⟨by rw [List.getElem?_set_ne hj], by rw [List.getElem?_set_ne hj], s.d, by rw [List.getElem?_set_ne hj]; exact e, fun _ => rfl⟩
  · by_cases hj : i = j
    · subst hj; rw [List.getElem?_set_self hi] at e; cases e; cases m
    · rw [List.getElem?_set_ne hj] at e; exact ⟨s, e, m⟩
/-- the new objects but those of ahead are let go -/
theorem Step.toT (a : Step K T ow g σ H T1 ow1 g1 σ H1) (F : FrOk K T ow g σ H) : Step K T ow g σ H T ow1 g1 σ H1 := a.dropT (fun _ z => z) a.tt (List.nodup_append.mp F.nd).1
/-- a value behind a step, kept as a shared one -/
theorem RV.share {T1 : List Addr} {v : V} {d : D} {f : Bool} (a : Step K T ow g σ H T1 ow1 g1 σ H1) (F : FrOk K T ow g σ H) (h : RV K H H1 T1 ow1 v d f) : Rep K H1 (T ++ owS ow1) v d := by
  cases f with
  | false => exact Rep.mono h (fun b z => (List.mem_append.mp z).elim (fun z => List.mem_append_left _ (a.tt b z)) fun z => List.mem_append_right _ z) a.fr.tup
  | true =>
    obtain ⟨p, e, h1, h2, h3, h4⟩ := h
    subst e
    refine h3.rep (fun b z => (List.mem_append.mp z).elim (fun z => List.mem_append_left _ (a.tt b z)) fun z => List.mem_append_right _ z) a.fr.tup fun z => ?_
    rcases List.mem_append.mp z with z | z
    · obtain ⟨o, e, _⟩ := F.lv p (List.mem_append_left _ z)
      rw [h2] at e; cases e
    · exact (List.nodup_append.mp a.fr.nd).2.2 p h1 p z rfl
/-- slot i takes a new list or dict, for itself -/
theorem Step.setOwn (a : Step K T ow g σ H T1 ow1 g1 σ H1) (F : FrOk K T ow g σ H) {i : Nat} {v : V} {d : D} (hf : freeAt g1 i = true) (h : RV K H H1 T1 ow1 v d true) : ∃ ow2, Step K T ow g σ H T ow2 (g1.set i (some ⟨d, .own⟩)) (σ.set i (some v)) H1 := by
  obtain ⟨p, ev, h1, h2, h3, h4⟩ := h
  subst ev
  have F1 := a.fr
  obtain ⟨hi, hfr⟩ := freeAt_of hf
  obtain ⟨m1, m2, m3⟩ := List.nodup_append.mp F1.nd
  have pT : p ∉ T := fun z => by
    obtain ⟨o, e, _⟩ := F.lv p (List.mem_append_left _ z)
    rw [h2] at e; cases e
  have pO : p ∉ owS ow1 := fun z => m3 p h1 p z rfl
  have sub : ∀ b ∈ T ++ owS (ow1.set i (some p)), b ∈ T1 ++ owS ow1 := fun b z => by
    rcases List.mem_append.mp z with z | z
    · exact List.mem_append_left _ (a.tt b z)
    · rcases owS_put_mem z with z | z
      · subst z; exact List.mem_append_left _ h1
      · exact List.mem_append_right _ (owS_set_sub z)
  refine ⟨ow1.set i (some p), ⟨⟨List.nodup_append.mpr ⟨(List.nodup_append.mp F.nd).1, owS_put_nodup m2 pO, fun x hx y hy e => ?_⟩, fun b z => F1.lv b (sub b z), by rw [List.length_set, List.length_set]; exact F1.ln, by rw [List.length_set, List.length_set]; exact F1.lo, fun j s e => ?_⟩,
    fun _ z => z, fun _ z => .inl (List.mem_append_left _ z), fun b z => ?_, a.kx, a.lv, fun b z => ?_, fun j s e m => ?_, by rw [List.length_set], fun j s e m => ?_⟩⟩
  · subst e
    rcases owS_put_mem hy with z | z
    · subst z; exact pT hx
    · exact m3 x (a.tt x hx) x (owS_set_sub z) rfl
  · by_cases hj : i = j
    · subst hj
      rw [List.getElem?_set_self hi] at e
      cases e
      refine ⟨.ref p, some p, by rw [List.getElem?_set_self (by rw [← F1.ln]; exact hi)], by rw [List.getElem?_set_self (by rw [F1.lo, ← F1.ln]; exact hi)], p, rfl, rfl, ?_, h4⟩
      exact h3.to (fun _ r => r) (fun _ _ _ r => r) F1.tup fun b _ n _ z => n (sub b z)
    · rw [List.getElem?_set_ne hj] at e
      obtain ⟨v', oa, e1, e2, q⟩ := F1.sl j s e
      exact ⟨v', oa, by rw [List.getElem?_set_ne hj]; exact e1, by rw [List.getElem?_set_ne hj]; exact e2, q.sub sub F1.tup⟩
  · rcases owS_put_mem z with z | z
    · subst z; exact .inr h2
    · exact a.os b (owS_set_sub z)
  · obtain ⟨j, s, e, m, w⟩ := z
    by_cases hj : i = j
    · subst hj
      rw [List.getElem?_set_self (by rw [F1.lo, ← F1.ln]; exact hi)] at w
      cases w
      exact .inr h2
    · rw [List.getElem?_set_ne hj] at e w; exact a.on b ⟨j, s, e, m, w⟩
  · obtain ⟨e1, e2, d', e3, e4⟩ := a.st j s e m
    have hj : i ≠ j := fun hj => by
      subst hj
      rcases hfr _ e3 with h | h <;> rcases m with m | m <;> (have h' : s.m = _ := h; rw [m] at h'; cases h')
    exact ⟨by rw [List.getElem?_set_ne hj]; exact e1, by rw [List.getElem?_set_ne hj], d', by rw [List.getElem?_set_ne hj]; exact e3, e4⟩
  · by_cases hj : i = j
    · subst hj; rw [List.getElem?_set_self hi] at e; cases e; cases m
    · rw [List.getElem?_set_ne hj] at e; exact a.nl j s e m
/-- a slot's own object is shared from now on -/
theorem FrOk.freeze (F : FrOk K T ow g σ H) {i : Nat} {d : D} (e : g[i]? = some (some ⟨d, .own⟩)) : ∃ v, σ[i]? = some (some v) ∧ Step K T ow g σ H T (ow.set i none) (g.set i (some ⟨d, .frz⟩)) σ H ∧ Rep K H (T ++ owS (ow.set i none)) v d := by
  obtain ⟨v, oa, e1, e2, q⟩ := F.sl i _ e
  obtain ⟨a, q1, q2, q3, q4⟩ := (show ∃ a, oa = some a ∧ v = .ref a ∧ Top K H (T ++ owS ow) a d ∧ Mut (H a) from q)
  subst q1; subst q2
  have hi := (List.getElem?_eq_some_iff.mp e).1
  have sub : ∀ b ∈ T ++ owS (ow.set i none), b ∈ T ++ owS ow := sub_app fun b z => owS_set_sub z
  obtain ⟨n1, n2, n3⟩ := List.nodup_append.mp F.nd
  have an : a ∉ T ++ owS (ow.set i none) := fun z => by
    rcases List.mem_append.mp z with z | z
    · exact n3 a z a (mem_owS.mpr ⟨i, e2⟩) rfl
    · obtain ⟨j, w⟩ := mem_owS.mp z
      by_cases hj : i = j
      · subst hj; rw [List.getElem?_set_self (by rw [F.lo, ← F.ln]; exact hi)] at w; cases w
      · rw [List.getElem?_set_ne hj] at w; exact hj (ow_inj n2 e2 w)
  have hr : Rep K H (T ++ owS (ow.set i none)) (.ref a) d := q3.rep sub F.tup an
  refine ⟨_, e1, ⟨⟨List.nodup_append.mpr ⟨n1, owS_set_nodup n2, fun a x b y => n3 a x b (owS_set_sub y)⟩, fun b z => F.lv b (sub b z), by rw [List.length_set, F.ln], by rw [List.length_set, F.lo], fun j s ej => ?_⟩, fun _ z => z, fun _ z => .inl (List.mem_append_left _ z), fun b z => .inl (owS_set_sub z), fun _ _ e _ => e, fun _ o e => ⟨o, e⟩, fun b z => .inl ?_, fun j s ej m => ?_, rfl, fun j s ej m => ?_⟩, hr⟩
  · by_cases hj : i = j
    · subst hj
      rw [List.getElem?_set_self hi] at ej
      cases ej
      exact ⟨_, none, e1, by rw [List.getElem?_set_self (by rw [F.lo, ← F.ln]; exact hi)], hr⟩
    · rw [List.getElem?_set_ne hj] at ej
      obtain ⟨v', oa, f1, f2, q⟩ := F.sl j s ej
      exact ⟨v', oa, f1, by rw [List.getElem?_set_ne hj]; exact f2, q.sub sub F.tup⟩
  · obtain ⟨j, s, ej, m, w⟩ := z
    by_cases hj : i = j
    · subst hj; rw [List.getElem?_set_self hi] at ej; cases ej; rcases m with m | m <;> cases m
    · rw [List.getElem?_set_ne hj] at ej w; exact ⟨j, s, ej, m, w⟩
  · have hj : i ≠ j := fun hj => by
      subst hj; rw [e] at ej; cases ej; rcases m with m | m <;> cases m
    exact ⟨by rw [List.getElem?_set_ne hj], rfl, s.d, by rw [List.getElem?_set_ne hj]; exact ej, fun _ => rfl⟩
  · by_cases hj : i = j
    · subst hj; rw [List.getElem?_set_self hi] at ej; cases ej; cases m
    · rw [List.getElem?_set_ne hj] at ej; exact ⟨s, ej, m⟩
/-- some slots are forgotten -/
theorem FrOk.less (F : FrOk K T ow g σ H) (hl : g1.length = g.length) (h : ∀ (j : Nat) s, g1[j]? = some (some s) → g[j]? = some (some s)) : FrOk K T ow g1 σ H :=
  ⟨F.nd, F.lv, hl.trans F.ln, F.lo, fun i s e => F.sl i s (h i s e)⟩
theorem own_less (h : ∀ (j : Nat) s, g1[j]? = some (some s) → g[j]? = some (some s)) {b : Addr} (o : Own g1 ow b) : Own g ow b := let ⟨i, s, e, m, w⟩ := o; ⟨i, s, h i s e, m, w⟩
theorem wipeTo_at : ∀ (g0 g : Gm) (j : Nat), (wipeTo g0 g)[j]? = g[j]? ∨ ((wipeTo g0 g)[j]? = some none ∧ g0[j]? = some none)
  | [], g, j => .inl rfl
  | none :: r, [], j => .inl rfl
  | some _ :: r, [], j => .inl rfl
  | none :: r, s :: t, 0 => .inr ⟨rfl, rfl⟩
  | none :: r, s :: t, j + 1 => wipeTo_at r t j
  | some _ :: r, s :: t, 0 => .inl rfl
  | some _ :: r, s :: t, j + 1 => wipeTo_at r t j
theorem wipeTo_len : ∀ (g0 g : Gm), (wipeTo g0 g).length = g.length
  | [], g => rfl
  | none :: r, [] => rfl
  | some _ :: r, [] => rfl
  | none :: r, s :: t => by simp [wipeTo, wipeTo_len r t]
  | some _ :: r, s :: t => by simp [wipeTo, wipeTo_len r t]
/-- behind a turn: what was not there ahead is forgotten -/
theorem Step.wipe {T' : List Addr} {ow' : List (Option Addr)} {g' : Gm} {σ' : L2.St} (a : Step K T ow g σ H T' ow' g' σ' H') : Step K T ow g σ H T' ow' (wipeTo g g') σ' H' := by
  have hl : ∀ (j : Nat) s, (wipeTo g g')[j]? = some (some s) → g'[j]? = some (some s) := fun j s e => by
    rcases wipeTo_at g g' j with h | h
    · rw [← h]; exact e
    · rw [h.1] at e; cases e
  refine ⟨a.fr.less (wipeTo_len g g') hl, a.tt, a.nw, a.os, a.kx, a.lv, fun b o => a.on b (own_less hl o), fun i s e m => ?_, a.ls, fun i s e m => a.nl i s (hl i s e) m⟩
  obtain ⟨e1, e2, d', e3, e4⟩ := a.st i s e m
  refine ⟨e1, e2, d', ?_, e4⟩
  rcases wipeTo_at g g' i with h | h
  · rw [h]; exact e3
  · rw [h.2] at e; cases e
/-! ### unlocking slots -/
theorem unlock_at : ∀ (g0 g : Gm) (j : Nat), (unlock g0 g)[j]? = g[j]? ∨ ∃ d0 d, ((g0[j]? = some (some ⟨d0, .own⟩) ∧ (unlock g0 g)[j]? = some (some ⟨d, .own⟩)) ∨ (g0[j]? = some (some ⟨d0, .prm⟩) ∧ (unlock g0 g)[j]? = some (some ⟨d, .prm⟩))) ∧ g[j]? = some (some ⟨d, .lck⟩)
  | [], g, j => .inl (by simp [unlock])
  | x :: r, [], j => .inl (by simp [unlock])
  | x :: r, s :: t, 0 => by
    unfold unlock
    split
    · rename_i d0 _ d _ e1 e2; cases e1; cases e2; exact .inr ⟨d0, d, .inl ⟨rfl, rfl⟩, rfl⟩
    · rename_i d0 _ d _ e1 e2; cases e1; cases e2; exact .inr ⟨d0, d, .inr ⟨rfl, rfl⟩, rfl⟩
    · rename_i e1 e2; cases e1; cases e2; exact .inl rfl
    · rename_i e1; cases e1
    · rename_i e1 e2; cases e1
  | x :: r, s :: t, j + 1 => by
    unfold unlock
    split
    · rename_i e1 e2; cases e1; cases e2; exact unlock_at r t j
    · rename_i e1 e2; cases e1; cases e2; exact unlock_at r t j
    · rename_i e1 e2; cases e1; cases e2; exact unlock_at r t j
    · rename_i e1; cases e1
    · rename_i e1 e2; cases e1
theorem unlock_len : ∀ (g0 g : Gm), (unlock g0 g).length = g.length
  | [], g => by simp [unlock]
  | x :: r, [] => by simp [unlock]
  | x :: r, s :: t => by
    unfold unlock
    split
    · rename_i e1 e2; cases e1; cases e2; simp [unlock_len r t]
    · rename_i e1 e2; cases e1; cases e2; simp [unlock_len r t]
    · rename_i e1 e2; cases e1; cases e2; simp [unlock_len r t]
    · rename_i e1; cases e1
    · rename_i e1 e2; cases e1
/-- what was locked at the start of a step may be changed again -/
theorem Step.unlockS {T' : List Addr} {ow' : List (Option Addr)} {g' : Gm} {σ' : L2.St} (F : FrOk K T ow g σ H) (hl : ∀ j : Nat, LkSl g[j]? g1[j]?) (a : Step K T ow g1 σ H T' ow' g' σ' H') : Step K T ow g σ H T' ow' (unlock g g') σ' H' := by
  have nlo : ∀ (j : Nat) d, g'[j]? = some (some ⟨d, .lck⟩) → ∃ d0, g1[j]? = some (some ⟨d0, .lck⟩) ∧ d = d0 ∧ ow'[j]? = ow[j]? ∧ σ'[j]? = σ[j]? := fun j d e => by
    obtain ⟨⟨d0, m0⟩, h1, h2⟩ := a.nl j _ e rfl
    have h2' : m0 = .lck := h2
    subst h2'
    obtain ⟨e1, e2, d', e3, e4⟩ := a.st j _ h1 (.inl rfl)
    rw [e] at e3
    cases e3
    exact ⟨d0, h1, e4 rfl, e1, e2⟩
  have own_of : ∀ (j : Nat) d0 d m, g[j]? = some (some ⟨d0, m⟩) → (m = .own ∨ m = .prm) → g'[j]? = some (some ⟨d, .lck⟩) → d = d0 ∧ ow'[j]? = ow[j]? ∧ σ'[j]? = σ[j]? := fun j d0 d m e hm e' => by
    obtain ⟨d1, h1, h2, h3, h4⟩ := nlo j d e'
    rcases hl j with h | ⟨d2, h, h'⟩
    · rw [e, h1] at h; cases h; rcases hm with hm | hm <;> cases hm
    · rw [h1] at h'; cases h'
      rcases h with h | h <;> (rw [e] at h; cases h; exact ⟨h2, h3, h4⟩)
  refine ⟨⟨a.fr.nd, a.fr.lv, (unlock_len g g').trans a.fr.ln, a.fr.lo, fun j s e => ?_⟩, a.tt, a.nw, a.os, fun b o e n => a.kx b o e fun z => n (own_weak hl z), a.lv, fun b z => ?_, fun j s e m => ?_, a.ls, fun j s e m => ?_⟩
  · rcases unlock_at g g' j with h | ⟨d0, d, h, h'⟩
    · exact a.fr.sl j s (h ▸ e)
    · -- its object is as it was
      have key : ∀ m, (m = .own ∨ m = .prm) → g[j]? = some (some ⟨d0, m⟩) → (unlock g g')[j]? = some (some ⟨d, m⟩) → ∃ v oa, σ'[j]? = some (some v) ∧ ow'[j]? = some oa ∧ SlOk K H' (T' ++ owS ow') oa v s := fun m hm k1 k2 => by
        rw [k2] at e; cases e
        obtain ⟨h2, h3, h4⟩ := own_of j d0 d m k1 hm h'
        obtain ⟨v, oa, w1, w2, w3⟩ := a.fr.sl j _ h'
        obtain ⟨p, y1, y2, y3⟩ := (show ∃ p, oa = some p ∧ v = .ref p ∧ Top K H' (T' ++ owS ow') p d from w3)
        obtain ⟨v0, oa0, u1, u2, u3⟩ := F.sl j _ k1
        have hp : oa0 = some p := by rw [h3, u2] at w2; cases w2; exact y1
        have mu : Mut (H p) := by
          rcases hm with hm | hm <;> subst hm
          · obtain ⟨p', z1, _, _, z4⟩ := (show ∃ p', oa0 = some p' ∧ v0 = .ref p' ∧ Top K H (T ++ owS ow) p' d0 ∧ Mut (H p') from u3)
            rw [hp] at z1; cases z1; exact z4
          · obtain ⟨p', z1, _, _, z4⟩ := (show ∃ p', oa0 = some p' ∧ v0 = .ref p' ∧ Top K H (T ++ owS ow) p' d0 ∧ Mut (H p') from u3)
            rw [hp] at z1; cases z1; exact z4
        have nown : ¬ Own g1 ow p := fun o => by
          obtain ⟨i, s', q1, q2, q3⟩ := o
          rw [hp] at u2
          have := ow_inj F.owNd q3 u2
          subst this
          obtain ⟨d1, r1, _⟩ := nlo i d h'
          rw [r1] at q1; cases q1; rcases q2 with q2 | q2 <;> cases q2
        have mu' : Mut (H' p) := by
          cases eH : H p with
          | none => rw [eH] at mu; exact mu.elim
          | some o => rw [a.kx p o eH nown]; rw [eH] at mu; exact mu
        refine ⟨v, oa, w1, w2, ?_⟩
        rcases hm with hm | hm <;> subst hm
        · exact ⟨p, y1, y2, y3, mu'⟩
        · exact ⟨p, y1, y2, y3, mu'⟩
      rcases h with ⟨k1, k2⟩ | ⟨k1, k2⟩
      · exact key .own (.inl rfl) k1 k2
      · exact key .prm (.inr rfl) k1 k2
  · obtain ⟨j, s, e, m, w⟩ := z
    rcases unlock_at g g' j with h | ⟨d0, d, h, h'⟩
    · rcases a.on b ⟨j, s, h ▸ e, m, w⟩ with o | o
      · exact .inl (own_weak hl o)
      · exact .inr o
    · rcases h with ⟨k1, k2⟩ | ⟨k1, k2⟩
      · obtain ⟨_, h3, _⟩ := own_of j d0 d _ k1 (.inl rfl) h'
        exact .inl ⟨j, _, k1, .inl rfl, by rw [← h3]; exact w⟩
      · obtain ⟨_, h3, _⟩ := own_of j d0 d _ k1 (.inr rfl) h'
        exact .inl ⟨j, _, k1, .inr rfl, by rw [← h3]; exact w⟩
  · obtain ⟨sd, sm⟩ := s
    rcases hl j with h | ⟨d1, h, h'⟩
    · rw [h] at e
      obtain ⟨e1, e2, d', e3, e4⟩ := a.st j _ e m
      refine ⟨e1, e2, d', ?_, e4⟩
      rcases unlock_at g g' j with k | ⟨d0, d, k, k'⟩
      · rw [k]; exact e3
      · rw [e3] at k'; cases k'
        rw [← h] at e
        rcases k with ⟨k1, _⟩ | ⟨k1, _⟩ <;> (rw [e] at k1; cases k1)
    · obtain ⟨e1, e2, d', e3, e4⟩ := a.st j _ h' (.inl rfl)
      have hd := e4 rfl
      subst hd
      rcases h with h | h
      · rw [e] at h; cases h; rcases m with m | m <;> cases m
      · rw [e] at h; cases h
        refine ⟨e1, e2, sd, ?_, fun _ => rfl⟩
        rcases unlock_at g g' j with k | ⟨d0, d, k, k'⟩
        · -- it was locked, and is unlocked
          exfalso
          have : ∀ (a b : Gm) (j : Nat), a[j]? = some (some ⟨sd, .prm⟩) → b[j]? = some (some ⟨sd, .lck⟩) → (unlock a b)[j]? = some (some ⟨sd, .prm⟩) := by
            intro a
            induction a with
            | nil => intro b j h; simp at h
            | cons x a ih =>
              intro b j h1 h2
              cases b with
              | nil => simp at h2
              | cons y b =>
                cases j with
                | zero => simp at h1 h2; subst h1; subst h2; rfl
                | succ j =>
                  have := ih b j (by simpa using h1) (by simpa using h2)
                  unfold unlock
                  split
                  · rename_i e1 e2; cases e1; cases e2; simpa using this
                  · rename_i e1 e2; cases e1; cases e2; simpa using this
                  · rename_i e1 e2; cases e1; cases e2; simpa using this
                  · rename_i e1; cases e1
                  · rename_i e1 e2; cases e1
          have q := this g g' j e e3
          rw [k, e3] at q
          cases q
        · rw [e3] at k'; cases k'
          rcases k with ⟨k1, _⟩ | ⟨k1, k2⟩
          · rw [e] at k1; cases k1
          · exact k2
  · rcases unlock_at g g' j with h | ⟨d0, d, h, h'⟩
    · obtain ⟨sd, sm⟩ := s
      have m' : sm = .lck := m
      subst m'
      obtain ⟨d1, r1, r2, _⟩ := nlo j sd (h ▸ e)
      rcases hl j with k | ⟨d2, k, k'⟩
      · exact ⟨_, k.trans r1, rfl⟩
      · -- it would have been unlocked
        exfalso
        rw [r1] at k'
        cases k'
        have nn : ∀ (a b : Gm) (j : Nat), (a[j]? = some (some ⟨d1, .own⟩) ∨ a[j]? = some (some ⟨d1, .prm⟩)) → b[j]? = some (some ⟨sd, .lck⟩) → (unlock a b)[j]? ≠ some (some ⟨sd, .lck⟩) := by
          intro a
          induction a with
          | nil => intro b j h; simp at h
          | cons x a ih =>
            intro b j h1 h2
            cases b with
            | nil => simp at h2
            | cons y b =>
              cases j with
              | zero =>
                simp at h1 h2
                subst h2
                rcases h1 with h1 | h1 <;> (subst h1; simp [unlock])
              | succ j =>
                have := ih b j (by simpa using h1) (by simpa using h2)
                unfold unlock
                split
                · rename_i e1 e2; cases e1; cases e2; simpa using this
                · rename_i e1 e2; cases e1; cases e2; simpa using this
                · rename_i e1 e2; cases e1; cases e2; simpa using this
                · rename_i e1; cases e1
                · rename_i e1 e2; cases e1
        exact nn g g' j k (h ▸ e) e
    · rcases h with ⟨k1, k2⟩ | ⟨k1, k2⟩ <;> (rw [k2] at e; cases e; cases m)
/-- a new object of ours is changed -/
theorem Step.chgT {T1 : List Addr} {σ1 : L2.St} (S : Step K T ow g σ H T1 ow1 g1 σ1 H1) {p : Addr} {o : HO} (hp : p ∈ T1) (hn : H p = none) (mu : Mut (some o)) : Step K T ow g σ H T1 ow1 g1 σ1 (upd H1 p o) := by
  have F1 := S.fr
  have pS : p ∈ T1 ++ owS ow1 := List.mem_append_left _ hp
  have ne : ∀ {b o'}, H b = some o' → b ≠ p := fun e z => by rw [z, hn] at e; cases e
  refine ⟨⟨F1.nd, fun b z => ?_, F1.ln, F1.lo, fun i s e => ?_⟩, S.tt, S.nw, S.os, fun b o' e n => by rw [upd_ne (ne e)]; exact S.kx b o' e n, fun b o' e => by rw [upd_ne (ne e)]; exact S.lv b o' e, S.on, S.st, S.ls, S.nl⟩
  · by_cases hb : b = p
    · subst hb
      exact ⟨o, upd_same, fun ys z => by subst z; exact mu, fun o' ys z => by subst z; exact mu⟩
    · obtain ⟨o', e, q⟩ := F1.lv b z
      exact ⟨o', by rw [upd_ne hb]; exact e, q⟩
  · obtain ⟨v, oa, e1, e2, q⟩ := F1.sl i s e
    refine ⟨v, oa, e1, e2, q.to (fun b o' n eb => by rw [upd_ne (fun z => n (by rw [z]; exact pS))]; exact eb) F1.tup (fun b o' n _ => n) fun a ea => ?_⟩
    have hne : a ≠ p := fun z => by
      subst z; subst ea
      exact (List.nodup_append.mp F1.nd).2.2 a hp a (mem_owS.mpr ⟨i, e2⟩) rfl
    refine ⟨fun u r => ?_, fun m => by rw [upd_ne hne]; exact m⟩
    unfold Rd; rw [upd_ne hne]; exact r
end
end Ev

end

-- EvMut
section
/-! Ev: changing methods and stores. -/
namespace Ev
open PySem PySem.Spec PyProof.Rows L2

theorem live_mut {H : Hp} {a : Addr} (m : Mut (H a)) : LiveM H a := by
  cases e : H a with
  | none => rw [e] at m; exact m.elim
  | some o => rw [e] at m; exact ⟨o, e, (mut_tup m).1, fun o' ys z => (mut_tup m).2 _ _ z⟩
section
variable {K : PySem.W.Frag} {H H' : Hp} {T : List Addr} {ow : List (Option Addr)} {g : Gm} {σ : L2.St}
/-- an owned object is changed -/
theorem FrOk.mutate (F : FrOk K T ow g σ H) {i : Nat} {d d' : D} {m : Md} {a : Addr} (hm : m = .own ∨ m = .prm) (e : g[i]? = some (some ⟨d, m⟩)) (ea : ow[i]? = some (some a)) (hk : ∀ b o, b ≠ a → H b = some o → H' b = some o) (ht : Top K H' (T ++ owS ow) a d') (hmu : Mut (H' a)) :
    Step K T ow g σ H T ow (g.set i (some ⟨d', m⟩)) σ H' := by
  have hi := (List.getElem?_eq_some_iff.mp e).1
  have aS : a ∈ T ++ owS ow := List.mem_append_right _ (mem_owS.mpr ⟨i, ea⟩)
  have own : Own g ow a := ⟨i, _, e, hm, ea⟩
  have rd : ∀ {b u}, b ≠ a → Rd H b u → Rd H' b u := fun n r => by
    rcases r with r | ⟨o, r⟩
    · exact .inl (hk _ _ n r)
    · exact .inr ⟨o, hk _ _ n r⟩
  refine ⟨⟨F.nd, fun b z => ?_, by rw [List.length_set]; exact F.ln, F.lo, fun j s ej => ?_⟩, fun _ z => z, fun _ z => .inl (List.mem_append_left _ z), fun _ z => .inl z, fun b o eb n => hk b o (fun z => n (z ▸ own)) eb, fun b o eb => ?_, fun b z => .inl ?_, fun j s ej ms => ?_, rfl, fun j s ej ms => ?_⟩
  · by_cases hb : b = a
    · subst hb; exact live_mut hmu
    · obtain ⟨o, eb, q⟩ := F.lv b z
      exact ⟨o, hk b o hb eb, q⟩
  · by_cases hj : i = j
    · subst hj
      rw [List.getElem?_set_self hi] at ej
      cases ej
      obtain ⟨v, oa, e1, e2, q⟩ := F.sl i _ e
      rw [ea] at e2; cases e2
      have hv : v = .ref a := by
        obtain ⟨a', q1, q2, _⟩ := q.live (by rcases hm with h | h <;> (subst h; simp))
        cases q1; exact q2
      refine ⟨v, some a, e1, ea, ?_⟩
      rcases hm with h | h <;> subst h
      · exact ⟨a, rfl, hv, ht, hmu⟩
      · exact ⟨a, rfl, hv, ht, hmu⟩
    · rw [List.getElem?_set_ne hj] at ej
      obtain ⟨v, oa, e1, e2, q⟩ := F.sl j s ej
      refine ⟨v, oa, e1, e2, q.to (fun b o n eb => hk b o (fun z => n (z ▸ aS)) eb) F.tup (fun b o n _ => n) fun a' ea' => ?_⟩
      have hne : a' ≠ a := fun z => by
        subst z; rw [ea'] at e2
        exact hj (ow_inj F.owNd ea e2)
      refine ⟨fun u r => rd hne r, fun mu => ?_⟩
      cases eb : H a' with
      | none => rw [eb] at mu; exact mu.elim
      | some o => rw [hk a' o hne eb]; rw [eb] at mu; exact mu
  · by_cases hb : b = a
    · subst hb; obtain ⟨o', q, _⟩ := live_mut hmu; exact ⟨o', q⟩
    · exact ⟨o, hk b o hb eb⟩
  · obtain ⟨j, s, ej, ms, w⟩ := z
    by_cases hj : i = j
    · subst hj; exact ⟨i, _, e, hm, w⟩
    · rw [List.getElem?_set_ne hj] at ej; exact ⟨j, s, ej, ms, w⟩
  · by_cases hj : i = j
    · subst hj
      rw [e] at ej; cases ej
      refine ⟨rfl, rfl, d', by rw [List.getElem?_set_self hi], fun z => ?_⟩
      rcases hm with h | h <;> (rw [h] at z; cases z)
    · exact ⟨rfl, rfl, s.d, by rw [List.getElem?_set_ne hj]; exact ej, fun _ => rfl⟩
  · by_cases hj : i = j
    · subst hj
      rw [List.getElem?_set_self hi] at ej
      cases ej
      rcases hm with h | h <;> (subst h; cases ms)
    · rw [List.getElem?_set_ne hj] at ej; exact ⟨s, ej, ms⟩
end

/-! ### the methods -/
def rMu (K : PySem.W.Frag) (m : Mu) (vs : List V) (H : Hp) (Q : VK) : Prop := ∃ S a ys d ds x d', vs = .ref a :: ys ∧ (∀ b ∈ S, LiveM H b) ∧ a ∈ S ∧ Top K H S a d ∧ Mut (H a) ∧ Reps K H S ys ds ∧ mu m d ds = some (x, d') ∧
  ∀ v H', (∀ b o, b ≠ a → H b = some o → H' b = some o) → Rep K H' S v x → Top K H' S a d' → Mut (H' a) → Q v H'
section
variable {K : PySem.W.Frag} {H : Hp} {S : List Addr} {a : Addr}
theorem Top.lstM {ds : List D} (h : Top K H S a (.list ds)) (m : Mut (H a)) : ∃ vs, H a = some (.lst vs) ∧ vs.length ≤ sizeLine ∧ Reps K H S vs ds := by
  cases h with
  | lst r l q =>
    rcases r with r | ⟨o, r⟩
    · exact ⟨_, r, l, q⟩
    · rw [r] at m; exact m.elim
theorem Reps.chg {vs : List V} {ds : List D} (h : Reps K H S vs ds) (hS : ∀ b ∈ S, LiveM H b) (ha : a ∈ S) (o : HO) : Reps K (L2.upd H a o) S vs ds :=
  h.to (fun b o' n e => (upd_ne (fun z => n (by rw [z]; exact ha))).trans e) (live_tup hS) fun b _ n _ => n
theorem Rep.chg {v : V} {d : D} (h : Rep K H S v d) (hS : ∀ b ∈ S, LiveM H b) (ha : a ∈ S) (o : HO) : Rep K (L2.upd H a o) S v d :=
  h.to (fun b o' n e => (upd_ne (fun z => n (by rw [z]; exact ha))).trans e) (live_tup hS) fun b _ n _ => n
theorem upd_els {o : HO} : ∀ b o', b ≠ a → H b = some o' → upd H a o b = some o' := fun b o' n e => by rw [upd_ne n]; exact e
theorem top_lst {vs : List V} {ds : List D} (hl : vs.length ≤ sizeLine) (h : Reps K H S vs ds) (hS : ∀ b ∈ S, LiveM H b) (ha : a ∈ S) : Top K (upd H a (.lst vs)) S a (.list ds) := .lst (.inl upd_same) hl (h.chg hS ha _)
end
theorem mut_lst {H : Hp} {a : Addr} {vs : List V} : Mut (upd H a (.lst vs) a) := by rw [upd_same]; exact trivial
section
variable {X : Cx}
theorem call_cons {id : String} {r : V → List V → Hp → VK → Prop} (h : MtM X id r) : CallR X (.builtin id) (fun vs H Q => ∃ x ys, vs = x :: ys ∧ r x ys H Q) := by
  intro pins s σ H vs us Q I rv ⟨x, ys, e, q⟩
  subst e
  cases rv with
  | cons r1 r2 => exact h pins s σ H x ys _ _ Q I r1 r2 q
theorem m_append : CallR X (.builtin "list.append") (rMu X.K .append) := by
  intro pins s σ H vs us Q I rv ⟨S, a, ys, d, ds, x, d', ev, hS, ha, ht, hm, hr, hp, q⟩
  unfold mu at hp
  split at hp <;> try cases hp
  all_goals rename_i e
  all_goals first | cases e | skip
  all_goals (split at hp <;> cases hp)
  rename_i xs y hl
  obtain ⟨ws, h1, h2, h3⟩ := ht.lstM hm
  cases hr with | cons hy hr =>
  cases hr
  rename_i w
  have hz : ws.length + 1 ≤ sizeLine := by rw [h3.len]; exact line_le hl
  refine call_cons mt_append pins s σ H vs us Q I rv ⟨.ref a, [w], ev, a, ws, w, rfl, rfl, h1, hz, ?_⟩
  exact q _ _ upd_els .non (top_lst (by rw [List.length_append]; exact hz) (h3.app (.one hy)) hS ha) mut_lst
theorem m_extend : CallR X (.builtin "list.extend") (rMu X.K .extend) := by
  intro pins s σ H vs us Q I rv ⟨S, a, ys, d, ds, x, d', ev, hS, ha, ht, hm, hr, hp, q⟩
  unfold mu at hp
  split at hp <;> try cases hp
  all_goals rename_i e
  all_goals first | cases e | skip
  all_goals (split at hp <;> cases hp)
  rename_i xs zs hl
  obtain ⟨ws, h1, h2, h3⟩ := ht.lstM hm
  cases hr with | cons hy hr =>
  cases hr
  cases hy with
  | lst n r l q2 =>
    rename_i b wz
    have hz : ws.length + wz.length ≤ sizeLine := by rw [h3.len, q2.len]; exact line_le hl
    subst ev
    obtain ⟨u, w', rfl, ru, rw'⟩ := vals2 rv
    cases ru; cases rw'
    obtain ⟨z, its, n1, r1, hl1, e1⟩ := I.lstM h1
    obtain ⟨its2, n2, r2, hl2, e2⟩ := Ev.Inv.rdL I r
    have hsz : its.toArray.size + its2.toArray.size ≤ sizeLine := by rw [List.size_toArray, List.size_toArray]; omega
    have hlong : ¬ (!its.toArray.isEmpty && Builtin.List.listTooLong (its.toArray.size + its2.toArray.size)) = true := by
      rw [notLongL hsz, Bool.and_false]
      exact Bool.false_ne_true
    refine call_meets F.slot_list_extend ⟨_, e1, rfl⟩ F.entry_list_extend (F.args_list_extend_2 _ _)
      (AutoSeq1.list_extend_list_list_0 a its.toArray n1 b its2.toArray n2 hlong (by rw [List.size_toArray]; omega) (by omega)) ⟨e1, e2, ?_⟩
    refine ⟨.non, _, I.lset (its' := its ++ its2) h1 e1 (by simp) (r1.append r2) (by rw [List.length_append]; omega), rfl, ?_⟩
    exact q _ _ upd_els .non (top_lst (by rw [List.length_append]; exact hz) (h3.app q2) hS ha) mut_lst
theorem m_pop0 : CallR X (.builtin "list.pop") (rMu X.K .pop0) := by
  intro pins s σ H vs us Q I rv ⟨S, a, ys, d, ds, x, d', ev, hS, ha, ht, hm, hr, hp, q⟩
  unfold mu at hp
  split at hp <;> try cases hp
  all_goals rename_i e
  all_goals first | cases e | skip
  rename_i xs
  cases eg : xs.getLast? with
  | none => rw [eg] at hp; cases hp
  | some y =>
    rw [eg] at hp
    cases hp
    obtain ⟨ws, h1, h2, h3⟩ := ht.lstM hm
    cases hr
    rw [List.getLast?_eq_getElem?] at eg
    obtain ⟨v, hv, rvy⟩ := h3.get eg
    rw [← h3.len] at hv
    refine call_cons mt_pop pins s σ H vs us Q I rv ⟨.ref a, [], ev, a, ws, v, rfl, rfl, h1, hv, ?_⟩
    have hd : Reps X.K H S ws.dropLast xs.dropLast := by
      rw [List.dropLast_eq_take, List.dropLast_eq_take, h3.len]
      exact h3.take _
    exact q _ _ upd_els (rvy.chg hS ha _) (top_lst (by rw [List.length_dropLast]; omega) hd hS ha) mut_lst
theorem m_pop1 : CallR X (.builtin "list.pop") (rMu X.K .pop1) := by
  intro pins s σ H vs us Q I rv ⟨S, a, ys, d, ds, x, d', ev, hS, ha, ht, hm, hr, hp, q⟩
  unfold mu at hp
  split at hp <;> try cases hp
  all_goals rename_i e
  all_goals first | cases e | skip
  rename_i xs i
  cases ej : Ev.ixN xs.length i with
  | none => rw [ej] at hp; cases hp
  | some j =>
    rw [ej] at hp
    cases ey : xs[j]? with
    | none => simp only [Option.bind, ey] at hp; cases hp
    | some y =>
      simp only [Option.bind, ey] at hp
      cases hp
      obtain ⟨ws, h1, h2, h3⟩ := ht.lstM hm
      cases hr with | cons hi hr =>
      cases hr
      cases hi
      obtain ⟨v, hv, rvy⟩ := h3.get ey
      obtain ⟨k1, k2, k3, k4⟩ := ixN_seq (show L2.ixN xs.length i = some j from ej)
      rw [sizeLine_eq] at h2
      have hlw := h3.len
      refine call_cons mt_popAt pins s σ H vs us Q I rv ⟨.ref a, [.int i], ev, a, ws, i, j, v, rfl, rfl, h1, by omega, by omega, by rw [hlw]; exact k1, hv, ?_⟩
      exact q _ _ upd_els (rvy.chg hS ha _) (top_lst (by rw [sizeLine_eq]; have := len_erase ws j; omega) (h3.erase j) hS ha) mut_lst

/-! ### o[i] = v -/
def rSt (K : PySem.W.Frag) : V → V → V → Hp → (Hp → Prop) → Prop := fun o i v H Q => ∃ S a d di dv d', o = .ref a ∧ (∀ b ∈ S, LiveM H b) ∧ a ∈ S ∧ Top K H S a d ∧ Mut (H a) ∧ ArgR K H S i di ∧ Rep K H S v dv ∧ setD d di dv = some d' ∧
  ∀ H', (∀ b o, b ≠ a → H b = some o → H' b = some o) → Top K H' S a d' → Mut (H' a) → Q H'
theorem keyFits_ok {k : D} {kvs : List (D × D)} (h : keyFits k kvs = true) : keyOk k = true := by unfold keyFits at h; rw [Bool.and_eq_true] at h; exact h.1
theorem len_putK {κ : Type} [DecidableEq κ] (kvs : List (κ × V)) (k : κ) (v : V) : (putK kvs k v).length ≤ kvs.length + 1 := length_putK kvs k v
theorem mem_putK {κ : Type} [DecidableEq κ] {kvs : List (κ × V)} {k : κ} {v : V} {p : κ × V} (h : p ∈ putK kvs k v) : p.1 = k ∨ ∃ q ∈ kvs, q.1 = p.1 := by
  unfold putK at h
  split at h
  · obtain ⟨q, hq, e⟩ := List.mem_map.mp h
    refine .inr ⟨q, hq, ?_⟩
    split at e <;> (rw [← e])
  · rcases List.mem_append.mp h with h | h
    · exact .inr ⟨p, h, rfl⟩
    · rw [List.mem_singleton.mp h]; exact .inl rfl
theorem putK_ne {κ : Type} [DecidableEq κ] {kvs : List (κ × V)} {k : κ} {v : V} : putK kvs k v ≠ [] := fun e => by
  unfold putK at e
  split at e
  · rename_i h
    rw [List.map_eq_nil_iff] at e
    subst e
    simp at h
  · simp at e
theorem st_set (hu : X.A.units + 100 < cLine) : PSet X (rSt X.K) := by
  intro pins s σ H o i v ov iv u Q I ro ri rv ⟨S, a, d, di, dv, d', eo, hS, ha, ht, hm, hi, hv, hp, q⟩
  unfold setD at hp
  split at hp
  · rename_i xs k
    cases ej : Ev.ixN xs.length k with
    | none => rw [ej] at hp; cases hp
    | some j =>
      rw [ej] at hp
      cases hp
      obtain ⟨ws, h1, h2, h3⟩ := ht.lstM hm
      refine set_list pins s σ H o i v ov iv u Q I ro ri rv ⟨a, ws, _, j, eo, hi.int, h1, by rw [h3.len]; exact ej, ?_⟩
      exact q _ upd_els (top_lst (by rw [List.length_set]; exact h2) (h3.set hv j) hS ha) mut_lst
  · rename_i kvs
    split at hp
    · rename_i hc
      rw [Bool.and_eq_true] at hc
      obtain ⟨hf, hl⟩ := hc
      cases hp
      have hlz := line_le hl
      have ky := key_of_arg hi (keyFits_ok hf)
      subst eo
      cases (show ov = Value.ref a from ro)
      have hz : ∀ {κ : Type} [DecidableEq κ] {ks : List (κ × V)} {es : List D} {toD : κ → D}, Reps X.K H S (ks.map Prod.snd) es → kvs = (ks.map fun p => toD p.1).zip es → ks.length + 1 ≤ sizeLine := fun {κ _ ks es toD} q1 e1 => by
        have hl2 := q1.len
        rw [List.length_map] at hl2
        rw [e1, List.length_zip, List.length_map, ← hl2, Nat.min_self] at hlz
        exact hlz
      cases ht with
      | dK r l q1 e1 =>
        rename_i ks es
        have h1 : H a = some (.dK ks) := by
          rcases r with r | ⟨o, r⟩
          · exact r
          · rw [r] at hm; exact hm.elim
        have hz1 := hz q1 e1
        cases ky with
        | k k hk =>
          obtain ⟨es', p1, p2⟩ := dPut_val eqK_key hv k q1
          refine d_setItem (v := v) (by omega) I (.inl ⟨ks, k, h1, rfl, by omega, rfl⟩) ri rv fun s' I' => ⟨_, I', ?_⟩
          refine q _ upd_els (.dK (.inl upd_same) ⟨Nat.le_trans (len_putK ks k v) hz1, fun p hp x ex => ?_⟩ (p1.chg hS ha _) (by rw [e1]; exact p2)) (by rw [upd_same]; exact trivial)
          rcases mem_putK hp with h | ⟨q', hq, h⟩
          · exact hk x (h ▸ ex)
          · exact l.2 q' hq x (h.trans ex)
        | t b k hb hc hkl hks =>
          cases ks with
          | cons p ks =>
            cases q1 with
            | cons q1 q2 =>
              unfold keyFits at hf
              rw [Bool.and_eq_true] at hf
              have := List.all_eq_true.mp hf.2 (keyD p.1, _) (by rw [e1]; exact List.mem_cons_self)
              rw [keyD_atom] at this
              exact absurd this (by simp [tkeyD, isTupD])
          | nil =>
            cases q1
            have e1' : kvs = [] := e1
            subst e1'
            -- an empty dict takes tuples from now on
            obtain ⟨hs, dd⟩ := inv_nil I r
            have hba : b ≠ a := fun z => by rw [z, h1] at hb; cases hb
            obtain ⟨od, es0, ep, ho, hx, hd, he, _, _⟩ := dd
            have newT : ObjOk X.prog X.w (upd H a (.dT [])) s.heap a (.dT []) := ⟨Nat.zero_le _, hs, [], .nil, od, es0, ep, ho, hx, hd, he, by simp⟩
            have I1 : L2.Inv X pins σ (upd H a (.dT [])) s := d_write (t' := s.toks) I hm (Heap.SameBut.refl a s.heap) ⟨od, ho⟩ newT
            have hb1 : upd H a (.dT []) b = some (.tup (k.map kV)) := by rw [upd_ne hba]; exact hb
            refine d_setItem (v := v) (by omega) I1 (.inr ⟨[], k, b, upd_same, rfl, hb1, by show 0 < sizeLine; rw [sizeLine_eq]; decide, rfl⟩) ri rv fun s' I' => ⟨_, I', ?_⟩
            rw [upd_upd]
            refine q _ upd_els (.dT (.inl upd_same) ⟨?_, putK_ne, fun p hp => ?_⟩ ((show Reps X.K H S ((putK [] k v).map Prod.snd) [dv] from .one hv).chg hS ha _) ?_) (by rw [upd_same]; exact trivial)
            · show 1 ≤ sizeLine; rw [sizeLine_eq]; decide
            · rcases mem_putK hp with h | ⟨q', hq, h⟩
              · rw [h]; exact ⟨hc, hkl, hks⟩
              · simp at hq
            · rfl
      | dT r l q1 e1 =>
        rename_i ks es
        have h1 : H a = some (.dT ks) := by
          rcases r with r | ⟨o, r⟩
          · exact r
          · rw [r] at hm; exact hm.elim
        have hz1 := hz q1 e1
        cases ky with
        | k k hk =>
          cases ks with
          | nil => exact absurd rfl l.2.1
          | cons p ks =>
            cases q1 with
            | cons q1 q2 =>
              unfold keyFits at hf
              rw [Bool.and_eq_true] at hf
              have := List.all_eq_true.mp hf.2 (tkeyD p.1, _) (by rw [e1]; exact List.mem_cons_self)
              rw [keyD_atom] at this
              exact absurd this (by simp [tkeyD, isTupD])
        | t b k hb hc hkl hks =>
          obtain ⟨es', p1, p2⟩ := dPut_val eqK_tkey hv k q1
          refine d_setItem (v := v) (by omega) I (.inr ⟨ks, k, b, h1, rfl, hb, by omega, rfl⟩) ri rv fun s' I' => ⟨_, I', ?_⟩
          refine q _ upd_els (.dT (.inl upd_same) ⟨Nat.le_trans (len_putK ks k v) hz1, putK_ne, fun p hp => ?_⟩ (p1.chg hS ha _) (by rw [e1]; exact p2)) (by rw [upd_same]; exact trivial)
          rcases mem_putK hp with h | ⟨q', hq, h⟩
          · rw [h]; exact ⟨hc, hkl, hks⟩
          · rw [← h]; exact l.2.2 q' hq
    · cases hp
  · cases hp
end
end Ev

end

-- EvUpd
section
/-! Ev: dict(pairs), d.update(e), xs.remove(k), sorted(d). -/
namespace Ev
open PySem PySem.Spec PyProof.Rows L2

theorem putAll_val {K : PySem.W.Frag} {H : Hp} {S : List Addr} : ∀ {ks2 : List (Key × V)} {es2 : List D} {ks : List (Key × V)} {es : List D}, Reps K H S (ks.map Prod.snd) es → Reps K H S (ks2.map Prod.snd) es2 →
    ∃ es', Reps K H S ((mergeK ks ks2).map Prod.snd) es' ∧ putAll ((ks.map fun p => keyD p.1).zip es) ((ks2.map fun p => keyD p.1).zip es2) = ((mergeK ks ks2).map fun p => keyD p.1).zip es'
  | [], es2, ks, es, h, h2 => by cases h2; exact ⟨es, h, rfl⟩
  | (k, v) :: ks2, [], ks, es, h, h2 => by cases h2
  | (k, v) :: ks2, d :: es2, ks, es, h, h2 => by
    cases h2 with
    | cons hv h2 =>
      obtain ⟨es1, p1, p2⟩ := dPut_val eqK_key hv k h
      obtain ⟨es', q1, q2⟩ := putAll_val (ks2 := ks2) (es2 := es2) p1 h2
      refine ⟨es', q1, ?_⟩
      rw [List.map_cons, List.zip_cons_cons]
      show putAll (dPut (keyD k) d ((ks.map fun p => keyD p.1).zip es)) _ = _
      rw [p2, q2]
      rfl
theorem mergeK_len : ∀ {ks2 ks : List (Key × V)}, (mergeK ks ks2).length ≤ ks.length + ks2.length
  | [], ks => Nat.le_refl _
  | (k, v) :: ks2, ks => by
    have h1 : (mergeK ks ((k, v) :: ks2)) = mergeK (putK ks k v) ks2 := rfl
    rw [h1]
    have h2 := mergeK_len (ks2 := ks2) (ks := putK ks k v)
    have h3 := len_putK ks k v
    rw [List.length_cons]; omega
theorem mergeK_mem : ∀ {ks2 ks : List (Key × V)} {p : Key × V}, p ∈ mergeK ks ks2 → (∃ q ∈ ks, q.1 = p.1) ∨ ∃ q ∈ ks2, q.1 = p.1
  | [], ks, p, h => .inl ⟨p, h, rfl⟩
  | (k, v) :: ks2, ks, p, h => by
    have h1 : p ∈ mergeK (putK ks k v) ks2 := h
    rcases mergeK_mem h1 with ⟨q, hq, e⟩ | ⟨q, hq, e⟩
    · rcases mem_putK hq with z | ⟨q', hq', z⟩
      · exact .inr ⟨(k, v), List.mem_cons_self, by rw [← e, z]⟩
      · exact .inl ⟨q', hq', z.trans e⟩
    · exact .inr ⟨q, List.mem_cons_of_mem _ hq, e⟩
theorem zipmap_mem {α : Type} {toD : α → D} : ∀ {ks : List (α × V)} {es : List D} {p : α × V}, ks.length = es.length → p ∈ ks → ∃ d, (toD p.1, d) ∈ (ks.map fun p => toD p.1).zip es
  | [], _, _, _, h => by simp at h
  | q :: ks, [], _, hl, _ => by simp at hl
  | q :: ks, e :: es, p, hl, h => by
    rw [List.map_cons, List.zip_cons_cons]
    rcases List.mem_cons.mp h with h | h
    · subst h; exact ⟨e, List.mem_cons_self⟩
    · obtain ⟨d, hd⟩ := zipmap_mem (ks := ks) (es := es) (by simpa using hl) h
      exact ⟨d, List.mem_cons_of_mem _ hd⟩
theorem no_tkeys {ks : List (List Key × V)} {es : List D} (hne : ks ≠ []) (hl : ks.length = es.length) (h : (((ks.map fun p => tkeyD p.1).zip es).all fun p => keyOk0 p.1) = true) : False := by
  cases ks with
  | nil => exact hne rfl
  | cons p ks =>
    cases es with
    | nil => simp at hl
    | cons e es =>
      rw [List.map_cons, List.zip_cons_cons, List.all_cons, Bool.and_eq_true] at h
      exact absurd h.1 (by simp [tkeyD, keyOk0])
section
variable {X : Cx}
theorem m_update : CallR X (.builtin "dict.update") (rMu X.K .update) := by
  intro pins s σ H vs us Q I rv ⟨S, a, ys, d, ds, x, d', ev, hS, ha, ht, hm, hr, hp, q⟩
  unfold mu at hp
  split at hp <;> try cases hp
  all_goals rename_i e
  all_goals first | cases e | skip
  rename_i kvs more
  by_cases hc : (kvs.all (fun p => keyOk0 p.1) && more.all (fun p => keyOk0 p.1) && line (kvs.length + more.length)) = true
  case neg => rw [if_neg hc] at hp; cases hp
  rw [if_pos hc] at hp
  cases hp
  simp only [Bool.and_eq_true] at hc
  obtain ⟨⟨c1, c2⟩, c3⟩ := hc
  have hlz := line_le c3
  cases hr with | cons hy hr =>
  cases hr
  subst ev
  cases ht with
  | dT r l q1 e1 =>
    rename_i ks es
    have hl2 := q1.len
    rw [List.length_map] at hl2
    rw [e1] at c1
    exact (no_tkeys l.2.1 hl2 c1).elim
  | dK r l q1 e1 =>
    rename_i ks es
    have h1 : H a = some (.dK ks) := by
      rcases r with r | ⟨o, r⟩
      · exact r
      · rw [r] at hm; exact hm.elim
    cases hy with
    | dT n r2 l2 q2 e2 =>
      have hl2 := q2.len
      rw [List.length_map] at hl2
      rw [e2] at c2
      exact (no_tkeys l2.2.1 hl2 c2).elim
    | dK n r2 l2 q2 e2 =>
      rename_i b ks2 es2
      obtain ⟨u, w', rfl, ru, rw'⟩ := vals2 rv
      cases ru; cases rw'
      obtain ⟨z1, hs1, vs1, kv1, dd1⟩ := dk_rd I.hok (.inl h1)
      obtain ⟨z2, hs2, vs2, kv2, dd2⟩ := dk_rd I.hok r2
      have hab : a ≠ b := fun z => n (z ▸ ha)
      have hl1 := q1.len
      have hl2 := q2.len
      rw [List.length_map] at hl1 hl2
      have e3 : kvs.length = ks.length := by rw [e1, List.length_zip, List.length_map, ← hl1, Nat.min_self]
      have e4 : more.length = ks2.length := by rw [e2, List.length_zip, List.length_map, ← hl2, Nat.min_self]
      have k1 := Paired.length kv1
      have k2 := Paired.length kv2
      obtain ⟨es', p1, p2⟩ := putAll_val q1 q2
      have hz : (mergeK ks ks2).length ≤ sizeLine := by have := mergeK_len (ks2 := ks2) (ks := ks); omega
      refine call_meetsIn PySem.F.slot_dict_update dd1.typeIs PySem.F.entry_dict_update (PySem.F.args_dict_update_2 _ _) (meets_dict_update (mixKind X.prog X.w) a b hab hs2) ⟨vs1, vs2, dd1, dd2, by omega, fun h' g1 g2 g3 => ?_⟩
      have hq : ∃ q, h'.get? a = some q := by
        obtain ⟨o, _, _, ho, _⟩ := g1
        exact ⟨o, ho⟩
      refine ⟨.non, _, d_write (t' := s.toks) I hm g3 hq (dk_new hz hs1 (KV.merge kv2 kv1) g1), rfl, ?_⟩
      refine q _ _ upd_els .non (.dK (.inl upd_same) ⟨hz, fun p hp x ex => ?_⟩ (p1.chg hS ha _) (by rw [e1, e2]; exact p2)) (by rw [upd_same]; exact trivial)
      rcases mergeK_mem hp with ⟨q', hq', z⟩ | ⟨q', hq', z⟩
      · exact l.2 q' hq' x (z.trans ex)
      · exact l2.2 q' hq' x (z.trans ex)
theorem m_remove : CallR X (.builtin "list.remove") (rMu X.K .remove) := by
  intro pins s σ H vs us Q I rv ⟨S, a, ys, d, ds, x, d', ev, hS, ha, ht, hm, hr, hp, q⟩
  unfold mu at hp
  split at hp <;> try cases hp
  all_goals rename_i e
  all_goals first | cases e | skip
  rename_i xs k
  cases e1 : intsOf xs with
  | none => rw [e1] at hp; cases hp
  | some ns =>
    rw [e1] at hp
    simp only [Option.bind] at hp
    by_cases hk : ns.contains k = true
    case neg => rw [if_neg hk] at hp; cases hp
    rw [if_pos hk] at hp
    cases hp
    obtain ⟨ws, h1, h2, h3⟩ := ht.lstM hm
    cases hr with | cons hi hr =>
    cases hr
    cases hi
    have ew := reps_ints h3 e1
    have hmem : k ∈ ns := by simpa using hk
    have hj := List.idxOf_lt_length_of_mem hmem
    refine call_cons mt_remove pins s σ H vs us Q I rv ⟨.ref a, [.int k], ev, a, ns, k, ns.idxOf k, rfl, rfl, by rw [← ew]; exact h1, ?_, fun m hm2 => ?_, ?_⟩
    · rw [List.getElem?_eq_getElem hj, List.getElem_idxOf]
    · intro z
      have hlt := (List.getElem?_eq_some_iff.mp z).1
      have := List.not_of_lt_findIdx (p := (· == k)) (xs := ns) (i := m) hm2
      rw [(List.getElem?_eq_some_iff.mp z).2] at this
      simp at this
    · rw [← List.erase_eq_eraseIdx_of_idxOf (by rfl)]
      refine q _ _ upd_els .non (top_lst ?_ (reps_any (ns.erase k)) hS ha) mut_lst
      rw [List.length_map]
      have := (List.erase_sublist (a := k) (l := ns)).length_le
      rw [ew, List.length_map] at h2
      omega
theorem pairs_val {K : PySem.W.Frag} {H : Hp} {S : List Addr} : ∀ {vs : List V} {ds : List D} {kvs : List (D × D)}, Reps K H S vs ds → pairsOf ds = some kvs → (kvs.all fun p => keyOk0 p.1) = true →
    ∃ (ps : List Addr) (ks : List (Key × V)) (es : List D), vs = ps.map V.ref ∧ Paired (fun p kv => SqT K H p [kV kv.1, kv.2]) ps ks ∧ Reps K H S (ks.map Prod.snd) es ∧ kvs = (ks.map fun p => keyD p.1).zip es ∧ ks.length = ds.length ∧ ∀ p ∈ ks, ∀ x, p.1 = .inr x → x.length ≤ sizeLine
  | _, [], kvs, .nil, e, _ => by
    cases e
    exact ⟨[], [], [], rfl, .nil, .nil, rfl, rfl, fun _ h => by simp at h⟩
  | _, d :: ds, kvs, .cons a r, e, hk => by
    unfold pairsOf at e
    split at e
    · rename_i e'; cases e'
    · rename_i k v r' e'
      cases e'
      cases e1 : pairsOf ds with
      | none => rw [e1] at e; cases e
      | some kvs' =>
        rw [e1] at e; cases e
        rw [List.all_cons, Bool.and_eq_true] at hk
        obtain ⟨ps, ks, es, z1, z2, z3, z4, z5, z6⟩ := pairs_val r e1 hk.2
        cases a with
        | tup ht hl hq =>
          cases hq with | cons h1 hq => cases hq with | cons h2 hq =>
          cases hq
          rename_i p v1 v2
          obtain ⟨kk, a1, a2, a3⟩ := keys_of (.one h1) (by show (keyOk0 k && true) = true; rw [hk.1]; rfl)
          cases kk with
          | nil => cases a1
          | cons k0 kr =>
            cases kr with
            | cons _ _ => cases a1
            | nil =>
            cases a1
            cases a2
            refine ⟨p :: ps, (k0, v2) :: ks, v :: es, by rw [z1]; rfl, .cons ht.sq z2, .cons h2 z3, by rw [z4]; rfl, by rw [List.length_cons, z5, List.length_cons], fun p hp x ex => ?_⟩
            rcases List.mem_cons.mp hp with h | h
            · subst h; exact a3 x (by rw [← ex]; exact List.mem_cons_self)
            · exact z6 p h x ex
    · cases e
theorem k_dictOf (hc : X.calm = true) : CallR X (.type "dict") (rPr X.K prDictOf) := by
  intro pins s σ H xs us Q I r ⟨S, ds, d, f, hS, ha, hp, q⟩
  unfold prDictOf at hp
  split at hp
  · rename_i ps
    cases ha with | cons a ha =>
    cases ha
    cases e : pairsOf ps with
    | none => rw [e] at hp; cases hp
    | some kvs =>
      rw [e] at hp
      simp only [Option.bind] at hp
      by_cases hk : (kvs.all (fun p => keyOk0 p.1) && line kvs.length) = true
      case neg => rw [if_neg hk] at hp; cases hp
      rw [if_pos hk] at hp
      cases hp
      rw [Bool.and_eq_true] at hk
      obtain ⟨p1, vs1, e2, r1, l1, q1⟩ := a.list
      subst e2
      obtain ⟨pa, ks, es, z1, z2, z3, z4, z5, z6⟩ := pairs_val q1 e hk.1
      subst z1
      refine call_dictP hc pins s σ H [.ref p1] us Q I r ⟨p1, pa, ks, rfl, .inl r1, z2, fun p hn => ?_⟩
      obtain ⟨es', w1, w2⟩ := putAll_val (ks := []) (es := []) .nil z3
      have hl := z3.len
      rw [List.length_map] at hl
      have hz := line_le hk.2
      rw [z4, List.length_zip, List.length_map, ← hl, Nat.min_self] at hz
      have hz2 : (mergeK [] ks).length ≤ sizeLine := by have := mergeK_len (ks2 := ks) (ks := []); simp at this; omega
      have e5 : putAll [] kvs = ((mergeK [] ks).map fun p => keyD p.1).zip es' := by rw [z4]; exact w2
      rw [e5] at q
      refine q (.ref p) _ (KeepA.upd hn) ⟨p, rfl, hn, .dK (.inl upd_same) ⟨hz2, fun p hp x ex => ?_⟩ (w1.new hS hn) rfl, by rw [upd_same]; exact trivial⟩
      rcases mergeK_mem hp with ⟨q', hq', z⟩ | ⟨q', hq', z⟩
      · simp at hq'
      · exact z6 q' hq' x (z.trans ex)
  · cases hp
/-! ### texts in order -/
theorem ltCps_ltN : ∀ a b : List Nat, Spec.ltCps a b = ltN a b
  | [], [] => rfl
  | _ :: _, [] => rfl
  | [], _ :: _ => rfl
  | x :: a, y :: b => by
    have ih := ltCps_ltN a b
    unfold Spec.ltCps ltN
    rw [ih]
    by_cases h : x = y
    · subst h; simp
    · by_cases h2 : x < y
      · simp [h, h2]
      · simp [h, h2]
        try omega
/-- x comes not behind y -/
def leS (x y : Str) : Prop := ltN y.cps.toList x.cps.toList = false
theorem ltN_tri : ∀ a b : List Nat, ltN a b = false → ltN b a = false → a = b
  | [], [], _, _ => rfl
  | [], _ :: _, h, _ => by simp [ltN] at h
  | _ :: _, [], _, h => by simp [ltN] at h
  | x :: a, y :: b, h1, h2 => by
    unfold ltN at h1 h2
    by_cases h : x = y
    · subst h
      rw [if_pos rfl] at h1 h2
      rw [ltN_tri a b h1 h2]
    · rw [if_neg h] at h1
      rw [if_neg (Ne.symm h)] at h2
      simp at h1 h2
      omega
theorem ltN_nil : ∀ c : List Nat, ltN c [] = false
  | [] => rfl
  | _ :: _ => rfl
theorem ltN_trans : ∀ a b c : List Nat, ltN b a = false → ltN c b = false → ltN c a = false
  | [], _, c, _, _ => ltN_nil c
  | x :: a, [], _, h, _ => by simp [ltN] at h
  | x :: a, y :: b, [], _, h => by simp [ltN] at h
  | x :: a, y :: b, z :: c, h1, h2 => by
    unfold ltN at h1 h2 ⊢
    by_cases e1 : y = x
    · subst e1
      rw [if_pos rfl] at h1
      by_cases e2 : z = y
      · subst e2
        rw [if_pos rfl] at h2 ⊢
        exact ltN_trans a b c h1 h2
      · rw [if_neg e2] at h2 ⊢; exact h2
    · rw [if_neg e1] at h1
      by_cases e2 : z = y
      · subst e2
        rw [if_neg e1]; exact h1
      · rw [if_neg e2] at h2
        simp at h1 h2
        have e3 : z ≠ x := by omega
        rw [if_neg e3]; simp; omega
theorem rising_pw : ∀ {x : Str} {ys : List Str}, risingS x ys = true → (x :: ys).Pairwise leS
  | x, [], _ => by simp
  | x, y :: ys, h => by
    unfold risingS at h
    rw [Bool.and_eq_true, ltCps_ltN] at h
    have h1 : leS x y := by simpa [leS] using h.1
    have h2 := rising_pw h.2
    refine List.pairwise_cons.mpr ⟨fun z hz => ?_, h2⟩
    rcases List.mem_cons.mp hz with e | hz
    · subst e; exact h1
    · exact ltN_trans _ _ _ h1 ((List.pairwise_cons.mp h2).1 z hz)
def insS (x : Str) : List Str → List Str
  | [] => [x]
  | y :: ys => if ltN y.cps.toList x.cps.toList then y :: insS x ys else x :: y :: ys
def sortS : List Str → List Str
  | [] => []
  | x :: xs => insS x (sortS xs)
theorem insD_strs (x : Str) : ∀ l : List Str, insD (.str x) (l.map PyData.str) = (insS x l).map PyData.str
  | [] => rfl
  | y :: l => by
    rw [List.map_cons]
    unfold insD insS
    have e : ltD (.str y) (.str x) = ltN y.cps.toList x.cps.toList := rfl
    rw [e]
    by_cases h : ltN y.cps.toList x.cps.toList = true
    · simp [h, insD_strs x l]
    · simp [h]
theorem sortD_sortS : ∀ l : List Str, sortD (l.map PyData.str) = (sortS l).map PyData.str
  | [] => rfl
  | x :: l => by
    rw [List.map_cons]
    unfold sortD sortS
    rw [sortD_sortS l, insD_strs]
theorem insS_perm (x : Str) : ∀ l : List Str, (insS x l).Perm (x :: l)
  | [] => List.Perm.refl _
  | y :: l => by
    unfold insS
    split
    · exact ((insS_perm x l).cons y).trans (List.Perm.swap x y l)
    · exact List.Perm.refl _
theorem sortS_perm : ∀ l : List Str, (sortS l).Perm l
  | [] => List.Perm.refl _
  | x :: l => (insS_perm x (sortS l)).trans ((sortS_perm l).cons x)
theorem ltN_asym : ∀ a b : List Nat, ltN a b = true → ltN b a = false := fun a b h => by
  rw [ltN_iff] at h ⊢
  rw [decide_eq_true_eq] at h
  rw [decide_eq_false_iff_not]
  exact fun z => List.lt_asymm h z
theorem insS_sorted {x : Str} : ∀ {l : List Str}, l.Pairwise leS → (insS x l).Pairwise leS
  | [], _ => by simp [insS]
  | y :: l, h => by
    obtain ⟨h1, h2⟩ := List.pairwise_cons.mp h
    unfold insS
    split
    · rename_i hlt
      refine List.pairwise_cons.mpr ⟨fun z hz => ?_, insS_sorted h2⟩
      rcases List.mem_cons.mp ((insS_perm x l).mem_iff.mp hz) with rfl | hz
      · exact ltN_asym _ _ hlt
      · exact h1 z hz
    · rename_i hlt
      have hxy : leS x y := by simpa [leS] using hlt
      refine List.pairwise_cons.mpr ⟨fun z hz => ?_, h⟩
      rcases List.mem_cons.mp hz with rfl | hz
      · exact hxy
      · exact ltN_trans _ _ _ hxy (h1 z hz)
theorem sortS_sorted : ∀ l : List Str, (sortS l).Pairwise leS
  | [] => List.Pairwise.nil
  | x :: l => insS_sorted (sortS_sorted l)
theorem sortS_uniq {l m : List Str} (h1 : l.Pairwise leS) (h2 : m.Pairwise leS) (hp : l.Perm m) : l = m :=
  hp.eq_of_pairwise (fun a b _ _ x y => by
    obtain ⟨a⟩ := a
    obtain ⟨b⟩ := b
    have := ltN_tri _ _ y x
    congr 1
    exact Array.ext' this) h1 h2
theorem sortD_strs {ns ys : List Str} (hp : ys.Perm ns) (hs : sortedS ys = true) : sortD (ns.map PyData.str) = ys.map PyData.str := by
  rw [sortD_sortS]
  congr 1
  refine sortS_uniq (sortS_sorted ns) ?_ ((sortS_perm ns).trans hp.symm)
  cases ys with
  | nil => exact List.Pairwise.nil
  | cons y ys => exact rising_pw hs
theorem reps_strs' {K : PySem.W.Frag} {H : Hp} {S : List Addr} : ∀ {ms : List Str}, (∀ x ∈ ms, x.length ≤ sizeLine) → Reps K H S (ms.map V.str) (ms.map PyData.str)
  | [], _ => .nil
  | m :: ms, h => .cons (.str (h m List.mem_cons_self)) (reps_strs' fun x hx => h x (List.mem_cons_of_mem _ hx))
/-- sorted(d) -/
theorem strsOf_map : ∀ {ds : List D} {ns : List Str}, strsOf ds = some ns → ds = ns.map PyData.str
  | [], ns, e => by cases e; rfl
  | d :: ds, ns, e => by
    unfold strsOf at e
    split at e
    · rename_i e'; cases e'
    · rename_i e'
      cases e'
      cases e1 : strsOf ds with
      | none => rw [e1] at e; cases e
      | some ms =>
        rw [e1] at e; cases e
        rw [strsOf_map e1]; rfl
    · cases e
theorem keys_int : ∀ {ks : List (Key × V)} {ns : List Int}, (ks.map fun p => keyD p.1) = ns.map PyData.int → ks.map (·.1) = ns.map Sum.inl
  | [], [], _ => rfl
  | [], _ :: _, h => by cases h
  | _ :: _, [], h => by cases h
  | (k, v) :: ks, n :: ns, h => by
    rw [List.map_cons, List.map_cons] at h
    injection h with h1 h2
    rw [List.map_cons, List.map_cons, keys_int h2]
    cases k with
    | inl i => cases h1; rfl
    | inr x => cases h1
theorem keys_str : ∀ {ks : List (Key × V)} {ns : List Str}, (ks.map fun p => keyD p.1) = ns.map PyData.str → ks.map (·.1) = ns.map Sum.inr
  | [], [], _ => rfl
  | [], _ :: _, h => by cases h
  | _ :: _, [], h => by cases h
  | (k, v) :: ks, n :: ns, h => by
    rw [List.map_cons, List.map_cons] at h
    injection h with h1 h2
    rw [List.map_cons, List.map_cons, keys_str h2]
    cases k with
    | inl i => cases h1
    | inr x => cases h1; rfl
theorem tkeys_no {ks : List (List Key × V)} (hne : ks ≠ []) : (intsOf (ks.map fun p => tkeyD p.1)).isSome = false ∧ (strsOf (ks.map fun p => tkeyD p.1)).isSome = false := by
  cases ks with
  | nil => exact absurd rfl hne
  | cons p ks => exact ⟨rfl, rfl⟩
theorem le_sorted_eq : ∀ {l m : List Int}, l.Pairwise (· ≤ ·) → m.Pairwise (· ≤ ·) → l.Perm m → l = m := by
  intro l m h1 h2 hp
  exact hp.eq_of_pairwise (fun a b _ _ x y => by omega) h1 h2
theorem k_sortedD (hc : X.calm = true) : CallR X (.builtin "sorted") (rPr X.K prSortedD) := by
  intro pins s σ H xs us Q I r ⟨S, ds, d, f, hS, ha, hp, q⟩
  unfold prSortedD at hp
  split at hp
  · rename_i kvs
    cases ha with | cons a ha =>
    cases ha
    by_cases hk : (decide (kvs.length < 64) && ((intsOf (kvs.map (·.1))).isSome || (strsOf (kvs.map (·.1))).isSome)) = true
    case neg => rw [if_neg hk] at hp; cases hp
    rw [if_pos hk] at hp
    cases hp
    rw [Bool.and_eq_true, decide_eq_true_eq] at hk
    obtain ⟨p1, e2, hd⟩ := a.dict
    subst e2
    have hz : ∀ {κ : Type} {ks : List (κ × V)} {es : List D} {toD : κ → D}, Reps X.K H S (ks.map Prod.snd) es → kvs = (ks.map fun p => toD p.1).zip es → kvs.map (·.1) = ks.map (fun p => toD p.1) ∧ kvs.length = ks.length := fun {κ ks es toD} q1 e1 => by
      have hl := q1.len
      rw [List.length_map] at hl
      subst e1
      exact ⟨keys_zip (by rw [List.length_map]; exact hl), by rw [List.length_zip, List.length_map, ← hl, Nat.min_self]⟩
    rcases hd with ⟨ks, es, r1, l1, q1, e1⟩ | ⟨ks, es, r1, l1, q1, e1⟩
    · obtain ⟨w1, w2⟩ := hz q1 e1
      rw [w1] at hk q
      rw [w2] at hk
      obtain ⟨h64, hk⟩ := hk
      by_cases hi : (intsOf (ks.map fun p => keyD p.1)).isSome = true
      · obtain ⟨ns, en⟩ := Option.isSome_iff_exists.mp hi
        have ek := intsOf_map en
        rw [ek] at q
        have el : ns.length = ks.length := by have := congrArg List.length ek; simpa using this.symm
        refine call_sortedDI hc pins s σ H [.ref p1] us Q I r ⟨p1, ks, ns, rfl, r1, keys_int ek, by omega, fun ys p hp hs hn => ?_⟩
        have e5 : sortD (ns.map PyData.int) = ys.map PyData.int := by
          rw [sortD_ints, le_sorted_eq (sortI_sorted ns) hs ((sortI_perm ns).trans hp.symm)]
        rw [e5] at q
        have hlz : (ys.map V.int).length ≤ sizeLine := by rw [List.length_map, hp.length_eq, sizeLine_eq]; omega
        exact q (.ref p) _ (KeepA.upd hn) (res_lst hS hn hlz (reps_any ys))
      · have hi2 : (strsOf (ks.map fun p => keyD p.1)).isSome = true := by
          rcases (Bool.or_eq_true _ _).mp hk with h | h
          · exact absurd h hi
          · exact h
        obtain ⟨ns, en⟩ := Option.isSome_iff_exists.mp hi2
        have ek := strsOf_map en
        rw [ek] at q
        have el : ns.length = ks.length := by have := congrArg List.length ek; simpa using this.symm
        have ek2 := keys_str ek
        refine call_sortedD hc pins s σ H [.ref p1] us Q I r ⟨p1, ks, ns, rfl, r1, ek2, by omega, fun ys p hp hs hn => ?_⟩
        have e5 : sortD (ns.map PyData.str) = ys.map PyData.str := sortD_strs hp hs
        rw [e5] at q
        have hlz : (ys.map V.str).length ≤ sizeLine := by rw [List.length_map, hp.length_eq, sizeLine_eq]; omega
        refine q (.ref p) _ (KeepA.upd hn) (res_lst hS hn hlz (reps_strs' fun x hx => ?_))
        have hx2 : Sum.inr x ∈ ks.map (·.1) := by rw [ek2]; exact List.mem_map_of_mem (hp.mem_iff.mp hx)
        obtain ⟨pr, hpr, e6⟩ := List.mem_map.mp hx2
        exact l1.2 pr hpr x e6
    · obtain ⟨w1, w2⟩ := hz q1 e1
      rw [w1] at hk
      obtain ⟨z1, z2⟩ := tkeys_no (ks := ks) l1.2.1
      rw [z1, z2] at hk
      exact absurd hk.2 (by decide)
  · cases hp
theorem k_sortedA (hc : X.calm = true) (hu : X.A.units + 100 < cLine) : CallR X (.builtin "sorted") (rPr X.K prSorted) := by
  intro pins s σ H xs us Q I r ⟨S, ds, d, f, hS, ha, hp, q⟩
  unfold prSorted at hp
  split at hp
  · exact k_sorted hu pins s σ H xs us Q I r ⟨S, _, d, f, hS, ha, hp, q⟩
  · exact k_sortedD hc pins s σ H xs us Q I r ⟨S, _, d, f, hS, ha, hp, q⟩
  · cases hp
end
end Ev

end

-- EvSdA
section
/-! Ev: soundness, the readings' joints. -/
namespace Ev
open PySem PySem.Spec PyProof.Rows L2

theorem PE.imp {X : Cx} {e : Expr} {t t' : TE} (h : PE X e t) (i : ∀ σ H Q, t' σ H Q → t σ H Q) : PE X e t' := ⟨fun pins s σ H Q I q => h.run pins s σ H Q I (i σ H Q q)⟩
theorem PT.imp {X : Cx} {e : Expr} {t t' : TT} (h : PT X e t) (i : ∀ σ H Q, t' σ H Q → t σ H Q) : PT X e t' := ⟨fun pins s σ H Q I q => h.run pins s σ H Q I (i σ H Q q)⟩
theorem PA.imp {X : Cx} {es : List Expr} {t t' : TA} (h : PA X es t) (i : ∀ σ H Q, t' σ H Q → t σ H Q) : PA X es t' := ⟨fun pos pins s σ H Q I q => h.run pos pins s σ H Q I (i σ H Q q)⟩
section
variable {K : PySem.W.Frag} {cl : Call} {W : Nat → L2.St → Hp → Prop} {σ : L2.St} {H : Hp}
theorem tVl_mono {e : Ex} {Q Q' : VK} (hm : ∀ v H, Q v H → Q' v H) (h : tVl K cl W e σ H Q) : tVl K cl W e σ H Q' := by
  obtain ⟨T, ow, g, F, h⟩ := h
  refine ⟨T, ow, g, F, ?_⟩
  cases e1 : vl (isBor e) (ev cl false e g) g with
  | bad => rw [e1] at h; exact h
  | exc c g' => rw [e1] at h; exact h
  | ok r => rw [e1] at h; exact fun T' ow' H' v S q => hm _ _ (h T' ow' H' v S q)
theorem tEv_mono {e : Ex} {Q Q' : VK} (hm : ∀ v H, Q v H → Q' v H) (h : tEv K cl W e σ H Q) : tEv K cl W e σ H Q' := by
  obtain ⟨T, ow, g, F, h⟩ := h
  refine ⟨T, ow, g, F, ?_⟩
  cases e1 : ev cl false e g with
  | bad => rw [e1] at h; exact h
  | exc c g' => rw [e1] at h; exact h
  | ok r => rw [e1] at h; exact fun T' ow' H' v S q => hm _ _ (h T' ow' H' v S q)
theorem tArgs_mono {es : List Ex} {Q Q' : List V → Hp → Prop} (hm : ∀ v H, Q v H → Q' v H) (h : tArgs K cl W es σ H Q) : tArgs K cl W es σ H Q' := by
  obtain ⟨T, ow, g, F, h⟩ := h
  refine ⟨T, ow, g, F, ?_⟩
  cases e1 : evs cl es g with
  | bad => rw [e1] at h; exact h
  | exc c g' => rw [e1] at h; exact h
  | ok r => rw [e1] at h; exact fun T' ow' H' v S q => hm _ _ (h T' ow' H' v S q)
theorem tTs_mono {e : Ex} {Q Q' : Bool → Hp → Prop} (hm : ∀ v H, Q v H → Q' v H) (h : tTs K cl W e σ H Q) : tTs K cl W e σ H Q' := by
  obtain ⟨T, ow, g, F, h⟩ := h
  refine ⟨T, ow, g, F, ?_⟩
  cases e1 : ev cl true e g with
  | bad => rw [e1] at h; exact h
  | exc c g' => rw [e1] at h; exact h
  | ok r => rw [e1] at h; exact fun T' ow' H' S => let ⟨b, e2, q⟩ := h T' ow' H' S; ⟨b, e2, hm _ _ q⟩
theorem tArgs1 {a : Ex} {Q : List V → Hp → Prop} (h : tArgs K cl W [a] σ H Q) : tVl K cl W a σ H fun x H1 => Q [x] H1 := tVl_mono (fun _ _ q => tArgs_nil q) (tArgs_cons h)
theorem tArgs2 {a b : Ex} {Q : List V → Hp → Prop} (h : tArgs K cl W [a, b] σ H Q) : tVl K cl W a σ H fun x H1 => tVl K cl W b σ H1 fun y H2 => Q [x, y] H2 := tVl_mono (fun _ _ q => tArgs1 q) (tArgs_cons h)
theorem tArgs3 {a b c : Ex} {Q : List V → Hp → Prop} (h : tArgs K cl W [a, b, c] σ H Q) : tVl K cl W a σ H fun x H1 => tVl K cl W b σ H1 fun y H2 => tVl K cl W c σ H2 fun z H3 => Q [x, y, z] H3 := tVl_mono (fun _ _ q => tArgs2 q) (tArgs_cons h)
/-- an expression that is no borrowed name: its value is as any -/
theorem tVl_ev {e : Ex} {Q : VK} (hb : isBor e = none) (h : tVl K cl W e σ H Q) : tEv K cl W e σ H Q := by
  obtain ⟨T, ow, g, F, h⟩ := h
  refine ⟨T, ow, g, F, ?_⟩
  rw [hb] at h
  cases e1 : ev cl false e g with
  | bad => rw [e1] at h; exact h
  | exc c g' => rw [e1] at h; exact h
  | ok r => rw [e1] at h; exact fun T' ow' H' v S q => h T' ow' H' v S q
/-- a primitive's result, from its rule's -/
theorem res_step {T T1 : List Addr} {ow ow1 : List (Option Addr)} {g g1 : Gm} {H1 H2 : Hp} {v : V} {d : D} {f : Bool} (S1 : Step K T ow g σ H T1 ow1 g1 σ H1) (k : KeepA H1 H2) (r : ResR K H1 H2 (T1 ++ owS ow1) v d f) : ∃ T2, Step K T ow g σ H T2 ow1 g1 σ H2 ∧ RV K H H2 T2 ow1 v d f := by
  cases f with
  | false => exact ⟨T1, S1.trans (S1.fr.keepA k), r⟩
  | true =>
    obtain ⟨p, e, hp, ht, hm⟩ := r
    exact ⟨p :: T1, S1.trans (S1.fr.allocT hp (S1.fr.keepA k) (live_mut hm) k), p, e, List.mem_cons_self, S1.back hp, ht, hm⟩
/-- a primitive of arguments -/
theorem ap_args {p : Pr} {es : List Ex} {Q : VK} (h : tEv K cl W (.ap p es) σ H Q) : tArgs K cl W es σ H fun vs H1 => rPr K (pr p) vs H1 Q := by
  obtain ⟨T, ow, g, F, h⟩ := h
  refine ⟨T, ow, g, F, ?_⟩
  simp only [ev] at h
  cases e1 : evs cl es g with
  | bad => rw [e1] at h; exact h
  | exc c g' => rw [e1] at h; exact h
  | ok r =>
    rw [e1] at h
    intro T1 ow1 H1 vs S1 hv
    simp only [Out.bind] at h
    cases e2 : resAll r.2 r.1 with
    | none => rw [e2] at h; exact h.elim
    | some ds =>
      rw [e2] at h
      cases e3 : pr p ds with
      | none => simp only [e3, Option.bind] at h
      | some df =>
        simp only [e3, Option.bind, fin] at h
        refine ⟨T1 ++ owS ow1, ds, df.1, df.2, S1.fr.lv, VRs.args hv.all S1.fr e2, e3, fun v H2 k rr => ?_⟩
        obtain ⟨T2, S2, q⟩ := res_step S1 k rr
        exact h T2 ow1 H2 v S2 q
end

/-! ### names, constants -/
section
variable {X : Cx} {cl : Call} {W : Nat → L2.St → Hp → Prop}
theorem slot_read {K : PySem.W.Frag} {T : List Addr} {ow : List (Option Addr)} {g : Gm} {σ : L2.St} {H : Hp} {i : Nat} {r : D × Bool × Gm} (F : FrOk K T ow g σ H) (h : readVar g i = .ok r) : ∃ v ow1, σ[i]? = some (some v) ∧ Step K T ow g σ H T ow1 r.2.2 σ H ∧ RV K H H T ow1 v r.1 r.2.1 := by
  unfold readVar at h
  split at h
  · rename_i d e
    cases h
    obtain ⟨v, oa, e1, e2, q⟩ := F.sl i _ e
    exact ⟨v, ow, e1, Step.refl F, q⟩
  · rename_i d e
    cases h
    obtain ⟨v, e1, S, q⟩ := F.freeze e
    exact ⟨v, _, e1, S, q⟩
  · cases h
theorem readVar_ok (g : Gm) (i : Nat) : (∃ r, readVar g i = .ok r) ∨ readVar g i = .bad := by
  unfold readVar
  split
  · exact .inl ⟨_, rfl⟩
  · exact .inl ⟨_, rfl⟩
  · exact .inr rfl
theorem n_var {K : PySem.W.Frag} {i : Nat} {σ : L2.St} {H : Hp} {Q : VK} (h : tEv K cl W (.var i) σ H Q) : tVar i σ H Q := by
  obtain ⟨T, ow, g, F, h⟩ := h
  simp only [ev] at h
  rcases readVar_ok g i with ⟨r, e⟩ | e
  · rw [e] at h
    simp only [Out.bind, fin] at h
    obtain ⟨v, ow1, e1, S, q⟩ := slot_read F e
    exact ⟨v, e1, h T ow1 H v S q⟩
  · rw [e] at h; exact h.elim
theorem n_bor {K : PySem.W.Frag} {i : Nat} {σ : L2.St} {H : Hp} {Q : VK} (h : tVl K cl W (.bor i) σ H Q) : tVar i σ H Q := by
  obtain ⟨T, ow, g, F, h⟩ := h
  simp only [isBor, vl] at h
  cases e : slotD g i with
  | none => rw [e] at h; exact h.elim
  | some d =>
    rw [e] at h
    obtain ⟨v, e1, q⟩ := F.slot e
    exact ⟨v, e1, h T ow H v (Step.refl F) e1⟩
theorem n_lit {K : PySem.W.Frag} {d : D} {v : V} {σ : L2.St} {H : Hp} {Q : VK} (hd : ∀ (H : Hp) (S : List Addr), (∀ b ∈ S, LiveM H b) → Rep K H S v d) (h : tEv K cl W (.lit d) σ H Q) : Q v H := by
  obtain ⟨T, ow, g, F, h⟩ := h
  simp only [ev, fin] at h
  exact h T ow H v (Step.refl F) (hd H _ F.lv)

/-! ### tuples, lists -/
theorem keepAll_args {K : PySem.W.Frag} {T T1 : List Addr} {ow ow1 : List (Option Addr)} {g g1 : Gm} {σ : L2.St} {H H1 : Hp} (F : FrOk K T ow g σ H) (S : Step K T ow g σ H T1 ow1 g1 σ H1) : ∀ {vs : List V} {ls : List Vl} {ds : List D}, Paired (VR K σ H H1 T1 ow1) vs ls → keepAll ls = some ds → Reps K H1 (T ++ owS ow1) vs ds
  | _, _, _, .nil, e => by cases e; exact .nil
  | v :: vs, l :: ls, ds, .cons r t, e => by
    cases l with
    | b i => cases e
    | v d f =>
      unfold keepAll at e
      cases e2 : keepAll ls with
      | none => rw [e2] at e; cases e
      | some r2 =>
        rw [e2] at e
        cases e
        exact .cons (RV.share S F r) (keepAll_args F S t e2)
theorem c_tup {K : PySem.W.Frag} {es : List Ex} {σ : L2.St} {H : Hp} {Q : VK} (h : tEv K cl W (.tup es) σ H Q) : tTup (tArgs K cl W es) σ H Q := by
  obtain ⟨T, ow, g, F, h⟩ := h
  refine ⟨T, ow, g, F, ?_⟩
  simp only [ev] at h
  cases e1 : evs cl es g with
  | bad => rw [e1] at h; exact h
  | exc c g' => rw [e1] at h; exact h
  | ok r =>
    rw [e1] at h
    intro T1 ow1 H1 vs S1 hv
    simp only [Out.bind] at h
    cases e2 : keepAll r.1 with
    | none => rw [e2] at h; exact h.elim
    | some ds =>
      rw [e2] at h
      simp only [fin] at h
      have hr := keepAll_args F S1 hv.all e2
      have S2 := S1.toT F
      by_cases hl : line ds.length = true
      case neg => rw [if_neg hl] at h; exact h.elim
      rw [if_pos hl] at h
      have hlen : vs.length ≤ sizeLine := by rw [hr.len]; exact line_le hl
      refine ⟨hlen, fun p hp => ?_⟩
      exact h T ow1 _ (.ref p) (S2.trans (S2.fr.keepA (KeepA.upd hp))) (rep_tup S2.fr.lv hp hlen hr)
theorem c_lst {K : PySem.W.Frag} {es : List Ex} {σ : L2.St} {H : Hp} {Q : VK} (h : tEv K cl W (.lst es) σ H Q) : tLst (tArgs K cl W es) σ H Q := by
  obtain ⟨T, ow, g, F, h⟩ := h
  refine ⟨T, ow, g, F, ?_⟩
  simp only [ev] at h
  cases e1 : evs cl es g with
  | bad => rw [e1] at h; exact h
  | exc c g' => rw [e1] at h; exact h
  | ok r =>
    rw [e1] at h
    intro T1 ow1 H1 vs S1 hv
    simp only [Out.bind] at h
    cases e2 : keepAll r.1 with
    | none => rw [e2] at h; exact h.elim
    | some ds =>
      rw [e2] at h
      simp only [fin] at h
      have hr := keepAll_args F S1 hv.all e2
      have S2 := S1.toT F
      by_cases hl : line ds.length = true
      case neg => rw [if_neg hl] at h; exact h.elim
      rw [if_pos hl] at h
      have hlen : vs.length ≤ sizeLine := by rw [hr.len]; exact line_le hl
      refine ⟨hlen, fun p hp => ?_⟩
      obtain ⟨T2, S3, q⟩ := res_step S2 (KeepA.upd hp) (res_lst S2.fr.lv hp hlen hr)
      exact h T2 ow1 _ (.ref p) S3 q
/-! ### dicts -/
theorem pairUp_two : ∀ {ds : List D} {ps : List (D × D)}, pairUp ds = some ps → ∀ {K : PySem.W.Frag} {H : Hp} {S : List Addr} {vs : List V}, Reps K H S vs ds → ps.all (fun p => keyOk0 p.1) = true →
    ∃ kvs : List (Key × V), (∃ es, Reps K H S (kvs.map Prod.snd) es ∧ ps = (kvs.map fun p => keyD p.1).zip es) ∧ vs = (kvs.map fun p => [kV p.1, p.2]).flatten ∧ (∀ p ∈ kvs, ∀ x, p.1 = Sum.inr x → x.length ≤ sizeLine)
  | [], ps, e, K, H, S, vs, q, _ => by
    cases e; cases q
    exact ⟨[], ⟨[], .nil, rfl⟩, rfl, fun p h => by simp at h⟩
  | [_], ps, e, K, H, S, vs, q, _ => by cases e
  | k :: v :: ds, ps, e, K, H, S, vs, q, ha => by
    unfold pairUp at e
    cases e1 : pairUp ds with
    | none => rw [e1] at e; cases e
    | some ps1 =>
      rw [e1] at e
      cases e
      cases q with | cons qk q => cases q with | cons qv q =>
      rw [List.all_cons, Bool.and_eq_true] at ha
      obtain ⟨kvs, ⟨es, h1, h2⟩, h3, h4⟩ := pairUp_two e1 q ha.2
      have hk := ha.1
      unfold keyOk0 at hk
      split at hk
      · rename_i i e'
        have e' : k = .int i := e'
        subst e'
        cases qk
        exact ⟨(.inl i, _) :: kvs, ⟨_ :: es, .cons qv h1, by rw [h2]; rfl⟩, by rw [h3]; rfl, fun p hp x ex => by
          rcases List.mem_cons.mp hp with hp | hp
          · subst hp; cases ex
          · exact h4 p hp x ex⟩
      · rename_i z e'
        have e' : k = .str z := e'
        subst e'
        cases qk
        rename_i hz
        exact ⟨(.inr z, _) :: kvs, ⟨_ :: es, .cons qv h1, by rw [h2]; rfl⟩, by rw [h3]; rfl, fun p hp x ex => by
          rcases List.mem_cons.mp hp with hp | hp
          · subst hp; cases ex; exact hz
          · exact h4 p hp x ex⟩
      · cases hk
theorem merge_val {K : PySem.W.Frag} {H : Hp} {S : List Addr} : ∀ {more : List (Key × V)} {es : List D} {kvs : List (Key × V)} {es0 : List D}, Reps K H S (more.map Prod.snd) es → Reps K H S (kvs.map Prod.snd) es0 →
    ∃ es', Reps K H S ((mergeK kvs more).map Prod.snd) es' ∧ putAll ((kvs.map fun p => keyD p.1).zip es0) ((more.map fun p => keyD p.1).zip es) = ((mergeK kvs more).map fun p => keyD p.1).zip es'
  | [], _, kvs, es0, q, q0 => by cases q; exact ⟨es0, q0, rfl⟩
  | (k, v) :: more, _, kvs, es0, q, q0 => by
    cases q with
    | cons q1 q2 =>
      obtain ⟨es1, p1, p2⟩ := dPut_val eqK_key q1 k q0
      obtain ⟨es2, w1, w2⟩ := merge_val (kvs := putK kvs k v) q2 p1
      refine ⟨es2, w1, ?_⟩
      rw [List.map_cons, List.zip_cons_cons, putAll, p2, w2]
      rfl
theorem mem_merge : ∀ {more : List (Key × V)} {kvs : List (Key × V)} {p : Key × V}, p ∈ mergeK kvs more → (∃ q ∈ kvs, q.1 = p.1) ∨ ∃ q ∈ more, q.1 = p.1
  | [], kvs, p, h => .inl ⟨p, h, rfl⟩
  | m :: more, kvs, p, h => by
    rcases mem_merge (more := more) (kvs := putK kvs m.1 m.2) h with ⟨q, hq, e⟩ | ⟨q, hq, e⟩
    · rcases mem_putK hq with e' | ⟨q', hq', e'⟩
      · exact .inr ⟨m, List.mem_cons_self, e'.symm.trans e⟩
      · exact .inl ⟨q', hq', e'.trans e⟩
    · exact .inr ⟨q, List.mem_cons_of_mem _ hq, e⟩
theorem c_dct0 {K : PySem.W.Frag} {σ : L2.St} {H : Hp} {Q : VK} (h : tEv K cl W (.dct []) σ H Q) : tDNewK σ H Q := by
  obtain ⟨T, ow, g, F, h⟩ := h
  intro p hp
  simp only [ev, evs, Out.bind, keepAll, pairUp, fin] at h
  have S1 : Step K T ow g σ H (p :: T) ow g σ (upd H p (.dK [])) := F.allocT hp (F.keepA (KeepA.upd hp)) (live_mut (by rw [upd_same]; exact trivial)) (KeepA.upd hp)
  exact h (p :: T) ow _ (.ref p) S1 ⟨p, rfl, List.mem_cons_self, hp, .dK (kvs := []) (es := []) (.inl upd_same) ⟨Nat.zero_le _, fun q hq => by simp at hq⟩ .nil rfl, by rw [upd_same]; exact trivial⟩
/-- the readings of a display's pairs -/
def prs (K : PySem.W.Frag) (cl : Call) (W : Nat → L2.St → Hp → Prop) : List Ex → List (TE × TE)
  | k :: v :: r => (tVl K cl W k, tVl K cl W v) :: prs K cl W r
  | _ => []
theorem prs_args {K : PySem.W.Frag} : ∀ (n : Nat) {es : List Ex} {σ : L2.St} {H : Hp} {Q : List (V × V) → Hp → Prop}, es.length = 2 * n → tArgs K cl W es σ H (fun vs H1 => ∀ ps : List (V × V), vs = (ps.map fun p => [p.1, p.2]).flatten → Q ps H1) → tPairs (prs K cl W es) σ H Q
  | 0, [], σ, H, Q, _, h => tArgs_nil h [] rfl
  | 0, _ :: _, _, _, _, hl, _ => by simp at hl
  | n + 1, k :: v :: es, σ, H, Q, hl, h => by
    refine tVl_mono (fun x H1 h1 => ?_) (tArgs_cons h)
    refine tVl_mono (fun y H2 h2 => ?_) (tArgs_cons h1)
    refine prs_args n (by simp at hl; omega) (tArgs_mono (fun vs H3 h3 ps e => ?_) h2)
    exact h3 ((x, y) :: ps) (by rw [e]; rfl)
  | n + 1, [], _, _, _, hl, _ => by simp at hl
  | n + 1, [_], _, _, _, hl, _ => by simp at hl; omega
theorem c_dct {K : PySem.W.Frag} {n : Nat} {es : List Ex} {σ : L2.St} {H : Hp} {Q : VK} (hl : es.length = 2 * n) (h : tEv K cl W (.dct es) σ H Q) : tDisp (prs K cl W es) σ H Q := by
  obtain ⟨T, ow, g, F, h⟩ := h
  intro p hp
  have S0 : Step K T ow g σ H (p :: T) ow g σ (upd H p (.dK [])) := F.allocT hp (F.keepA (KeepA.upd hp)) (live_mut (by rw [upd_same]; exact trivial)) (KeepA.upd hp)
  refine prs_args n hl ⟨p :: T, ow, g, S0.fr, ?_⟩
  simp only [ev] at h
  cases e1 : evs cl es g with
  | bad => rw [e1] at h; exact h
  | exc c g' => rw [e1] at h; exact fun T' ow' H' S => h T' ow' H' (S0.trans S)
  | ok r =>
    rw [e1] at h
    intro T1 ow1 H1 vs S1 hv ps eps
    simp only [Out.bind] at h
    cases e2 : keepAll r.1 with
    | none => rw [e2] at h; exact h.elim
    | some ds =>
      rw [e2] at h
      cases e3 : pairUp ds with
      | none => simp only [Option.bind, e3] at h
      | some dps =>
        simp only [Option.bind, e3, fin] at h
        by_cases hc : (dps.all (fun p => keyOk0 p.1) && decide (dps.length ≤ 15)) = true
        case neg => rw [if_neg hc] at h; exact h.elim
        rw [if_pos hc] at h
        rw [Bool.and_eq_true] at hc
        have hr := keepAll_args S0.fr S1 hv.all e2
        have S2 := S1.toT S0.fr
        obtain ⟨kvs, ⟨es', h1, h2⟩, h3, h4⟩ := pairUp_two e3 hr hc.1
        have hk0 : H1 p = some (.dK []) := S1.kx p _ upd_same (S0.fr.tNotOwn List.mem_cons_self)
        refine ⟨hk0, kvs, ?_, ?_, ?_⟩
        · have inj : ∀ (a b : List (V × V)), (a.map fun p => [p.1, p.2]).flatten = (b.map fun p => [p.1, p.2]).flatten → a = b := by
            intro a
            induction a with
            | nil => intro b e; cases b with
              | nil => rfl
              | cons y b => simp at e
            | cons x a ih =>
              intro b e
              cases b with
              | nil => simp at e
              | cons y b =>
                simp at e
                obtain ⟨e1, e2, e3⟩ := e
                rw [Prod.ext e1 e2, ih b (by simpa using e3)]
          refine inj ps _ ?_
          rw [← eps, h3, List.map_map]
          rfl
        · have hl1 := h1.len
          rw [List.length_map] at hl1
          have := of_decide_eq_true hc.2
          rw [h2, List.length_zip, List.length_map, hl1, Nat.min_self] at this
          omega
        · obtain ⟨es2, w1, w2⟩ := merge_val (kvs := []) (es0 := []) h1 .nil
          have hp1 : p ∈ (p :: T) ++ owS ow1 := List.mem_append_left _ List.mem_cons_self
          have hm1 : Mut (H1 p) := by rw [hk0]; exact trivial
          -- the dict, filled
          have hlen : (mergeK [] kvs).length ≤ sizeLine := by
            have := length_mergeK kvs []
            have hl1 := h1.len
            rw [List.length_map] at hl1
            have h15 := of_decide_eq_true hc.2
            rw [h2, List.length_zip, List.length_map, hl1, Nat.min_self] at h15
            rw [sizeLine_eq]
            simp at this
            omega
          have tp : Top K (upd H1 p (.dK (mergeK [] kvs))) ((p :: T) ++ owS ow1) p (.dict (putAll [] dps)) := by
            refine .dK (.inl upd_same) ⟨hlen, fun q hq x ex => ?_⟩ (w1.chg S2.fr.lv hp1 _) (by rw [h2]; exact w2)
            rcases mem_merge hq with ⟨q', hq', e'⟩ | ⟨q', hq', e'⟩
            · simp at hq'
            · exact h4 q' hq' x (e'.trans ex)
          have S3 : Step K T ow g σ H (p :: T) ow1 r.2 σ (upd H1 p (.dK (mergeK [] kvs))) := by
            exact (S0.trans S2).chgT List.mem_cons_self hp trivial
          exact h _ _ _ (.ref p) S3 ⟨p, rfl, List.mem_cons_self, hp, tp, by rw [upd_same]; exact trivial⟩
end
end Ev

end

-- EvSdB
section
/-! Ev: soundness, tests. -/
namespace Ev
open PySem PySem.Spec PyProof.Rows L2

def vForm : Ex → Bool
  | .lit _ => true
  | .var _ => true
  | .tup _ => true
  | .lst _ => true
  | .dct _ => true
  | .ap _ _ => true
  | .mt _ _ _ => true
  | .mu _ _ _ => true
  | .call _ _ _ => true
  | .lc _ _ _ _ _ _ => true
  | _ => false
theorem bind_bind {ε α β γ : Type} (x : Out ε α) (f : α → Out ε β) (k : β → Out ε γ) : (x.bind f).bind k = x.bind fun a => (f a).bind k := by cases x <;> rfl
theorem bind_congr {ε α β : Type} {x : Out ε α} {f k : α → Out ε β} (h : ∀ a, f a = k a) : x.bind f = x.bind k := by cases x <;> simp [Out.bind, h]
theorem callEnd_tst (g : Gm) (vs : List Vl) (ms : List Am) (o : FOut) : callEnd true g vs ms o = (callEnd false g vs ms o).bind fun r => fin true r.1 r.2.1 r.2.2 := by
  cases o with
  | bad => rfl
  | exc c md => rfl
  | ok r =>
    obtain ⟨d, fr, md⟩ := r
    unfold callEnd
    dsimp only
    generalize (frzB g vs).bind (fun g1 => putBack g1 (lent ms) (ours ms md)) = o
    by_cases h : (flatD d && md.isEmpty) = true
    · rw [if_pos h, if_pos h]; rfl
    · rw [if_neg h, if_neg h]
      cases o <;> rfl
theorem ev_tst (cl : Call) : ∀ (e : Ex) (g : Gm), vForm e = true → ev cl true e g = (ev cl false e g).bind fun r => fin true r.1 r.2.1 r.2.2
  | .lit d, g, _ => by simp only [ev]; rfl
  | .var i, g, _ => by
    simp only [ev]
    rw [bind_bind]
    rfl
  | .tup es, g, _ => by
    simp only [ev]
    rw [bind_bind]
    refine bind_congr fun r => ?_
    cases keepAll r.1 with
    | none => rfl
    | some ds => by_cases h : line ds.length = true <;> simp only [h, if_true, if_false] <;> rfl
  | .lst es, g, _ => by
    simp only [ev]
    rw [bind_bind]
    refine bind_congr fun r => ?_
    cases keepAll r.1 with
    | none => rfl
    | some ds => by_cases h : line ds.length = true <;> simp only [h, if_true, if_false] <;> rfl
  | .dct es, g, _ => by
    simp only [ev]
    rw [bind_bind]
    refine bind_congr fun r => ?_
    cases (keepAll r.1).bind pairUp with
    | none => rfl
    | some ds => by_cases h : (ds.all (fun p => keyOk0 p.1) && decide (ds.length ≤ 15)) = true <;> simp only [h, if_true, if_false] <;> rfl
  | .ap p es, g, _ => by
    simp only [ev]
    rw [bind_bind]
    refine bind_congr fun r => ?_
    cases (resAll r.2 r.1).bind (pr p) <;> rfl
  | .mt p a es, g, _ => by
    simp only [ev]
    rw [bind_bind]
    refine bind_congr fun x => ?_
    cases x.1.res x.2 with
    | none => rfl
    | some d1 =>
      simp only
      by_cases hm : mtOk p d1 = true
      case neg => rw [if_neg hm, if_neg hm]; rfl
      rw [if_pos hm, if_pos hm]
      rw [bind_bind]
      refine bind_congr fun r => ?_
      cases resAll r.2 (x.1 :: r.1) with
      | none => rfl
      | some ds =>
        cases ds with
        | nil => rfl
        | cons d2 ds =>
          by_cases h : (tag d1 == tag d2) = true
          · simp only [h, if_true]
            cases pr p (d2 :: ds) <;> rfl
          · simp only [h]; rfl
  | .mu m i es, g, _ => by
    simp only [ev]
    cases slotD g i with
    | none => rfl
    | some d0 =>
      simp only
      by_cases hm : (muTag m == tag d0) = true
      case neg => rw [if_neg hm, if_neg hm]; rfl
      rw [if_pos hm, if_pos hm]
      rw [bind_bind]
      refine bind_congr fun r => ?_
      split
      · rename_i d ds e1 e2
        cases mu m d ds <;> rfl
      · rename_i d ds e1 e2
        cases mu m d ds <;> rfl
      · rfl
  | .call f ms es, g, _ => by
    simp only [ev]
    split
    · rw [bind_bind]
      refine bind_congr fun r => ?_
      cases argsOf r.2 ms r.1 with
      | none => rfl
      | some ds =>
        simp only
        split
        · exact callEnd_tst _ _ _ _
        · rfl
    · rfl
  | .lc k es tg c e own, g, _ => by
    simp only [ev]
    rw [bind_bind]
    refine bind_congr fun r => ?_
    cases (resAll r.2 r.1).bind (itX k es) with
    | none => rfl
    | some items =>
      by_cases h : (own.all (plainAt r.2) && line items.length && tgIn tg own) = true
      · simp only [h, if_true]
        rw [bind_bind]
        rfl
      · simp only [h]; rfl
  | .bor _, _, h => by cases h
  | .not _, _, h => by cases h
  | .and _ _, _, h => by cases h
  | .or _ _, _, h => by cases h
  | .ite _ _ _, _, h => by cases h
  | .chn _ _ _, _, h => by cases h
section
variable {K : PySem.W.Frag} {cl : Call} {W : Nat → L2.St → Hp → Prop} {σ : L2.St} {H : Hp}
theorem tru_of {S : List Addr} {v : V} {d : D} {k : Bool} (h : ArgR K H S v d) (e : truD d = some k) : TruV K v H k := by
  cases d with
  | none =>
    cases e
    rcases h with h | ⟨p, _, _, h⟩
    · cases h; rfl
    · cases h
  | bool b => cases e; rw [h.bl]; rfl
  | int i => cases e; rw [h.int]; rfl
  | str x =>
    cases e
    rw [h.str.1]
    refine ⟨h.str.2, ?_⟩
    show (x.length != 0) = ((x.length : Int) != 0)
    generalize x.length = n
    cases n with
    | zero => rfl
    | succ n => rfl
  | list xs =>
    cases e
    obtain ⟨a, vs, e1, r, _, q⟩ := h.list
    subst e1
    exact .inl ⟨vs, .inl r, by cases q <;> rfl⟩
  | tuple xs =>
    cases e
    obtain ⟨a, vs, e1, r, _, q⟩ := h.tuple
    subst e1
    exact .inr (.inl ⟨vs, r.sq, by cases q <;> rfl⟩)
  | dict kv => cases e
/-- a value's truth -/
theorem tst_val {e : Ex} {Q : Bool → Hp → Prop} (hv : vForm e = true) (h : tTs K cl W e σ H Q) : tEv K cl W e σ H fun x H' => ∃ k, TruV K x H' k ∧ Q k H' := by
  obtain ⟨T, ow, g, F, h⟩ := h
  refine ⟨T, ow, g, F, ?_⟩
  rw [ev_tst cl e g hv] at h
  cases e1 : ev cl false e g with
  | bad => rw [e1] at h; exact h
  | exc c g' => rw [e1] at h; exact h
  | ok r =>
    rw [e1] at h
    intro T1 ow1 H1 v S q
    simp only [Out.bind, fin, if_true] at h
    cases e2 : truD r.1 with
    | none => rw [e2] at h; exact h.elim
    | some k =>
      rw [e2] at h
      obtain ⟨b, eb, hq⟩ := h T1 ow1 H1 S
      cases eb
      exact ⟨k, tru_of (RV.arg q) e2, hq⟩
theorem tst_bor {i : Nat} {Q : Bool → Hp → Prop} (h : tTs K cl W (.bor i) σ H Q) : tVar i σ H fun x H' => ∃ k, TruV K x H' k ∧ Q k H' := by
  obtain ⟨T, ow, g, F, h⟩ := h
  simp only [ev, if_true] at h
  cases e : slotD g i with
  | none => rw [e] at h; exact h.elim
  | some d =>
    rw [e] at h
    simp only [fin, if_true] at h
    cases e2 : truD d with
    | none => rw [e2] at h; exact h.elim
    | some k =>
      rw [e2] at h
      obtain ⟨v, e1, q⟩ := F.slot e
      obtain ⟨b, eb, hq⟩ := h T ow H (Step.refl F)
      cases eb
      exact ⟨v, e1, k, tru_of q e2, hq⟩
/-- primitives that answer with a truth value -/
def boolP (p : Pr) : Prop := ∀ ds d f, pr p ds = some (d, f) → ∃ b, d = .bool b ∧ f = false
theorem ap_test {p : Pr} {es : List Ex} {Q : Bool → Hp → Prop} (hb : boolP p) (h : tTs K cl W (.ap p es) σ H Q) : tArgs K cl W es σ H fun vs H1 => rPr K (pr p) vs H1 fun v H2 => ∃ k, v = .bl k ∧ Q k H2 := by
  obtain ⟨T, ow, g, F, h⟩ := h
  refine ⟨T, ow, g, F, ?_⟩
  simp only [ev] at h
  cases e1 : evs cl es g with
  | bad => rw [e1] at h; exact h
  | exc c g' => rw [e1] at h; exact h
  | ok r =>
    rw [e1] at h
    intro T1 ow1 H1 vs S1 hv
    simp only [Out.bind] at h
    cases e2 : resAll r.2 r.1 with
    | none => rw [e2] at h; exact h.elim
    | some ds =>
      rw [e2] at h
      cases e3 : pr p ds with
      | none => simp only [e3, Option.bind] at h
      | some df =>
        obtain ⟨d, f⟩ := df
        obtain ⟨b, rfl, rfl⟩ := hb ds d f e3
        simp only [e3, Option.bind, fin, if_true, truD] at h
        refine ⟨T1 ++ owS ow1, ds, _, _, S1.fr.lv, VRs.args hv.all S1.fr e2, e3, fun v H2 k rr => ?_⟩
        obtain ⟨b', eb, hq⟩ := h T1 ow1 H2 (S1.trans (S1.fr.keepA k))
        cases eb
        cases (show Rep K H2 (T1 ++ owS ow1) v (.bool b) from rr)
        exact ⟨b, rfl, hq⟩

/-! ### not, and, or, if -/
theorem n_not {a : Ex} {Q : VK} (h : tEv K cl W (.not a) σ H Q) : tNotV (tEv K cl W a) σ H Q := by
  obtain ⟨T, ow, g, F, h⟩ := h
  refine ⟨T, ow, g, F, ?_⟩
  simp only [ev] at h
  cases e1 : ev cl false a g with
  | bad => rw [e1] at h; exact h
  | exc c g' => rw [e1] at h; exact h
  | ok r =>
    rw [e1] at h
    intro T1 ow1 H1 v S q
    obtain ⟨d, f, g2⟩ := r
    simp only [Out.bind] at h
    cases d with
    | bool b =>
      simp only at h
      have hv : v = .bl b := (RV.arg q).bl
      subst hv
      exact ⟨b, rfl, h T1 ow1 H1 _ S (.bl _)⟩
    | _ => exact h.elim
theorem t_not {a : Ex} {Q : Bool → Hp → Prop} (h : tTs K cl W (.not a) σ H Q) : tNot (tTs K cl W a) σ H Q := by
  obtain ⟨T, ow, g, F, h⟩ := h
  refine ⟨T, ow, g, F, ?_⟩
  simp only [ev] at h
  cases e1 : ev cl true a g with
  | bad => rw [e1] at h; exact h
  | exc c g' => rw [e1] at h; exact h
  | ok r =>
    rw [e1] at h
    intro T1 ow1 H1 S
    obtain ⟨d, f, g2⟩ := r
    simp only [Out.bind] at h
    cases d with
    | bool b =>
      simp only at h
      obtain ⟨b', eb, hq⟩ := h T1 ow1 H1 S
      cases eb
      exact ⟨b, rfl, hq⟩
    | _ => exact h.elim
theorem n_and {a b : Ex} {Q : VK} (h : tEv K cl W (.and a b) σ H Q) : tAndV (tEv K cl W a) (tEv K cl W b) σ H Q := by
  obtain ⟨T, ow, g, F, h⟩ := h
  refine ⟨T, ow, g, F, ?_⟩
  simp only [ev] at h
  cases e1 : ev cl false a g with
  | bad => rw [e1] at h; exact h
  | exc c g' => rw [e1] at h; exact h
  | ok r =>
    rw [e1] at h
    intro T1 ow1 H1 v S q
    obtain ⟨d, f, g2⟩ := r
    simp only [Out.bind] at h
    cases d with
    | bool k =>
      have hv : v = .bl k := (RV.arg q).bl
      subst hv
      refine ⟨k, rfl, ?_⟩
      cases k with
      | false => exact h T1 ow1 H1 _ S (.bl _)
      | true =>
        simp only at h
        rw [if_pos rfl]
        refine ⟨T1, ow1, g2, S.fr, ?_⟩
        cases e2 : ev cl false b g2 with
        | bad => rw [e2] at h; exact h
        | exc c g' => rw [e2] at h; exact fun T2 ow2 H2 S2 => h T2 ow2 H2 (S.trans S2)
        | ok r2 =>
          rw [e2] at h
          intro T2 ow2 H2 v2 S2 q2
          obtain ⟨d2, f2, g3⟩ := r2
          simp only [Out.bind] at h
          cases d2 with
          | bool k2 =>
            have hv2 : v2 = .bl k2 := (RV.arg q2).bl
            subst hv2
            exact h T2 ow2 H2 _ (S.trans S2) (.bl _)
          | _ => exact h.elim
    | _ => exact h.elim
theorem n_or {a b : Ex} {Q : VK} (h : tEv K cl W (.or a b) σ H Q) : tOrV (tEv K cl W a) (tEv K cl W b) σ H Q := by
  obtain ⟨T, ow, g, F, h⟩ := h
  refine ⟨T, ow, g, F, ?_⟩
  simp only [ev] at h
  cases e1 : ev cl false a g with
  | bad => rw [e1] at h; exact h
  | exc c g' => rw [e1] at h; exact h
  | ok r =>
    rw [e1] at h
    intro T1 ow1 H1 v S q
    obtain ⟨d, f, g2⟩ := r
    simp only [Out.bind] at h
    cases d with
    | bool k =>
      have hv : v = .bl k := (RV.arg q).bl
      subst hv
      refine ⟨k, rfl, ?_⟩
      cases k with
      | true => exact h T1 ow1 H1 _ S (.bl _)
      | false =>
        simp only at h
        rw [if_neg (by simp)]
        refine ⟨T1, ow1, g2, S.fr, ?_⟩
        cases e2 : ev cl false b g2 with
        | bad => rw [e2] at h; exact h
        | exc c g' => rw [e2] at h; exact fun T2 ow2 H2 S2 => h T2 ow2 H2 (S.trans S2)
        | ok r2 =>
          rw [e2] at h
          intro T2 ow2 H2 v2 S2 q2
          obtain ⟨d2, f2, g3⟩ := r2
          simp only [Out.bind] at h
          cases d2 with
          | bool k2 =>
            have hv2 : v2 = .bl k2 := (RV.arg q2).bl
            subst hv2
            exact h T2 ow2 H2 _ (S.trans S2) (.bl _)
          | _ => exact h.elim
    | _ => exact h.elim
theorem t_and {a b : Ex} {Q : Bool → Hp → Prop} (h : tTs K cl W (.and a b) σ H Q) : tAnd (tTs K cl W a) (tTs K cl W b) σ H Q := by
  obtain ⟨T, ow, g, F, h⟩ := h
  refine ⟨T, ow, g, F, ?_⟩
  simp only [ev] at h
  cases e1 : ev cl true a g with
  | bad => rw [e1] at h; exact h
  | exc c g' => rw [e1] at h; exact h
  | ok r =>
    rw [e1] at h
    intro T1 ow1 H1 S
    obtain ⟨d, f, g2⟩ := r
    simp only [Out.bind] at h
    cases d with
    | bool k =>
      refine ⟨k, rfl, ?_⟩
      cases k with
      | false =>
        obtain ⟨b', eb, hq⟩ := h T1 ow1 H1 S
        cases eb
        exact hq
      | true =>
        simp only at h
        rw [if_pos rfl]
        refine ⟨T1, ow1, g2, S.fr, ?_⟩
        cases e2 : ev cl true b g2 with
        | bad => rw [e2] at h; exact h
        | exc c g' => rw [e2] at h; exact fun T2 ow2 H2 S2 => h T2 ow2 H2 (S.trans S2)
        | ok r2 =>
          rw [e2] at h
          intro T2 ow2 H2 S2
          obtain ⟨d2, f2, g3⟩ := r2
          simp only [Out.bind] at h
          cases d2 with
          | bool k2 =>
            obtain ⟨b', eb, hq⟩ := h T2 ow2 H2 (S.trans S2)
            cases eb
            exact ⟨_, rfl, hq⟩
          | _ => exact h.elim
    | _ => exact h.elim
theorem t_or {a b : Ex} {Q : Bool → Hp → Prop} (h : tTs K cl W (.or a b) σ H Q) : tOr (tTs K cl W a) (tTs K cl W b) σ H Q := by
  obtain ⟨T, ow, g, F, h⟩ := h
  refine ⟨T, ow, g, F, ?_⟩
  simp only [ev] at h
  cases e1 : ev cl true a g with
  | bad => rw [e1] at h; exact h
  | exc c g' => rw [e1] at h; exact h
  | ok r =>
    rw [e1] at h
    intro T1 ow1 H1 S
    obtain ⟨d, f, g2⟩ := r
    simp only [Out.bind] at h
    cases d with
    | bool k =>
      refine ⟨k, rfl, ?_⟩
      cases k with
      | true =>
        obtain ⟨b', eb, hq⟩ := h T1 ow1 H1 S
        cases eb
        exact hq
      | false =>
        simp only at h
        rw [if_neg (by simp)]
        refine ⟨T1, ow1, g2, S.fr, ?_⟩
        cases e2 : ev cl true b g2 with
        | bad => rw [e2] at h; exact h
        | exc c g' => rw [e2] at h; exact fun T2 ow2 H2 S2 => h T2 ow2 H2 (S.trans S2)
        | ok r2 =>
          rw [e2] at h
          intro T2 ow2 H2 S2
          obtain ⟨d2, f2, g3⟩ := r2
          simp only [Out.bind] at h
          cases d2 with
          | bool k2 =>
            obtain ⟨b', eb, hq⟩ := h T2 ow2 H2 (S.trans S2)
            cases eb
            exact ⟨_, rfl, hq⟩
          | _ => exact h.elim
    | _ => exact h.elim
theorem n_ite {c a b : Ex} {Q : VK} (h : tEv K cl W (.ite c a b) σ H Q) : tIf (tTs K cl W c) (tEv K cl W a) (tEv K cl W b) σ H Q := by
  obtain ⟨T, ow, g, F, h⟩ := h
  refine ⟨T, ow, g, F, ?_⟩
  simp only [ev] at h
  cases e1 : ev cl true c g with
  | bad => rw [e1] at h; exact h
  | exc c g' => rw [e1] at h; exact h
  | ok r =>
    rw [e1] at h
    intro T1 ow1 H1 S
    obtain ⟨d, f, g2⟩ := r
    simp only [Out.bind] at h
    cases d with
    | bool k =>
      refine ⟨k, rfl, ?_⟩
      cases k with
      | true =>
        rw [if_pos rfl]
        refine ⟨T1, ow1, g2, S.fr, ?_⟩
        simp only at h
        cases e2 : ev cl false a g2 with
        | bad => rw [e2] at h; exact h
        | exc c g' => rw [e2] at h; exact fun T2 ow2 H2 S2 => h T2 ow2 H2 (S.trans S2)
        | ok r2 => rw [e2] at h; exact fun T2 ow2 H2 v S2 q => h T2 ow2 H2 v (S.trans S2) (q.old fun c n => S.back n)
      | false =>
        rw [if_neg (by simp)]
        refine ⟨T1, ow1, g2, S.fr, ?_⟩
        simp only at h
        cases e2 : ev cl false b g2 with
        | bad => rw [e2] at h; exact h
        | exc c g' => rw [e2] at h; exact fun T2 ow2 H2 S2 => h T2 ow2 H2 (S.trans S2)
        | ok r2 => rw [e2] at h; exact fun T2 ow2 H2 v S2 q => h T2 ow2 H2 v (S.trans S2) (q.old fun c n => S.back n)
    | _ => exact h.elim
/-- a test that is chosen by a test -/
def tIfT (c a b : TT) : TT := fun σ H Q => c σ H fun k H1 => if k = true then a σ H1 Q else b σ H1 Q
theorem t_ite {c a b : Ex} {Q : Bool → Hp → Prop} (h : tTs K cl W (.ite c a b) σ H Q) : tIfT (tTs K cl W c) (tTs K cl W a) (tTs K cl W b) σ H Q := by
  obtain ⟨T, ow, g, F, h⟩ := h
  refine ⟨T, ow, g, F, ?_⟩
  simp only [ev] at h
  cases e1 : ev cl true c g with
  | bad => rw [e1] at h; exact h
  | exc c g' => rw [e1] at h; exact h
  | ok r =>
    rw [e1] at h
    intro T1 ow1 H1 S
    obtain ⟨d, f, g2⟩ := r
    simp only [Out.bind] at h
    cases d with
    | bool k =>
      refine ⟨k, rfl, ?_⟩
      cases k with
      | true =>
        rw [if_pos rfl]
        refine ⟨T1, ow1, g2, S.fr, ?_⟩
        simp only at h
        cases e2 : ev cl true a g2 with
        | bad => rw [e2] at h; exact h
        | exc c g' => rw [e2] at h; exact fun T2 ow2 H2 S2 => h T2 ow2 H2 (S.trans S2)
        | ok r2 => rw [e2] at h; exact fun T2 ow2 H2 S2 => h T2 ow2 H2 (S.trans S2)
      | false =>
        rw [if_neg (by simp)]
        refine ⟨T1, ow1, g2, S.fr, ?_⟩
        simp only at h
        cases e2 : ev cl true b g2 with
        | bad => rw [e2] at h; exact h
        | exc c g' => rw [e2] at h; exact fun T2 ow2 H2 S2 => h T2 ow2 H2 (S.trans S2)
        | ok r2 => rw [e2] at h; exact fun T2 ow2 H2 S2 => h T2 ow2 H2 (S.trans S2)
    | _ => exact h.elim
end
theorem pt_ifExp {X : Cx} {c a b : Expr} {tc ta tb : TT} {pos : Pos} (hc : PT X c tc) (ha : PT X a ta) (hb : PT X b tb) : PT X (.IfExp c a b pos) (tIfT tc ta tb) := by
  refine ⟨fun pins s σ H Q I h => ?_⟩
  show wpAny _ _ (do if ← isTrue c X.env (eval c X.env) then isTrue a X.env (eval a X.env) else isTrue b X.env (eval b X.env)) _ _ s
  refine wpAny_bind (thn (hc.run pins s σ H _ I h) fun k s1 ⟨H1, I1, q⟩ => ?_)
  cases k with
  | true => exact ha.run pins s1 σ H1 _ I1 q
  | false => exact hb.run pins s1 σ H1 _ I1 q
end Ev

end

-- EvSdC
section
/-! Ev: soundness, chains and methods. -/
namespace Ev
open PySem PySem.Spec PyProof.Rows L2

section
variable {K : PySem.W.Frag} {cl : Call} {W : Nat → L2.St → Hp → Prop} {σ : L2.St} {H : Hp}
theorem vl_cases (x : Option Nat) (r : Out Gm (D × Bool × Gm)) (g : Gm) : True := trivial
/-- a op1 b op2 c -/
theorem n_chn {a b c : Ex} {p1 p2 : Pr} {Q : VK} (hb2 : boolP p2) (h : tEv K cl W (.chn a [p1, p2] [b, c]) σ H Q) : tChain (rPr2 K (pr p1)) (rPr2 K (pr p2)) (tVl K cl W a) (tVl K cl W b) (tVl K cl W c) σ H Q := by
  obtain ⟨T, ow, g, F, h⟩ := h
  refine ⟨T, ow, g, F, ?_⟩
  simp only [ev, evc] at h
  cases e1 : vl (isBor a) (ev cl false a g) g with
  | bad => rw [e1] at h; exact h
  | exc c g' => rw [e1] at h; exact h
  | ok x =>
    rw [e1] at h
    intro T1 ow1 H1 vx S1 hx
    simp only [Out.bind] at h
    refine ⟨T1, ow1, x.2, S1.fr, ?_⟩
    cases e2 : vl (isBor b) (ev cl false b x.2) x.2 with
    | bad => rw [e2] at h; exact h
    | exc c g' => rw [e2] at h; exact fun T2 ow2 H2 S2 => h T2 ow2 H2 (S1.trans S2)
    | ok y =>
      rw [e2] at h
      intro T2 ow2 H2 vy S2 hy
      simp only [Out.bind] at h
      have hx2 : VR K σ H H2 T2 ow2 vx x.1 := hx.step S1.fr S2
      have hy2 : VR K σ H H2 T2 ow2 vy y.1 := hy.old fun c n => S1.back n
      cases e3 : resAll y.2 [x.1, y.1] with
      | none => rw [e3] at h; exact h.elim
      | some ds =>
        rw [e3] at h
        cases e4 : pr p1 ds with
        | none => simp only [e4, Option.bind] at h
        | some df =>
          obtain ⟨d, f⟩ := df
          simp only [e4, Option.bind] at h
          have S12 := S1.trans S2
          refine ⟨T2 ++ owS ow2, ds, d, f, S2.fr.lv, VRs.args (.cons hx2 (.cons hy2 .nil)) S2.fr e3, e4, fun z H3 k rr => ?_⟩
          cases d with
          | bool bb =>
            cases f with
            | true => obtain ⟨p, _, _, ht, _⟩ := rr; cases ht
            | false =>
            cases (show Rep K H3 (T2 ++ owS ow2) z (.bool bb) from rr)
            refine ⟨bb, rfl, ?_⟩
            have S3 : Step K T2 ow2 y.2 σ H2 T2 ow2 y.2 σ H3 := S2.fr.keepA k
            cases bb with
            | false => exact h T2 ow2 H3 _ (S12.trans S3) (.bl _)
            | true =>
              rw [if_pos rfl]
              simp only [List.isEmpty_cons, Bool.not_false, Bool.and_true, if_true] at h
              refine ⟨T2, ow2, y.2, S3.fr, ?_⟩
              cases e5 : vl (isBor c) (ev cl false c y.2) y.2 with
              | bad => rw [e5] at h; exact h
              | exc c g' => rw [e5] at h; exact fun T4 ow4 H4 S4 => h T4 ow4 H4 ((S12.trans S3).trans S4)
              | ok w =>
                rw [e5] at h
                intro T4 ow4 H4 vw S4 hw
                simp only [Out.bind] at h
                have hy4 : VR K σ H H4 T4 ow4 vy y.1 := (hy2.step S2.fr S3).step S3.fr S4
                have hw4 : VR K σ H H4 T4 ow4 vw w.1 := hw.old fun c n => (S12.trans S3).back n
                cases e6 : resAll w.2 [y.1, w.1] with
                | none => rw [e6] at h; exact h.elim
                | some ds2 =>
                  rw [e6] at h
                  cases e7 : pr p2 ds2 with
                  | none => simp only [e7] at h
                  | some df2 =>
                    obtain ⟨d2, f2⟩ := df2
                    obtain ⟨b2, rfl, rfl⟩ := hb2 _ _ _ e7
                    simp only [e7, List.isEmpty_nil, Bool.not_true, Bool.and_false] at h
                    refine ⟨T4 ++ owS ow4, ds2, _, _, S4.fr.lv, VRs.args (.cons hy4 (.cons hw4 .nil)) S4.fr e6, e7, fun z2 H5 k5 rr5 => ?_⟩
                    exact h T4 ow4 H5 z2 (((S12.trans S3).trans S4).trans (S4.fr.keepA k5)) rr5
          | _ => exact h.elim
theorem t_chn {a b c : Ex} {p1 p2 : Pr} {Q : Bool → Hp → Prop} (hb2 : boolP p2) (h : tTs K cl W (.chn a [p1, p2] [b, c]) σ H Q) : tTest (tChain (rPr2 K (pr p1)) (rPr2 K (pr p2)) (tVl K cl W a) (tVl K cl W b) (tVl K cl W c)) σ H Q := by
  refine n_chn hb2 ?_
  obtain ⟨T, ow, g, F, h⟩ := h
  refine ⟨T, ow, g, F, ?_⟩
  have e : ev cl true (.chn a [p1, p2] [b, c]) g = ev cl false (.chn a [p1, p2] [b, c]) g := by simp only [ev]
  rw [e] at h
  -- a chain's answer is a truth value
  have hbool : ∀ r, ev cl false (.chn a [p1, p2] [b, c]) g = .ok r → ∃ k, r.1 = .bool k ∧ r.2.1 = false := by
    intro r hr
    simp only [ev, evc] at hr
    cases e1 : vl (isBor a) (ev cl false a g) g with
    | bad => rw [e1] at hr; cases hr
    | exc c g' => rw [e1] at hr; cases hr
    | ok x =>
      rw [e1] at hr
      simp only [Out.bind] at hr
      cases e2 : vl (isBor b) (ev cl false b x.2) x.2 with
      | bad => rw [e2] at hr; cases hr
      | exc c g' => rw [e2] at hr; cases hr
      | ok y =>
        rw [e2] at hr
        simp only [Out.bind] at hr
        cases e3 : (resAll y.2 [x.1, y.1]).bind (pr p1) with
        | none => rw [e3] at hr; cases hr
        | some df =>
          rw [e3] at hr
          obtain ⟨d, f⟩ := df
          cases d with
          | bool bb =>
            cases bb with
            | false => cases hr; exact ⟨_, rfl, rfl⟩
            | true =>
              simp only [List.isEmpty_cons, Bool.not_false, Bool.and_true, if_true] at hr
              cases e5 : vl (isBor c) (ev cl false c y.2) y.2 with
              | bad => rw [e5] at hr; cases hr
              | exc c g' => rw [e5] at hr; cases hr
              | ok w =>
                rw [e5] at hr
                simp only [Out.bind] at hr
                cases e6 : (resAll w.2 [y.1, w.1]).bind (pr p2) with
                | none => rw [e6] at hr; cases hr
                | some df2 =>
                  rw [e6] at hr
                  obtain ⟨d2, f2⟩ := df2
                  cases d2 with
                  | bool b2 =>
                    simp only [List.isEmpty_nil, Bool.not_true, Bool.and_false] at hr
                    cases hr; exact ⟨_, rfl, rfl⟩
                  | _ => cases hr
          | _ => cases hr
  cases e1 : ev cl false (.chn a [p1, p2] [b, c]) g with
  | bad => rw [e1] at h; exact h
  | exc c g' => rw [e1] at h; exact h
  | ok r =>
    rw [e1] at h
    intro T1 ow1 H1 v S q
    obtain ⟨k, e2, e3⟩ := hbool r e1
    rw [e2, e3] at q
    obtain ⟨b, eb, hq⟩ := h T1 ow1 H1 S
    rw [e2] at eb
    cases eb
    cases (show Rep K H1 (T1 ++ owS ow1) v (.bool k) from q)
    exact ⟨k, rfl, hq⟩

/-! ### methods that only look -/
def tMt (K : PySem.W.Frag) (cl : Call) (W : Nat → L2.St → Hp → Prop) (p : Pr) (a : Ex) (es : List Ex) : TE := fun σ H Q => tVl K cl W a σ H fun x H1 => ∃ S d1, (∀ b ∈ S, LiveM H1 b) ∧ ArgR K H1 S x d1 ∧ mtOk p d1 = true ∧
  tArgs K cl W es σ H1 fun vs H2 => ∃ d2, tag d1 = tag d2 ∧ ∃ S2 ds d f, (∀ b ∈ S2, LiveM H2 b) ∧ Paired (ArgR K H2 S2) (x :: vs) (d2 :: ds) ∧ pr p (d2 :: ds) = some (d, f) ∧ ∀ v H', KeepA H2 H' → ResR K H2 H' S2 v d f → Q v H'
theorem n_mt {p : Pr} {a : Ex} {es : List Ex} {Q : VK} (h : tEv K cl W (.mt p a es) σ H Q) : tMt K cl W p a es σ H Q := by
  obtain ⟨T, ow, g, F, h⟩ := h
  refine ⟨T, ow, g, F, ?_⟩
  simp only [ev] at h
  cases e1 : vl (isBor a) (ev cl false a g) g with
  | bad => rw [e1] at h; exact h
  | exc c g' => rw [e1] at h; exact h
  | ok x =>
    rw [e1] at h
    intro T1 ow1 H1 vx S1 hx
    simp only [Out.bind] at h
    cases e2 : x.1.res x.2 with
    | none => rw [e2] at h; exact h.elim
    | some d1 =>
      rw [e2] at h
      simp only at h
      by_cases hmt : mtOk p d1 = true
      case neg => rw [if_neg hmt] at h; exact h.elim
      rw [if_pos hmt] at h
      refine ⟨T1 ++ owS ow1, d1, S1.fr.lv, hx.arg S1.fr e2, hmt, T1, ow1, x.2, S1.fr, ?_⟩
      cases e3 : evs cl es x.2 with
      | bad => rw [e3] at h; exact h
      | exc c g' => rw [e3] at h; exact fun T2 ow2 H2 S2 => h T2 ow2 H2 (S1.trans S2)
      | ok r =>
        rw [e3] at h
        intro T2 ow2 H2 vs S2 hv
        simp only [Out.bind] at h
        cases e4 : resAll r.2 (x.1 :: r.1) with
        | none => rw [e4] at h; exact h.elim
        | some dss =>
          rw [e4] at h
          cases dss with
          | nil => exact h.elim
          | cons d2 ds =>
            simp only at h
            by_cases ht : (tag d1 == tag d2) = true
            case neg => rw [if_neg ht] at h; exact h.elim
            rw [if_pos ht] at h
            cases e5 : pr p (d2 :: ds) with
            | none => rw [e5] at h; exact h.elim
            | some df =>
              rw [e5] at h
              obtain ⟨d, f⟩ := df
              simp only [fin] at h
              have hx2 : VR K σ H H2 T2 ow2 vx x.1 := hx.step S1.fr S2
              have hv2 : Paired (VR K σ H H2 T2 ow2) vs r.1 := Paired.mapP hv.all fun _ _ z => z.old fun c n => S1.back n
              refine ⟨d2, eq_of_beq ht, T2 ++ owS ow2, ds, d, f, S2.fr.lv, VRs.args (.cons hx2 hv2) S2.fr e4, e5, fun v H3 k rr => ?_⟩
              obtain ⟨T3, S3, q⟩ := res_step (S1.trans S2) k rr
              exact h T3 ow2 H3 v S3 q
end

/-! ### the text of calls -/
theorem starEach_cons {e : Expr} {es : List Expr} {env : Env} (h : isStar e = false) : starEach (e :: es) env = (false, eval e env) :: starEach es env := by
  cases e <;> first | rfl | cases h
theorem notStars_cons {e : Expr} {es : List Expr} (h : notStars (e :: es) = true) : isStar e = false ∧ notStars es = true := by
  unfold notStars at h ⊢
  rw [List.all_cons, Bool.and_eq_true] at h
  exact ⟨by simpa using h.1, h.2⟩
theorem starEach_plain : ∀ {es : List Expr} {env : Env}, notStars es = true → starEach es env = es.map fun e => (false, eval e env)
  | [], _, _ => rfl
  | e :: es, env, h => by
    obtain ⟨h1, h2⟩ := notStars_cons h
    rw [starEach_cons h1, starEach_plain h2]; rfl
theorem backTo_plain {es : List Expr} {env : Env} {pos : Pos} (h : notStars es = true) : backTo pos (starEach es env) = es.map fun e => (false, eval e env) := by
  rw [starEach_plain h]
  unfold backTo
  rw [List.map_map]
  rfl
theorem back_any {es : List Expr} {env : Env} {pos : Pos} (h : notStars es = true) : (backTo pos (starEach es env)).any (·.1) = false := by
  rw [backTo_plain h]
  induction es with
  | nil => rfl
  | cons e es ih => rw [List.map_cons, List.any_cons, ih (notStars_cons h).2]; rfl
theorem few_ok {es : List Expr} {env : Env} {pos : Pos} (h : notStars es = true) (hl : es.length < 30) : ((backTo pos (starEach es env)).all (fun x => !x.1) && (backToKw pos (keywordEach [] env)).all (fun x => x.1.isSome)
      && decide (es.length + ([] : List Keyword).length + (if ([] : List Keyword).isEmpty then 0 else 1) < 30)) = true := by
  rw [backTo_plain h]
  have e1 : (es.map fun e => ((false, eval e env) : Bool × Sem Value)).all (fun x => !x.1) = true := by
    rw [List.all_map]
    simp
  rw [e1]
  have e2 : (backToKw pos (keywordEach [] env)) = [] := rfl
  rw [e2]
  simp [hl]
theorem base_ok {o : Expr} {x : Str} {env : Env} (h : okBase o = true) : attributeBase o x env (eval o env) = eval o env := by
  unfold attributeBase
  cases o with
  | Call f es ks p =>
    cases f <;> first
      | rfl
      | (cases es <;> first | rfl | cases h)
  | _ => rfl
theorem pa_go {X : Cx} {cl : Call} {W : Nat → L2.St → Hp → Prop} : ∀ {es : List Expr} {exs : List Ex}, notStars es = true → Paired (fun e x => PE X e (tVl X.K cl W x)) es exs → PA X es (tArgs X.K cl W exs)
  | [], _, _, .nil => PA.imp pa_nil fun σ H Q h => tArgs_nil h
  | e :: es, _, hs, .cons r t => PA.imp (pa_cons r (pa_go (notStars_cons hs).2 t) (starEach_cons (notStars_cons hs).1)) fun σ H Q h => tArgs_cons h
section
variable {X : Cx} {pins : List (Addr × Obj)} {σ : L2.St} {H : Hp} {s : Shared}
/-- a list, a text, a dict: what a method call asks of its object -/
theorem meth_obj {S : List Addr} {v : V} {d : D} {u : Value} (h : ArgR X.K H S v d) (I : L2.Inv X pins σ H s) (r : RelV v u) (hm : tag d = 3 ∨ tag d = 4 ∨ tag d = 6) : s.TypeIs u (ofTag d) ∧ ∀ a, u = .ref a → ∃ ob, s.heap.get? a = some ob ∧ ob.dict = none := by
  cases d with
  | str x =>
    rw [h.str.1] at r
    obtain ⟨t, rfl⟩ := r
    exact ⟨typeIs_str s x t, fun _ e => nomatch e⟩
  | list xs =>
    obtain ⟨a, vs, e, h1, _, _⟩ := h.list
    subst e
    cases r
    obtain ⟨its, n, _, _, e⟩ := Ev.Inv.rdL I h1
    exact ⟨⟨_, e, rfl⟩, fun b eb => by cases eb; exact ⟨_, e, rfl⟩⟩
  | dict kv =>
    obtain ⟨a, e, hd⟩ := h.dict
    subst e
    cases r
    rcases hd with ⟨kvs, es, r, _⟩ | ⟨kvs, es, r, _⟩
    · obtain ⟨_, _, _, _, o, _, _, h1, h2, _⟩ := dk_rd I.hok r
      exact ⟨⟨o, h1, h2.1⟩, fun b eb => by cases eb; exact ⟨o, h1, h2.2.1⟩⟩
    · obtain ⟨_, _, _, _, o, _, _, h1, h2, _⟩ := dt_rd I.hok r
      exact ⟨⟨o, h1, h2.1⟩, fun b eb => by cases eb; exact ⟨o, h1, h2.2.1⟩⟩
  | _ => simp [tag] at hm
end
section
variable {X : Cx} {cl : Call} {W : Nat → L2.St → Hp → Prop}
/-- o.m(..), m of one built-in type -/
theorem pe_mt {o e : Expr} {es : List Expr} {name : Str} {apos pos : Pos} {p : Pr} {a : Ex} {exs : List Ex} (sel : ∀ d, mtOk p d = true → ∃ T id pq, PlainAttrs T ∧ Slot T name id ∧ typeOf (.builtin id) = pure (.type "method_descriptor") ∧ CallR X (.builtin id) (rPr X.K pq) ∧ ofTag d = T ∧ (tag d = 3 ∨ tag d = 4 ∨ tag d = 6) ∧ ∀ d2 ds, tag d = tag d2 → pr p (d2 :: ds) = pq (d2 :: ds)) (ho : PE X o (tVl X.K cl W a)) (ha : PA X (e :: es) (tArgs X.K cl W exs)) (hs : notStars (e :: es) = true) (hl : (e :: es).length < 30) (hb : okBase o = true) (hline : (apos.endLine == pos.line) = true) :
    PE X (.Call (.Attribute o name apos) (e :: es) [] pos) (tEv X.K cl W (.mt p a exs)) := by
  refine PE.imp (t := tMt X.K cl W p a exs) ⟨fun pins s σ H Q I h => ?_⟩ fun σ H Q h => n_mt h
  refine wpAny_Call_method_late (base_ok hb) (few_ok hs hl) hline rfl (thn (ho.run pins s σ H _ I h) fun v s1 ⟨x, H1, I1, r1, S, d1, hS, har, hmt, hq⟩ => ?_)
  have hA := ha.run pos pins s1 σ H1 _ I1 hq
  obtain ⟨T, id, pq, pa, slot, hty, hm, t1, t2, hpq⟩ := sel d1 hmt
  obtain ⟨m1, m2⟩ := meth_obj har I1 r1 t2
  rw [t1] at m1
  refine ⟨T, id, pa, slot, hty, m1, m2, ?_⟩
  rw [starEach_cons (notStars_cons hs).1] at hA ⊢
  refine Calls.callWith_builtin (by show (false || (backTo pos (starEach es X.env)).any (·.1)) = false; rw [back_any (notStars_cons hs).2]; rfl) (Calls.evalArgs_plain ?_)
  exact thn hA fun us s2 ⟨vs, H2, I2, r2, d2, et, S2, ds, d, f, hS2, hp, hpr, hq2⟩ => hm pins s2 σ H2 (x :: vs) (v :: us) Q I2 (.cons r1 r2) ⟨S2, d2 :: ds, d, f, hS2, hp, (hpq d2 ds et).symm.trans hpr, hq2⟩
theorem reps_strs {K : PySem.W.Frag} {H : Hp} {S : List Addr} : ∀ {vs : List V} {ds : List D} {ns : List Str}, Reps K H S vs ds → strsOf ds = some ns → vs = ns.map V.str
  | _, _, _, .nil, e => by cases e; rfl
  | _, d :: ds, ns, .cons a r, e => by
    unfold strsOf at e
    split at e
    · rename_i e'; cases e'
    · rename_i e'
      cases e'
      cases a
      cases e1 : strsOf ds with
      | none => rw [e1] at e; cases e
      | some ms =>
        rw [e1] at e; cases e
        rw [reps_strs r e1]; rfl
    · cases e
theorem k_join : CallR X (.builtin "str.join") (rPr X.K prJoin) := by
  intro pins s σ H xs us Q I r ⟨S, ds, d, f, hS, ha, hp, q⟩
  unfold prJoin at hp
  split at hp
  · rename_i sep dl
    cases ha with | cons a ha => cases ha with | cons b ha =>
    cases ha
    rename_i v1 v2
    cases e : lotD dl with
    | none => rw [e] at hp; cases hp
    | some ys =>
      rw [e] at hp
      simp only [Option.bind] at hp
      cases e2 : strsOf ys with
      | none => rw [e2] at hp; cases hp
      | some ss =>
        rw [e2] at hp
        simp only at hp
        split at hp
        · rename_i hc
          rw [Bool.and_eq_true] at hc
          cases hp
          obtain ⟨a1, vs, e1, l1, q1, hk⟩ := lotD_of b e
          have ev : vs = ss.map V.str := by
            exact reps_strs q1 e2
          obtain ⟨u, w', rfl, ru, rw'⟩ := vals2 r
          have h1 := line_le hc.1
          rw [sizeLine_eq] at h1
          refine mt_join pins s σ H v1 [v2] u [w'] Q I ru (.cons rw' .nil) ⟨sep, a1, ss, a.str.1, by rw [e1], ?_, h1, q _ H (KeepA.refl H) (.str (line_le hc.2))⟩
          subst ev
          rcases hk with ⟨_, hk⟩ | ⟨_, hk⟩
          · exact .inl (.inl hk)
          · exact .inr hk.sq
        · cases hp
  · cases hp
theorem countIn_cnt (c : Nat) : ∀ xs : List Nat, Spec.countIn (.str ⟨#[c]⟩) (xs.map fun n => PyData.str ⟨#[n]⟩) = (xs.count c : Nat)
  | [] => rfl
  | x :: xs => by
    have ih := countIn_cnt c xs
    rw [List.map_cons, List.count_cons]
    unfold Spec.countIn
    rw [ih]
    have e : Spec.same (PyData.str ⟨#[x]⟩) (PyData.str ⟨#[c]⟩) = decide (x = c) := by
      by_cases h : x = c
      · subst h; simp [Spec.same]
      · simp [Spec.same, h]
    rw [e]
    by_cases h : x = c
    · subst h; simp
      exact Int.add_comm _ _
    · simp [h]
theorem cnt_count (c : Nat) (xs : List Nat) : PyProof.Rows.cnt c xs = (xs.count c : Nat) := countIn_cnt c xs
theorem k_countS : CallR X (.builtin "str.count") (rPr X.K prCountS) := by
  intro pins s σ H xs us Q I r ⟨S, ds, d, f, hS, ha, hp, q⟩
  unfold prCountS at hp
  split at hp
  · rename_i x c
    cases ha with | cons a ha => cases ha with | cons b ha =>
    cases ha
    rename_i v1 v2
    obtain ⟨u, w', rfl, ru, rw'⟩ := vals2 r
    unfold cntS at hp
    split at hp
    · rename_i k hk
      cases hp
      have ec : c = ⟨#[k]⟩ := by
        obtain ⟨cs⟩ := c
        have : cs.toList = [k] := hk
        congr 1
        rw [← Array.toArray_toList (xs := cs), this]
      refine mt_count pins s σ H v1 [v2] u [w'] Q I ru (.cons rw' .nil) ⟨x, c, a.str.1, by rw [b.str.1], ?_⟩
      have e : Txt.count x c = ((x.cps.toList.count k : Nat) : Int) := by rw [ec, PyProof.Rows.count_cnt, cnt_count]
      rw [e]
      exact q _ H (KeepA.refl H) (.int _)
    · cases hp
  · cases hp
end
end Ev

end

-- EvSdD
section
/-! Ev: soundness, changing methods and comprehensions. -/
namespace Ev
open PySem PySem.Spec PyProof.Rows L2

/-! ### methods that change their object -/
def tMu (K : PySem.W.Frag) (cl : Call) (W : Nat → L2.St → Hp → Prop) (m : Mu) (i : Nat) (es : List Ex) : TE := fun σ H Q => ∃ v S d1, σ[i]? = some (some v) ∧ (∀ b ∈ S, LiveM H b) ∧ ArgR K H S v d1 ∧ muTag m = tag d1 ∧ tArgs K cl W es σ H fun vs H2 => rMu K m (v :: vs) H2 Q
section
variable {X : Cx} {cl : Call} {W : Nat → L2.St → Hp → Prop}
theorem n_mu {K : PySem.W.Frag} {m : Mu} {i : Nat} {es : List Ex} {σ : L2.St} {H : Hp} {Q : VK} (h : tEv K cl W (.mu m i es) σ H Q) : tMu K cl W m i es σ H Q := by
  obtain ⟨T, ow, g, F, h⟩ := h
  simp only [ev] at h
  cases e0 : slotD g i with
  | none => rw [e0] at h; exact h.elim
  | some d0 =>
    rw [e0] at h
    simp only at h
    by_cases ht : (muTag m == tag d0) = true
    case neg => rw [if_neg ht] at h; exact h.elim
    rw [if_pos ht] at h
    obtain ⟨v0, ev0, ar0⟩ := F.slot e0
    refine ⟨v0, T ++ owS ow, d0, ev0, F.lv, ar0, eq_of_beq ht, T, ow, g, F, ?_⟩
    cases e1 : evs cl es g with
    | bad => rw [e1] at h; exact h
    | exc c g' => rw [e1] at h; exact h
    | ok r =>
      rw [e1] at h
      intro T1 ow1 H1 vs S1 hv
      simp only [Out.bind] at h
      have S2 := S1.toT F
      -- the slot's object is alone ours
      have key : ∀ (d : D) (md : Md) (ds : List D) (x d' : D), (md = .own ∨ md = .prm) → r.2[i]? = some (some ⟨d, md⟩) → keepAll r.1 = some ds → mu m d ds = some (x, d') →
          (∀ T' ow' H' v, Step K T ow g σ H T' ow' (r.2.set i (some ⟨d', md⟩)) σ H' → RV K H H' T' ow' v x false → Q v H') → rMu K m (v0 :: vs) H1 Q := by
        intro d md ds x d' hmd eg ek em hQ
        obtain ⟨v, oa, w1, w2, w3⟩ := S2.fr.sl i _ eg
        rw [ev0] at w1; cases w1
        have w3' : ∃ a, oa = some a ∧ v0 = .ref a ∧ Top K H1 (T ++ owS ow1) a d ∧ Mut (H1 a) := by
          rcases hmd with z | z <;> subst z
          · exact w3
          · exact w3
        obtain ⟨a, y1, y2, y3, y4⟩ := w3'
        subst y1; subst y2
        refine ⟨T ++ owS ow1, a, vs, d, ds, x, d', rfl, S2.fr.lv, List.mem_append_right _ (mem_owS.mpr ⟨i, w2⟩), y3, y4, keepAll_args F S1 hv.all ek, em, fun v H' k1 k2 k3 k4 => ?_⟩
        exact hQ T ow1 H' v (S2.trans (S2.fr.mutate hmd eg w2 k1 k3 k4)) k2
      cases ek : keepAll r.1 with
      | none => rw [ek] at h; cases eg : r.2[i]? with
        | none => rw [eg] at h; exact h.elim
        | some o =>
          rw [eg] at h
          rcases o with _ | ⟨d, md⟩
          · exact h.elim
          · cases md <;> exact h.elim
      | some ds =>
        rw [ek] at h
        cases eg : r.2[i]? with
        | none => rw [eg] at h; exact h.elim
        | some o =>
          rw [eg] at h
          rcases o with _ | ⟨d, md⟩
          · exact h.elim
          · cases md with
            | frz => exact h.elim
            | lck => exact h.elim
            | own =>
              cases em : mu m d ds with
              | none => simp only [em] at h
              | some xd => simp only [em] at h; exact key d .own ds xd.1 xd.2 (.inl rfl) eg ek em h
            | prm =>
              cases em : mu m d ds with
              | none => simp only [em] at h
              | some xd => simp only [em] at h; exact key d .prm ds xd.1 xd.2 (.inr rfl) eg ek em h
variable {o e : Expr} {es : List Expr} {name : Str} {apos pos : Pos} {m : Mu} {i : Nat} {exs : List Ex} {T id : String}
theorem pe_mu (pa : PlainAttrs T) (slot : Slot T name id) (hty : typeOf (.builtin id) = pure (.type "method_descriptor")) (hm : CallR X (.builtin id) (rMu X.K m))
    (ht : ∀ d, muTag m = tag d → ofTag d = T ∧ (tag d = 3 ∨ tag d = 4 ∨ tag d = 6)) (ho : PE X o (tVar i)) (ha : PA X (e :: es) (tArgs X.K cl W exs)) (hs : notStars (e :: es) = true) (hl : (e :: es).length < 30) (hb : okBase o = true) (hline : (apos.endLine == pos.line) = true) :
    PE X (.Call (.Attribute o name apos) (e :: es) [] pos) (tEv X.K cl W (.mu m i exs)) := by
  refine PE.imp (t := tMu X.K cl W m i exs) ⟨fun pins s σ H Q I h => ?_⟩ fun σ H Q h => n_mu h
  obtain ⟨v0, S, d1, ev0, hS, har, hmt, hq⟩ := h
  refine wpAny_Call_method_late (base_ok hb) (few_ok hs hl) hline rfl (thn (ho.run pins s σ H (fun v H1 => v = v0 ∧ H1 = H) I ⟨v0, ev0, rfl, rfl⟩) fun v s1 ⟨x, H1, I1, r1, ex, eH⟩ => ?_)
  subst ex; subst eH
  have hA := ha.run pos pins s1 σ H1 _ I1 hq
  obtain ⟨t1, t2⟩ := ht d1 hmt
  obtain ⟨m1, m2⟩ := meth_obj har I1 r1 t2
  rw [t1] at m1
  refine ⟨T, id, pa, slot, hty, m1, m2, ?_⟩
  rw [starEach_cons (notStars_cons hs).1] at hA ⊢
  refine Calls.callWith_builtin (by show (false || (backTo pos (starEach es X.env)).any (·.1)) = false; rw [back_any (notStars_cons hs).2]; rfl) (Calls.evalArgs_plain ?_)
  exact thn hA fun us s2 ⟨vs, H2, I2, r2, hr⟩ => hm pins s2 σ H2 (x :: vs) (v :: us) Q I2 (.cons r1 r2) hr
theorem pe_mu0 (pa : PlainAttrs T) (slot : Slot T name id) (hty : typeOf (.builtin id) = pure (.type "method_descriptor")) (hm : CallR X (.builtin id) (rMu X.K m))
    (ht : ∀ d, muTag m = tag d → ofTag d = T ∧ (tag d = 3 ∨ tag d = 4 ∨ tag d = 6)) (ho : PE X o (tVar i)) (hb : okBase o = true) (hline : (apos.endLine == pos.line) = true) :
    PE X (.Call (.Attribute o name apos) [] [] pos) (tEv X.K cl W (.mu m i [])) := by
  refine PE.imp (t := tMu X.K cl W m i []) ⟨fun pins s σ H Q I h => ?_⟩ fun σ H Q h => n_mu h
  obtain ⟨v0, S, d1, ev0, hS, har, hmt, hq⟩ := h
  refine wpAny_Call_method0_late (base_ok hb) hline (thn (ho.run pins s σ H (fun v H1 => v = v0 ∧ H1 = H) I ⟨v0, ev0, rfl, rfl⟩) fun v s1 ⟨x, H1, I1, r1, ex, eH⟩ => ?_)
  subst ex; subst eH
  obtain ⟨t1, t2⟩ := ht d1 hmt
  obtain ⟨m1, m2⟩ := meth_obj har I1 r1 t2
  rw [t1] at m1
  have hr := tArgs_nil hq
  exact ⟨T, id, pa, slot, hty, m1, m2, Calls.callWith_builtin rfl (PySem.evalArgs_none (hm pins s1 σ H1 [x] [v] Q I1 (.cons r1 .nil) hr))⟩
end
end Ev

end

-- EvLc
section
/-! Ev: soundness, targets, what is walked, comprehensions. -/
namespace Ev
open PySem PySem.Spec PyProof.Rows L2

theorem PG.imp {X : Cx} {e : Expr} {t t' : TG} (h : PG X e t) (i : ∀ v σ H Q, t' v σ H Q → t v σ H Q) : PG X e t' := ⟨fun pins s σ H v u Q I r q => h.run pins s σ H v u Q I r (i v σ H Q q)⟩
theorem PGs.imp {X : Cx} {es : List Expr} {t t' : TGs} (h : PGs X es t) (i : ∀ v σ H Q, t' v σ H Q → t v σ H Q) : PGs X es t' := ⟨fun pins s σ H v u Q I r q => h.run pins s σ H v u Q I r (i v σ H Q q)⟩
theorem PI.imp {X : Cx} {tg e : Expr} {t t' : TI} (h : PI X tg e t) (i : ∀ σ H Q, t' σ H Q → t σ H Q) : PI X tg e t' := ⟨fun pins s σ H R I q => h.run pins s σ H R I (i σ H R q)⟩
theorem PE.or {X : Cx} {e : Expr} {t t1 t2 : TE} (h1 : PE X e t1) (h2 : PE X e t2) (i : ∀ σ H Q, t σ H Q → t1 σ H Q ∨ t2 σ H Q) : PE X e t :=
  ⟨fun pins s σ H Q I q => (i σ H Q q).elim (fun q => h1.run pins s σ H Q I q) fun q => h2.run pins s σ H Q I q⟩

/-! ### targets -/
def gEv (K : PySem.W.Frag) (tg : Tg) : TG := fun x σ H Q => ∃ T ow g d g2, FrOk K T ow g σ H ∧ Rep K H (T ++ owS ow) x d ∧ bindT tg d g = some g2 ∧
  ∀ ow' σ', Step K T ow g σ H T ow' g2 σ' H → (∀ own, tgIn tg own = true → ∀ j, j ∉ own → σ'[j]? = σ[j]?) → Q σ' H
def gEvs (K : PySem.W.Frag) (ts : List Tg) : TGs := fun xs σ H Q => ∃ T ow g ds g2, FrOk K T ow g σ H ∧ Reps K H (T ++ owS ow) xs ds ∧ bindTs ts ds g = some g2 ∧
  ∀ ow' σ', Step K T ow g σ H T ow' g2 σ' H → (∀ own, tgsIn ts own = true → ∀ j, j ∉ own → σ'[j]? = σ[j]?) → Q σ' H
section
variable {K : PySem.W.Frag} {σ : L2.St} {H : Hp} {Q : L2.St → Hp → Prop}
theorem g_nm {i : Nat} {x : V} (h : gEv K (.nm i) x σ H Q) : gName i x σ H Q := by
  obtain ⟨T, ow, g, d, g2, F, r, hb, h⟩ := h
  unfold bindT at hb
  split at hb
  · rename_i hf
    cases hb
    refine h _ _ (F.setFrz hf r) fun own hi j hj => ?_
    have hi' : i ∈ own := by
      unfold tgIn at hi
      simpa using hi
    rw [List.getElem?_set_ne (fun (e : i = j) => hj (e ▸ hi'))]
  · cases hb
theorem bindTs_len : ∀ {ts : List Tg} {ds : List D} {g g2 : Gm}, bindTs ts ds g = some g2 → ts.length = ds.length
  | [], [], _, _, _ => rfl
  | [], _ :: _, _, _, h => by unfold bindTs at h; cases h
  | _ :: _, [], _, _, h => by unfold bindTs at h; cases h
  | t :: ts, d :: ds, g, g2, h => by
    unfold bindTs at h
    cases e : bindT t d g with
    | none => rw [e] at h; cases h
    | some g1 =>
      rw [e] at h
      rw [List.length_cons, List.length_cons, bindTs_len (show bindTs ts ds g1 = some g2 from h)]
theorem g_tup {ts : List Tg} {x : V} (h : gEv K (.tup ts) x σ H Q) : gTup K ts.length (gEvs K ts) x σ H Q := by
  obtain ⟨T, ow, g, d, g2, F, r, hb, h⟩ := h
  cases d with
  | tuple ds =>
    unfold bindT at hb
    cases r with
    | tup r l q =>
      rename_i a vs
      refine ⟨a, vs, rfl, r.sq, by rw [q.len, bindTs_len hb], T, ow, g, ds, g2, F, q, hb, fun ow' σ' S hs => h ow' σ' S fun own hi => hs own ?_⟩
      unfold tgIn at hi
      exact hi
  | _ => unfold bindT at hb; cases hb
theorem g_nil {xs : List V} (h : gEvs K [] xs σ H Q) : gNil xs σ H Q := by
  obtain ⟨T, ow, g, ds, g2, F, r, hb, h⟩ := h
  cases ds with
  | nil =>
    unfold bindTs at hb
    cases hb
    cases r
    exact ⟨rfl, h ow σ (Step.refl F) fun _ _ _ _ => rfl⟩
  | cons d ds => unfold bindTs at hb; cases hb
theorem g_cons {t : Tg} {ts : List Tg} {xs : List V} (h : gEvs K (t :: ts) xs σ H Q) : gCons (gEv K t) (gEvs K ts) xs σ H Q := by
  obtain ⟨T, ow, g, ds, g2, F, r, hb, h⟩ := h
  cases ds with
  | nil => unfold bindTs at hb; cases hb
  | cons d ds =>
    unfold bindTs at hb
    cases e : bindT t d g with
    | none => rw [e] at hb; cases hb
    | some g1 =>
      rw [e] at hb
      cases r with
      | cons r rs =>
        refine ⟨_, _, rfl, T, ow, g, d, g1, F, r, e, fun ow1 σ1 S1 hs1 => ⟨T, ow1, g1, ds, g2, S1.fr, S1.reps F rs, hb, fun ow2 σ2 S2 hs2 => h ow2 σ2 (S1.trans S2) fun own hi j hj => ?_⟩⟩
        unfold tgsIn at hi
        rw [Bool.and_eq_true] at hi
        rw [hs2 own hi.2 j hj, hs1 own hi.1 j hj]
end
theorem slotOf_at : ∀ {N : List Str} {x : Str} {i : Nat}, slotOf N x = some i → N[i]? = some x
  | [], _, _, h => by cases h
  | y :: r, x, i, h => by
    unfold slotOf at h
    split at h
    · rename_i e; cases h; rw [e]; rfl
    · cases e : slotOf r x with
      | none => rw [e] at h; cases h
      | some j => rw [e] at h; cases h; simpa using slotOf_at e
theorem stoB_loc {sc : Scope} {fn : Str → Bool} {x : Str} (h : stoB sc fn x = true) : Loc sc x ∧ (fn x = true ∨ sc.names.lookup x = some .local) := by
  unfold stoB at h
  split at h
  · rename_i e; exact ⟨.inl e, .inr e⟩
  · rename_i e; exact ⟨.inr e, .inl h⟩
  · cases h
theorem assignEach_cons {e : Expr} {es : List Expr} {env : Env} (h : isStar e = false) : assignEach (e :: es) env = (false, assign e env) :: assignEach es env := by
  cases e <;> first | rfl | cases h
theorem trG_noStar {c : Tc} {sc : Scope} {fn : Str → Bool} {e : Expr} {t : Tg} (h : trG c sc fn e = some t) : isStar e = false := by
  cases e with
  | Starred _ _ => unfold trG at h; cases h
  | _ => rfl
theorem pgs_len {c : Tc} {sc : Scope} {fn : Str → Bool} {env : Env} : ∀ {es : List Expr} {ts : List Tg}, trGs c sc fn es = some ts → (assignEach es env).length = ts.length ∧ (assignEach es env).findIdx? (·.1) = none
  | [], ts, h => by unfold trGs at h; cases h; exact ⟨rfl, rfl⟩
  | e :: es, ts, h => by
    unfold trGs at h
    cases e1 : trG c sc fn e with
    | none => rw [e1] at h; cases h
    | some t =>
      rw [e1] at h
      simp only [Option.bind] at h
      cases e2 : trGs c sc fn es with
      | none => rw [e2] at h; cases h
      | some us =>
        rw [e2] at h
        cases h
        obtain ⟨h1, h2⟩ := pgs_len (env := env) e2
        rw [assignEach_cons (trG_noStar e1)]
        exact ⟨by rw [List.length_cons, h1]; rfl, by rw [List.findIdx?_cons, h2]; rfl⟩
mutual
/-- a target -/
theorem pg_ok {X : Cx} {c : Tc} (hc : X.calm = true) (hN : X.N.Nodup) (hcN : c.N = X.N) : ∀ {e : Expr} {t : Tg}, trG c X.env.scope X.fn e = some t → PG X e (gEv X.K t)
  | .Name x pos, t, h => by
    unfold trG at h
    split at h
    · rename_i hx
      rw [Bool.and_eq_true] at hx
      cases e : slotOf c.N x with
      | none => rw [e] at h; cases h
      | some i =>
        rw [e] at h
        cases h
        have hi : X.N[i]? = some x := by rw [← hcN]; exact slotOf_at e
        refine PG.imp (pg_name hN hi (stoB_loc hx.1).1 (stoB_loc hx.1).2) fun v σ H Q h => g_nm h
    · cases h
  | .Tuple ts k pos, t, h => by
    unfold trG at h
    cases e : trGs c X.env.scope X.fn ts with
    | none => rw [e] at h; cases h
    | some us =>
      rw [e] at h
      cases h
      obtain ⟨h1, h2⟩ := pgs_len e
      refine PG.imp (pg_tup hc (pgs_ok hc hN hcN e) h1 h2) fun v σ H Q h => g_tup h
  | .BoolOp .., _, h => by unfold trG at h; cases h
  | .NamedExpr .., _, h => by unfold trG at h; cases h
  | .BinOp .., _, h => by unfold trG at h; cases h
  | .UnaryOp .., _, h => by unfold trG at h; cases h
  | .Lambda .., _, h => by unfold trG at h; cases h
  | .IfExp .., _, h => by unfold trG at h; cases h
  | .Dict .., _, h => by unfold trG at h; cases h
  | .Set .., _, h => by unfold trG at h; cases h
  | .ListComp .., _, h => by unfold trG at h; cases h
  | .SetComp .., _, h => by unfold trG at h; cases h
  | .DictComp .., _, h => by unfold trG at h; cases h
  | .GeneratorExp .., _, h => by unfold trG at h; cases h
  | .Await .., _, h => by unfold trG at h; cases h
  | .Yield .., _, h => by unfold trG at h; cases h
  | .YieldFrom .., _, h => by unfold trG at h; cases h
  | .Compare .., _, h => by unfold trG at h; cases h
  | .Call .., _, h => by unfold trG at h; cases h
  | .FormattedValue .., _, h => by unfold trG at h; cases h
  | .JoinedStr .., _, h => by unfold trG at h; cases h
  | .Constant .., _, h => by unfold trG at h; cases h
  | .Attribute .., _, h => by unfold trG at h; cases h
  | .Subscript .., _, h => by unfold trG at h; cases h
  | .Starred .., _, h => by unfold trG at h; cases h
  | .List .., _, h => by unfold trG at h; cases h
  | .Slice .., _, h => by unfold trG at h; cases h
theorem pgs_ok {X : Cx} {c : Tc} (hc : X.calm = true) (hN : X.N.Nodup) (hcN : c.N = X.N) : ∀ {es : List Expr} {ts : List Tg}, trGs c X.env.scope X.fn es = some ts → PGs X es (gEvs X.K ts)
  | [], ts, h => by
    unfold trGs at h
    cases h
    exact PGs.imp pgs_nil fun v σ H Q h => g_nil h
  | e :: es, ts, h => by
    unfold trGs at h
    cases e1 : trG c X.env.scope X.fn e with
    | none => rw [e1] at h; cases h
    | some t =>
      rw [e1] at h
      simp only [Option.bind] at h
      cases e2 : trGs c X.env.scope X.fn es with
      | none => rw [e2] at h; cases h
      | some us =>
        rw [e2] at h
        cases h
        refine PGs.imp (pgs_cons (pg_ok hc hN hcN e1) (pgs_ok hc hN hcN e2) ?_) fun v σ H Q h => g_cons h
        rw [assignEach_cons (trG_noStar e1)]; rfl
end

/-! ### what is walked -/
def iSqP (K : PySem.W.Frag) (x : V) (H : Hp) (R : It → Hp → Prop) : Prop :=
  (∃ a, x = .ref a ∧ (∃ xs, SqL K H a xs) ∧ R (Itl K a) H) ∨ (∃ a, x = .ref a ∧ (∃ xs, SqT K H a xs) ∧ R (Itt K a) H) ∨ (∃ z, x = .str z ∧ R (Its z) H) ∨
    (∃ d o, x = .ref d ∧ ((∃ kvs, H d = some (.frz o (.dK kvs)) ∧ R (Itk d o kvs) H) ∨ ∃ kvs, H d = some (.frz o (.dT kvs)) ∧ R (Itkt d o kvs) H))
def small62 (i : Int) : Prop := -(2 ^ 62) ≤ i ∧ i < 2 ^ 62
def iQ (K : PySem.W.Frag) : ItK → Nat → List V → Hp → (It → Hp → Prop) → Prop
  | .seq, _, vs, H, R => ∃ x, vs = [x] ∧ iSqP K x H R
  | .rng, 1, vs, H, R => ∃ j : Int, vs = [.int j] ∧ -(2 ^ 62) ≤ j ∧ j < 2 ^ 62 ∧ R (Itr 0 j.toNat) H
  | .rng, 2, vs, H, R => ∃ i j : Int, vs = [.int i, .int j] ∧ (-(2 ^ 62) ≤ i ∧ i < 2 ^ 62 ∧ -(2 ^ 62) ≤ j ∧ j < 2 ^ 62) ∧ R (Itr i (j - i).toNat) H
  | .rng, 3, vs, H, R => ∃ (i j c : Int) (n : Nat), vs = [.int i, .int j, .int c] ∧ RgC i j c n ∧ R (Itc i c n) H
  | .rng, _, _, _, _ => False
  | .enu, _, vs, H, R => ∃ (q : Src) (xs : List V), vs = [q.vl] ∧ q.Is K H xs ∧ R (IteA K q xs) H
  | .zip, 2, vs, H, R => ∃ (q r : Src) (xs ys : List V), vs = [q.vl, r.vl] ∧ q.Is K H xs ∧ r.Is K H ys ∧ R (ItzA K q r xs ys) H
  | .zip, 3, vs, H, R => ∃ (q r t : Src) (xs ys zs : List V), vs = [q.vl, r.vl, t.vl] ∧ q.Is K H xs ∧ r.Is K H ys ∧ t.Is K H zs ∧ R (Itz3A K q r t xs ys zs) H
  | .zip, _, _, _, _ => False
def iEv (K : PySem.W.Frag) (cl : Call) (W : Nat → L2.St → Hp → Prop) (k : ItK) (es : List Ex) : TI := fun σ H R => tArgs K cl W es σ H fun vs H1 => iQ K k es.length vs H1 R
theorem pi_sq {X : Cx} {tg e : Expr} {te : TE} (he : PE X e te) : PI X tg e (fun σ H R => te σ H fun x H1 => iSqP X.K x H1 R) := by
  refine ⟨fun pins s σ H R I h => ?_⟩
  refine thn (he.run pins s σ H _ I h) fun u s1 ⟨x, H1, I1, r1, q1⟩ => ?_
  rcases q1 with ⟨a, e, ⟨xs, hq⟩, q⟩ | ⟨a, e, ⟨xs, hq⟩, q⟩ | ⟨z, e, q⟩ | ⟨d, o, e, q⟩
  · subst e
    cases r1
    obtain ⟨its, rv, p, hz⟩ := I1.list hq
    refine wpAny_pyIter_list p.isList ?_
    refine ⟨s1.heap.objs.size, [s1.heap.objs.size], _, _, H1, rfl, I1.kept (t' := s1.toks) fun b o e => Heap.get?_push_of_some _ e, turn_list a _, ⟨_, Heap.get?_push_size _ rfl, rfl, rfl⟩, fun b hb => ?_, q⟩
    have e : b = s1.heap.objs.size := by simpa using hb
    subst e
    exact I1.fpOk (Nat.le_refl _) (I1.hok.fresh (Nat.le_refl _))
  · subst e
    cases r1
    obtain ⟨its, rv, p, hz⟩ := I1.tuple hq
    refine wpAny_pyIter_tuple (show s1.heap.IsTuple a its.toArray from p) ?_
    refine ⟨s1.heap.objs.size, [s1.heap.objs.size], _, _, H1, rfl, I1.kept (t' := s1.toks) fun b o e => Heap.get?_push_of_some _ e, turn_tuple a _, ⟨_, Heap.get?_push_size _ rfl, rfl, rfl⟩, fun b hb => ?_, q⟩
    have e : b = s1.heap.objs.size := by simpa using hb
    subst e
    exact I1.fpOk (Nat.le_refl _) (I1.hok.fresh (Nat.le_refl _))
  · subst e
    obtain ⟨t, rfl⟩ := r1
    cases ha : z.cps.all (· < 128)
    · exact wpAny_pyIter_wide ha (pi_one (tk := s1.toks) I1 _ (turn_str _ z t "str_iterator" (.inr rfl)) ⟨_, Heap.get?_push_size _ rfl, rfl, rfl⟩ q)
    · exact wpAny_pyIter_ascii ha (pi_one (tk := s1.toks) I1 _ (turn_str _ z t "str_ascii_iterator" (.inl rfl)) ⟨_, Heap.get?_push_size _ rfl, rfl, rfl⟩ q)
  · subst e
    obtain rfl : u = Value.ref d := r1
    rcases q with ⟨kvs, hd, q⟩ | ⟨kvs, hd, q⟩
    · obtain ⟨hs, hgd, hx, es, ep, vs, hdt, hsz, kv, hm⟩ := I1.frzK hd
      refine iter_keys hs hgd hx hdt (pi_one (tk := s1.toks) I1 _ (turn_keys _ hdt) ⟨_, Heap.get?_push_size _ rfl, rfl, ?_⟩ q)
      rw [hsz] <;> rfl
    · obtain ⟨hs, hgd, hx, es, ep, hdt, hsz, ent⟩ := I1.frzT hd
      refine iter_keys hs hgd hx hdt (pi_one (tk := s1.toks) I1 _ (turn_keysT _ hdt) ⟨_, Heap.get?_push_size _ rfl, rfl, ?_⟩ q)
      rw [hsz] <;> rfl
section
variable {X : Cx} {cl : Call} {W : Nat → L2.St → Hp → Prop} {tg : Expr} {es : List Expr} {exs : List Ex} {p pos : Pos}
theorem pi_seq {e : Expr} {x : Ex} (he : PE X e (tVl X.K cl W x)) : PI X tg e (iEv X.K cl W .seq [x]) := by
  refine PI.imp (pi_sq he) fun σ H R h => ?_
  refine tVl_mono (fun v H1 q => ?_) (tArgs1 h)
  obtain ⟨y, e, q⟩ := q
  cases e
  exact q
theorem two_stars {es : List Expr} {env : Env} (h : notStars es = true) : starEach es env = es.map fun e => (false, eval e env) := starEach_plain h
theorem pi_rng (hg : Gl X "range") (hm : X.mg "range" = none) (hl : es.length = exs.length) (ha : PA X es (tArgs X.K cl W exs)) (hs : notStars es = true) (hn : 1 ≤ es.length ∧ es.length ≤ 3) : PI X tg (.Call (.Name "range" p) es [] pos) (iEv X.K cl W .rng exs) := by
  match es, hl, ha, hs, hn with
  | [a], hl, ha, hs, hn =>
    refine PI.imp (pi_range1 hg hm ha (starEach_plain hs)) fun σ H R h => ?_
    refine tArgs_mono (fun v H1 q => ?_) h
    rw [← hl] at q
    exact q
  | [a, b], hl, ha, hs, hn =>
    refine PI.imp (pi_range2 hg hm ha (starEach_plain hs) (starEach_plain (notStars_cons hs).2)) fun σ H R h => ?_
    refine tArgs_mono (fun v H1 q => ?_) h
    rw [← hl] at q
    exact q
  | [a, b, c], hl, ha, hs, hn =>
    refine PI.imp (pi_range3 hg hm ha (by rw [starEach_cons (notStars_cons hs).1]) (back_any (notStars_cons hs).2)) fun σ H R h => ?_
    refine tArgs_mono (fun v H1 q => ?_) h
    rw [← hl] at q
    exact q
theorem pi_enu {elts : List Expr} {kk : Nat} {tpos : Pos} (hg : Gl X "enumerate") (hm : X.mg "enumerate" = none) (ha : PA X es (tArgs X.K cl W exs)) (hs : notStars es = true) (hn : es.length = 1) : PI X (.Tuple elts kk tpos) (.Call (.Name "enumerate" p) es [] pos) (iEv X.K cl W .enu exs) := by
  match es, ha, hs, hn with
  | [a], ha, hs, hn => exact PI.imp (pi_enumA hg hm ha (starEach_plain hs)) fun σ H R h => h
theorem pi_zip {elts : List Expr} {kk : Nat} {tpos : Pos} (hg : Gl X "zip") (hm : X.mg "zip" = none) (hl : es.length = exs.length) (ha : PA X es (tArgs X.K cl W exs)) (hs : notStars es = true) (hn : 2 ≤ es.length ∧ es.length ≤ 3) : PI X (.Tuple elts kk tpos) (.Call (.Name "zip" p) es [] pos) (iEv X.K cl W .zip exs) := by
  match es, hl, ha, hs, hn with
  | [a, b], hl, ha, hs, hn =>
    refine PI.imp (pi_zip2A hg hm ha (by rw [starEach_cons (notStars_cons hs).1]) (back_any (notStars_cons hs).2)) fun σ H R h => ?_
    refine tArgs_mono (fun v H1 q => ?_) h
    rw [← hl] at q
    exact q
  | [a, b, c], hl, ha, hs, hn =>
    refine PI.imp (pi_zip3A hg hm ha (by rw [starEach_cons (notStars_cons hs).1]) (back_any (notStars_cons hs).2)) fun σ H R h => ?_
    refine tArgs_mono (fun v H1 q => ?_) h
    rw [← hl] at q
    exact q
end

/-! ### the items, once the slots are locked -/
section
variable {K : PySem.W.Frag} {H : Hp} {T : List Addr} {ow : List (Option Addr)} {g : Gm} {σ : L2.St}
theorem wk_iQ {k : ItK} {vs : List V} {ds items : List D} {R : It → Hp → Prop} (F : FrOk K T ow g σ H) (hv : Paired (ArgK K T ow g H) vs ds) (e : itD k ds = some items) (hR : ∀ J, Wk K J items T ow g σ H → R J H) : iQ K k vs.length vs H R := by
  unfold itD at e
  split at e
  · -- a sequence
    rename_i d
    cases hv with | cons h1 hv =>
    cases hv
    rename_i x
    refine ⟨x, rfl, ?_⟩
    cases d with
    | list xs =>
      cases e
      obtain ⟨a, ws, e1, r, l, q, n⟩ := h1.listK
      exact .inl ⟨a, e1, ⟨ws, .inl r⟩, hR _ (wk_list F r n q)⟩
    | tuple xs =>
      cases e
      obtain ⟨a, ws, e1, r, l, q⟩ := h1.tupleK
      exact .inr (.inl ⟨a, e1, ⟨ws, r.sq⟩, hR _ (wk_tup F r.sq q)⟩)
    | str z =>
      cases e
      exact .inr (.inr (.inl ⟨z, h1.strK.1, hR _ wk_str⟩))
    | _ => cases e
  · rename_i b
    cases hv with | cons h1 hv =>
    cases hv
    split at e
    · rename_i hs
      cases e
      rw [h1.intK]
      unfold smallI at hs
      rw [Bool.and_eq_true, decide_eq_true_eq, decide_eq_true_eq] at hs
      refine ⟨b, rfl, by omega, by omega, ?_⟩
      have := hR (Itr 0 (b - 0).toNat) wk_rng
      rw [Int.sub_zero] at this
      exact this
    · cases e
  · rename_i a b
    cases hv with | cons h1 hv => cases hv with | cons h2 hv =>
    cases hv
    split at e
    · rename_i hs
      cases e
      rw [h1.intK, h2.intK]
      unfold smallI at hs
      simp only [Bool.and_eq_true, decide_eq_true_eq] at hs
      exact ⟨a, b, rfl, ⟨by omega, by omega, by omega, by omega⟩, hR _ wk_rng⟩
    · cases e
  · rename_i a b c
    cases hv with | cons h1 hv => cases hv with | cons h2 hv => cases hv with | cons h3 hv =>
    cases hv
    split at e
    · rename_i hs
      cases e
      rw [h1.intK, h2.intK, h3.intK]
      unfold smallI at hs
      simp only [Bool.and_eq_true, decide_eq_true_eq] at hs
      obtain ⟨⟨s1, s2⟩, s3⟩ := hs
      subst s3
      exact ⟨a, b, -1, (a - b).toNat, rfl, RgC.neg (by omega) (by omega) (by omega) (by omega), hR _ wk_down⟩
    · cases e
  · rename_i d
    cases hv with | cons h1 hv =>
    cases hv
    cases e1 : linD d with
    | none => rw [e1] at e; cases e
    | some xs =>
      rw [e1] at e; cases e
      obtain ⟨p, ws, e2, s⟩ := src_of F h1 e1
      subst e2
      exact ⟨p, ws, rfl, s.here, hR _ (wk_enuA s)⟩
  · rename_i d1 d2
    cases hv with | cons h1 hv => cases hv with | cons h2 hv =>
    cases hv
    cases e1 : linD d1 with
    | none => rw [e1] at e; cases e
    | some xs =>
      cases e2 : linD d2 with
      | none => rw [e1, e2] at e; cases e
      | some ys =>
        rw [e1, e2] at e; cases e
        obtain ⟨p, ws, e3, s⟩ := src_of F h1 e1
        obtain ⟨q, ws2, e4, t⟩ := src_of F h2 e2
        subst e3; subst e4
        exact ⟨p, q, ws, ws2, rfl, s.here, t.here, hR _ (wk_zipA s t)⟩
  · rename_i d1 d2 d3
    cases hv with | cons h1 hv => cases hv with | cons h2 hv => cases hv with | cons h3 hv =>
    cases hv
    cases e1 : linD d1 with
    | none => rw [e1] at e; cases e
    | some xs =>
      cases e2 : linD d2 with
      | none => rw [e1, e2] at e; cases e
      | some ys =>
        cases e3 : linD d3 with
        | none => rw [e1, e2, e3] at e; cases e
        | some zs =>
          rw [e1, e2, e3] at e; cases e
          obtain ⟨p, ws, e4, s⟩ := src_of F h1 e1
          obtain ⟨q, ws2, e5, t⟩ := src_of F h2 e2
          obtain ⟨r, ws3, e6, u⟩ := src_of F h3 e3
          subst e4; subst e5; subst e6
          exact ⟨p, q, r, ws, ws2, ws3, rfl, s.here, t.here, u.here, hR _ (wk_zip3A s t u)⟩
  · cases e
end

/-! ### a comprehension's slots -/
theorem clr_len : ∀ (g : Gm) (own : List Nat), (clr g own).length = g.length
  | g, [] => rfl
  | g, i :: r => by rw [clr, List.length_set, clr_len]
theorem clr_at : ∀ (g : Gm) (own : List Nat) (j : Nat), (j ∉ own → (clr g own)[j]? = g[j]?) ∧ (∀ s, (clr g own)[j]? = some (some s) → j ∉ own ∧ g[j]? = some (some s))
  | g, [], j => ⟨fun _ => rfl, fun s h => ⟨by simp, h⟩⟩
  | g, i :: r, j => by
    obtain ⟨h1, h2⟩ := clr_at g r j
    rw [clr]
    refine ⟨fun hj => ?_, fun s h => ?_⟩
    · have a : i ≠ j := fun e => hj (by rw [e]; exact List.mem_cons_self)
      rw [List.getElem?_set_ne a]
      exact h1 fun z => hj (List.mem_cons_of_mem _ z)
    · by_cases a : i = j
      · subst a
        by_cases hl : i < (clr g r).length
        · rw [List.getElem?_set_self hl] at h; cases h
        · rw [List.set_eq_of_length_le (by omega), List.getElem?_eq_none (by omega)] at h; cases h
      · rw [List.getElem?_set_ne a] at h
        obtain ⟨k1, k2⟩ := h2 s h
        exact ⟨fun z => by
          rcases List.mem_cons.mp z with z | z
          · exact a z.symm
          · exact k1 z, k2⟩
theorem back_len : ∀ (g0 g : Gm) (own : List Nat), (back g0 g own).length = g.length
  | g0, g, [] => rfl
  | g0, g, i :: r => by rw [back, List.length_set, back_len]
theorem back_at : ∀ (g0 g : Gm) (own : List Nat) (j : Nat), (j ∉ own → (back g0 g own)[j]? = g[j]?) ∧ (j ∈ own → ∀ s, (back g0 g own)[j]? = some (some s) → g0[j]? = some (some s))
  | g0, g, [], j => ⟨fun _ => rfl, fun h => by simp at h⟩
  | g0, g, i :: r, j => by
    obtain ⟨h1, h2⟩ := back_at g0 g r j
    rw [back]
    refine ⟨fun hj => ?_, fun hj s h => ?_⟩
    · have a : i ≠ j := fun e => hj (by rw [e]; exact List.mem_cons_self)
      rw [List.getElem?_set_ne a]
      exact h1 fun z => hj (List.mem_cons_of_mem _ z)
    · by_cases a : i = j
      · subst a
        by_cases hl : i < (back g0 g r).length
        · rw [List.getElem?_set_self hl] at h
          cases e : g0[i]? with
          | none => rw [e] at h; cases h
          | some o => rw [e] at h; simpa using h
        · rw [List.set_eq_of_length_le (by omega), List.getElem?_eq_none (by omega)] at h; cases h
      · rw [List.getElem?_set_ne a] at h
        exact h2 ((List.mem_cons.mp hj).resolve_left fun z => a z.symm) s h
theorem wipe_at {σ : L2.St} : ∀ {vs : List Nat} {j : Nat}, j ∉ vs → (wipe σ vs)[j]? = σ[j]?
  | [], _, _ => rfl
  | v :: vs, j, h => by
    unfold wipe
    have a : v ≠ j := fun e => h (by rw [e]; exact List.mem_cons_self)
    rw [List.getElem?_set_ne a, wipe_at fun z => h (List.mem_cons_of_mem _ z)]
theorem wipe_in {σ : L2.St} : ∀ {vs : List Nat} {j : Nat}, j ∈ vs → (wipe σ vs)[j]? = (σ[j]?).map fun _ => none
  | v :: vs, j, h => by
    unfold wipe
    by_cases a : v = j
    · subst a
      by_cases hl : v < σ.length
      · rw [List.getElem?_set_self (by rw [wipe_length]; exact hl), List.getElem?_eq_getElem hl]; rfl
      · rw [List.getElem?_eq_none (by rw [List.length_set, wipe_length]; omega), List.getElem?_eq_none (by omega)]; rfl
    · rw [List.getElem?_set_ne a]
      exact wipe_in ((List.mem_cons.mp h).resolve_left fun z => a z.symm)
theorem wipe_same {σ σ' : L2.St} {vs : List Nat} (hl : σ'.length = σ.length) (h : ∀ j, j ∉ vs → σ'[j]? = σ[j]?) : wipe σ' vs = wipe σ vs := by
  apply List.ext_getElem?
  intro j
  by_cases hj : j ∈ vs
  · rw [wipe_in hj, wipe_in hj]
    by_cases k : j < σ.length
    · rw [List.getElem?_eq_getElem k, List.getElem?_eq_getElem (by omega)]; rfl
    · rw [List.getElem?_eq_none (by omega), List.getElem?_eq_none (by omega)]
  · rw [wipe_at hj, wipe_at hj]; exact h j hj
theorem wipe_wipe {σ : L2.St} {vs : List Nat} : wipe (wipe σ vs) vs = wipe σ vs := wipe_same (wipe_length σ vs) fun j hj => wipe_at hj
section
variable {K : PySem.W.Frag} {H H' : Hp} {T T' : List Addr} {ow ow' : List (Option Addr)} {g g' : Gm} {σ σ' σ'' : L2.St}
/-- the own slots hold nothing alone theirs -/
def PlainS (g : Gm) (own : List Nat) : Prop := ∀ i ∈ own, ∀ s, g[i]? = some (some s) → s.m = .frz
theorem plainS_of {own : List Nat} (h : own.all (plainAt g) = true) : PlainS g own := fun i hi s e => by
  have := List.all_eq_true.mp h i hi
  unfold plainAt at this
  rw [e] at this
  split at this
  · rename_i z; cases z
  · rename_i d z; cases z; rfl
  · cases this
theorem Step.clrS {own : List Nat} (a : Step K T ow g σ H T' ow' g' σ' H') (hp : PlainS g own) (hσ : ∀ j, j ∉ own → σ''[j]? = σ'[j]?) (hl : σ''.length = σ'.length) : Step K T ow g σ H T' ow' (clr g' own) σ'' H' := by
  have F := a.fr
  refine ⟨⟨F.nd, F.lv, (clr_len g' own).trans (F.ln.trans hl.symm), F.lo.trans hl.symm, fun i s e => ?_⟩, a.tt, a.nw, a.os, a.kx, a.lv, fun b z => a.on b (own_less (fun j s e => ((clr_at g' own j).2 s e).2) z), fun i s e m => ?_, hl.trans a.ls, fun i s e m => a.nl i s ((clr_at g' own i).2 s e).2 m⟩
  · obtain ⟨h1, h2⟩ := (clr_at g' own i).2 s e
    obtain ⟨v, oa, e1, e2, q⟩ := F.sl i s h2
    exact ⟨v, oa, by rw [hσ i h1]; exact e1, e2, q⟩
  · have hi : i ∉ own := fun z => by
      have := hp i z s e
      rcases m with m | m <;> (rw [this] at m; cases m)
    obtain ⟨e1, e2, d', e3, e4⟩ := a.st i s e m
    exact ⟨e1, by rw [hσ i hi]; exact e2, d', by rw [(clr_at g' own i).1 hi]; exact e3, e4⟩
theorem Step.backS {own : List Nat} (a : Step K T ow g σ H T' ow' g' σ' H') (F : FrOk K T ow g σ H) (hp : PlainS g own) (hσ : ∀ j, j ∉ own → σ'[j]? = σ[j]?) : Step K T ow g σ H T' ow' (Ev.back g g' own) σ H' := by
  have F' := a.fr
  refine ⟨⟨F'.nd, F'.lv, (back_len g g' own).trans (F'.ln.trans a.ls), F'.lo.trans a.ls, fun i s e => ?_⟩, a.tt, a.nw, a.os, a.kx, a.lv, fun b z => ?_, fun i s e m => ?_, rfl, fun i s e m => ?_⟩
  · by_cases hi : i ∈ own
    · have e0 := (back_at g g' own i).2 hi s e
      obtain ⟨v, oa, e1, e2, q⟩ := F.sl i s e0
      have hm := hp i hi s e0
      have hlt : i < ow'.length := by
        rw [F'.lo, a.ls]
        exact (List.getElem?_eq_some_iff.mp e1).1
      refine ⟨v, ow'[i], e1, List.getElem?_eq_getElem hlt, ?_⟩
      simp only [SlOk, hm] at q ⊢
      exact a.rep F q
    · rw [(back_at g g' own i).1 hi] at e
      obtain ⟨v, oa, e1, e2, q⟩ := F'.sl i s e
      exact ⟨v, oa, by rw [← hσ i hi]; exact e1, e2, q⟩
  · obtain ⟨i, s, e, m, w⟩ := z
    by_cases hi : i ∈ own
    · have e0 := (back_at g g' own i).2 hi s e
      have := hp i hi s e0
      rcases m with m | m <;> (rw [this] at m; cases m)
    · rw [(back_at g g' own i).1 hi] at e
      exact a.on b ⟨i, s, e, m, w⟩
  · have hi : i ∉ own := fun z => by
      have := hp i z s e
      rcases m with m | m <;> (rw [this] at m; cases m)
    obtain ⟨e1, e2, d', e3, e4⟩ := a.st i s e m
    exact ⟨e1, rfl, d', by rw [(back_at g g' own i).1 hi]; exact e3, e4⟩
  · by_cases hi : i ∈ own
    · have e0 := (back_at g g' own i).2 hi s e
      exact ⟨s, e0, m⟩
    · rw [(back_at g g' own i).1 hi] at e
      exact a.nl i s e m
end

/-! ### comprehensions -/
section
variable {K : PySem.W.Frag} {cl : Call}
def noX : Nat → L2.St → Hp → Prop := fun _ _ _ => False
theorem lcL_cons {own : List Nat} {turn : D → Gm → Out Gm (Option D × Gm)} {x : D} {xs : List D} {g : Gm} {z : List D × Gm} (h : lcL own turn (x :: xs) g = .ok z) :
    ∃ y g2 ys, turn x g = .ok (y, g2) ∧ lcL own turn xs (clr g2 own) = .ok (ys, z.2) ∧ z.1 = (match y with | some y => y :: ys | none => ys) := by
  unfold lcL at h
  cases e1 : turn x g with
  | bad => rw [e1] at h; cases h
  | exc c g' => rw [e1] at h; cases h
  | ok r =>
    rw [e1] at h
    obtain ⟨y, g2⟩ := r
    simp only at h
    cases e2 : lcL own turn xs (clr g2 own) with
    | bad => rw [e2] at h; cases h
    | exc c g' => rw [e2] at h; cases h
    | ok r2 =>
      rw [e2] at h
      obtain ⟨ys, g3⟩ := r2
      cases h
      exact ⟨y, g2, ys, rfl, e2, rfl⟩
theorem lc_loop {J : It} {items : List D} {T : List Addr} {ow : List (Option Addr)} {gL : Gm} {σ : L2.St} {H1 : Hp} {tg : Tg} {c e : Ex} {own : List Nat} {z : List D × Gm} {Q : VK} (F : FrOk K T ow gL σ H1) (hw : Wk K J items T ow gL σ H1) (hp : PlainS gL own) (htg : tgIn tg own = true)
    (hline : line items.length = true) (hL : lcL own (lcT tg (fun g2 => ev cl true c g2) (fun g2 => ev cl false e g2)) items (clr gL own) = .ok z)
    (hQ : ∀ T' ow' H2 D, Step K T ow gL σ H1 T' ow' z.2 (wipe σ own) H2 → RV K H1 H2 T' ow' (.ref D) (.list z.1) true → Q (.ref D) H2) :
    ∀ D, H1 D = none → ∃ W : Nat → Nat → Hp → Prop, (∃ m, W 0 m (upd H1 D (.lst []))) ∧ ∀ i m H, W i m H →
  (J.stop i H ∧ Q (.ref D) H) ∨ (J.go i H ∧ ∃ Nx : Hp → Prop, (∀ H', Nx H' → ∃ m', m' < m ∧ W (i + 1) m' H') ∧ ∀ x H', J.yld i H x H' → gEv K tg x (wipe σ own) H' fun σ2 H2 => wipe σ2 own = wipe σ own ∧ tTs K cl noX c σ2 H2 fun b H3 =>
    if b = true then tEv K cl noX e σ2 H3 fun y H4 => ∃ acc, H4 D = some (.lst acc) ∧ acc.length < sizeLine ∧ Nx (upd H4 D (.lst (acc ++ [y]))) else Nx H3) := by
  intro D hD
  obtain ⟨n, G, Y, wk, hn, hG, hY⟩ := hw
  have hlen := line_le hline
  refine lc_it (Qd := fun H => Q (.ref D) H) wk (fun i H => ∃ T' ow' gi acc ys zr, Step K T ow gL σ H1 T' ow' gi (wipe σ own) H ∧ D ∈ T' ∧ H D = some (.lst acc) ∧ acc.length ≤ i ∧ Reps K H (T' ++ owS ow') acc ys ∧
      lcL own (lcT tg (fun g2 => ev cl true c g2) (fun g2 => ev cl false e g2)) (items.drop i) gi = .ok (zr, z.2) ∧ ys ++ zr = z.1) ?_ ?_ ?_ ?_
  · -- the new list
    have S0 : Step K T ow gL σ H1 (D :: T) ow gL σ (upd H1 D (.lst [])) := F.allocT hD (F.keepA (KeepA.upd hD)) (live_mut (by rw [upd_same]; exact trivial)) (KeepA.upd hD)
    exact ⟨D :: T, ow, clr gL own, [], [], z.1, S0.clrS hp (fun j hj => wipe_at hj) (wipe_length σ own), List.mem_cons_self, upd_same, Nat.le_refl _, .nil, by rw [List.drop_zero]; exact hL, rfl⟩
  · rintro i H hi ⟨T', ow', gi, acc, ys, zr, S, _⟩
    exact hG _ _ _ _ _ S
  · rintro i x H H' hi ⟨T', ow', gi, acc, ys, zr, S, hDT, hDH, hal, hr, hl, hz⟩ y
    have hlt : i < items.length := by omega
    have hd : items.drop i = items[i] :: items.drop (i + 1) := List.drop_eq_getElem_cons hlt
    rw [hd] at hl
    obtain ⟨yo, g4, zr', ht, hl', ez⟩ := lcL_cons hl
    obtain ⟨k1, rx⟩ := hY _ _ _ _ _ i x H' items[i] S y (List.getElem?_eq_getElem hlt)
    have S1 : Step K T' ow' gi (wipe σ own) H T' ow' gi (wipe σ own) H' := S.fr.keepA k1
    -- the names
    unfold lcT at ht
    cases e1 : bindT tg items[i] gi with
    | none => rw [e1] at ht; cases ht
    | some g2 =>
      rw [e1] at ht
      simp only at ht
      refine ⟨T', ow', gi, items[i], g2, S1.fr, rx, e1, fun ow2 σ2 S2 hs2 => ?_⟩
      have hσ2 : ∀ j, j ∉ own → σ2[j]? = (wipe σ own)[j]? := fun j hj => hs2 own htg j hj
      have w2 : wipe σ2 own = wipe σ own := (wipe_same S2.ls hσ2).trans wipe_wipe
      refine ⟨w2, T', ow2, g2, S2.fr, ?_⟩
      have S02 := (S.trans S1).trans S2
      -- a turn's end, from what has come
      have fin : ∀ {T5 ow5 g5 H5 acc5 ys5}, Step K T ow gL σ H1 T5 ow5 g5 σ2 H5 → D ∈ T5 → H5 D = some (.lst acc5) → acc5.length ≤ i + 1 → Reps K H5 (T5 ++ owS ow5) acc5 ys5 → lcL own (lcT tg (fun g2 => ev cl true c g2) (fun g2 => ev cl false e g2)) (items.drop (i + 1)) (clr g5 own) = .ok (zr', z.2) → ys5 ++ zr' = z.1 →
          ∃ T' ow' gi acc ys zr, Step K T ow gL σ H1 T' ow' gi (wipe σ own) H5 ∧ D ∈ T' ∧ H5 D = some (.lst acc) ∧ acc.length ≤ i + 1 ∧ Reps K H5 (T' ++ owS ow') acc ys ∧ lcL own (lcT tg (fun g2 => ev cl true c g2) (fun g2 => ev cl false e g2)) (items.drop (i + 1)) gi = .ok (zr, z.2) ∧ ys ++ zr = z.1 := by
        intro T5 ow5 g5 H5 acc5 ys5 S5 a1 a2 a3 a4 a5 a6
        exact ⟨T5, ow5, clr g5 own, acc5, ys5, zr', S5.clrS hp (fun j hj => (hσ2 j hj).symm) (by rw [wipe_length, S2.ls, wipe_length]), a1, a2, a3, a4, a5, a6⟩
      -- the new list stays
      have keepD : ∀ {T5 ow5 g5 H5}, Step K T' ow' gi (wipe σ own) H T5 ow5 g5 σ2 H5 → D ∈ T5 ∧ H5 D = some (.lst acc) ∧ Reps K H5 (T5 ++ owS ow5) acc ys := fun {T5 ow5 g5 H5} S5 =>
        ⟨S5.tt D hDT, S5.kx D _ hDH (S.fr.tNotOwn hDT), S5.reps S.fr hr⟩
      cases e2 : ev cl true c g2 with
      | bad => rw [e2] at ht; cases ht
      | exc k g' => rw [e2] at ht; cases ht
      | ok rc =>
        obtain ⟨dc, fc, g3⟩ := rc
        rw [e2] at ht
        intro T3 ow3 H3 S3
        cases dc with
        | bool b =>
          refine ⟨b, rfl, ?_⟩
          cases b with
          | false =>
            simp only at ht
            cases ht
            simp only [Bool.false_eq_true, if_false]
            obtain ⟨d1, d2, d3⟩ := keepD ((S1.trans S2).trans S3)
            exact fin (S02.trans S3) d1 d2 (by omega) d3 hl' (by rw [← hz, show zr = zr' from ez])
          | true =>
            simp only at ht
            simp only [if_true]
            refine ⟨T3, ow3, g3, S3.fr, ?_⟩
            cases e3 : ev cl false e g3 with
            | bad => rw [e3] at ht; cases ht
            | exc k g' => rw [e3] at ht; cases ht
            | ok re =>
              obtain ⟨de, fe, g4'⟩ := re
              rw [e3] at ht
              cases ht
              intro T4 ow4 H4 v S4 hv
              have S4' : Step K T3 ow3 g3 σ2 H3 T3 ow4 g4 σ2 H4 := S4.toT S3.fr
              have hv' : Rep K H4 (T3 ++ owS ow4) v de := RV.share S4 S3.fr hv
              obtain ⟨d1, d2, d3⟩ := keepD (((S1.trans S2).trans S3).trans S4')
              have hDn : H1 D = none := hD
              refine ⟨acc, d2, by omega, ?_⟩
              have S5 := ((S02.trans S3).trans S4').chgT (p := D) (o := .lst (acc ++ [v])) d1 hDn trivial
              have hrr : Reps K H4 (T3 ++ owS ow4) (acc ++ [v]) (ys ++ [de]) := d3.app (.one hv')
              refine fin S5 d1 upd_same (by rw [List.length_append]; simp; exact hal) (hrr.chg S4'.fr.lv (List.mem_append_left _ d1) _) hl' ?_
              rw [← hz, show zr = de :: zr' from ez, List.append_assoc]; rfl
        | _ => simp only at ht; cases ht
  · rintro H ⟨T', ow', gi, acc, ys, zr, S, hDT, hDH, hal, hr, hl, hz⟩
    rw [hn, List.drop_length] at hl
    unfold lcL at hl
    cases hl
    rw [List.append_nil] at hz
    subst hz
    refine hQ T' ow' H D S ⟨D, rfl, hDT, hD, .lst (.inl hDH) (by omega) hr, by rw [hDH]; exact trivial⟩
end
theorem itX_eq {k : ItK} {es : List Ex} {ds items : List D} (h : itX k es ds = some items) : (∃ i kvs, k = .seq ∧ es = [.bor i] ∧ ds = [.dict kvs] ∧ items = kvs.map (·.1)) ∨ itD k ds = some items := by
  unfold itX at h
  split at h
  · rename_i i kvs
    cases h
    exact .inl ⟨i, kvs, rfl, rfl, rfl, rfl⟩
  · exact .inr h
theorem evs_len {cl : Call} : ∀ {es : List Ex} {g : Gm} {r : List Vl × Gm}, evs cl es g = .ok r → r.1.length = es.length
  | [], g, r, h => by simp only [evs] at h; cases h; rfl
  | e :: es, g, r, h => by
    simp only [evs] at h
    cases e1 : vl (isBor e) (ev cl false e g) g with
    | bad => rw [e1] at h; cases h
    | exc c g' => rw [e1] at h; cases h
    | ok x =>
      rw [e1] at h
      simp only [Out.bind] at h
      cases e2 : evs cl es x.2 with
      | bad => rw [e2] at h; cases h
      | exc c g' => rw [e2] at h; cases h
      | ok q =>
        rw [e2] at h
        cases h
        rw [List.length_cons, List.length_cons, evs_len e2]
section
variable {K : PySem.W.Frag} {cl : Call} {W : Nat → L2.St → Hp → Prop} {σ : L2.St} {H : Hp}
theorem plainS_lock {g : Gm} {own : List Nat} {ls : List Vl} (h : PlainS g own) : PlainS (lockAll g ls) own := fun i hi s e => by
  rcases lockAll_at g ls i with k | ⟨d, k, e'⟩
  · exact h i hi s (k.trans e)
  · rcases k with k | k <;> (have := h i hi _ k; cases this)
theorem lc_end {H1 H2 : Hp} {T1 T' : List Addr} {ow1 ow' : List (Option Addr)} {g1 g' : Gm} {ls : List Vl} {own : List Nat} (F1 : FrOk K T1 ow1 g1 σ H1) (hp : PlainS g1 own) (S : Step K T1 ow1 (lockAll g1 ls) σ H1 T' ow' g' (wipe σ own) H2) :
    Step K T1 ow1 g1 σ H1 T' ow' (Ev.back g1 (unlock g1 g') own) σ H2 := (Step.unlockS F1 (lockAll_at g1 ls) S).backS F1 hp fun j hj => wipe_at hj
def lcTop (K : PySem.W.Frag) (cl : Call) (W : Nat → L2.St → Hp → Prop) (k : ItK) (es : List Ex) (tg : Tg) (c e : Ex) (own : List Nat) : TE := tLc (iEv K cl W k es) (gEv K tg) (tTs K cl noX c) (tEv K cl noX e) own
/-- a dict's walk, locked -/
theorem dict_wk {T : List Addr} {ow : List (Option Addr)} {gL : Gm} {d : Addr} {kv : List (D × D)} {o : Obj} {u : HO} {R : It → Hp → Prop} {H1 : Hp} (F : FrOk K T ow gL σ H1) (hn : ¬ Own gL ow d) (hd : H1 d = some (.frz o u)) (ht : Top K H (T ++ owS ow) d (.dict kv)) (hu : ∀ u', NF u' → Rd H d u' → u = u')
    (hR : ∀ J, Wk K J (kv.map (·.1)) T ow gL σ H1 → R J H1) : iSqP K (.ref d) H1 R := by
  refine .inr (.inr (.inr ⟨d, o, rfl, ?_⟩))
  cases ht with
  | dK r l q e =>
    rename_i kvs es
    have := hu _ nfK r
    subst this
    have h1 : kv.map (·.1) = kvs.map fun p => keyD p.1 := by
      rw [e]; exact keys_zip (by rw [List.length_map]; have := q.len; rw [List.length_map] at this; exact this)
    refine .inl ⟨kvs, hd, hR _ ?_⟩
    rw [h1]
    exact wk_keys hd hn l
  | dT r l q e =>
    rename_i kvs es
    have := hu _ nfD r
    subst this
    have h1 : kv.map (·.1) = kvs.map fun p => tkeyD p.1 := by
      rw [e]; exact keys_zip (by rw [List.length_map]; have := q.len; rw [List.length_map] at this; exact this)
    refine .inr ⟨kvs, hd, hR _ ?_⟩
    rw [h1]
    exact wk_keysT F hd hn l
/-- a dict in a slot: at its place; locked it is alone looked at -/
theorem slot_dict {T : List Addr} {ow : List (Option Addr)} {g : Gm} {i : Nat} {kv : List (D × D)} (F : FrOk K T ow g σ H) (h : slotD g i = some (.dict kv)) : ∃ d, σ[i]? = some (some (.ref d)) ∧ Top K H (T ++ owS ow) d (.dict kv) ∧ ¬ Own (lockAll g [.b i]) ow d := by
  unfold slotD at h
  cases e : g[i]? with
  | none => rw [e] at h; cases h
  | some o =>
    cases o with
    | none => rw [e] at h; cases h
    | some s =>
      rw [e] at h
      have hd : s.d = .dict kv := Option.some.inj h
      obtain ⟨v, oa, e1, e2, q⟩ := F.sl i s e
      by_cases hm : s.m = .frz
      · have q : Rep K H (T ++ owS ow) v (.dict kv) := by
          obtain ⟨sd, sm⟩ := s
          have hm : sm = .frz := hm
          have hd : sd = .dict kv := hd
          subst hm; subst hd
          exact q
        have key : ∀ {d}, v = .ref d → Top K H (T ++ owS ow) d (.dict kv) → d ∉ T ++ owS ow → ∃ d, σ[i]? = some (some (.ref d)) ∧ Top K H (T ++ owS ow) d (.dict kv) ∧ ¬ Own (lockAll g [.b i]) ow d :=
          fun {d} ev ht hn => ⟨d, by rw [e1, ev], ht, fun o => hn (List.mem_append_right _ (own_weak (lockAll_at g _) o).mem)⟩
        cases q with
        | dK n r l q2 e => exact key rfl (.dK r l q2 e) n
        | dT n r l q2 e => exact key rfl (.dT r l q2 e) n
      · obtain ⟨a, y1, y2, y3⟩ := q.live hm
        rw [hd] at y3
        refine ⟨a, by rw [e1, y2], y3, fun o => ?_⟩
        obtain ⟨j, s', k1, k2, k3⟩ := o
        rw [y1] at e2
        have := ow_inj F.owNd e2 k3
        subst this
        obtain ⟨m1, m2⟩ := lockAll_mem (g := g) (ls := [.b i]) List.mem_cons_self s' k1
        rcases k2 with k2 | k2
        · exact m1 k2
        · exact m2 k2
theorem lockAll_idem {g : Gm} {i : Nat} : lockAll (lockAll g [.b i]) [.b i] = lockAll g [.b i] := by
  show lockAt (lockAt g (.b i)) (.b i) = lockAt g (.b i)
  have h : (∀ d, (lockAt g (.b i))[i]? ≠ some (some ⟨d, .own⟩)) ∧ ∀ d, (lockAt g (.b i))[i]? ≠ some (some ⟨d, .prm⟩) := by
    refine ⟨fun d e => ?_, fun d e => ?_⟩
    · exact (lockAll_mem (g := g) (ls := [.b i]) List.mem_cons_self _ e).1 rfl
    · exact (lockAll_mem (g := g) (ls := [.b i]) List.mem_cons_self _ e).2 rfl
  generalize lockAt g (.b i) = g1 at h
  unfold lockAt
  simp only
  split
  · rename_i d e; exact absurd e (h.1 d)
  · rename_i d e; exact absurd e (h.2 d)
  · rfl
theorem slotD_lock {g : Gm} {i : Nat} {ls : List Vl} : slotD (lockAll g ls) i = slotD g i := by
  unfold slotD
  rcases lockAll_at g ls i with k | ⟨d, k, e⟩
  · rw [← k]
  · rw [e]; rcases k with k | k <;> rw [k]
end
section
variable {K : PySem.W.Frag} {cl : Call} {W : Nat → L2.St → Hp → Prop} {σ : L2.St} {H : Hp}
theorem n_lc {k : ItK} {es : List Ex} {tg : Tg} {c e : Ex} {own : List Nat} {Q : VK} (h : tEv K cl W (.lc k es tg c e own) σ H Q) : lcTop K cl W k es tg c e own σ H Q ∨ tLockE (lcTop K cl W k es tg c e own) σ H Q := by
  obtain ⟨T, ow, g, F, h⟩ := h
  simp only [ev] at h
  cases e1 : evs cl es g with
  | bad => rw [e1] at h; exact h.elim
  | exc c' g' => rw [e1] at h; exact .inl ⟨T, ow, g, F, by rw [e1]; exact h⟩
  | ok r =>
    have he1 := e1
    rw [e1] at h
    simp only [Out.bind] at h
    cases e2 : resAll r.2 r.1 with
    | none => rw [e2] at h; exact h.elim
    | some ds =>
      rw [e2] at h
      simp only [Option.bind] at h
      cases e3 : itX k es ds with
      | none => rw [e3] at h; exact h.elim
      | some items =>
        rw [e3] at h
        simp only at h
        by_cases hc : (own.all (plainAt r.2) && line items.length && tgIn tg own) = true
        case neg => rw [if_neg hc] at h; exact h.elim
        rw [if_pos hc] at h
        rw [Bool.and_eq_true, Bool.and_eq_true] at hc
        obtain ⟨⟨c1, c2⟩, c3⟩ := hc
        have hp := plainS_of c1
        cases e4 : lcL own (lcT tg (fun g2 => ev cl true c g2) (fun g2 => ev cl false e g2)) items (clr (lockAll r.2 r.1) own) with
        | bad => rw [e4] at h; exact h.elim
        | exc c' g' =>
          exfalso
          have noexc : ∀ (xs : List D) (g : Gm) c' g', lcL own (lcT tg (fun g2 => ev cl true c g2) (fun g2 => ev cl false e g2)) xs g ≠ .exc c' g' := by
            intro xs
            cases xs with
            | nil => intro g c' g' z; unfold lcL at z; cases z
            | cons x xs =>
              intro g c' g' z
              unfold lcL at z
              split at z
              · split at z <;> cases z
              · cases z
          exact noexc _ _ _ _ e4
        | ok z =>
          rw [e4] at h
          simp only [fin] at h
          rcases itX_eq e3 with ⟨i, kv, k1, k2, k3, k4⟩ | hi
          · -- a dict
            subst k1; subst k2; subst k3; subst k4
            have hr : r = ([.b i], g) ∧ slotD g i = some (.dict kv) := by
              simp only [evs, isBor, vl] at he1
              cases es : slotD g i with
              | none => rw [es] at he1; cases he1
              | some d0 =>
                rw [es] at he1
                simp only [Out.bind] at he1
                cases he1
                refine ⟨rfl, ?_⟩
                simp only [resAll, Vl.res, es, Option.bind, Option.map] at e2
                cases e2; rfl
            obtain ⟨hr, hs⟩ := hr
            subst hr
            obtain ⟨d, v1, tp, no⟩ := slot_dict F hs
            have Fl := F.lockAll [.b i]
            -- once the dict is locked, as the heap shows it
            have main : ∀ (H' : Hp) (o : Obj) (u : HO), FrOk K T ow (lockAll g [.b i]) σ H' → H' d = some (.frz o u) → (∀ u', NF u' → Rd H' d u' → u = u') → Top K H' (T ++ owS ow) d (.dict kv) →
                ∀ Q' : VK, (∀ T' ow' H2 D, Step K T ow (lockAll g [.b i]) σ H' T' ow' z.2 (wipe σ own) H2 → RV K H' H2 T' ow' (.ref D) (.list z.1) true → Q' (.ref D) H2) → lcTop K cl W .seq [.bor i] tg c e own σ H' Q' := by
              intro H' o u F' hd hu ht Q' hQ'
              refine ⟨T, ow, lockAll g [.b i], F', ?_⟩
              have ee : evs cl [.bor i] (lockAll g [.b i]) = .ok ([.b i], lockAll g [.b i]) := by
                simp only [evs, isBor, vl, slotD_lock, hs, Out.bind]
              rw [ee]
              intro T1 ow1 H1 vs S1 hv
              have hva := hv.all
              cases hva with | cons hv1 hv2 =>
              cases hv2
              have hv1 : σ[i]? = some (some _) := hv1
              rw [v1] at hv1
              cases hv1
              have no1 : ¬ Own (lockAll g [.b i]) ow1 d := fun o1 => by
                rcases S1.on d o1 with o1 | o1
                · exact no o1
                · rw [hd] at o1; cases o1
              have hd1 : H1 d = some (.frz o u) := S1.kx d _ hd no
              have ht1 : Top K H1 (T1 ++ owS ow1) d (.dict kv) := ht.to (fun _ r => S1.rd r no) S1.rd2 F'.tup S1.gd
              refine ⟨_, rfl, dict_wk (H := H1) S1.fr no1 hd1 ht1 (fun u' nf' r => ?_) fun J wk => ?_⟩
              · rcases r with r | ⟨o', r⟩
                · rw [hd1] at r; cases r; exact absurd rfl (nf' _ _)
                · rw [hd1] at r; cases r; rfl
              · refine lc_loop S1.fr wk (plainS_lock hp) c3 c2 e4 fun T' ow' H2 D S rv => hQ' T' ow' H2 D (S1.trans S) (RV.old rv fun c n => S1.back n)
            have rdu : ∃ u, Rd H d u ∧ NF u ∧ (∀ ys, u ≠ .tup ys) ∧ Mut (some u) := by
              cases tp with
              | dK r l q e => exact ⟨_, r, nfK, (fun _ z => by cases z), trivial⟩
              | dT r l q e => exact ⟨_, r, nfD, (fun _ z => by cases z), trivial⟩
            obtain ⟨u, ru, nf, nt, mu⟩ := rdu
            have rdq : ∀ (od : Obj) (u' : HO), Rd (upd H d (.frz od u)) d u' → NF u' → u = u' := fun od u' r nf' => by
              rcases r with r | ⟨o', r⟩
              · rw [upd_same] at r; cases r; exact absurd rfl (nf' _ _)
              · rw [upd_same] at r; cases r; rfl
            rcases ru with ru | ⟨o, ru⟩
            · -- it is free: locked for the walk
              right
              refine ⟨d, u, ru, mu, fun od => ?_⟩
              have L : Lk H (upd H d (.frz od u)) d u := ⟨ru, mu, ⟨od, upd_same⟩, fun b hb => upd_ne hb⟩
              have F' := Fl.lock L no
              refine main _ od u F' upd_same (fun u' nf' r => rdq od u' r nf') (tp.swap L.to L.tup) _ fun T' ow' H2 D S rv => ?_
              · have hd2 : H2 d = some (.frz od u) := S.kx d _ upd_same no
                refine ⟨hd2, ?_⟩
                have L2 : Lk (upd H2 d u) H2 d u := ⟨upd_same, mu, ⟨od, hd2⟩, fun b hb => (upd_ne hb).symm⟩
                have S2 := Step.unl L L2 no S
                have S3 := lc_end F hp S2
                refine h T' ow' _ _ S3 ?_
                obtain ⟨p, ev, h1, h2, h3, h4⟩ := rv
                cases ev
                refine ⟨D, rfl, h1, ?_, h3.swap L2.back L2.tupB, ?_⟩
                · exact L.none.mpr h2
                · by_cases eD : D = d
                  · subst eD; rw [upd_same]; exact mu
                  · rw [upd_ne eD]; exact h4
            · left
              refine main H o u Fl ru (fun u' nf' r => ?_) tp Q fun T' ow' H2 D S rv => ?_
              · rcases r with r | ⟨o', r⟩
                · rw [ru] at r; cases r; exact absurd rfl (nf' _ _)
                · rw [ru] at r; cases r; rfl
              · exact h T' ow' _ _ (lc_end F hp S) rv
          · left
            refine ⟨T, ow, g, F, ?_⟩
            rw [he1]
            intro T1 ow1 H1 vs S1 hv
            have hl : vs.length = es.length := (Paired.length hv.all).trans (evs_len he1)
            rw [← hl]
            refine wk_iQ (S1.fr.lockAll r.1) (VRs.argK hv.all S1.fr e2) hi fun J wk => ?_
            refine lc_loop (S1.fr.lockAll r.1) wk (plainS_lock hp) c3 c2 e4 fun T' ow' H2 D S rv => ?_
            exact h T' ow' H2 _ (S1.trans (lc_end S1.fr hp S)) (RV.old rv fun c n => S1.back n)
end
end Ev

end

-- EvCall
section
/-! Ev: soundness, calls of the program's own defs. -/
namespace Ev
open PySem PySem.Spec PyProof.Rows L2

/-! ### a callee's promise -/
section
variable (K : PySem.W.Frag) (H : Hp) (S : List Addr) (mp : List Nat)
/-- the parameters at a call: shared, or lent at their own places -/
inductive ParR : Nat → List V → List D → List Addr → Prop
  | nil (j : Nat) : ParR j [] [] []
  | frz {j : Nat} {v : V} {d : D} {vs : List V} {ds : List D} {as : List Addr} : mp.contains j = false → Rep K H S v d → ParR (j + 1) vs ds as → ParR j (v :: vs) (d :: ds) as
  | prm {j : Nat} {a : Addr} {d : D} {vs : List V} {ds : List D} {as : List Addr} : mp.contains j = true → Top K H S a d → Mut (H a) → ParR (j + 1) vs ds as → ParR j (.ref a :: vs) (d :: ds) (a :: as)
end
structure EndR (T0 as : List Addr) (H : Hp) (S3 : List Addr) (H2 : Hp) : Prop where
  tt : ∀ b ∈ T0 ++ as, b ∈ S3
  nw : ∀ b ∈ S3, b ∈ T0 ++ as ∨ H b = none
  kx : ∀ b o, H b = some o → b ∉ as → H2 b = some o
  lv : ∀ b o, H b = some o → ∃ o', H2 b = some o'
  live : ∀ b ∈ S3, LiveM H2 b
def LentR (K : PySem.W.Frag) (S3 : List Addr) (H2 : Hp) (as : List Addr) (md : List D) : Prop := Paired (fun a d => Top K H2 S3 a d ∧ Mut (H2 a)) as md
def ResF (K : PySem.W.Frag) (H : Hp) (S3 : List Addr) (H2 : Hp) (v : V) (d : D) : Bool → Prop
  | false => Rep K H2 S3 v d
  | true => ∃ p, v = .ref p ∧ H p = none ∧ p ∈ S3 ∧ Top K H2 S3 p d ∧ Mut (H2 p)
def spF (K : PySem.W.Frag) (mp : List Nat) (cl : List D → FOut) : Sp := fun ws H Q _ => ∃ T0 as ds, (T0 ++ as).Nodup ∧ (∀ b ∈ T0 ++ as, LiveM H b) ∧ ParR K H (T0 ++ as) mp 0 ws ds as ∧ match cl ds with
  | .ok (d, fr, md) => ∀ S3 H2 v, EndR T0 as H S3 H2 → ResF K H S3 H2 v d fr → LentR K S3 H2 as md → Q v H2
  | .exc _ _ => False
  | .bad => False
theorem ParR.len {K : PySem.W.Frag} {H : Hp} {S : List Addr} {mp : List Nat} : ∀ {j : Nat} {vs : List V} {ds : List D} {as : List Addr}, ParR K H S mp j vs ds as → vs.length = ds.length
  | _, _, _, _, .nil _ => rfl
  | _, _, _, _, .frz _ _ t => by rw [List.length_cons, List.length_cons, t.len]
  | _, _, _, _, .prm _ _ _ t => by rw [List.length_cons, List.length_cons, t.len]

/-! ### the arguments -/
/-- the arguments with the lent slots' values among them -/
def mixV (σ : L2.St) : List Am → List V → Option (List V)
  | [], [] => some []
  | .ln i :: ms, vs => match σ[i]? with
    | some (some v) => (mixV σ ms vs).map (v :: ·)
    | _ => none
  | .pl :: ms, v :: vs => (mixV σ ms vs).map (v :: ·)
  | .tm :: ms, v :: vs => (mixV σ ms vs).map (v :: ·)
  | _, _ => none
def tMix (K : PySem.W.Frag) (cl : Call) (W : Nat → L2.St → Hp → Prop) : List Am → List Ex → TA
  | [], [] => fun _ H Q => Q [] H
  | .ln i :: ms, es => fun σ H Q => ∃ v, σ[i]? = some (some v) ∧ tMix K cl W ms es σ H fun vs H1 => Q (v :: vs) H1
  | .pl :: ms, e :: es => fun σ H Q => tVl K cl W e σ H fun v H1 => tMix K cl W ms es σ H1 fun vs H2 => Q (v :: vs) H2
  | .tm :: ms, e :: es => fun σ H Q => tVl K cl W e σ H fun v H1 => tMix K cl W ms es σ H1 fun vs H2 => Q (v :: vs) H2
  | _, _ => fun _ _ _ => False
def needs : List Am → Nat
  | [] => 0
  | .ln _ :: r => needs r
  | _ :: r => needs r + 1
section
variable {K : PySem.W.Frag} {cl : Call} {W : Nat → L2.St → Hp → Prop}
theorem tMix_of : ∀ {ms : List Am} {es : List Ex} {σ : L2.St} {H : Hp} {Q : List V → Hp → Prop}, needs ms = es.length → (∀ i ∈ lent ms, ∃ v, σ[i]? = some (some v)) → tArgs K cl W es σ H (fun vs H1 => ∀ ws, mixV σ ms vs = some ws → Q ws H1) → tMix K cl W ms es σ H Q
  | [], [], σ, H, Q, _, _, h => tArgs_nil h [] rfl
  | [], _ :: _, _, _, _, hn, _, _ => by simp [needs] at hn
  | .ln i :: ms, es, σ, H, Q, hn, hl, h => by
    obtain ⟨v, hv⟩ := hl i List.mem_cons_self
    refine ⟨v, hv, tMix_of hn (fun j hj => hl j (List.mem_cons_of_mem _ hj)) (tArgs_mono (fun vs H1 q ws e => q (v :: ws) ?_) h)⟩
    unfold mixV
    rw [hv]
    simp only [e, Option.map]
  | .pl :: ms, e :: es, σ, H, Q, hn, hl, h => by
    refine tVl_mono (fun v H1 q => ?_) (tArgs_cons h)
    refine tMix_of (by simp [needs] at hn; exact hn) hl (tArgs_mono (fun vs H2 q2 ws e => q2 (v :: ws) ?_) q)
    unfold mixV
    rw [e]; rfl
  | .tm :: ms, e :: es, σ, H, Q, hn, hl, h => by
    refine tVl_mono (fun v H1 q => ?_) (tArgs_cons h)
    refine tMix_of (by simp [needs] at hn; exact hn) hl (tArgs_mono (fun vs H2 q2 ws e => q2 (v :: ws) ?_) q)
    unfold mixV
    rw [e]; rfl
  | .pl :: ms, [], _, _, _, hn, _, _ => by simp [needs] at hn
  | .tm :: ms, [], _, _, _, hn, _, _ => by simp [needs] at hn
end

/-! ### what is looked at is shared -/
section
variable {K : PySem.W.Frag}
theorem frzB_step : ∀ (ls : List Vl) {T : List Addr} {ow : List (Option Addr)} {g g2 : Gm} {σ : L2.St} {H : Hp}, FrOk K T ow g σ H → frzB g ls = some g2 → ∃ ow2, Step K T ow g σ H T ow2 g2 σ H ∧ (∀ b ∈ owS ow2, b ∈ owS ow) ∧
    (∀ i, Vl.b i ∈ ls → ∃ d, g2[i]? = some (some ⟨d, .frz⟩)) ∧ (∀ (i : Nat) d, g[i]? = some (some ⟨d, .frz⟩) → g2[i]? = some (some ⟨d, .frz⟩)) ∧ (∀ j, Vl.b j ∉ ls → g2[j]? = g[j]? ∧ ow2[j]? = ow[j]?) ∧ (∀ i s a, Vl.b i ∈ ls → g[i]? = some (some s) → s.m ≠ .frz → ow[i]? = some (some a) → a ∉ owS ow2)
  | [], T, ow, g, g2, σ, H, F, e => by
    unfold frzB at e
    cases e
    exact ⟨ow, Step.refl F, fun _ h => h, fun i h => by simp at h, fun _ _ h => h, fun _ _ => ⟨rfl, rfl⟩, fun i s a h => by simp at h⟩
  | .v d f :: ls, T, ow, g, g2, σ, H, F, e => by
    obtain ⟨ow2, S, h1, h2, h3, h4, h5⟩ := frzB_step ls F (show frzB g ls = some g2 from e)
    exact ⟨ow2, S, h1, fun i h => h2 i (by rcases List.mem_cons.mp h with h | h; cases h; exact h), h3, fun j h => h4 j fun z => h (List.mem_cons_of_mem _ z), fun i s a h => h5 i s a (by rcases List.mem_cons.mp h with h | h; cases h; exact h)⟩
  | .b i :: ls, T, ow, g, g2, σ, H, F, e => by
    unfold frzB at e
    split at e
    · rename_i d eg
      obtain ⟨ow2, S, h1, h2, h3, h4, h5⟩ := frzB_step ls F e
      refine ⟨ow2, S, h1, fun j h => ?_, h3, (fun j h => h4 j fun z => h (List.mem_cons_of_mem _ z)), fun j s a h es hm ea => ?_⟩
      · rcases List.mem_cons.mp h with h | h
        · cases h; exact ⟨d, h3 i d eg⟩
        · exact h2 j h
      · rcases List.mem_cons.mp h with h | h
        · cases h; rw [eg] at es; cases es; exact absurd rfl hm
        · exact h5 j s a h es hm ea
    · rename_i d eg
      obtain ⟨v, ev, S0, r⟩ := F.freeze eg
      obtain ⟨ow2, S, h1, h2, h3, h4, h5⟩ := frzB_step ls S0.fr e
      have hi := (List.getElem?_eq_some_iff.mp eg).1
      refine ⟨ow2, S0.trans S, fun b hb => owS_set_sub (h1 b hb), fun j h => ?_, fun j d' h => ?_, fun j h => ?_, fun j s a h es hm ea z => ?_⟩
      · rcases List.mem_cons.mp h with h | h
        · cases h; exact ⟨d, h3 i d (by rw [List.getElem?_set_self hi])⟩
        · exact h2 j h
      · by_cases hj : i = j
        · subst hj; rw [eg] at h; cases h
        · exact h3 j d' (by rw [List.getElem?_set_ne hj]; exact h)
      · have hj : i ≠ j := fun z => h (by rw [z]; exact List.mem_cons_self)
        obtain ⟨k1, k2⟩ := h4 j fun z => h (List.mem_cons_of_mem _ z)
        exact ⟨by rw [k1, List.getElem?_set_ne hj], by rw [k2, List.getElem?_set_ne hj]⟩
      · by_cases hj : i = j
        · subst hj
          have z1 := h1 a z
          obtain ⟨k, w⟩ := mem_owS.mp z1
          by_cases hk : i = k
          · subst hk
            rw [List.getElem?_set_self (List.getElem?_eq_some_iff.mp ea).1] at w; cases w
          · rw [List.getElem?_set_ne hk] at w
            exact hk (ow_inj F.owNd ea w)
        · rcases List.mem_cons.mp h with h | h
          · cases h; exact hj rfl
          · exact h5 j s a h (by rw [List.getElem?_set_ne hj]; exact es) hm (by rw [List.getElem?_set_ne hj]; exact ea) z
    · cases e
theorem putBack_at : ∀ {is : List Nat} {ds : List D} {g g4 : Gm}, is.Nodup → putBack g is ds = some g4 → g4.length = g.length ∧ (∀ j, j ∉ is → g4[j]? = g[j]?) ∧ Paired (fun i d => ∃ d0 m, g[i]? = some (some ⟨d0, m⟩) ∧ g4[i]? = some (some ⟨d, m⟩)) is ds
  | [], [], g, g4, _, e => by
    unfold putBack at e; cases e
    exact ⟨rfl, fun _ _ => rfl, .nil⟩
  | [], _ :: _, _, _, _, e => by unfold putBack at e; cases e
  | _ :: _, [], _, _, _, e => by unfold putBack at e; cases e
  | i :: is, d :: ds, g, g4, nd, e => by
    unfold putBack at e
    obtain ⟨n1, n2⟩ := List.nodup_cons.mp nd
    cases eg : g[i]? with
    | none => rw [eg] at e; cases e
    | some o =>
      cases o with
      | none => rw [eg] at e; cases e
      | some s =>
        obtain ⟨d0, m⟩ := s
        rw [eg] at e
        have hi := (List.getElem?_eq_some_iff.mp eg).1
        obtain ⟨h1, h2, h3⟩ := putBack_at n2 (show putBack (g.set i (some ⟨d, m⟩)) is ds = some g4 from e)
        refine ⟨h1.trans (List.length_set ..), fun j hj => ?_, .cons ⟨d0, m, eg, by rw [h2 i n1, List.getElem?_set_self hi]⟩ ?_⟩
        · rw [h2 j fun z => hj (List.mem_cons_of_mem _ z), List.getElem?_set_ne fun z => hj (by rw [z]; exact List.mem_cons_self)]
        · -- the others are not i
          have key : ∀ {is : List Nat} {ds : List D}, i ∉ is → Paired (fun j d' => ∃ d0 m', (g.set i (some ⟨d, m⟩))[j]? = some (some ⟨d0, m'⟩) ∧ g4[j]? = some (some ⟨d', m'⟩)) is ds → Paired (fun j d' => ∃ d0 m', g[j]? = some (some ⟨d0, m'⟩) ∧ g4[j]? = some (some ⟨d', m'⟩)) is ds := by
            intro is
            induction is with
            | nil => intro ds _ h; cases h; exact .nil
            | cons j is ih =>
              intro ds hn h
              cases h with
              | cons a t =>
                refine .cons ?_ (ih (fun z => hn (List.mem_cons_of_mem _ z)) t)
                obtain ⟨d0, m', a1, a2⟩ := a
                rw [List.getElem?_set_ne fun z => hn (by rw [z]; exact List.mem_cons_self)] at a1
                exact ⟨d0, m', a1, a2⟩
          exact key n1 h3
end

/-! ### from the caller's frame to the callee's -/
def asOf : List Am → List V → List Addr
  | .ln _ :: ms, .ref a :: ws => a :: asOf ms ws
  | .tm :: ms, .ref a :: ws => a :: asOf ms ws
  | .ln _ :: ms, _ :: ws => asOf ms ws
  | .tm :: ms, _ :: ws => asOf ms ws
  | .pl :: ms, _ :: ws => asOf ms ws
  | _, _ => []
/-- new ones that are handed over as shared -/
def pasN : List Am → List V → List Vl → List Addr
  | .ln _ :: ms, vs, ls => pasN ms vs ls
  | .tm :: ms, _ :: vs, _ :: ls => pasN ms vs ls
  | .pl :: ms, .ref p :: vs, .v _ true :: ls => p :: pasN ms vs ls
  | .pl :: ms, _ :: vs, _ :: ls => pasN ms vs ls
  | _, _, _ => []
def msOk (mp : List Nat) : Nat → List Am → Bool
  | _, [] => true
  | j, .pl :: r => !mp.contains j && msOk mp (j + 1) r
  | j, _ :: r => mp.contains j && msOk mp (j + 1) r
section
variable {K : PySem.W.Frag} {H0 H1 : Hp} {T1 : List Addr} {ow1 : List (Option Addr)} {g1 : Gm} {σ : L2.St}
theorem Top.sub {S S' : List Addr} {a : Addr} {d : D} (h : Top K H1 S a d) (hs : ∀ b ∈ S', b ∈ S) (ht : ∀ b xs, Rd H1 b (.tup xs) → b ∉ S) : Top K H1 S' a d := h.to (fun _ r => r) (fun _ _ _ r => r) ht fun b _ n _ z => n (hs b z)
def lentV (g : Gm) (i : Nat) : Option D := match g[i]? with
  | some (some ⟨d, .own⟩) => some d
  | some (some ⟨d, .prm⟩) => some d
  | _ => none
theorem argsOf_ln {g : Gm} {i : Nat} {ms : List Am} {ls : List Vl} : argsOf g (.ln i :: ms) ls = (lentV g i).bind fun d => (argsOf g ms ls).map (d :: ·) := by
  rw [argsOf]
  rfl
/-- a lent slot: its place -/
theorem lent_at (F : FrOk K T1 ow1 g1 σ H1) {i : Nat} {d : D} (h : lentV g1 i = some d) : ∃ a m, (m = .own ∨ m = .prm) ∧ g1[i]? = some (some ⟨d, m⟩) ∧ ow1[i]? = some (some a) ∧ σ[i]? = some (some (.ref a)) ∧ Top K H1 (T1 ++ owS ow1) a d ∧ Mut (H1 a) := by
  unfold lentV at h
  split at h
  · rename_i d' e
    cases h
    obtain ⟨v, oa, e1, e2, a, q1, q2, q3, q4⟩ := F.sl i _ e
    subst q1; subst q2
    exact ⟨a, .own, .inl rfl, e, e2, e1, q3, q4⟩
  · rename_i d' e
    cases h
    obtain ⟨v, oa, e1, e2, a, q1, q2, q3, q4⟩ := F.sl i _ e
    subst q1; subst q2
    exact ⟨a, .prm, .inr rfl, e, e2, e1, q3, q4⟩
  · cases h
theorem args_par (F : FrOk K T1 ow1 g1 σ H1) {mp : List Nat} {S' : List Addr} (hs : ∀ b ∈ S', b ∈ T1 ++ owS ow1) : ∀ {ms : List Am} {j : Nat} {vs ws : List V} {ls : List Vl} {ds : List D}, msOk mp j ms = true → Paired (VR K σ H0 H1 T1 ow1) vs ls → mixV σ ms vs = some ws → argsOf g1 ms ls = some ds →
    (∀ p ∈ pasN ms vs ls, p ∉ S') → (∀ i, Vl.b i ∈ ls → ∀ s a, g1[i]? = some (some s) → s.m ≠ .frz → ow1[i]? = some (some a) → a ∉ S') → ParR K H1 S' mp j ws ds (asOf ms ws)
  | [], j, vs, ws, ls, ds, hm, hv, e1, e2, hp, hb => by
    cases hv with
    | nil => cases e1; cases e2; exact .nil j
    | cons a t => cases e1
  | .ln i :: ms, j, vs, ws, ls, ds, hm, hv, e1, e2, hp, hb => by
    unfold msOk at hm
    rw [Bool.and_eq_true] at hm
    rw [argsOf_ln] at e2
    cases e3 : lentV g1 i with
    | none => rw [e3] at e2; cases e2
    | some d =>
      rw [e3] at e2
      simp only [Option.bind] at e2
      obtain ⟨a, m, hm1, k1, k2, k3, k4, k5⟩ := lent_at F e3
      unfold mixV at e1
      rw [k3] at e1
      simp only at e1
      cases e4 : mixV σ ms vs with
      | none => rw [e4] at e1; cases e1
      | some ws' =>
        rw [e4] at e1
        cases e1
        cases e5 : argsOf g1 ms ls with
        | none => rw [e5] at e2; cases e2
        | some ds' =>
          rw [e5] at e2
          cases e2
          exact .prm hm.1 (k4.sub hs F.tup) k5 (args_par F hs hm.2 hv e4 e5 hp hb)
  | .tm :: ms, j, vs, ws, ls, ds, hm, hv, e1, e2, hp, hb => by
    unfold msOk at hm
    rw [Bool.and_eq_true] at hm
    cases hv with
    | nil => unfold argsOf at e2; cases e2
    | cons a t =>
      rename_i v l vs ls
      cases l with
      | b i => unfold argsOf at e2; cases e2
      | v d f =>
        cases f with
        | false => unfold argsOf at e2; cases e2
        | true =>
          unfold argsOf at e2
          unfold mixV at e1
          cases e4 : mixV σ ms vs with
          | none => rw [e4] at e1; cases e1
          | some ws' =>
            rw [e4] at e1
            cases e1
            cases e5 : argsOf g1 ms ls with
            | none => rw [e5] at e2; cases e2
            | some ds' =>
              rw [e5] at e2
              cases e2
              obtain ⟨p, ev, h1, h2, h3, h4⟩ := (show RV K H0 H1 T1 ow1 _ d true from a)
              subst ev
              exact .prm hm.1 (h3.sub hs F.tup) h4 (args_par F hs hm.2 t e4 e5 hp fun i h => hb i (List.mem_cons_of_mem _ h))
  | .pl :: ms, j, vs, ws, ls, ds, hm, hv, e1, e2, hp, hb => by
    unfold msOk at hm
    rw [Bool.and_eq_true] at hm
    cases hv with
    | nil => unfold argsOf at e2; cases e2
    | cons a t =>
      rename_i v l vs ls
      unfold argsOf at e2
      unfold mixV at e1
      cases e4 : mixV σ ms vs with
      | none => rw [e4] at e1; cases e1
      | some ws' =>
        rw [e4] at e1
        cases e1
        cases e6 : l.res g1 with
        | none => rw [e6] at e2; cases e2
        | some d =>
          rw [e6] at e2
          simp only [Option.bind] at e2
          cases e5 : argsOf g1 ms ls with
          | none => rw [e5] at e2; cases e2
          | some ds' =>
            rw [e5] at e2
            cases e2
            refine .frz (by simpa using hm.1) ?_ (args_par F hs hm.2 t e4 e5 (fun p h => hp p ?_) fun i h => hb i (List.mem_cons_of_mem _ h))
            · cases l with
              | b i =>
                have ev : σ[i]? = some (some v) := a
                have e6' : slotD g1 i = some d := e6
                unfold slotD at e6'
                split at e6'
                · rename_i s0 es0
                  cases e6'
                  obtain ⟨v2, oa, w1, w2, w3⟩ := F.sl i s0 es0
                  rw [ev] at w1; cases w1
                  by_cases hf : s0.m = .frz
                  · simp only [SlOk, hf] at w3; exact w3.mono hs F.tup
                  · obtain ⟨p, y1, y2, y3⟩ := w3.live hf
                    subst y1; subst y2
                    exact y3.rep hs F.tup (hb i List.mem_cons_self s0 p es0 hf w2)
                · cases e6'
              | v d' f =>
                cases e6
                cases f with
                | false => exact Rep.mono (show Rep K H1 (T1 ++ owS ow1) v d from a) hs F.tup
                | true =>
                  obtain ⟨p, ev, h1, h2, h3, h4⟩ := (show RV K H0 H1 T1 ow1 v d true from a)
                  subst ev
                  exact h3.rep hs F.tup (hp p List.mem_cons_self)
            · cases l with
              | b i => cases v <;> exact h
              | v d f => cases f <;> cases v <;> first | exact h | exact List.mem_cons_of_mem _ h
/-- the places lent: slots', or new ones -/
theorem asOf_mem (F : FrOk K T1 ow1 g1 σ H1) : ∀ {ms : List Am} {vs ws : List V} {ls : List Vl} {ds : List D}, Paired (VR K σ H0 H1 T1 ow1) vs ls → mixV σ ms vs = some ws → argsOf g1 ms ls = some ds →
    ∀ b ∈ asOf ms ws, (∃ i d m, i ∈ lent ms ∧ (m = .own ∨ m = .prm) ∧ g1[i]? = some (some ⟨d, m⟩) ∧ ow1[i]? = some (some b)) ∨ b ∈ newOf vs ls
  | [], vs, ws, ls, ds, hv, e1, e2, b, h => by cases hv with
    | nil => cases e1; simp [asOf] at h
    | cons a t => cases e1
  | .ln i :: ms, vs, ws, ls, ds, hv, e1, e2, b, h => by
    rw [argsOf_ln] at e2
    cases e3 : lentV g1 i with
    | none => rw [e3] at e2; cases e2
    | some d =>
      rw [e3] at e2
      simp only [Option.bind] at e2
      obtain ⟨a, m, hm1, k1, k2, k3, k4, k5⟩ := lent_at F e3
      unfold mixV at e1
      rw [k3] at e1
      simp only at e1
      cases e4 : mixV σ ms vs with
      | none => rw [e4] at e1; cases e1
      | some ws' =>
        rw [e4] at e1
        cases e1
        cases e5 : argsOf g1 ms ls with
        | none => rw [e5] at e2; cases e2
        | some ds' =>
          rcases List.mem_cons.mp h with h | h
          · subst h; exact .inl ⟨i, d, m, List.mem_cons_self, hm1, k1, k2⟩
          · rcases asOf_mem F hv e4 e5 b h with ⟨i', d', m', h1, h2⟩ | h1
            · exact .inl ⟨i', d', m', List.mem_cons_of_mem _ h1, h2⟩
            · exact .inr h1
  | .tm :: ms, vs, ws, ls, ds, hv, e1, e2, b, h => by
    cases hv with
    | nil => unfold argsOf at e2; cases e2
    | cons a t =>
      rename_i v l vs ls
      cases l with
      | b i => unfold argsOf at e2; cases e2
      | v d f =>
        cases f with
        | false => unfold argsOf at e2; cases e2
        | true =>
          unfold argsOf at e2
          unfold mixV at e1
          cases e4 : mixV σ ms vs with
          | none => rw [e4] at e1; cases e1
          | some ws' =>
            rw [e4] at e1
            cases e1
            cases e5 : argsOf g1 ms ls with
            | none => rw [e5] at e2; cases e2
            | some ds' =>
              obtain ⟨p, ev, h1, h2, h3, h4⟩ := (show RV K H0 H1 T1 ow1 _ d true from a)
              subst ev
              rcases List.mem_cons.mp h with h | h
              · subst h; exact .inr List.mem_cons_self
              · rcases asOf_mem F t e4 e5 b h with h | h
                · exact .inl h
                · exact .inr (List.mem_cons_of_mem _ h)
  | .pl :: ms, vs, ws, ls, ds, hv, e1, e2, b, h => by
    cases hv with
    | nil => unfold argsOf at e2; cases e2
    | cons a t =>
      rename_i v l vs ls
      unfold argsOf at e2
      unfold mixV at e1
      cases e4 : mixV σ ms vs with
      | none => rw [e4] at e1; cases e1
      | some ws' =>
        rw [e4] at e1
        cases e1
        cases e6 : l.res g1 with
        | none => rw [e6] at e2; cases e2
        | some d =>
          rw [e6] at e2
          simp only [Option.bind] at e2
          cases e5 : argsOf g1 ms ls with
          | none => rw [e5] at e2; cases e2
          | some ds' =>
            have h0 : b ∈ asOf ms ws' := by
              cases v <;> exact h
            rcases asOf_mem F t e4 e5 b h0 with h1 | h1
            · exact .inl h1
            · refine .inr ?_
              cases l with
              | b i => cases v <;> exact h1
              | v d f => cases f <;> cases v <;> first | exact h1 | exact List.mem_cons_of_mem _ h1
theorem asOf_nodup (F : FrOk K T1 ow1 g1 σ H1) : ∀ {ms : List Am} {vs ws : List V} {ls : List Vl} {ds : List D}, (lent ms).Nodup → (newOf vs ls).Nodup → Paired (VR K σ H0 H1 T1 ow1) vs ls → mixV σ ms vs = some ws → argsOf g1 ms ls = some ds → (asOf ms ws).Nodup
  | [], vs, ws, ls, ds, _, _, hv, e1, e2 => by cases hv with
    | nil => cases e1; simp [asOf]
    | cons a t => cases e1
  | .ln i :: ms, vs, ws, ls, ds, hn, hw, hv, e1, e2 => by
    obtain ⟨n1, n2⟩ := List.nodup_cons.mp (show (i :: lent ms).Nodup from hn)
    rw [argsOf_ln] at e2
    cases e3 : lentV g1 i with
    | none => rw [e3] at e2; cases e2
    | some d =>
      rw [e3] at e2
      simp only [Option.bind] at e2
      obtain ⟨a, m, hm1, k1, k2, k3, k4, k5⟩ := lent_at F e3
      unfold mixV at e1
      rw [k3] at e1
      simp only at e1
      cases e4 : mixV σ ms vs with
      | none => rw [e4] at e1; cases e1
      | some ws' =>
        rw [e4] at e1
        cases e1
        cases e5 : argsOf g1 ms ls with
        | none => rw [e5] at e2; cases e2
        | some ds' =>
          refine List.nodup_cons.mpr ⟨fun z => ?_, asOf_nodup F n2 hw hv e4 e5⟩
          rcases asOf_mem F hv e4 e5 a z with ⟨j, d', m', h1, h2, h3, h4⟩ | h
          · exact n1 (ow_inj F.owNd k2 h4 ▸ h1)
          · exact (List.nodup_append.mp F.nd).2.2 a (newOf_mem hv a h).1 a (mem_owS.mpr ⟨i, k2⟩) rfl
  | .tm :: ms, vs, ws, ls, ds, hn, hw, hv, e1, e2 => by
    cases hv with
    | nil => unfold argsOf at e2; cases e2
    | cons a t =>
      rename_i v l vs ls
      cases l with
      | b i => unfold argsOf at e2; cases e2
      | v d f =>
        cases f with
        | false => unfold argsOf at e2; cases e2
        | true =>
          unfold argsOf at e2
          unfold mixV at e1
          cases e4 : mixV σ ms vs with
          | none => rw [e4] at e1; cases e1
          | some ws' =>
            rw [e4] at e1
            cases e1
            cases e5 : argsOf g1 ms ls with
            | none => rw [e5] at e2; cases e2
            | some ds' =>
              obtain ⟨p, ev, h1, h2, h3, h4⟩ := (show RV K H0 H1 T1 ow1 _ d true from a)
              subst ev
              obtain ⟨w1, w2⟩ := List.nodup_cons.mp (show (p :: newOf vs ls).Nodup from hw)
              refine List.nodup_cons.mpr ⟨fun z => ?_, asOf_nodup F hn w2 t e4 e5⟩
              rcases asOf_mem F t e4 e5 p z with ⟨j, d', m', _, _, _, q4⟩ | h
              · exact (List.nodup_append.mp F.nd).2.2 p h1 p (mem_owS.mpr ⟨j, q4⟩) rfl
              · exact w1 h
  | .pl :: ms, vs, ws, ls, ds, hn, hw, hv, e1, e2 => by
    cases hv with
    | nil => unfold argsOf at e2; cases e2
    | cons a t =>
      rename_i v l vs ls
      unfold argsOf at e2
      unfold mixV at e1
      cases e4 : mixV σ ms vs with
      | none => rw [e4] at e1; cases e1
      | some ws' =>
        rw [e4] at e1
        cases e1
        cases e6 : l.res g1 with
        | none => rw [e6] at e2; cases e2
        | some d =>
          rw [e6] at e2
          simp only [Option.bind] at e2
          cases e5 : argsOf g1 ms ls with
          | none => rw [e5] at e2; cases e2
          | some ds' =>
            have hw' : (newOf vs ls).Nodup := by
              cases l with
              | b i => cases v <;> exact hw
              | v d f => cases f <;> cases v <;> first | exact hw | exact (List.nodup_cons.mp hw).2
            have := asOf_nodup (ms := ms) F hn hw' t e4 e5
            cases v <;> exact this
theorem pasN_mem : ∀ {ms : List Am} {vs : List V} {ls : List Vl}, ∀ p ∈ pasN ms vs ls, p ∈ newOf vs ls
  | [], vs, ls, p, h => by simp [pasN] at h
  | .ln i :: ms, vs, ls, p, h => pasN_mem (ms := ms) p (by unfold pasN at h; exact h)
  | .tm :: ms, [], ls, p, h => by simp [pasN] at h
  | .tm :: ms, _ :: _, [], p, h => by simp [pasN] at h
  | .tm :: ms, v :: vs, l :: ls, p, h => by
    have h1 := pasN_mem (ms := ms) p (show p ∈ pasN ms vs ls by unfold pasN at h; exact h)
    cases l with
    | b i => cases v <;> exact h1
    | v d f => cases f <;> cases v <;> first | exact h1 | exact List.mem_cons_of_mem _ h1
  | .pl :: ms, [], ls, p, h => by simp [pasN] at h
  | .pl :: ms, _ :: _, [], p, h => by simp [pasN] at h
  | .pl :: ms, v :: vs, l :: ls, p, h => by
    have key : p ∈ pasN ms vs ls → p ∈ newOf (v :: vs) (l :: ls) := fun h0 => by
      have h1 := pasN_mem (ms := ms) p h0
      cases l with
      | b i => cases v <;> exact h1
      | v d f => cases f <;> cases v <;> first | exact h1 | exact List.mem_cons_of_mem _ h1
    cases l with
    | b i => exact key (by cases v <;> exact h)
    | v d f =>
      cases f with
      | false => exact key (by cases v <;> exact h)
      | true =>
        cases v with
        | ref q =>
          rcases List.mem_cons.mp (show p ∈ q :: pasN ms vs ls from h) with h | h
          · subst h; exact List.mem_cons_self
          · exact key h
        | _ => exact key h
/-- what is lent is not among them -/
theorem asOf_pas (F : FrOk K T1 ow1 g1 σ H1) : ∀ {ms : List Am} {vs ws : List V} {ls : List Vl} {ds : List D}, (newOf vs ls).Nodup → Paired (VR K σ H0 H1 T1 ow1) vs ls → mixV σ ms vs = some ws → argsOf g1 ms ls = some ds → ∀ b ∈ asOf ms ws, b ∉ pasN ms vs ls
  | [], vs, ws, ls, ds, hw, hv, e1, e2, b, h => by simp [pasN]
  | .ln i :: ms, vs, ws, ls, ds, hw, hv, e1, e2, b, h => by
    rw [argsOf_ln] at e2
    cases e3 : lentV g1 i with
    | none => rw [e3] at e2; cases e2
    | some d =>
      rw [e3] at e2
      simp only [Option.bind] at e2
      obtain ⟨a, m, hm1, k1, k2, k3, k4, k5⟩ := lent_at F e3
      unfold mixV at e1
      rw [k3] at e1
      simp only at e1
      cases e4 : mixV σ ms vs with
      | none => rw [e4] at e1; cases e1
      | some ws' =>
        rw [e4] at e1
        cases e1
        cases e5 : argsOf g1 ms ls with
        | none => rw [e5] at e2; cases e2
        | some ds' =>
          intro z
          have z : b ∈ pasN ms vs ls := by unfold pasN at z; exact z
          rcases List.mem_cons.mp h with h | h
          · subst h
            exact (List.nodup_append.mp F.nd).2.2 b (newOf_mem hv b (pasN_mem b z)).1 b (mem_owS.mpr ⟨i, k2⟩) rfl
          · exact asOf_pas (ms := ms) F hw hv e4 e5 b h z
  | .tm :: ms, vs, ws, ls, ds, hw, hv, e1, e2, b, h => by
    cases hv with
    | nil => unfold argsOf at e2; cases e2
    | cons a t =>
      rename_i v l vs ls
      cases l with
      | b i => unfold argsOf at e2; cases e2
      | v d f =>
        cases f with
        | false => unfold argsOf at e2; cases e2
        | true =>
          unfold argsOf at e2
          unfold mixV at e1
          cases e4 : mixV σ ms vs with
          | none => rw [e4] at e1; cases e1
          | some ws' =>
            rw [e4] at e1
            cases e1
            cases e5 : argsOf g1 ms ls with
            | none => rw [e5] at e2; cases e2
            | some ds' =>
              obtain ⟨p, ev, h1, h2, h3, h4⟩ := (show RV K H0 H1 T1 ow1 _ d true from a)
              subst ev
              obtain ⟨w1, w2⟩ := List.nodup_cons.mp (show (p :: newOf vs ls).Nodup from hw)
              intro z
              have z : b ∈ pasN ms vs ls := by unfold pasN at z; exact z
              rcases List.mem_cons.mp h with h | h
              · subst h; exact w1 (pasN_mem b z)
              · exact asOf_pas (ms := ms) F w2 t e4 e5 b h z
  | .pl :: ms, vs, ws, ls, ds, hw, hv, e1, e2, b, h => by
    cases hv with
    | nil => unfold argsOf at e2; cases e2
    | cons a t =>
      rename_i v l vs ls
      unfold argsOf at e2
      unfold mixV at e1
      cases e4 : mixV σ ms vs with
      | none => rw [e4] at e1; cases e1
      | some ws' =>
        rw [e4] at e1
        cases e1
        cases e6 : l.res g1 with
        | none => rw [e6] at e2; cases e2
        | some d =>
          rw [e6] at e2
          simp only [Option.bind] at e2
          cases e5 : argsOf g1 ms ls with
          | none => rw [e5] at e2; cases e2
          | some ds' =>
            have h0 : b ∈ asOf ms ws' := by cases v <;> exact h
            have hw' : (newOf vs ls).Nodup := by
              cases l with
              | b i => cases v <;> exact hw
              | v d f => cases f <;> cases v <;> first | exact hw | exact (List.nodup_cons.mp hw).2
            have ih := asOf_pas (ms := ms) F hw' t e4 e5 b h0
            intro z
            cases l with
            | b i => cases v <;> exact ih z
            | v d' f =>
              cases f with
              | false => cases v <;> exact ih z
              | true =>
                obtain ⟨p, ev, h1, h2, h3, h4⟩ := (show RV K H0 H1 T1 ow1 _ d' true from a)
                subst ev
                rcases List.mem_cons.mp (show b ∈ p :: pasN ms vs ls from z) with z | z
                · subst z
                  rcases asOf_mem F t e4 e5 b h0 with ⟨j, d', m', _, _, _, q4⟩ | q
                  · exact (List.nodup_append.mp F.nd).2.2 b h1 b (mem_owS.mpr ⟨j, q4⟩) rfl
                  · exact (List.nodup_cons.mp (show (b :: newOf vs ls).Nodup from hw)).1 q
                · exact ih z
/-- what the callee says of the slots lent -/
theorem lent_back (F : FrOk K T1 ow1 g1 σ H1) {S3 : List Addr} {H2 : Hp} : ∀ {ms : List Am} {vs ws : List V} {ls : List Vl} {ds md : List D}, Paired (VR K σ H0 H1 T1 ow1) vs ls → mixV σ ms vs = some ws → argsOf g1 ms ls = some ds → LentR K S3 H2 (asOf ms ws) md →
    Paired (fun i d' => ∃ a, ow1[i]? = some (some a) ∧ a ∈ asOf ms ws ∧ Top K H2 S3 a d' ∧ Mut (H2 a)) (lent ms) (ours ms md)
  | [], vs, ws, ls, ds, md, hv, e1, e2, h => .nil
  | .ln i :: ms, vs, ws, ls, ds, md, hv, e1, e2, h => by
    rw [argsOf_ln] at e2
    cases e3 : lentV g1 i with
    | none => rw [e3] at e2; cases e2
    | some d =>
      rw [e3] at e2
      simp only [Option.bind] at e2
      obtain ⟨a, m, hm1, k1, k2, k3, k4, k5⟩ := lent_at F e3
      unfold mixV at e1
      rw [k3] at e1
      simp only at e1
      cases e4 : mixV σ ms vs with
      | none => rw [e4] at e1; cases e1
      | some ws' =>
        rw [e4] at e1
        cases e1
        cases e5 : argsOf g1 ms ls with
        | none => rw [e5] at e2; cases e2
        | some ds' =>
          cases md with
          | nil => cases h
          | cons d' md =>
            cases (show Paired (fun a d => Top K H2 S3 a d ∧ Mut (H2 a)) (a :: asOf ms ws') (d' :: md) from h) with
            | cons q t =>
              exact .cons ⟨a, k2, List.mem_cons_self, q⟩ (Paired.mapP (lent_back F hv e4 e5 t) fun _ _ ⟨b, b1, b2, b3⟩ => ⟨b, b1, List.mem_cons_of_mem _ b2, b3⟩)
  | .tm :: ms, vs, ws, ls, ds, md, hv, e1, e2, h => by
    cases hv with
    | nil => unfold argsOf at e2; cases e2
    | cons a t =>
      rename_i v0 l vs ls
      cases l with
      | b i => unfold argsOf at e2; cases e2
      | v d f =>
        cases f with
        | false => unfold argsOf at e2; cases e2
        | true =>
          unfold argsOf at e2
          unfold mixV at e1
          cases e4 : mixV σ ms vs with
          | none => rw [e4] at e1; cases e1
          | some ws' =>
            rw [e4] at e1
            cases e1
            cases e5 : argsOf g1 ms ls with
            | none => rw [e5] at e2; cases e2
            | some ds' =>
              obtain ⟨p, ev, h1, h2, h3, h4⟩ := (show RV K H0 H1 T1 ow1 _ d true from a)
              subst ev
              cases md with
              | nil => cases h
              | cons d' md =>
                cases (show Paired (fun a d => Top K H2 S3 a d ∧ Mut (H2 a)) (p :: asOf ms ws') (d' :: md) from h) with
                | cons q t2 =>
                  have := lent_back (ms := ms) (ws := ws') F t e4 e5 t2
                  show Paired _ (lent ms) (ours ms md)
                  exact Paired.mapP this fun _ _ ⟨b, b1, b2, b3⟩ => ⟨b, b1, List.mem_cons_of_mem _ b2, b3⟩
  | .pl :: ms, vs, ws, ls, ds, md, hv, e1, e2, h => by
    cases hv with
    | nil => unfold argsOf at e2; cases e2
    | cons a t =>
      rename_i v0 l vs ls
      unfold argsOf at e2
      unfold mixV at e1
      cases e4 : mixV σ ms vs with
      | none => rw [e4] at e1; cases e1
      | some ws' =>
        rw [e4] at e1
        cases e1
        cases e6 : l.res g1 with
        | none => rw [e6] at e2; cases e2
        | some d =>
          rw [e6] at e2
          simp only [Option.bind] at e2
          cases e5 : argsOf g1 ms ls with
          | none => rw [e5] at e2; cases e2
          | some ds' =>
            have ea : asOf (.pl :: ms) (v0 :: ws') = asOf ms ws' := by cases v0 <;> rfl
            have h' : LentR K S3 H2 (asOf ms ws') md := by rw [← ea]; exact h
            have := lent_back F t e4 e5 h'
            show Paired _ (lent ms) (ours ms md)
            exact Paired.mapP this fun _ _ ⟨b, b1, b2, b3⟩ => ⟨b, b1, by rw [show (fun x => v0 :: x) ws' = v0 :: ws' from rfl, ea]; exact b2, b3⟩
end

/-! ### the call -/
section
variable {K : PySem.W.Frag} {cl : Call} {σ : L2.St} {H : Hp}
/-- the caller's frame behind a call -/
theorem call_step {T T1 : List Addr} {ow ow2 : List (Option Addr)} {g g2 g4 : Gm} {H1 H2 : Hp} {T0 as S3 Tn : List Addr} {is : List Nat} {md : List D} (F : FrOk K T ow g σ H) (S2 : Step K T ow g σ H T1 ow2 g2 σ H1)
    (ht : ∀ b, b ∈ T0 ++ as ↔ b ∈ T1 ++ owS ow2) (E : EndR T0 as H1 S3 H2) (hl : Paired (fun i d' => ∃ a, ow2[i]? = some (some a) ∧ a ∈ as ∧ Top K H2 S3 a d' ∧ Mut (H2 a)) is md)
    (hn : is.Nodup) (hm : ∀ i ∈ is, ∃ d m, g2[i]? = some (some ⟨d, m⟩) ∧ (m = .own ∨ m = .prm)) (ha : ∀ b ∈ as, (∃ i ∈ is, ow2[i]? = some (some b)) ∨ (b ∈ T1 ∧ H b = none)) (hp : putBack g2 is md = some g4)
    (t1 : ∀ b ∈ T1, b ∈ Tn) (t2 : ∀ b ∈ Tn, b ∈ T1 ∨ (H1 b = none ∧ b ∈ S3)) (t3 : (Tn ++ owS ow2).Nodup) : Step K T ow g σ H Tn ow2 g4 σ H2 := by
  have F2 := S2.fr
  obtain ⟨p1, p2, p3⟩ := putBack_at hn hp
  have sub3 : ∀ b ∈ Tn ++ owS ow2, b ∈ S3 := fun b z => by
    rcases List.mem_append.mp z with z | z
    · rcases t2 b z with z | z
      · exact E.tt b ((ht b).mpr (List.mem_append_left _ z))
      · exact z.2
    · exact E.tt b ((ht b).mpr (List.mem_append_right _ z))
  have subG : ∀ b ∈ Tn ++ owS ow2, b ∈ T1 ++ owS ow2 ∨ H1 b = none := fun b z => by
    rcases List.mem_append.mp z with z | z
    · rcases t2 b z with z | z
      · exact .inl (List.mem_append_left _ z)
      · exact .inr z.1
    · exact .inl (List.mem_append_right _ z)
  have kp : ∀ b o, b ∉ T1 ++ owS ow2 → H1 b = some o → H2 b = some o := fun b o n e => E.kx b o e fun z => n ((ht b).mp (List.mem_append_right _ z))
  have gd : ∀ b o, b ∉ T1 ++ owS ow2 → H1 b = some o → b ∉ Tn ++ owS ow2 := fun b o n e z => by
    rcases subG b z with z | z
    · exact n z
    · rw [e] at z; cases z
  have tupS3 : ∀ b xs, Rd H2 b (.tup xs) → b ∉ S3 := fun b xs r => rd_tup r E.live
  -- a slot that is not lent has another place
  have other : ∀ j a, j ∉ is → ow2[j]? = some (some a) → a ∉ as := fun j a hj ea z => by
    rcases ha a z with ⟨i, hi, e⟩ | ⟨h1, _⟩
    · exact hj (ow_inj F2.owNd e ea ▸ hi)
    · exact (List.nodup_append.mp F2.nd).2.2 a h1 a (mem_owS.mpr ⟨j, ea⟩) rfl
  have pick : ∀ {is : List Nat} {md : List D} {P P' : Nat → D → Prop}, Paired P is md → Paired P' is md → ∀ j ∈ is, ∃ d, P j d ∧ P' j d := by
    intro is
    induction is with
    | nil => intro md P P' _ _ j h; simp at h
    | cons i is ih =>
      intro md P P' h1 h2 j h
      cases h1 with
      | cons a t =>
        cases h2 with
        | cons a' t' =>
          rcases List.mem_cons.mp h with h | h
          · subst h; exact ⟨_, a, a'⟩
          · exact ih t t' j h
  refine ⟨⟨t3, fun b z => E.live b (sub3 b z), p1.trans F2.ln, F2.lo, fun i s e => ?_⟩, fun b z => t1 b (S2.tt b z), fun b z => ?_, S2.os, fun b o e n => ?_, fun b o e => ?_, fun b z => ?_, fun i s e m => ?_, S2.ls, fun i s e m => ?_⟩
  · by_cases hi : i ∈ is
    · obtain ⟨d', ⟨a, k1, k2, k3, k4⟩, d0, m, q1, q2⟩ := pick hl p3 i hi
      rw [q2] at e
      cases e
      obtain ⟨d1, m1, w1, w2⟩ := hm i hi
      rw [q1] at w1
      cases w1
      obtain ⟨v, oa, e1, e2, q⟩ := F2.sl i _ q1
      rw [k1] at e2; cases e2
      have hv : v = .ref a := by
        obtain ⟨a', y1, y2, _⟩ := q.live (by rcases w2 with h | h <;> (subst h; simp))
        cases y1; exact y2
      have tp : Top K H2 (Tn ++ owS ow2) a d' := k3.to (fun _ r => r) (fun _ _ _ r => r) tupS3 fun b _ n _ z => n (sub3 b z)
      refine ⟨v, some a, e1, k1, ?_⟩
      rcases w2 with h | h <;> subst h
      · exact ⟨a, rfl, hv, tp, k4⟩
      · exact ⟨a, rfl, hv, tp, k4⟩
    · rw [p2 i hi] at e
      obtain ⟨v, oa, e1, e2, q⟩ := F2.sl i s e
      refine ⟨v, oa, e1, e2, q.to kp F2.tup gd fun a ea => ?_⟩
      subst ea
      have hna := other i a hi e2
      refine ⟨fun u r => ?_, fun mu => ?_⟩
      · rcases r with r | ⟨o', r⟩
        · exact .inl (E.kx a _ r hna)
        · exact .inr ⟨o', E.kx a _ r hna⟩
      · cases eb : H1 a with
        | none => rw [eb] at mu; exact mu.elim
        | some o => rw [E.kx a o eb hna]; rw [eb] at mu; exact mu
  · rcases t2 b z with z | z
    · exact S2.nw b z
    · exact .inr (S2.back z.1)
  · refine E.kx b o (S2.kx b o e n) fun z => ?_
    rcases ha b z with ⟨i, hi, e'⟩ | ⟨_, h⟩
    · obtain ⟨d, m, w1, w2⟩ := hm i hi
      rcases S2.on b ⟨i, _, w1, w2, e'⟩ with h | h
      · exact n h
      · rw [e] at h; cases h
    · rw [e] at h; cases h
  · obtain ⟨o1, h1⟩ := S2.lv b o e
    exact E.lv b o1 h1
  · obtain ⟨i, s, e, m, w⟩ := z
    by_cases hi : i ∈ is
    · obtain ⟨d1, m1, w1, w2⟩ := hm i hi
      exact S2.on b ⟨i, _, w1, w2, w⟩
    · rw [p2 i hi] at e
      exact S2.on b ⟨i, s, e, m, w⟩
  · obtain ⟨e1, e2, d', e3, e4⟩ := S2.st i s e m
    by_cases hi : i ∈ is
    · obtain ⟨d1, _, d0, m0, q1, q2⟩ := pick hl p3 i hi
      obtain ⟨d2, m2, w1, w2⟩ := hm i hi
      rw [q1] at w1; cases w1
      rw [q1] at e3; cases e3
      refine ⟨e1, e2, d1, q2, fun z => ?_⟩
      rcases w2 with h | h <;> (rw [z] at h; cases h)
    · exact ⟨e1, e2, d', by rw [p2 i hi]; exact e3, e4⟩
  · by_cases hi : i ∈ is
    · obtain ⟨d1, _, d0, m0, q1, q2⟩ := pick hl p3 i hi
      obtain ⟨d2, m2, w1, w2⟩ := hm i hi
      rw [q1] at w1; cases w1
      rw [q2] at e; cases e
      have m : m0 = .lck := m
      rcases w2 with h | h <;> (rw [m] at h; cases h)
    · rw [p2 i hi] at e
      exact S2.nl i s e m
end
end Ev

end

-- EvCall2
section
/-! Ev: soundness, calls: the rule. -/
namespace Ev
open PySem PySem.Spec PyProof.Rows L2

theorem Paired.memP {α β : Type} {P P' : α → β → Prop} : ∀ {xs : List α} {ys : List β}, Paired P xs ys → (∀ x ∈ xs, ∀ y, P x y → P' x y) → Paired P' xs ys
  | _, _, .nil, _ => .nil
  | _, _, .cons a t, h => .cons (h _ List.mem_cons_self _ a) (Paired.memP t fun x hx => h x (List.mem_cons_of_mem _ hx))
theorem lent_some {g : Gm} : ∀ {ms : List Am} {ls : List Vl} {ds : List D}, argsOf g ms ls = some ds → ∀ i ∈ lent ms, ∃ d, lentV g i = some d
  | [], _, _, _, i, h => by simp [lent] at h
  | .ln j :: ms, ls, ds, e, i, h => by
    rw [argsOf_ln] at e
    cases e3 : lentV g j with
    | none => rw [e3] at e; cases e
    | some d =>
      rw [e3] at e
      simp only [Option.bind] at e
      cases e5 : argsOf g ms ls with
      | none => rw [e5] at e; cases e
      | some ds' =>
        rcases List.mem_cons.mp h with h | h
        · subst h; exact ⟨d, e3⟩
        · exact lent_some e5 i h
  | .tm :: ms, ls, ds, e, i, h => by
    unfold argsOf at e
    split at e
    all_goals first
      | cases e; done
      | skip
    all_goals rename_i h1
    all_goals try (cases h1; done)
    all_goals try
      rename_i h2
      cases h1
      cases e5 : argsOf g ms _ with
      | none => rw [e5] at e; cases e
      | some ds' => exact lent_some e5 i h
  | .pl :: ms, ls, ds, e, i, h => by
    cases ls with
    | nil => unfold argsOf at e; cases e
    | cons l ls =>
      unfold argsOf at e
      cases e6 : l.res g with
      | none => rw [e6] at e; cases e
      | some d =>
        rw [e6] at e
        simp only [Option.bind] at e
        cases e5 : argsOf g ms ls with
        | none => rw [e5] at e; cases e
        | some ds' => exact lent_some e5 i h
/-- the slots that are only looked at -/
def borA (ow : List (Option Addr)) : List Vl → List Addr
  | [] => []
  | .v _ _ :: r => borA ow r
  | .b i :: r => (match ow[i]? with | some (some a) => [a] | _ => []) ++ borA ow r
theorem mem_borA {ow : List (Option Addr)} {i : Nat} {a : Addr} (e : ow[i]? = some (some a)) : ∀ {ls : List Vl}, Vl.b i ∈ ls → a ∈ borA ow ls
  | .v d f :: r, h => by
    rcases List.mem_cons.mp h with h | h
    · cases h
    · exact mem_borA e (ls := r) h
  | .b j :: r, h => by
    unfold borA
    rcases List.mem_cons.mp h with h | h
    · cases h; rw [e]; exact List.mem_append_left _ List.mem_cons_self
    · exact List.mem_append_right _ (mem_borA e h)
theorem borA_mem {ow : List (Option Addr)} {a : Addr} : ∀ {ls : List Vl}, a ∈ borA ow ls → ∃ i, Vl.b i ∈ ls ∧ ow[i]? = some (some a)
  | [], h => by simp [borA] at h
  | .v d f :: r, h => by
    obtain ⟨i, h1, h2⟩ := borA_mem (ls := r) h
    exact ⟨i, List.mem_cons_of_mem _ h1, h2⟩
  | .b j :: r, h => by
    unfold borA at h
    rcases List.mem_append.mp h with h | h
    · split at h
      · rename_i b e; rw [List.mem_singleton.mp h]; exact ⟨j, List.mem_cons_self, e⟩
      · simp at h
    · obtain ⟨i, h1, h2⟩ := borA_mem (ls := r) h
      exact ⟨i, List.mem_cons_of_mem _ h1, h2⟩
theorem nd_filter {α : Type} {p : α → Bool} {xs : List α} (h : xs.Nodup) : (xs.filter p).Nodup := h.sublist List.filter_sublist
section
variable {K : PySem.W.Frag} {cl : Call} {σ : L2.St} {H : Hp}
/-- what a callee is asked, from the caller's frame -/
theorem n_call {f : Nat} {mp : List Nat} {ms : List Am} {es : List Ex} {Q : VK} {E : XK} (hm : msOk mp 0 ms = true) (hn : needs ms = es.length) (h : tEv K cl noX (.call f ms es) σ H Q) : tMix K cl noX ms es σ H fun ws H1 => spF K mp (cl f) ws H1 Q E := by
  obtain ⟨T, ow, g, F, h⟩ := h
  simp only [ev] at h
  by_cases hl0 : ((lent ms).all fun i => (slotD g i).isSome) = true
  case neg => rw [if_neg hl0] at h; exact h.elim
  rw [if_pos hl0] at h
  refine tMix_of hn (fun i hi => ?_) ⟨T, ow, g, F, ?_⟩
  · have := List.all_eq_true.mp hl0 i hi
    obtain ⟨d, hd⟩ := Option.isSome_iff_exists.mp this
    obtain ⟨v, e, _⟩ := F.slot hd
    exact ⟨v, e⟩
  cases e1 : evs cl es g with
  | bad => rw [e1] at h; exact h
  | exc c g' => rw [e1] at h; exact h
  | ok r =>
    rw [e1] at h
    intro T1 ow1 H1 vs S1 hv ws ew
    simp only [Out.bind] at h
    cases e2 : argsOf r.2 ms r.1 with
    | none => rw [e2] at h; exact h.elim
    | some ds =>
      rw [e2] at h
      simp only at h
      by_cases hc : okB ms r.1 = true
      case neg => rw [if_neg hc] at h; exact h.elim
      rw [if_pos hc] at h
      unfold okB at hc
      rw [Bool.and_eq_true] at hc
      obtain ⟨hnd, hbl⟩ := hc
      have hnd : (lent ms).Nodup := of_decide_eq_true hnd
      have hbl : ∀ i, Vl.b i ∈ r.1 → i ∉ lent ms := fun i hi hc => by
        have := List.all_eq_true.mp hbl _ hi
        simp at this
        exact this hc
      have F1 := S1.fr
      obtain ⟨m1, m2, m3⟩ := List.nodup_append.mp F1.nd
      have asnd := asOf_nodup (ms := ms) F1 hnd hv.nd hv.all ew e2
      have asm := asOf_mem (ms := ms) F1 hv.all ew e2
      have asp := asOf_pas (ms := ms) F1 hv.nd hv.all ew e2
      have asl : ∀ b ∈ asOf ms ws, b ∈ T1 ++ owS ow1 := fun b hb => by
        rcases asm b hb with ⟨i, d, m, h1, h2, h3, h4⟩ | hb
        · exact List.mem_append_right _ (mem_owS.mpr ⟨i, h4⟩)
        · exact List.mem_append_left _ (newOf_mem hv.all b hb).1
      -- the places of what is only looked at are none of the lent ones
      have asb : ∀ i, Vl.b i ∈ r.1 → ∀ a, ow1[i]? = some (some a) → a ∉ asOf ms ws := fun i hi a ea hb => by
        rcases asm a hb with ⟨j, d, m, h1, h2, h3, h4⟩ | hb
        · exact hbl i hi (ow_inj F1.owNd ea h4 ▸ h1)
        · exact m3 a (newOf_mem hv.all a hb).1 a (mem_owS.mpr ⟨i, ea⟩) rfl
      have asn : ∀ b ∈ asOf ms ws, (∃ i ∈ lent ms, ow1[i]? = some (some b)) ∨ (b ∈ T1 ∧ H b = none) := fun b hb => by
        rcases asm b hb with ⟨i, d, m, h1, h2, h3, h4⟩ | hb
        · exact .inl ⟨i, h1, h4⟩
        · exact .inr (newOf_mem hv.all b hb)
      -- a call in which nothing is lent and a flat value comes back
      have flat : ∀ d fr md, cl f ds = .ok (d, fr, md) → (flatD d && md.isEmpty) = true → spF K mp (cl f) ws H1 Q E := fun d fr md ec hf => by
        rw [Bool.and_eq_true] at hf
        rw [ec] at h
        simp only [callEnd, hf.1, hf.2, Bool.and_true, if_true, fin] at h
        let bad := asOf ms ws ++ pasN ms vs r.1 ++ borA ow1 r.1
        let T0 := (T1 ++ owS ow1).filter fun b => !bad.contains b
        have t0 : ∀ b, b ∈ T0 → b ∈ T1 ++ owS ow1 ∧ b ∉ bad := fun b hb => by
          obtain ⟨h1, h2⟩ := List.mem_filter.mp hb
          refine ⟨h1, fun z => ?_⟩
          rw [List.contains_iff_mem.mpr z] at h2; cases h2
        have sub : ∀ b ∈ T0 ++ asOf ms ws, b ∈ T1 ++ owS ow1 := fun b hb => (List.mem_append.mp hb).elim (fun z => (t0 b z).1) fun z => asl b z
        refine ⟨T0, asOf ms ws, ds, List.nodup_append.mpr ⟨nd_filter F1.nd, asnd, fun a ha b hb e => ?_⟩, fun b hb => F1.lv b (sub b hb), args_par F1 sub hm hv.all ew e2 (fun p hp z => ?_) (fun i hi s a es hs ea z => ?_), ?_⟩
        · subst e
          exact (t0 a ha).2 (List.mem_append_left _ (List.mem_append_left _ hb))
        · rcases List.mem_append.mp z with z | z
          · exact (t0 p z).2 (List.mem_append_left _ (List.mem_append_right _ hp))
          · exact asp p z hp
        · rcases List.mem_append.mp z with z | z
          · exact (t0 a z).2 (List.mem_append_right _ (mem_borA ea hi))
          · exact asb i hi a ea z
        · rw [ec]
          intro S3 H2 v E2 rv lt
          have has : asOf ms ws = [] := by
            cases md with
            | nil =>
              cases ea : asOf ms ws with
              | nil => rfl
              | cons a as => rw [ea] at lt; cases lt
            | cons _ _ => exact absurd hf.2 (by simp)
          have kp : KeepA H1 H2 := fun b o e => E2.kx b o e (by rw [has]; simp)
          have S2 := S1.trans (F1.keepA kp)
          cases fr with
          | true =>
            obtain ⟨p, _, _, _, tp, _⟩ := rv
            have h1 := tp.mut
            have h2 := hf.1
            cases d <;> simp_all [isMutD, flatD]
          | false => exact h T1 ow1 H2 v S2 (Rep.flat (show Rep K H2 S3 v d from rv) hf.1)
      -- what is looked at is shared behind the call
      have main : ∀ g2 g4 md, frzB r.2 r.1 = some g2 → putBack g2 (lent ms) (ours ms md) = some g4 → ∃ T0, (T0 ++ asOf ms ws).Nodup ∧ (∀ b ∈ T0 ++ asOf ms ws, LiveM H1 b) ∧ ParR K H1 (T0 ++ asOf ms ws) mp 0 ws ds (asOf ms ws) ∧
          ∀ S3 H2, EndR T0 (asOf ms ws) H1 S3 H2 → LentR K S3 H2 (asOf ms ws) md → ∃ T2 ow2, (∀ b ∈ T2 ++ owS ow2, b ∈ S3) ∧ (∀ p, H1 p = none → H p = none) ∧ Step K T ow g σ H T2 ow2 g4 σ H2 ∧ ∀ p, H1 p = none → p ∈ S3 → Step K T ow g σ H (p :: T2) ow2 g4 σ H2 := fun g2 g4 md ef ep => by
        obtain ⟨ow2, S2, h1, h2, h3, h4, h5⟩ := frzB_step r.1 F1 ef
        let T1' := T1.filter fun b => !(pasN ms vs r.1).contains b
        have t1' : ∀ b, b ∈ T1' ↔ b ∈ T1 ∧ b ∉ pasN ms vs r.1 := fun b => by
          show b ∈ T1.filter _ ↔ _
          rw [List.mem_filter]
          simp
        have pnew : ∀ b ∈ pasN ms vs r.1, H b = none := fun b hb => (newOf_mem hv.all b (pasN_mem b hb)).2
        have tT : ∀ b ∈ T, b ∈ T1' := fun b hb => (t1' b).mpr ⟨S1.tt b hb, fun z => by
          obtain ⟨o, e, _⟩ := F.lv b (List.mem_append_left _ hb)
          rw [pnew b z] at e; cases e⟩
        have S12 : Step K T ow g σ H T1' ow2 g2 σ H1 := (S1.trans S2).dropT tT (fun b hb => ((t1' b).mp hb).1) (nd_filter m1)
        have F2 := S12.fr
        have lent2 : ∀ i ∈ lent ms, g2[i]? = r.2[i]? ∧ ow2[i]? = ow1[i]? := fun i hi => h4 i fun z => hbl i z hi
        have asin : ∀ b ∈ asOf ms ws, b ∈ T1' ++ owS ow2 := fun b hb => by
          rcases asn b hb with ⟨i, h1, h2⟩ | ⟨hb', _⟩
          · exact List.mem_append_right _ (mem_owS.mpr ⟨i, by rw [(lent2 i h1).2]; exact h2⟩)
          · exact List.mem_append_left _ ((t1' b).mpr ⟨hb', asp b hb⟩)
        let T0 := (T1' ++ owS ow2).filter fun b => !(asOf ms ws).contains b
        have t0 : ∀ b, b ∈ T0 ↔ b ∈ T1' ++ owS ow2 ∧ b ∉ asOf ms ws := fun b => by
          show b ∈ (T1' ++ owS ow2).filter _ ↔ _
          rw [List.mem_filter]
          simp
        have all : ∀ b, b ∈ T0 ++ asOf ms ws ↔ b ∈ T1' ++ owS ow2 := fun b => by
          constructor
          · intro hb
            exact (List.mem_append.mp hb).elim (fun z => ((t0 b).mp z).1) fun z => asin b z
          · intro hb
            by_cases z : b ∈ asOf ms ws
            · exact List.mem_append_right _ z
            · exact List.mem_append_left _ ((t0 b).mpr ⟨hb, z⟩)
        have sub : ∀ b ∈ T0 ++ asOf ms ws, b ∈ T1 ++ owS ow1 := fun b hb => by
          rcases List.mem_append.mp ((all b).mp hb) with z | z
          · exact List.mem_append_left _ ((t1' b).mp z).1
          · exact List.mem_append_right _ (h1 b z)
        refine ⟨T0, List.nodup_append.mpr ⟨nd_filter F2.nd, asnd, fun a ha b hb e => ?_⟩, fun b hb => F2.lv b ((all b).mp hb), args_par F1 sub hm hv.all ew e2 (fun p hp z => ?_) (fun i hi s a es hs ea z => ?_), fun S3 H2 E2 lt => ?_⟩
        · subst e
          exact ((t0 a).mp ha).2 hb
        · rcases List.mem_append.mp ((all p).mp z) with z | z
          · exact ((t1' p).mp z).2 hp
          · exact m3 p (newOf_mem hv.all p (pasN_mem p hp)).1 p (h1 p z) rfl
        · rcases List.mem_append.mp ((all a).mp z) with z | z
          · exact m3 a ((t1' a).mp z).1 a (mem_owS.mpr ⟨i, ea⟩) rfl
          · exact h5 i s a hi es hs ea z
        · have hl : Paired (fun i d' => ∃ a, ow2[i]? = some (some a) ∧ a ∈ asOf ms ws ∧ Top K H2 S3 a d' ∧ Mut (H2 a)) (lent ms) (ours ms md) :=
            Paired.memP (lent_back (ms := ms) F1 hv.all ew e2 lt) fun i hi d' ⟨a, q1, q2⟩ => ⟨a, by rw [(lent2 i hi).2]; exact q1, q2⟩
          have hm2 : ∀ i ∈ lent ms, ∃ d m, g2[i]? = some (some ⟨d, m⟩) ∧ (m = .own ∨ m = .prm) := fun i hi => by
            obtain ⟨d, hd⟩ := lent_some e2 i hi
            obtain ⟨a, m, k1, k2, _⟩ := lent_at F1 hd
            exact ⟨d, m, by rw [(lent2 i hi).1]; exact k2, k1⟩
          have ha2 : ∀ b ∈ asOf ms ws, (∃ i ∈ lent ms, ow2[i]? = some (some b)) ∨ (b ∈ T1' ∧ H b = none) := fun b hb => by
            rcases asn b hb with ⟨i, k1, k2⟩ | ⟨k1, k2⟩
            · exact .inl ⟨i, k1, by rw [(lent2 i k1).2]; exact k2⟩
            · exact .inr ⟨(t1' b).mpr ⟨k1, asp b hb⟩, k2⟩
          refine ⟨T1', ow2, fun b hb => E2.tt b ((all b).mpr hb), fun p hp => S1.back hp, ?_, fun p hp hp3 => ?_⟩
          · exact call_step F S12 all E2 hl hnd hm2 ha2 ep (fun b hb => hb) (fun b hb => .inl hb) F2.nd
          · refine call_step F S12 all E2 hl hnd hm2 ha2 ep (fun b hb => List.mem_cons_of_mem _ hb) (fun b hb => ?_) (List.nodup_cons.mpr ⟨fun z => ?_, F2.nd⟩)
            · rcases List.mem_cons.mp hb with hb | hb
              · subst hb; exact .inr ⟨hp, hp3⟩
              · exact .inl hb
            · obtain ⟨o, e, _⟩ := F2.lv p z
              rw [hp] at e; cases e
      cases ec : cl f ds with
      | bad => rw [ec] at h; exact h.elim
      | exc c md => rw [ec] at h; exact h.elim
      | ok rr =>
        obtain ⟨d, fr, md⟩ := rr
        by_cases hf : (flatD d && md.isEmpty) = true
        · exact flat d fr md ec hf
        rw [ec] at h
        simp only [callEnd] at h
        rw [if_neg hf] at h
        cases ef : frzB r.2 r.1 with
        | none => rw [ef] at h; exact h.elim
        | some g2 =>
          rw [ef] at h
          simp only [Option.bind] at h
          cases ep : putBack g2 (lent ms) (ours ms md) with
          | none => rw [ep] at h; exact h.elim
          | some g4 =>
            rw [ep] at h
            simp only [fin] at h
            obtain ⟨T0, a1, a2, a3, a4⟩ := main g2 g4 md ef ep
            refine ⟨T0, asOf ms ws, ds, a1, a2, a3, ?_⟩
            rw [ec]
            intro S3 H2 v E2 rv lt
            obtain ⟨T2, ow2, sub, bk, S, S'⟩ := a4 S3 H2 E2 lt
            have tup3 : ∀ b xs, Rd H2 b (.tup xs) → b ∉ S3 := fun b xs q => rd_tup q E2.live
            cases fr with
            | false => exact h T2 ow2 H2 v S (Rep.mono (show Rep K H2 S3 v d from rv) sub tup3)
            | true =>
              obtain ⟨p, ev, hp, hp3, tp, mu⟩ := rv
              subst ev
              refine h (p :: T2) ow2 H2 _ (S' p hp hp3) ⟨p, rfl, List.mem_cons_self, bk p hp, tp.sub (fun b hb => ?_) tup3, mu⟩
              rcases List.mem_append.mp hb with hb | hb
              · rcases List.mem_cons.mp hb with hb | hb
                · subst hb; exact hp3
                · exact sub b (List.mem_append_left _ hb)
              · exact sub b (List.mem_append_right _ hb)
end
/-! ### the arguments of a call, as they are written -/
inductive MixOk (X : Cx) (cl : Call) (W : Nat → L2.St → Hp → Prop) : List Am → List Expr → List Ex → Prop
  | nil : MixOk X cl W [] [] []
  | ln {i : Nat} {e : Expr} {ms : List Am} {es : List Expr} {xs : List Ex} : PE X e (tVar i) → MixOk X cl W ms es xs → MixOk X cl W (.ln i :: ms) (e :: es) xs
  | pl {e : Expr} {x : Ex} {ms : List Am} {es : List Expr} {xs : List Ex} : PE X e (tVl X.K cl W x) → MixOk X cl W ms es xs → MixOk X cl W (.pl :: ms) (e :: es) (x :: xs)
  | tm {e : Expr} {x : Ex} {ms : List Am} {es : List Expr} {xs : List Ex} : PE X e (tVl X.K cl W x) → MixOk X cl W ms es xs → MixOk X cl W (.tm :: ms) (e :: es) (x :: xs)
theorem MixOk.needs {X : Cx} {cl : Call} {W : Nat → L2.St → Hp → Prop} : ∀ {ms : List Am} {es : List Expr} {xs : List Ex}, MixOk X cl W ms es xs → Ev.needs ms = xs.length
  | _, _, _, .nil => rfl
  | _, _, _, .ln _ t => t.needs
  | _, _, _, .pl _ t => by rw [List.length_cons, ← t.needs]; rfl
  | _, _, _, .tm _ t => by rw [List.length_cons, ← t.needs]; rfl
theorem pa_mix {X : Cx} {cl : Call} {W : Nat → L2.St → Hp → Prop} : ∀ {ms : List Am} {es : List Expr} {xs : List Ex}, notStars es = true → MixOk X cl W ms es xs → PA X es (tMix X.K cl W ms xs)
  | _, _, _, _, .nil => PA.imp pa_nil fun σ H Q h => by unfold tMix at h; exact h
  | _, _, _, hs, .ln r t => PA.imp (pa_cons r (pa_mix (notStars_cons hs).2 t) (starEach_cons (notStars_cons hs).1)) fun σ H Q h => by unfold tMix at h; exact h
  | _, _, _, hs, .pl r t => PA.imp (pa_cons r (pa_mix (notStars_cons hs).2 t) (starEach_cons (notStars_cons hs).1)) fun σ H Q h => by unfold tMix at h; exact h
  | _, _, _, hs, .tm r t => PA.imp (pa_cons r (pa_mix (notStars_cons hs).2 t) (starEach_cons (notStars_cons hs).1)) fun σ H Q h => by unfold tMix at h; exact h
end Ev

end

-- EvSt
section
/-! Ev: soundness, assignments. -/
namespace Ev
open PySem PySem.Spec PyProof.Rows L2

section
variable {K : PySem.W.Frag} {H H1 H' : Hp} {T T1 T' : List Addr} {ow ow1 : List (Option Addr)} {g g1 : Gm} {σ σ1 : L2.St}
theorem stGm_free {g g2 : Gm} {i : Nat} {d : D} {f : Bool} (h : stGm g i d f = some g2) : freeAt g i = true ∧ g2 = g.set i (some ⟨d, if f && isMutD d then .own else .frz⟩) := by
  unfold stGm at h
  split at h
  · rename_i hf; cases h; exact ⟨hf, rfl⟩
  · cases h
/-- slot i takes a new list or dict, for itself; the other new ones stay -/
theorem FrOk.setOwn (F1 : FrOk K T1 ow1 g1 σ1 H1) {i : Nat} {p : Addr} {d : D} (hf : freeAt g1 i = true) (h1 : p ∈ T1) (h3 : Top K H1 (T1 ++ owS ow1) p d) (h4 : Mut (H1 p)) (hs : ∀ b ∈ T', b ∈ T1) (hp : p ∉ T') (hn : T'.Nodup) :
    FrOk K T' (ow1.set i (some p)) (g1.set i (some ⟨d, .own⟩)) (σ1.set i (some (.ref p))) H1 ∧ (∀ b ∈ owS (ow1.set i (some p)), b = p ∨ b ∈ owS ow1) ∧
      (∀ b, Own (g1.set i (some ⟨d, .own⟩)) (ow1.set i (some p)) b → b = p ∨ Own g1 ow1 b) ∧ (∀ (j : Nat) s, g1[j]? = some (some s) → (s.m = .lck ∨ s.m = .prm) → i ≠ j) := by
  obtain ⟨hi, hfr⟩ := freeAt_of hf
  obtain ⟨m1, m2, m3⟩ := List.nodup_append.mp F1.nd
  have pO : p ∉ owS ow1 := fun z => m3 p h1 p z rfl
  have sub : ∀ b ∈ T' ++ owS (ow1.set i (some p)), b ∈ T1 ++ owS ow1 := fun b z => by
    rcases List.mem_append.mp z with z | z
    · exact List.mem_append_left _ (hs b z)
    · rcases owS_put_mem z with z | z
      · subst z; exact List.mem_append_left _ h1
      · exact List.mem_append_right _ (owS_set_sub z)
  refine ⟨⟨List.nodup_append.mpr ⟨hn, owS_put_nodup m2 pO, fun x hx y hy e => ?_⟩, fun b z => F1.lv b (sub b z), by rw [List.length_set, List.length_set]; exact F1.ln, by rw [List.length_set, List.length_set]; exact F1.lo, fun j s e => ?_⟩, fun b z => ?_, fun b z => ?_, fun j s e m hj => ?_⟩
  · subst e
    rcases owS_put_mem hy with z | z
    · subst z; exact hp hx
    · exact m3 x (hs x hx) x (owS_set_sub z) rfl
  · by_cases hj : i = j
    · subst hj
      rw [List.getElem?_set_self hi] at e
      cases e
      refine ⟨.ref p, some p, by rw [List.getElem?_set_self (by rw [← F1.ln]; exact hi)], by rw [List.getElem?_set_self (by rw [F1.lo, ← F1.ln]; exact hi)], p, rfl, rfl, ?_, h4⟩
      exact h3.to (fun _ r => r) (fun _ _ _ r => r) F1.tup fun b _ n _ z => n (sub b z)
    · rw [List.getElem?_set_ne hj] at e
      obtain ⟨v', oa, e1, e2, q⟩ := F1.sl j s e
      exact ⟨v', oa, by rw [List.getElem?_set_ne hj]; exact e1, by rw [List.getElem?_set_ne hj]; exact e2, q.sub sub F1.tup⟩
  · rcases owS_put_mem z with z | z
    · exact .inl z
    · exact .inr (owS_set_sub z)
  · obtain ⟨j, s, e, m, w⟩ := z
    by_cases hj : i = j
    · subst hj
      rw [List.getElem?_set_self (by rw [F1.lo, ← F1.ln]; exact hi)] at w
      cases w
      exact .inl rfl
    · rw [List.getElem?_set_ne hj] at e w; exact .inr ⟨j, s, e, m, w⟩
  · subst hj
    rcases hfr _ e with h | h <;> rcases m with m | m <;> (rw [h] at m; cases m)
/-- behind a step a slot takes a new list or dict -/
theorem Step.setOwnT (a : Step K T ow g σ H T1 ow1 g1 σ1 H1) {i : Nat} {p : Addr} {d : D} (hf : freeAt g1 i = true) (h1 : p ∈ T1) (h2 : H p = none) (h3 : Top K H1 (T1 ++ owS ow1) p d) (h4 : Mut (H1 p)) (ht : ∀ b ∈ T, b ∈ T') (hs : ∀ b ∈ T', b ∈ T1) (hp : p ∉ T') (hn : T'.Nodup) :
    ∃ ow2, Step K T ow g σ H T' ow2 (g1.set i (some ⟨d, .own⟩)) (σ1.set i (some (.ref p))) H1 ∧ ∀ b ∈ owS ow2, b = p ∨ b ∈ owS ow1 := by
  obtain ⟨F2, k1, k2, k3⟩ := a.fr.setOwn hf h1 h3 h4 hs hp hn
  have hi := (freeAt_of hf).1
  refine ⟨_, ⟨F2, ht, fun b z => a.nw b (hs b z), fun b z => ?_, a.kx, a.lv, fun b z => ?_, fun j s e m => ?_, by rw [List.length_set]; exact a.ls, fun j s e m => ?_⟩, k1⟩
  · rcases k1 b z with z | z
    · subst z; exact .inr h2
    · exact a.os b z
  · rcases k2 b z with z | z
    · subst z; exact .inr h2
    · exact a.on b z
  · obtain ⟨e1, e2, d', e3, e4⟩ := a.st j s e m
    have hj := k3 j _ e3 m
    exact ⟨by rw [List.getElem?_set_ne hj]; exact e1, by rw [List.getElem?_set_ne hj]; exact e2, d', by rw [List.getElem?_set_ne hj]; exact e3, e4⟩
  · by_cases hj : i = j
    · subst hj; rw [List.getElem?_set_self hi] at e; cases e; cases m
    · rw [List.getElem?_set_ne hj] at e; exact a.nl j s e m
end

/-! ### pending values of an assignment -/
/-- values with their flags; the new ones at nw -/
inductive Pend (K : PySem.W.Frag) (H0 H1 : Hp) (T1 : List Addr) (ow1 : List (Option Addr)) : List V → List (D × Bool) → List Addr → Prop
  | nil : Pend K H0 H1 T1 ow1 [] [] []
  | frz {v : V} {d : D} {vs : List V} {ds : List (D × Bool)} {ns : List Addr} : Rep K H1 (T1 ++ owS ow1) v d → Pend K H0 H1 T1 ow1 vs ds ns → Pend K H0 H1 T1 ow1 (v :: vs) ((d, false) :: ds) ns
  | own {p : Addr} {d : D} {vs : List V} {ds : List (D × Bool)} {ns : List Addr} : p ∈ T1 → H0 p = none → Top K H1 (T1 ++ owS ow1) p d → Mut (H1 p) → p ∉ ns → Pend K H0 H1 T1 ow1 vs ds ns → Pend K H0 H1 T1 ow1 (.ref p :: vs) ((d, true) :: ds) (p :: ns)
section
variable {K : PySem.W.Frag} {H0 H1 H2 : Hp} {T1 T2 : List Addr} {ow1 ow2 : List (Option Addr)} {g1 g2 : Gm} {σ1 σ2 σ : L2.St}
theorem Pend.len : ∀ {vs : List V} {ds : List (D × Bool)} {ns : List Addr}, Pend K H0 H1 T1 ow1 vs ds ns → vs.length = ds.length
  | _, _, _, .nil => rfl
  | _, _, _, .frz _ t => by rw [List.length_cons, List.length_cons, t.len]
  | _, _, _, .own _ _ _ _ _ t => by rw [List.length_cons, List.length_cons, t.len]
theorem Pend.nd : ∀ {vs : List V} {ds : List (D × Bool)} {ns : List Addr}, Pend K H0 H1 T1 ow1 vs ds ns → ns.Nodup ∧ ∀ p ∈ ns, p ∈ T1 ∧ H0 p = none
  | _, _, _, .nil => ⟨by simp, fun p h => by simp at h⟩
  | _, _, _, .frz _ t => t.nd
  | _, _, _, .own a b _ _ n t => ⟨List.nodup_cons.mpr ⟨n, t.nd.1⟩, fun p h => by
      rcases List.mem_cons.mp h with h | h
      · subst h; exact ⟨a, b⟩
      · exact t.nd.2 p h⟩
theorem Pend.to : ∀ {vs : List V} {ds : List (D × Bool)} {ns : List Addr}, (∀ p ∈ ns, p ∈ T2) → (∀ {v d}, Rep K H1 (T1 ++ owS ow1) v d → Rep K H2 (T2 ++ owS ow2) v d) → (∀ {p d}, p ∈ ns → Top K H1 (T1 ++ owS ow1) p d → Top K H2 (T2 ++ owS ow2) p d) → (∀ p ∈ ns, Mut (H1 p) → Mut (H2 p)) → Pend K H0 H1 T1 ow1 vs ds ns → Pend K H0 H2 T2 ow2 vs ds ns
  | _, _, _, _, _, _, _, .nil => .nil
  | _, _, _, h1, h2, h3, h4, .frz a t => .frz (h2 a) (Pend.to h1 h2 h3 h4 t)
  | _, _, _, h1, h2, h3, h4, .own a b c m n t => .own (h1 _ List.mem_cons_self) b (h3 List.mem_cons_self c) (h4 _ List.mem_cons_self m) n (Pend.to (fun p h => h1 p (List.mem_cons_of_mem _ h)) h2 (fun h => h3 (List.mem_cons_of_mem _ h)) (fun p h => h4 p (List.mem_cons_of_mem _ h)) t)
theorem Pend.step {vs : List V} {ds : List (D × Bool)} {ns : List Addr} (h : Pend K H0 H1 T1 ow1 vs ds ns) (F : FrOk K T1 ow1 g1 σ1 H1) (a : Step K T1 ow1 g1 σ1 H1 T2 ow2 g2 σ2 H2) (hs : ∀ p ∈ ns, p ∈ T2) : Pend K H0 H2 T2 ow2 vs ds ns :=
  h.to hs (fun r => a.rep F r) (fun hp t => a.top F (h.nd.2 _ hp).1 t) fun p hp m => a.mut F (h.nd.2 _ hp).1 m
theorem Pend.cut {vs : List V} {ds : List (D × Bool)} {ns : List Addr} (h : Pend K H0 H1 T1 ow1 vs ds ns) (F : FrOk K T1 ow1 g1 σ1 H1) (hs : ∀ p ∈ ns, p ∈ T2) (h2 : ∀ b ∈ T2 ++ owS ow2, b ∈ T1 ++ owS ow1) : Pend K H0 H1 T2 ow2 vs ds ns :=
  h.to hs (fun r => r.mono h2 F.tup) (fun _ t => t.sub h2 F.tup) fun _ _ m => m
theorem pend_of : ∀ {vs : List V} {ls : List Vl} {ds : List (D × Bool)}, Paired (VR K σ H0 H1 T1 ow1) vs ls → (newOf vs ls).Nodup → keepF ls = some ds → Pend K H0 H1 T1 ow1 vs ds (newOf vs ls)
  | _, _, ds, .nil, _, e => by unfold keepF at e; cases e; exact .nil
  | v :: vs, l :: ls, ds, .cons r t, nd, e => by
    cases l with
    | b i => unfold keepF at e; cases e
    | v d f =>
      unfold keepF at e
      cases e2 : keepF ls with
      | none => rw [e2] at e; cases e
      | some r2 =>
        rw [e2] at e
        cases e
        cases f with
        | false =>
          have en : newOf (v :: vs) (.v d false :: ls) = newOf vs ls := by cases v <;> rfl
          rw [en] at nd ⊢
          exact .frz r (pend_of t nd e2)
        | true =>
          obtain ⟨p, ev, h1, h2, h3, h4⟩ := (show RV K H0 H1 T1 ow1 v d true from r)
          subst ev
          obtain ⟨n1, n2⟩ := List.nodup_cons.mp (show (p :: newOf vs ls).Nodup from nd)
          exact .own h1 h2 h3 h4 n1 (pend_of t n2 e2)
end

/-! ### targets of assignments -/
/-- one target, and what is still to be stored -/
def gTa (K : PySem.W.Frag) (cl : Call) (t : Ta) : TG := fun v σ1 H1 Q => ∃ T ow g σ H T1 ow1 g1 d f vs ds ns g2, FrOk K T ow g σ H ∧ Step K T ow g σ H T1 ow1 g1 σ1 H1 ∧ Pend K H H1 T1 ow1 (v :: vs) ((d, f) :: ds) ns ∧ asgT cl t d f g1 = .ok g2 ∧
  ∀ T' ow' σ' H' ns', Step K T ow g σ H T' ow' g2 σ' H' → Pend K H H' T' ow' vs ds ns' → Q σ' H'
def gTas (K : PySem.W.Frag) (cl : Call) (ts : List Ta) : TGs := fun vs σ1 H1 Q => ∃ T ow g σ H T1 ow1 g1 ds ns g2, FrOk K T ow g σ H ∧ Step K T ow g σ H T1 ow1 g1 σ1 H1 ∧ Pend K H H1 T1 ow1 vs ds ns ∧ asgTs cl ts ds g1 = .ok g2 ∧
  ∀ ow' σ' H', Step K T ow g σ H T ow' g2 σ' H' → Q σ' H'
theorem ta_nil {K : PySem.W.Frag} {cl : Call} {vs : List V} {σ1 : L2.St} {H1 : Hp} {Q : L2.St → Hp → Prop} (h : gTas K cl [] vs σ1 H1 Q) : gNil vs σ1 H1 Q := by
  obtain ⟨T, ow, g, σ, H, T1, ow1, g1, ds, ns, g2, F, S, p, e, h⟩ := h
  cases ds with
  | nil =>
    simp only [asgTs] at e
    cases e
    cases p
    exact ⟨rfl, h ow1 σ1 H1 (S.dropT (fun _ z => z) S.tt (List.nodup_append.mp F.nd).1)⟩
  | cons d ds => simp only [asgTs] at e; cases e
theorem ta_cons {K : PySem.W.Frag} {cl : Call} {t : Ta} {ts : List Ta} {vs : List V} {σ1 : L2.St} {H1 : Hp} {Q : L2.St → Hp → Prop} (h : gTas K cl (t :: ts) vs σ1 H1 Q) : gCons (gTa K cl t) (gTas K cl ts) vs σ1 H1 Q := by
  obtain ⟨T, ow, g, σ, H, T1, ow1, g1, ds, ns, g2, F, S, p, e, h⟩ := h
  cases ds with
  | nil => simp only [asgTs] at e; cases e
  | cons d ds =>
    simp only [asgTs] at e
    cases e1 : asgT cl t d.1 d.2 g1 with
    | bad => rw [e1] at e; cases e
    | exc c g' => rw [e1] at e; cases e
    | ok g3 =>
      rw [e1] at e
      simp only [Out.bind] at e
      cases vs with
      | nil => cases p
      | cons v vs =>
        refine ⟨v, vs, rfl, T, ow, g, σ, H, T1, ow1, g1, d.1, d.2, vs, ds, ns, g3, F, S, p, e1, fun T' ow' σ' H' ns' S' p' => ?_⟩
        exact ⟨T, ow, g, σ, H, T', ow', g3, ds, ns', g2, F, S', p', e, h⟩
theorem gTa_one {K : PySem.W.Frag} {cl : Call} {t : Ta} {v : V} {σ1 : L2.St} {H1 : Hp} {Q : L2.St → Hp → Prop} (h : gTas K cl [t] [v] σ1 H1 Q) : gTa K cl t v σ1 H1 Q := by
  obtain ⟨v', r, e, h⟩ := ta_cons h
  cases e
  obtain ⟨T, ow, g, σ, H, T1, ow1, g1, d, f, vs, ds, ns, g2, F, S, p, e, h⟩ := h
  have hl := p.len
  refine ⟨T, ow, g, σ, H, T1, ow1, g1, d, f, vs, ds, ns, g2, F, S, p, e, fun T' ow' σ' H' ns' S' p' => ?_⟩
  exact (ta_nil (h T' ow' σ' H' ns' S' p')).2
section
variable {K : PySem.W.Frag} {cl : Call} {σ1 : L2.St} {H1 : Hp} {Q : L2.St → Hp → Prop} {v : V}
theorem ta_nm {i : Nat} (h : gTa K cl (.nm i) v σ1 H1 Q) : gName i v σ1 H1 Q := by
  obtain ⟨T, ow, g, σ, H, T1, ow1, g1, d, f, vs, ds, ns, g2, F, S, p, e, h⟩ := h
  simp only [asgT] at e
  cases e1 : stGm g1 i d f with
  | none => rw [e1] at e; cases e
  | some g3 =>
    rw [e1] at e
    cases e
    obtain ⟨hf, eg⟩ := stGm_free e1
    cases p with
    | frz r t =>
      simp only [Bool.false_and] at eg
      subst eg
      have S2 := S.fr.setFrz hf r
      exact h T1 _ _ H1 ns (S.trans S2) (t.step S.fr S2 fun p hp => (t.nd.2 p hp).1)
    | own a b c m n t =>
      rename_i q ns
      have hm : isMutD d = true := c.mut
      rw [hm, Bool.and_true] at eg
      simp only [if_true] at eg
      subst eg
      have nT : q ∉ T := fun z => by
        obtain ⟨o, e, _⟩ := F.lv q (List.mem_append_left _ z)
        rw [b] at e; cases e
      have m1 := (List.nodup_append.mp S.fr.nd).1
      obtain ⟨ow2, S2, ho⟩ := S.setOwnT (T' := T1.filter fun x => decide (x ≠ q)) hf a b c m (fun x hx => List.mem_filter.mpr ⟨S.tt x hx, by simp; exact fun z => nT (z ▸ hx)⟩) (fun x hx => (List.mem_filter.mp hx).1) (fun z => by simpa using (List.mem_filter.mp z).2) (nd_filter m1)
      refine h _ ow2 _ H1 ns S2 (t.cut S.fr (fun x hx => List.mem_filter.mpr ⟨(t.nd.2 x hx).1, by simp; exact fun z => n (z ▸ hx)⟩) fun x hx => ?_)
      rcases List.mem_append.mp hx with hx | hx
      · exact List.mem_append_left _ (List.mem_filter.mp hx).1
      · rcases ho x hx with z | z
        · subst z; exact List.mem_append_left _ a
        · exact List.mem_append_right _ z
/-- what is to be stored is shared -/
theorem Pend.share {K : PySem.W.Frag} {T T1 : List Addr} {ow ow1 : List (Option Addr)} {g g1 : Gm} {σ σ1 : L2.St} {H H1 : Hp} {v : V} {d : D} {f : Bool} {vs : List V} {ds : List (D × Bool)} {ns : List Addr} (F : FrOk K T ow g σ H) (S : Step K T ow g σ H T1 ow1 g1 σ1 H1) (p : Pend K H H1 T1 ow1 (v :: vs) ((d, f) :: ds) ns) :
    ∃ T2 ns2, Step K T ow g σ H T2 ow1 g1 σ1 H1 ∧ Rep K H1 (T2 ++ owS ow1) v d ∧ Pend K H H1 T2 ow1 vs ds ns2 ∧ ∀ x ∈ ns2, x ∈ T2 := by
  cases p with
  | frz r t => exact ⟨T1, ns, S, r, t, fun x hx => (t.nd.2 x hx).1⟩
  | own a b c m n t =>
    rename_i q ns
    have nT : q ∉ T := fun z => by
      obtain ⟨o, e, _⟩ := F.lv q (List.mem_append_left _ z)
      rw [b] at e; cases e
    obtain ⟨m1, m2, m3⟩ := List.nodup_append.mp S.fr.nd
    have sub : ∀ x ∈ (T1.filter fun x => decide (x ≠ q)) ++ owS ow1, x ∈ T1 ++ owS ow1 := fun x hx => by
      rcases List.mem_append.mp hx with hx | hx
      · exact List.mem_append_left _ (List.mem_filter.mp hx).1
      · exact List.mem_append_right _ hx
    have hns : ∀ x ∈ ns, x ∈ T1.filter fun x => decide (x ≠ q) := fun x hx => List.mem_filter.mpr ⟨(t.nd.2 x hx).1, by simp; exact fun z => n (z ▸ hx)⟩
    refine ⟨T1.filter fun x => decide (x ≠ q), ns, S.dropT (fun x hx => List.mem_filter.mpr ⟨S.tt x hx, by simp; exact fun z => nT (z ▸ hx)⟩) (fun x hx => (List.mem_filter.mp hx).1) (nd_filter m1), c.rep sub S.fr.tup fun z => ?_, t.cut S.fr hns sub, hns⟩
    rcases List.mem_append.mp z with z | z
    · simpa using (List.mem_filter.mp z).2
    · exact m3 q a q z rfl
theorem ta_sub {i : Nat} {ex : Ex} (h : gTa K cl (.sub i ex) v σ1 H1 Q) : gSub (tVar i) (tEv K cl noX ex) (rSt K) v σ1 H1 Q := by
  obtain ⟨T, ow, g, σ, H, T1, ow1, g1, d, f, vs, ds, ns, g2, F, S, p, e, h⟩ := h
  obtain ⟨T2, ns2, S2, r, p2, hns⟩ := p.share F S
  simp only [asgT] at e
  cases e0 : slotD g1 i with
  | none => rw [e0] at e; cases e
  | some d0 =>
    rw [e0] at e
    simp only at e
    obtain ⟨vo, ev0, _⟩ := S2.fr.slot e0
    refine ⟨vo, ev0, T2, ow1, g1, S2.fr, ?_⟩
    cases e1 : ev cl false ex g1 with
    | bad => rw [e1] at e; cases e
    | exc c g' => rw [e1] at e; cases e
    | ok rr =>
      rw [e1] at e
      simp only [Out.bind] at e
      intro T3 ow3 H3 vi S3 ri
      have S23 := S3.toT S2.fr
      have r3 : Rep K H3 (T2 ++ owS ow3) v d := S23.rep S2.fr r
      have ri3 : Rep K H3 (T2 ++ owS ow3) vi rr.1 ∨ True := .inr trivial
      have key : ∀ (o o' : D) (md : Md), (md = .own ∨ md = .prm) → rr.2.2[i]? = some (some ⟨o, md⟩) → setD o rr.1 d = some o' → g2 = rr.2.2.set i (some ⟨o', md⟩) → rSt K vo vi v H3 fun H4 => Q σ1 H4 := by
        intro o o' md hmd eg es e2
        subst e2
        obtain ⟨v2, oa, w1, w2, w3⟩ := S23.fr.sl i _ eg
        rw [ev0] at w1; cases w1
        have w3' : ∃ a, oa = some a ∧ vo = .ref a ∧ Top K H3 (T2 ++ owS ow3) a o ∧ Mut (H3 a) := by
          rcases hmd with z | z <;> subst z
          · exact w3
          · exact w3
        obtain ⟨a, y1, y2, y3, y4⟩ := w3'
        subst y1; subst y2
        refine ⟨T2 ++ owS ow3, a, o, rr.1, d, o', rfl, S23.fr.lv, List.mem_append_right _ (mem_owS.mpr ⟨i, w2⟩), y3, y4, .inl (RV.share S3 S2.fr ri), r3, es, fun H4 k1 k2 k3 => ?_⟩
        have S4 := S23.fr.mutate hmd eg w2 k1 k2 k3
        have S24 := S23.trans S4
        exact h T2 ow3 σ1 H4 ns2 (S2.trans S24) (p2.step S2.fr S24 hns)
      cases eg : rr.2.2[i]? with
      | none => rw [eg] at e; cases e
      | some o =>
        rw [eg] at e
        rcases o with _ | ⟨o, md⟩
        · cases e
        · cases md with
          | frz => cases e
          | lck => cases e
          | own =>
            simp only at e
            cases em : setD o rr.1 d with
            | none => rw [em] at e; cases e
            | some o' => rw [em] at e; cases e; exact key o o' .own (.inl rfl) eg em rfl
          | prm =>
            simp only at e
            cases em : setD o rr.1 d with
            | none => rw [em] at e; cases e
            | some o' => rw [em] at e; cases e; exact key o o' .prm (.inr rfl) eg em rfl
theorem asgTs_len {cl : Call} : ∀ {ts : List Ta} {ds : List (D × Bool)} {g g2 : Gm}, asgTs cl ts ds g = .ok g2 → ts.length = ds.length
  | [], [], _, _, _ => rfl
  | [], _ :: _, _, _, h => by simp only [asgTs] at h; cases h
  | _ :: _, [], _, _, h => by simp only [asgTs] at h; cases h
  | t :: ts, d :: ds, g, g2, h => by
    simp only [asgTs] at h
    cases e : asgT cl t d.1 d.2 g with
    | bad => rw [e] at h; cases h
    | exc c g' => rw [e] at h; cases h
    | ok g1 =>
      rw [e] at h
      rw [List.length_cons, List.length_cons, asgTs_len (show asgTs cl ts ds g1 = .ok g2 from h)]
theorem pend_frz {K : PySem.W.Frag} {H0 H1 : Hp} {T1 : List Addr} {ow1 : List (Option Addr)} : ∀ {vs : List V} {ds : List D}, Reps K H1 (T1 ++ owS ow1) vs ds → Pend K H0 H1 T1 ow1 vs (ds.map fun d => (d, false)) []
  | _, _, .nil => .nil
  | _, _, .cons a t => .frz a (pend_frz t)
/-- (a, b, ..) = a tuple; nothing else is to be stored -/
theorem ta_tup {ts : List Ta} (h : gTas K cl [.tup ts] [v] σ1 H1 Q) : gTup K ts.length (gTas K cl ts) v σ1 H1 Q := by
  obtain ⟨T, ow, g, σ, H, T1, ow1, g1, ds, ns, g2, F, S, p, e, h⟩ := h
  cases ds with
  | nil => cases p
  | cons df ds =>
    obtain ⟨d, f⟩ := df
    have hd : ds = [] := by
      have := p.len
      cases ds with
      | nil => rfl
      | cons _ _ => simp at this
    subst hd
    simp only [asgTs, asgT] at e
    cases d with
    | tuple ds =>
      simp only at e
      obtain ⟨T2, ns2, S2, r, p2, hns⟩ := p.share F S
      cases e1 : asgTs cl ts (ds.map fun d => (d, false)) g1 with
      | bad => rw [e1] at e; cases e
      | exc c g' => rw [e1] at e; cases e
      | ok g3 =>
        rw [e1] at e
        cases e
        cases r with
        | tup r l q =>
          rename_i a ws
          refine ⟨a, ws, rfl, r.sq, ?_, T, ow, g, σ, H, T2, ow1, g1, _, [], g2, F, S2, pend_frz q, e1, h⟩
          rw [q.len]
          have := asgTs_len e1
          rw [List.length_map] at this
          exact this.symm
    | _ => cases e
end
end Ev

end

-- EvSt2
section
/-! Ev: soundness, statements. -/
namespace Ev
open PySem PySem.Spec PyProof.Rows L2

/-- since the def's entry: what is alone a slot's is new; nothing is lost -/
structure Nw (H0 : Hp) (g : Gm) (ow : List (Option Addr)) (H : Hp) : Prop where
  own : ∀ (i : Nat) d a, g[i]? = some (some ⟨d, .own⟩) → ow[i]? = some (some a) → H0 a = none
  lv : ∀ b o, H0 b = some o → ∃ o', H b = some o'
section
variable {K : PySem.W.Frag} {H0 H H' : Hp} {T T' : List Addr} {ow ow' : List (Option Addr)} {g g' : Gm} {σ σ' : L2.St}
theorem Nw.back (n : Nw H0 g ow H) {b : Addr} (h : H b = none) : H0 b = none := by
  cases e : H0 b with
  | none => rfl
  | some o => obtain ⟨o', e'⟩ := n.lv b o e; rw [h] at e'; cases e'
theorem Nw.step (n : Nw H0 g ow H) (a : Step K T ow g σ H T' ow' g' σ' H') : Nw H0 g' ow' H' := by
  refine ⟨fun i d p e1 e2 => ?_, fun b o e => ?_⟩
  · rcases a.on p ⟨i, _, e1, .inl rfl, e2⟩ with ⟨j, s, k1, k2, k3⟩ | h
    · rcases k2 with k2 | k2
      · obtain ⟨sd, sm⟩ := s
        have k2 : sm = .own := k2
        subst k2
        exact n.own j sd p k1 k3
      · obtain ⟨e3, _, d', e4, _⟩ := a.st j s k1 (.inr k2)
        rw [k3] at e3
        have := ow_inj a.fr.owNd e2 e3
        subst this
        rw [e1] at e4
        rw [k2] at e4
        cases e4
    · exact n.back h
  · obtain ⟨o1, h1⟩ := n.lv b o e
    exact a.lv b o1 h1
theorem Nw.lock (n : Nw H0 g ow H) {ls : List Vl} : Nw H0 (lockAll g ls) ow H := by
  refine ⟨fun i d p e1 e2 => ?_, n.lv⟩
  rcases lockAll_at g ls i with k | ⟨d', k, e⟩
  · exact n.own i d p (k.trans e1) e2
  · rw [e] at e1; cases e1
end

/-! ### readings of statements -/
section
variable (K : PySem.W.Frag) (cl : Call) (H0 : Hp)
/-- where a statement's end leads -/
def fEnd (T : List Addr) (ow : List (Option Addr)) (g : Gm) (σ : L2.St) (H : Hp) (D : Ends) : Fl → Prop
  | .nx g' => ∀ ow' σ' H', Step K T ow g σ H T ow' g' σ' H' → D.nx σ' H'
  | .bk g' => ∀ ow' σ' H', Step K T ow g σ H T ow' g' σ' H' → D.bk σ' H'
  | .ct g' => ∀ ow' σ' H', Step K T ow g σ H T ow' g' σ' H' → D.ct σ' H'
  | .rt d f g' => ∀ T' ow' σ' H' v, Step K T ow g σ H T' ow' g' σ' H' → RV K H0 H' T' ow' v d f → D.rt v H'
  | .exc _ _ => False
  | .bad => False
def tSt (s : Sm) : TS := fun D σ H => ∃ T ow g, FrOk K T ow g σ H ∧ Nw H0 g ow H ∧ fEnd K H0 T ow g σ H D (evS cl s g)
def tSs (ss : List Sm) : TS := fun D σ H => ∃ T ow g, FrOk K T ow g σ H ∧ Nw H0 g ow H ∧ fEnd K H0 T ow g σ H D (evSs cl ss g)
end
theorem PS.imp {X : Cx} {s : Stmt} {t t' : TS} (h : PS X s t) (i : ∀ D σ H, t' D σ H → t D σ H) : PS X s t' := ⟨fun pins st σ H D I q => h.run pins st σ H D I (i D σ H q)⟩
theorem PSs.imp {X : Cx} {s : List Stmt} {t t' : TS} (h : PSs X s t) (i : ∀ D σ H, t' D σ H → t D σ H) : PSs X s t' := ⟨fun pins st σ H D I q => h.run pins st σ H D I (i D σ H q)⟩
theorem PS.or {X : Cx} {s : Stmt} {t t1 t2 : TS} (h1 : PS X s t1) (h2 : PS X s t2) (i : ∀ D σ H, t D σ H → t1 D σ H ∨ t2 D σ H) : PS X s t :=
  ⟨fun pins st σ H D I q => (i D σ H q).elim (fun q => h1.run pins st σ H D I q) fun q => h2.run pins st σ H D I q⟩
section
variable {K : PySem.W.Frag} {cl : Call} {H0 : Hp} {D : Ends} {σ : L2.St} {H : Hp}
/-- behind a step that leads on -/
theorem fEnd.after {T : List Addr} {ow ow1 : List (Option Addr)} {g g1 : Gm} {σ1 : L2.St} {H1 : Hp} {D' : Ends} (S : Step K T ow g σ H T ow1 g1 σ1 H1) {fl : Fl} (hb : D'.bk = D.bk) (hc : D'.ct = D.ct) (hr : D'.rt = D.rt) (hn : D'.nx = D.nx) (h : fEnd K H0 T ow g σ H D fl) : fEnd K H0 T ow1 g1 σ1 H1 D' fl := by
  cases fl with
  | nx g' => exact fun ow' σ' H' S' => by rw [hn]; exact h ow' σ' H' (S.trans S')
  | bk g' => exact fun ow' σ' H' S' => by rw [hb]; exact h ow' σ' H' (S.trans S')
  | ct g' => exact fun ow' σ' H' S' => by rw [hc]; exact h ow' σ' H' (S.trans S')
  | rt d f g' => exact fun T' ow' σ' H' v S' r => by rw [hr]; exact h T' ow' σ' H' v (S.trans S') r
  | exc c g' => exact h
  | bad => exact h
theorem s_nil (h : tSs K cl H0 [] D σ H) : tNext D σ H := by
  obtain ⟨T, ow, g, F, n, h⟩ := h
  simp only [evSs] at h
  exact h ow σ H (Step.refl F)
theorem s_cons {s : Sm} {ss : List Sm} (h : tSs K cl H0 (s :: ss) D σ H) : tSeq (tSt K cl H0 s) (tSs K cl H0 ss) D σ H := by
  obtain ⟨T, ow, g, F, n, h⟩ := h
  refine ⟨T, ow, g, F, n, ?_⟩
  simp only [evSs] at h
  cases e : evS cl s g with
  | nx g1 =>
    rw [e] at h
    exact fun ow1 σ1 H1 S1 => ⟨T, ow1, g1, S1.fr, n.step S1, h.after S1 rfl rfl rfl rfl⟩
  | rt d f g1 => rw [e] at h; exact h
  | bk g1 => rw [e] at h; exact h
  | ct g1 => rw [e] at h; exact h
  | exc c g1 => rw [e] at h; exact h
  | bad => rw [e] at h; exact h
theorem s_ex {e : Ex} (h : tSt K cl H0 (.ex e) D σ H) : tDrop (tEv K cl noX e) D σ H := by
  obtain ⟨T, ow, g, F, n, h⟩ := h
  refine ⟨T, ow, g, F, ?_⟩
  simp only [evS] at h
  cases e1 : ev cl false e g with
  | bad => rw [e1] at h; exact h
  | exc c g' => rw [e1] at h; exact fun _ _ _ _ => h
  | ok r => rw [e1] at h; exact fun T1 ow1 H1 v S _ => h ow1 σ H1 (S.toT F)
theorem s_pass (h : tSt K cl H0 .pass D σ H) : tNext D σ H := by
  obtain ⟨T, ow, g, F, n, h⟩ := h
  simp only [evS] at h
  exact h ow σ H (Step.refl F)
theorem s_brk (h : tSt K cl H0 .brk D σ H) : tBreak D σ H := by
  obtain ⟨T, ow, g, F, n, h⟩ := h
  simp only [evS] at h
  exact h ow σ H (Step.refl F)
theorem s_cont (h : tSt K cl H0 .cont D σ H) : tCont D σ H := by
  obtain ⟨T, ow, g, F, n, h⟩ := h
  simp only [evS] at h
  exact h ow σ H (Step.refl F)
theorem s_raise {c : Nat} (h : tSt K cl H0 (.raise c) D σ H) : tNever D σ H := by
  obtain ⟨T, ow, g, F, n, h⟩ := h
  simp only [evS] at h
  exact h
theorem s_never (h : tSt K cl H0 .never D σ H) : tNever D σ H := by
  obtain ⟨T, ow, g, F, n, h⟩ := h
  simp only [evS] at h
  exact h
theorem s_retN (h : tSt K cl H0 .retN D σ H) : tRetN D σ H := by
  obtain ⟨T, ow, g, F, n, h⟩ := h
  simp only [evS] at h
  exact h T ow σ H .non (Step.refl F) .non
theorem retOf_ev {e : Ex} {g : Gm} (h : ∀ i, e ≠ .var i) : retOf cl e g = (ev cl false e g).fl fun r => .rt r.1 r.2.1 r.2.2 := by
  cases e <;> first | rfl | exact absurd rfl (h _)
theorem s_ret {e : Ex} (hv : ∀ i, e ≠ .var i) (h : tSt K cl H0 (.ret e) D σ H) : tRet (tEv K cl noX e) D σ H := by
  obtain ⟨T, ow, g, F, n, h⟩ := h
  refine ⟨T, ow, g, F, ?_⟩
  simp only [evS] at h
  rw [retOf_ev hv] at h
  cases e1 : ev cl false e g with
  | bad => rw [e1] at h; exact h
  | exc c g' => rw [e1] at h; exact fun _ _ _ _ => h
  | ok r => rw [e1] at h; exact fun T1 ow1 H1 v S rv => h T1 ow1 σ H1 v S (rv.old fun c z => n.back z)
/-- a slot's own object is let go -/
theorem FrOk.letGo {T : List Addr} {ow : List (Option Addr)} {g : Gm} (F : FrOk K T ow g σ H) {i : Nat} {d : Ev.D} (e : g[i]? = some (some ⟨d, .own⟩)) : ∃ a, ow[i]? = some (some a) ∧ σ[i]? = some (some (.ref a)) ∧ Step K T ow g σ H (a :: T) (ow.set i none) (g.set i none) σ H ∧ Top K H ((a :: T) ++ owS (ow.set i none)) a d ∧ Mut (H a) := by
  obtain ⟨v, oa, e1, e2, q⟩ := F.sl i _ e
  obtain ⟨a, q1, q2, q3, q4⟩ := (show ∃ a, oa = some a ∧ v = .ref a ∧ Top K H (T ++ owS ow) a d ∧ Mut (H a) from q)
  subst q1; subst q2
  have hi := (List.getElem?_eq_some_iff.mp e).1
  obtain ⟨n1, n2, n3⟩ := List.nodup_append.mp F.nd
  have aO : a ∈ owS ow := mem_owS.mpr ⟨i, e2⟩
  have sub : ∀ b ∈ (a :: T) ++ owS (ow.set i none), b ∈ T ++ owS ow := fun b z => by
    rcases List.mem_append.mp z with z | z
    · rcases List.mem_cons.mp z with z | z
      · subst z; exact List.mem_append_right _ aO
      · exact List.mem_append_left _ z
    · exact List.mem_append_right _ (owS_set_sub z)
  have an : a ∉ owS (ow.set i none) := fun z => by
    obtain ⟨j, w⟩ := mem_owS.mp z
    by_cases hj : i = j
    · subst hj; rw [List.getElem?_set_self (by rw [F.lo, ← F.ln]; exact hi)] at w; cases w
    · rw [List.getElem?_set_ne hj] at w; exact hj (ow_inj n2 e2 w)
  refine ⟨a, e2, e1, ⟨⟨List.nodup_append.mpr ⟨List.nodup_cons.mpr ⟨fun z => n3 a z a aO rfl, n1⟩, owS_set_nodup n2, fun x hx y hy ex => ?_⟩, fun b z => F.lv b (sub b z), by rw [List.length_set, F.ln], by rw [List.length_set, F.lo], fun j s ej => ?_⟩, fun b z => List.mem_cons_of_mem _ z, fun b z => ?_, fun b z => .inl (owS_set_sub z), fun _ _ e _ => e, fun _ o e => ⟨o, e⟩, fun b z => .inl ?_, fun j s ej m => ?_, rfl, fun j s ej m => ?_⟩, q3.sub sub F.tup, q4⟩
  · subst ex
    rcases List.mem_cons.mp hx with hx | hx
    · subst hx; exact an hy
    · exact n3 x hx x (owS_set_sub hy) rfl
  · by_cases hj : i = j
    · subst hj; rw [List.getElem?_set_self hi] at ej; cases ej
    · rw [List.getElem?_set_ne hj] at ej
      obtain ⟨v', oa, f1, f2, q⟩ := F.sl j s ej
      exact ⟨v', oa, f1, by rw [List.getElem?_set_ne hj]; exact f2, q.sub sub F.tup⟩
  · rcases List.mem_cons.mp z with z | z
    · subst z; exact .inl (List.mem_append_right _ aO)
    · exact .inl (List.mem_append_left _ z)
  · obtain ⟨j, s, ej, m, w⟩ := z
    by_cases hj : i = j
    · subst hj; rw [List.getElem?_set_self hi] at ej; cases ej
    · rw [List.getElem?_set_ne hj] at ej w; exact ⟨j, s, ej, m, w⟩
  · have hj : i ≠ j := fun hj => by
      subst hj; rw [e] at ej; cases ej; rcases m with m | m <;> cases m
    exact ⟨by rw [List.getElem?_set_ne hj], rfl, s.d, by rw [List.getElem?_set_ne hj]; exact ej, fun _ => rfl⟩
  · by_cases hj : i = j
    · subst hj; rw [List.getElem?_set_self hi] at ej; cases ej
    · rw [List.getElem?_set_ne hj] at ej; exact ⟨s, ej, m⟩
theorem s_retV {i : Nat} (h : tSt K cl H0 (.ret (.var i)) D σ H) : tRet (tVar i) D σ H := by
  obtain ⟨T, ow, g, F, n, h⟩ := h
  simp only [evS, retOf] at h
  cases eg : g[i]? with
  | none => rw [eg] at h; exact h.elim
  | some o =>
    rw [eg] at h
    rcases o with _ | ⟨d, md⟩
    · exact h.elim
    · cases md with
      | frz =>
        obtain ⟨v, oa, e1, e2, q⟩ := F.sl i _ eg
        exact ⟨v, e1, h T ow σ H v (Step.refl F) q⟩
      | own =>
        obtain ⟨a, e2, e1, S, tp, mu⟩ := F.letGo eg
        exact ⟨_, e1, h (a :: T) _ σ H _ S ⟨a, rfl, List.mem_cons_self, n.own i d a eg e2, tp, mu⟩⟩
      | lck => exact h.elim
      | prm => exact h.elim
theorem s_if {c : Ex} {a b : List Sm} (h : tSt K cl H0 (.ite c a b) D σ H) : tIfS (tTs K cl noX c) (tSs K cl H0 a) (tSs K cl H0 b) D σ H := by
  obtain ⟨T, ow, g, F, n, h⟩ := h
  refine ⟨T, ow, g, F, ?_⟩
  simp only [evS] at h
  cases e1 : ev cl true c g with
  | bad => rw [e1] at h; exact h
  | exc c g' => rw [e1] at h; exact fun _ _ _ _ => h
  | ok r =>
    rw [e1] at h
    intro T1 ow1 H1 S
    obtain ⟨d, f, g1⟩ := r
    simp only [Out.fl] at h
    have S1 := S.toT F
    cases d with
    | bool k =>
      refine ⟨k, rfl, ?_⟩
      cases k with
      | true => exact ⟨T, ow1, g1, S1.fr, n.step S1, h.after S1 rfl rfl rfl rfl⟩
      | false => exact ⟨T, ow1, g1, S1.fr, n.step S1, h.after S1 rfl rfl rfl rfl⟩
    | _ => exact h.elim
/-- one target -/
theorem s_asg {t : Ta} {e : Ex} (h : tSt K cl H0 (.asg t e) D σ H) : tAsg (tEv K cl noX e) (fun v σ H Q => gTas K cl [t] [v] σ H Q) D σ H := by
  obtain ⟨T, ow, g, F, n, h⟩ := h
  refine ⟨T, ow, g, F, ?_⟩
  simp only [evS] at h
  cases e1 : ev cl false e g with
  | bad => rw [e1] at h; exact h
  | exc c g' => rw [e1] at h; exact fun _ _ _ _ => h
  | ok r =>
    rw [e1] at h
    intro T1 ow1 H1 v S rv
    obtain ⟨d, f, g1⟩ := r
    simp only [Out.fl] at h
    cases e2 : asgT cl t d f g1 with
    | bad => rw [e2] at h; exact h.elim
    | exc c g' => rw [e2] at h; exact h.elim
    | ok g2 =>
      rw [e2] at h
      have pd : Pend K H H1 T1 ow1 [v] [(d, f)] (newOf [v] [.v d f]) := pend_of (σ := σ) (ls := [.v d f]) (.cons rv .nil) (by cases f <;> cases v <;> simp [newOf]) rfl
      exact ⟨T, ow, g, σ, H, T1, ow1, g1, _, _, g2, F, S, pd, by simp only [asgTs, e2, Out.bind], fun ow' σ' H' S' => h ow' σ' H' S'⟩
theorem s_mas {ts : List Ta} {es : List Ex} (h : tSt K cl H0 (.mas ts es) D σ H) : tArgs K cl noX es σ H fun vs H1 => gTas K cl ts vs σ H1 D.nx ∧ vs.length = ts.length ∧ vs.length = es.length := by
  obtain ⟨T, ow, g, F, n, h⟩ := h
  refine ⟨T, ow, g, F, ?_⟩
  simp only [evS] at h
  cases e1 : evs cl es g with
  | bad => rw [e1] at h; exact h
  | exc c g' => rw [e1] at h; exact fun _ _ _ _ => h
  | ok r =>
    rw [e1] at h
    intro T1 ow1 H1 vs S hv
    simp only [Out.fl] at h
    cases e3 : keepF r.1 with
    | none => rw [e3] at h; exact h.elim
    | some ds =>
      rw [e3] at h
      simp only at h
      cases e2 : asgTs cl ts ds r.2 with
      | bad => rw [e2] at h; exact h.elim
      | exc c g' => rw [e2] at h; exact h.elim
      | ok g2 =>
        rw [e2] at h
        have pd := pend_of hv.all hv.nd e3
        refine ⟨⟨T, ow, g, σ, H, T1, ow1, r.2, _, _, g2, F, S, pd, e2, fun ow' σ' H' S' => h ow' σ' H' S'⟩, ?_, ?_⟩
        · rw [pd.len, ← asgTs_len e2]
        · exact (Paired.length hv.all).trans (evs_len e1)
/-- the same, in a heap in which a new tuple lies -/
theorem gTas_tup {ts : List Ta} {vs : List V} {H1 : Hp} {Q : L2.St → Hp → Prop} {p : Addr} {o : HO} (hp : H1 p = none) (h : gTas K cl ts vs σ H1 Q) : gTas K cl ts vs σ (upd H1 p o) Q := by
  obtain ⟨T, ow, g, σ0, H, T1, ow1, g1, ds, ns, g2, F, S, pd, e, h⟩ := h
  have S2 := S.fr.keepA (KeepA.upd (o := o) hp)
  exact ⟨T, ow, g, σ0, H, T1, ow1, g1, ds, ns, g2, F, S.trans S2, pd.step S.fr S2 fun x hx => (pd.nd.2 x hx).1, e, h⟩
theorem s_masT {ts : List Ta} {es : List Ex} (hl : es.length ≤ 64) (h : tSt K cl H0 (.mas ts es) D σ H) : tAsg (tTup (tArgs K cl noX es)) (gTup K ts.length (gTas K cl ts)) D σ H := by
  refine tArgs_mono (fun vs H1 ⟨q, l1, l2⟩ => ⟨?_, fun p hp => ?_⟩) (s_mas h)
  · rw [l2, sizeLine_eq]; omega
  · exact ⟨p, vs, rfl, .inl (.inl upd_same), l1, gTas_tup hp q⟩
theorem s_mas2 {i j : Nat} {es : List Ex} (h : tSt K cl H0 (.mas [.nm i, .nm j] es) D σ H) : tPar i j (tArgs K cl noX es) D σ H := by
  refine tArgs_mono (fun vs H1 ⟨q, l1, l2⟩ => ?_) (s_mas h)
  obtain ⟨v, r, e1, q1⟩ := ta_cons q
  obtain ⟨w, r2, e2, q2⟩ := ta_cons (ta_nm q1)
  obtain ⟨e3, q3⟩ := ta_nil (ta_nm q2)
  subst e1; subst e2; subst e3
  exact ⟨v, w, rfl, q3⟩
theorem s_mas3 {i j l : Nat} {es : List Ex} (h : tSt K cl H0 (.mas [.nm i, .nm j, .nm l] es) D σ H) : tPar3 i j l (tArgs K cl noX es) D σ H := by
  refine tArgs_mono (fun vs H1 ⟨q, l1, l2⟩ => ?_) (s_mas h)
  obtain ⟨u, r, e1, q1⟩ := ta_cons q
  obtain ⟨v, r2, e2, q2⟩ := ta_cons (ta_nm q1)
  obtain ⟨w, r3, e3, q3⟩ := ta_cons (ta_nm q2)
  obtain ⟨e4, q4⟩ := ta_nil (ta_nm q3)
  subst e1; subst e2; subst e3; subst e4
  exact ⟨u, v, w, rfl, q4⟩
end
end Ev

end

-- EvSt3
section
/-! Ev: soundness, loops. -/
namespace Ev
open PySem PySem.Spec PyProof.Rows L2

section
variable {K : PySem.W.Frag} {cl : Call} {H0 : Hp} {D : Ends} {σ : L2.St} {H : Hp}
def unf : Vl → Vl
  | .v d _ => .v d false
  | .b i => .b i
theorem lockAll_unf : ∀ (ls : List Vl) (g : Gm), lockAll g (ls.map unf) = lockAll g ls
  | [], g => rfl
  | .v d f :: ls, g => lockAll_unf ls _
  | .b i :: ls, g => lockAll_unf ls _
theorem resAll_unf {g : Gm} : ∀ (ls : List Vl), resAll g (ls.map unf) = resAll g ls
  | [] => rfl
  | .v d f :: ls => by simp only [List.map_cons, unf, resAll, Vl.res, resAll_unf ls]
  | .b i :: ls => by simp only [List.map_cons, unf, resAll, Vl.res, resAll_unf ls]
theorem unf_ok {T T1 : List Addr} {ow ow1 : List (Option Addr)} {g g1 : Gm} {H1 : Hp} (F : FrOk K T ow g σ H) (S : Step K T ow g σ H T1 ow1 g1 σ H1) : ∀ {vs : List V} {ls : List Vl}, Paired (VR K σ H H1 T1 ow1) vs ls → Paired (VR K σ H H1 T ow1) vs (ls.map unf)
  | _, _, .nil => .nil
  | _, l :: _, .cons r t => by
    refine .cons ?_ (unf_ok F S t)
    cases l with
    | v d f => exact RV.share S F r
    | b i => exact r
/-- while -/
theorem s_whl {c : Ex} {body : List Sm} (h : tSt K cl H0 (.whl c body) D σ H) : tWhile (tTs K cl noX c) (tSs K cl H0 body) D σ H := by
  obtain ⟨T, ow, g, F, n, h⟩ := h
  simp only [evS] at h
  refine ⟨fun m σ1 H1 => ∃ ow1 g1, Step K T ow g σ H T ow1 g1 σ1 H1 ∧ fEnd K H0 T ow g σ H D (whL g (ev cl true c) (evSs cl body) m g1), ⟨fuel, ow, g, Step.refl F, h⟩, ?_⟩
  rintro m σ1 H1 ⟨ow1, g1, S, hq⟩
  cases m with
  | zero => unfold whL at hq; exact hq.elim
  | succ m =>
    unfold whL at hq
    refine ⟨T, ow1, g1, S.fr, ?_⟩
    cases e1 : ev cl true c g1 with
    | bad => rw [e1] at hq; exact hq
    | exc c g' => rw [e1] at hq; exact fun _ _ _ _ => hq
    | ok r =>
      rw [e1] at hq
      intro T2 ow2 H2 S2
      obtain ⟨d, f, g2⟩ := r
      simp only [Out.fl] at hq
      have S2 := S.trans (S2.toT S.fr)
      cases d with
      | bool k =>
        refine ⟨k, rfl, ?_⟩
        cases k with
        | false =>
          rw [if_neg (by simp)]
          exact hq ow2 σ1 H2 S2
        | true =>
          rw [if_pos rfl]
          refine ⟨fun σ' H' => ∃ ow' g', Step K T ow g σ H T ow' g' σ' H' ∧ fEnd K H0 T ow g σ H D (whL g (ev cl true c) (evSs cl body) m g'), fun σ' H' h => ⟨m, by omega, h⟩, T, ow2, g2, S2.fr, n.step S2, ?_⟩
          simp only at hq
          cases e2 : evSs cl body g2 with
          | nx g3 => rw [e2] at hq; exact fun ow' σ' H' S' => ⟨ow', _, (S2.trans S').wipe, hq⟩
          | ct g3 => rw [e2] at hq; exact fun ow' σ' H' S' => ⟨ow', _, (S2.trans S').wipe, hq⟩
          | bk g3 => rw [e2] at hq; exact fun ow' σ' H' S' => hq ow' σ' H' (S2.trans S').wipe
          | rt d f g3 => rw [e2] at hq; exact fun T' ow' σ' H' v S' r => hq T' ow' σ' H' v (S2.trans S') r
          | exc c g3 => rw [e2] at hq; exact hq
          | bad => rw [e2] at hq; exact hq
      | _ => exact hq.elim

/-! ### for -/
/-- the turns -/
def turnF (cl : Call) (tg : Tg) (body : List Sm) (x : Ev.D) (g1 : Gm) : Fl := match bindT tg x g1 with
  | none => .bad
  | some g2 => evSs cl body g2
theorem for_loop {T : List Addr} {ow : List (Option Addr)} {gL : Gm} {J : It} {items : List Ev.D} {tg : Tg} {body : List Sm} (F : FrOk K T ow gL σ H) (n : Nw H0 gL ow H) (wk : Wk K J items T ow gL σ H) (hq : fEnd K H0 T ow gL σ H D (forL gL (turnF cl tg body) items gL)) :
    ∃ W : Nat → Nat → L2.St → Hp → Prop, (∃ m, W 0 m σ H) ∧ ∀ i m σ H, W i m σ H →
      (J.stop i H ∧ D.nx σ H) ∨ (J.go i H ∧ ∃ N : L2.St → Hp → Prop, (∀ σ' H', N σ' H' → ∃ m', m' < m ∧ W (i + 1) m' σ' H') ∧ ∀ x H', J.yld i H x H' → gEv K tg x σ H' fun σ2 H2 => tSs K cl H0 body { D with nx := N, ct := N, bk := D.nx } σ2 H2) := by
  obtain ⟨len, G, Y, w, hlen, hG, hY⟩ := wk
  refine for_it w (tb := tSs K cl H0 body) (fun i σ1 H1 => ∃ ow1 g1, Step K T ow gL σ H T ow1 g1 σ1 H1 ∧ fEnd K H0 T ow gL σ H D (forL gL (turnF cl tg body) (items.drop i) g1)) ⟨ow, gL, Step.refl F, by rw [List.drop_zero]; exact hq⟩ (fun i σ1 H1 hi ⟨ow1, g1, S, _⟩ => hG _ _ _ _ _ S) ?_ ?_
  · rintro i x σ1 H1 H1' hi ⟨ow1, g1, S, hq⟩ y
    have hlt : i < items.length := by omega
    have hd : items.drop i = items[i] :: items.drop (i + 1) := List.drop_eq_getElem_cons hlt
    rw [hd] at hq
    obtain ⟨k1, rx⟩ := hY _ _ _ _ _ i x H1' items[i] S y (List.getElem?_eq_getElem hlt)
    have S1 : Step K T ow gL σ H T ow1 g1 σ1 H1' := S.trans (S.fr.keepA k1)
    unfold forL turnF at hq
    cases e1 : bindT tg items[i] g1 with
    | none => rw [e1] at hq; exact hq.elim
    | some g2 =>
      rw [e1] at hq
      simp only at hq
      refine ⟨T, ow1, g1, items[i], g2, S1.fr, rx, e1, fun ow2 σ2 S2 hs2 => ?_⟩
      have S2 := S1.trans S2
      refine ⟨T, ow2, g2, S2.fr, n.step S2, ?_⟩
      cases e2 : evSs cl body g2 with
      | nx g3 => rw [e2] at hq; exact fun ow' σ' H' S' => ⟨ow', _, (S2.trans S').wipe, hq⟩
      | ct g3 => rw [e2] at hq; exact fun ow' σ' H' S' => ⟨ow', _, (S2.trans S').wipe, hq⟩
      | bk g3 => rw [e2] at hq; exact fun ow' σ' H' S' => hq ow' σ' H' (S2.trans S').wipe
      | rt d f g3 => rw [e2] at hq; exact fun T' ow' σ' H' v S' r => hq T' ow' σ' H' v (S2.trans S') r
      | exc c g3 => rw [e2] at hq; exact hq
      | bad => rw [e2] at hq; exact hq
  · rintro σ1 H1 ⟨ow1, g1, S, hq⟩
    rw [hlen, List.drop_length] at hq
    unfold forL at hq
    exact hq ow1 σ1 H1 S
/-- what the slots were ahead of the loop -/
theorem fEnd.unlock {T T1 : List Addr} {ow ow1 : List (Option Addr)} {g g1 : Gm} {H1 : Hp} {ls : List Vl} (F1 : FrOk K T1 ow1 g1 σ H1) (S1 : Step K T ow g σ H T1 ow1 g1 σ H1) (t : T1 = T) {fl : Fl} (h : fEnd K H0 T ow g σ H D (fl.after (Ev.unlock g1))) : fEnd K H0 T1 ow1 (lockAll g1 ls) σ H1 D fl := by
  subst t
  have U : ∀ {T' ow' g' σ' H'}, Step K T1 ow1 (lockAll g1 ls) σ H1 T' ow' g' σ' H' → Step K T1 ow g σ H T' ow' (Ev.unlock g1 g') σ' H' := fun S => S1.trans (Step.unlockS F1 (lockAll_at g1 ls) S)
  cases fl with
  | nx g' => exact fun ow' σ' H' S' => h ow' σ' H' (U S')
  | bk g' => exact fun ow' σ' H' S' => h ow' σ' H' (U S')
  | ct g' => exact fun ow' σ' H' S' => h ow' σ' H' (U S')
  | rt d f g' => exact fun T' ow' σ' H' v S' r => h T' ow' σ' H' v (U S') r
  | exc c g' => exact h
  | bad => exact h
/-- an unlocked heap's wish, from within the lock -/
def lockD (D : Ends) (d : Addr) (od : Obj) (u : HO) : Ends := ⟨fun σ' H' => H' d = some (.frz od u) ∧ D.nx σ' (upd H' d u), fun v H' => H' d = some (.frz od u) ∧ D.rt v (upd H' d u), fun σ' H' => H' d = some (.frz od u) ∧ D.bk σ' (upd H' d u), fun σ' H' => H' d = some (.frz od u) ∧ D.ct σ' (upd H' d u)⟩
theorem fEnd.locked {T : List Addr} {ow : List (Option Addr)} {gL : Gm} {d : Addr} {od : Obj} {u : HO} (L : Lk H (upd H d (.frz od u)) d u) (mu : Mut (some u)) (no : ¬ Own gL ow d) (nb : ∀ p, H p = none → H0 p = none) (hd0 : True) {fl : Fl} (h : fEnd K H0 T ow gL σ H D fl) (hr0 : ∀ p, H0 p = none → p = d → False ∨ True) :
    fEnd K H0 T ow gL σ (upd H d (.frz od u)) (lockD D d od u) fl := by
  have hd1 : ∀ {T' ow' g' σ' H'}, Step K T ow gL σ (upd H d (.frz od u)) T' ow' g' σ' H' → H' d = some (.frz od u) := fun S => S.kx d _ upd_same no
  have U : ∀ {T' ow' g' σ' H'}, Step K T ow gL σ (upd H d (.frz od u)) T' ow' g' σ' H' → Step K T ow gL σ H T' ow' g' σ' (upd H' d u) := fun S =>
    Step.unl L (⟨upd_same, mu, ⟨od, hd1 S⟩, fun b hb => (upd_ne hb).symm⟩ : Lk (upd _ d u) _ d u) no S
  cases fl with
  | nx g' => exact fun ow' σ' H' S' => ⟨hd1 S', h ow' σ' _ (U S')⟩
  | bk g' => exact fun ow' σ' H' S' => ⟨hd1 S', h ow' σ' _ (U S')⟩
  | ct g' => exact fun ow' σ' H' S' => ⟨hd1 S', h ow' σ' _ (U S')⟩
  | rt d' f g' =>
    intro T' ow' σ' H' v S' r
    have L2 : Lk (upd H' d u) H' d u := ⟨upd_same, mu, ⟨od, hd1 S'⟩, fun b hb => (upd_ne hb).symm⟩
    refine ⟨hd1 S', h T' ow' σ' _ v (U S') ?_⟩
    cases f with
    | false => exact Rep.swap L2.back L2.tupB (show Rep K H' (T' ++ owS ow') v d' from r)
    | true =>
      obtain ⟨p, e, h1, h2, h3, h4⟩ := r
      refine ⟨p, e, h1, h2, h3.swap L2.back L2.tupB, ?_⟩
      by_cases eD : p = d
      · subst eD; rw [upd_same]; exact mu
      · rw [upd_ne eD]; exact h4
  | exc c g' => exact h
  | bad => exact h
def forTop (K : PySem.W.Frag) (cl : Call) (H0 : Hp) (k : ItK) (es : List Ex) (tg : Tg) (body : List Sm) : TS := tFor (iEv K cl noX k es) (gEv K tg) (tSs K cl H0 body)
theorem s_for {k : ItK} {es : List Ex} {tg : Tg} {body : List Sm} (h : tSt K cl H0 (.for k es tg body) D σ H) : forTop K cl H0 k es tg body D σ H ∨ tLock (forTop K cl H0 k es tg body) D σ H := by
  obtain ⟨T, ow, g, F, n, h⟩ := h
  simp only [evS] at h
  cases e1 : evs cl es g with
  | bad => rw [e1] at h; exact h.elim
  | exc c' g' => rw [e1] at h; exact h.elim
  | ok r =>
    have he1 := e1
    rw [e1] at h
    simp only [Out.fl] at h
    cases e2 : resAll r.2 r.1 with
    | none => rw [e2] at h; exact h.elim
    | some ds =>
      rw [e2] at h
      simp only [Option.bind] at h
      cases e3 : itX k es ds with
      | none => rw [e3] at h; exact h.elim
      | some items =>
        rw [e3] at h
        simp only at h
        have h : fEnd K H0 T ow g σ H D ((forL (lockAll r.2 r.1) (turnF cl tg body) items (lockAll r.2 r.1)).after (unlock r.2)) := h
        rcases itX_eq e3 with ⟨i, kv, k1, k2, k3, k4⟩ | hi
        · -- a dict
          subst k1; subst k2; subst k3; subst k4
          have hr : r = ([.b i], g) ∧ slotD g i = some (.dict kv) := by
            simp only [evs, isBor, vl] at he1
            cases es : slotD g i with
            | none => rw [es] at he1; cases he1
            | some d0 =>
              rw [es] at he1
              simp only [Out.bind] at he1
              cases he1
              refine ⟨rfl, ?_⟩
              simp only [resAll, Vl.res, es, Option.bind, Option.map] at e2
              cases e2; rfl
          obtain ⟨hr, hs⟩ := hr
          subst hr
          obtain ⟨d, v1, tp, no⟩ := slot_dict F hs
          have Fl := F.lockAll [.b i]
          have hL := fEnd.unlock (ls := [.b i]) F (Step.refl F) rfl h
          -- once the dict is locked, as the heap shows it
          have main : ∀ (H' : Hp) (o : Obj) (u : HO) (D' : Ends), FrOk K T ow (lockAll g [.b i]) σ H' → Nw H0 (lockAll g [.b i]) ow H' → H' d = some (.frz o u) → (∀ u', NF u' → Rd H' d u' → u = u') → Top K H' (T ++ owS ow) d (.dict kv) →
              fEnd K H0 T ow (lockAll g [.b i]) σ H' D' (forL (lockAll g [.b i]) (turnF cl tg body) (kv.map (·.1)) (lockAll g [.b i])) → forTop K cl H0 .seq [.bor i] tg body D' σ H' := by
            intro H' o u D' F' n' hd hu ht hq
            refine ⟨T, ow, lockAll g [.b i], F', ?_⟩
            have ee : evs cl [.bor i] (lockAll g [.b i]) = .ok ([.b i], lockAll g [.b i]) := by
              simp only [evs, isBor, vl, slotD_lock, hs, Out.bind]
            rw [ee]
            intro T1 ow1 H1 vs S1 hv
            have hva := hv.all
            cases hva with | cons hv1 hv2 =>
            cases hv2
            have hv1 : σ[i]? = some (some _) := hv1
            rw [v1] at hv1
            cases hv1
            have S1 := S1.toT F'
            have no1 : ¬ Own (lockAll g [.b i]) ow1 d := fun o1 => by
              rcases S1.on d o1 with o1 | o1
              · exact no o1
              · rw [hd] at o1; cases o1
            have hd1 : H1 d = some (.frz o u) := S1.kx d _ hd no
            have ht1 : Top K H1 (T ++ owS ow1) d (.dict kv) := ht.to (fun _ r => S1.rd r no) S1.rd2 F'.tup S1.gd
            refine ⟨_, rfl, dict_wk (H := H1) S1.fr no1 hd1 ht1 (fun u' nf' r => ?_) fun J wk => ?_⟩
            · rcases r with r | ⟨o', r⟩
              · rw [hd1] at r; cases r; exact absurd rfl (nf' _ _)
              · rw [hd1] at r; cases r; rfl
            · exact for_loop S1.fr (n'.step S1) wk (hq.after S1 rfl rfl rfl rfl)
          have rdu : ∃ u, Rd H d u ∧ NF u ∧ (∀ ys, u ≠ .tup ys) ∧ Mut (some u) := by
            cases tp with
            | dK r l q e => exact ⟨_, r, nfK, (fun _ z => by cases z), trivial⟩
            | dT r l q e => exact ⟨_, r, nfD, (fun _ z => by cases z), trivial⟩
          obtain ⟨u, ru, nf, nt, mu⟩ := rdu
          have rdq : ∀ (od : Obj) (u' : HO), Rd (upd H d (.frz od u)) d u' → NF u' → u = u' := fun od u' r nf' => by
            rcases r with r | ⟨o', r⟩
            · rw [upd_same] at r; cases r; exact absurd rfl (nf' _ _)
            · rw [upd_same] at r; cases r; rfl
          rcases ru with ru | ⟨o, ru⟩
          · right
            refine ⟨d, u, ru, mu, fun od => ?_⟩
            have L : Lk H (upd H d (.frz od u)) d u := ⟨ru, mu, ⟨od, upd_same⟩, fun b hb => upd_ne hb⟩
            have F' := Fl.lock L no
            have n' : Nw H0 (lockAll g [.b i]) ow (upd H d (.frz od u)) := ⟨n.lock.own, fun b o e => by
              by_cases z : b = d
              · subst z; exact ⟨_, upd_same⟩
              · obtain ⟨o', e'⟩ := n.lv b o e
                exact ⟨o', by rw [upd_ne z]; exact e'⟩⟩
            exact main _ od u _ F' n' upd_same (fun u' nf' r => rdq od u' r nf') (tp.swap L.to L.tup) (fEnd.locked L mu no (fun p hp => n.back hp) trivial hL fun _ _ _ => .inr trivial)
          · left
            refine main H o u D Fl n.lock ru (fun u' nf' r => ?_) tp hL
            rcases r with r | ⟨o', r⟩
            · rw [ru] at r; cases r; exact absurd rfl (nf' _ _)
            · rw [ru] at r; cases r; rfl
        · left
          refine ⟨T, ow, g, F, ?_⟩
          rw [he1]
          intro T1 ow1 H1 vs S1 hv
          have hl : vs.length = es.length := (Paired.length hv.all).trans (evs_len he1)
          rw [← hl]
          have S2 := S1.toT F
          have hv2 := unf_ok F S1 hv.all
          have wa := VRs.argK hv2 S2.fr (by rw [resAll_unf]; exact e2)
          rw [lockAll_unf] at wa
          refine wk_iQ (S2.fr.lockAll r.1) wa hi fun J wk => ?_
          exact for_loop (S2.fr.lockAll r.1) (n.step S2).lock wk (fEnd.unlock S2.fr S2 rfl h)
end
end Ev

end

-- EvFn
section
/-! Ev: defs that may ask repr: the marks of running reprs are known to be none. -/
namespace Ev
open PySem PySem.Spec PyProof.Rows L2

structure FnG (P : Program) (w : World) (K : PySem.W.Frag) (mg : Str → Option Value) (base : Heap) (k : Nat) (f : Addr) (fd : FuncData) (ps : List Str) (sp : Sp) : Prop where
  len : ∀ vs H Q, sp vs H Q E0 → vs.length = ps.length
  go : ∀ (A : Around) (outer : List Env) (s : Shared) (H : Hp) (args : Args) (us : List Value) (vs : List V) (Q : VK), A.guards = some [] → Room k A → Env0 P w K mg base A outer s H →
    BindsTo s fd args (ps.zip us) → Vals vs us → sp vs H Q E0 → codeAny (model P w) A (.call (.ref f) args) (CR CX0 outer P w H s Q E0) s
section
variable {P : Program} {w : World} {K : PySem.W.Frag} {mg : Str → Option Value} {base : Heap} {f : Addr} {fd : FuncData} {ps : List Str} {sp : Sp}
theorem FnG.mono {j k : Nat} (F : FnG P w K mg base j f fd ps sp) (h : j ≤ k) : FnG P w K mg base k f fd ps sp :=
  ⟨F.len, fun A outer s H args us vs Q hg hr => F.go A outer s H args us vs Q hg (hr.mono h)⟩
/-- a def by its body -/
theorem fnG_of {k : Nat} {x qual : Str} {st : Stmt} {N : List Str} (F : Fun K x qual st f fd) (S : FnScope N ps (defScope st)) (hlen : ∀ vs H Q, sp vs H Q E0 → vs.length = ps.length)
    (hbody : ∀ (cdv : Value) (A : Around) (outer : List Env) (s : Shared) (H : Hp) (vs : List V) (Q : VK), A.guards = some [] → Room k (A.deeper (envOfC qual (defScope st) s.heap.objs.size f cdv)) → sp vs H Q E0 →
      ∃ t, PSs (cxOf CX0 P w K mg base N qual (defScope st) f cdv A outer s H E0).nox (defBody st) t ∧ t { nx := fun _ H' => Q .non H', rt := Q } (start N vs) H) : FnG P w K mg base (k + 1) f fd ps sp := by
  obtain ⟨oc, od, kV, doc, pm, an, cdv, ct, osl, hfd, look, code⟩ := F.ex
  subst hfd
  constructor
  · exact hlen
  intro A outer s H args us vs Q hg hr env0 bind rel want
  have hvs := hlen vs H Q want
  have old : ∀ b o, base.get? b = some o → s.heap.get? b = some o := fun b o e => (env0.bs b o e).1
  have inK := env0.mod.kin.keeps old
  have kinds : ∀ y ∈ ps.zip us, (defScope st).names.lookup y.1 = some .local ∨ ((defScope st).names.lookup y.1 = some .cell ∧ ((cellsFrom (s.heap.objs.size + 1) (defScope st).names []).lookup y.1).isSome = true) := by
    rintro ⟨n, v⟩ hy
    exact (S.par n (List.of_mem_zip hy).1).imp id fun q => ⟨q, PySem.W.cellsFrom_some _ _ _ (.inl q)⟩
  apply codeAny_call_function hr.depth (inK _ _ look) rfl S.co S.gen rfl (PySem.W.codeRec_of inK code)
  apply bind
  apply wpAny_newFunctionEnv_cells S.kind kinds
  intro env he s1 laid
  subst he
  constructor
  · exact (env0.mod.nolimit.keeps old).keeps laid.toInCall.keep
  apply codeAny_func
  obtain ⟨t, ht, ask⟩ := hbody cdv A outer s H vs Q hg (hr.deeper _) want
  have I0 := inv_start (CX := CX0) (E := E0) (cd := cdv) S hr.hd env0 hvs rel laid
  apply wpAny_mono (ht.nox.run [] s1 (start N vs) H _ I0 ask)
  · intro fl s' hs
    cases fl with
    | brk => obtain ⟨_, _, _, q⟩ := hs; cases q
    | cont => obtain ⟨_, _, _, q⟩ := hs; cases q
    | next =>
      obtain ⟨σ', H', J, q⟩ := hs
      exact ⟨.non, H', J.os, J.bare, J.base, J.hok, rfl, q⟩
    | ret u =>
      obtain ⟨v, σ', H', J, rv, q⟩ := hs
      exact ⟨v, H', J.os, J.bare, J.base, J.hok, rv, q⟩
  · intro e s' hs
    exact hs
end
section
variable {X : Cx} {k : Nat} {fa : Addr} {fd : FuncData} {ps : List Str} {sp : Sp}
theorem runG {pins : List (Addr × Obj)} {σ : L2.St} {H : Hp} {s : Shared} {Q : VK} {us : List Value} {vs : List V} (F : FnG X.prog X.w X.K X.mg X.base k fa fd ps sp) (hg : X.A.guards = some []) (hr : Room k X.A) (hb : Binds X.K fd ps [])
    (I : L2.Inv X pins σ H s) (r : Vals vs us) (h : sp vs H Q E0) : wpAny (model X.prog X.w) X.A (call (.ref fa) us) (EP X pins σ Q) X.xe s := by
  have hl : us.length = ps.length := r.length ▸ F.len vs H Q h
  have hb' : BindsTo s fd ⟨us, []⟩ (ps.zip us) := by
    have := hb s us I.kIn (by rw [List.append_nil]; exact hl)
    rwa [List.append_nil] at this
  apply wpAny_call
  refine codeAny_mono (F.go X.A X.stack s H ⟨us, []⟩ us vs Q hg hr I.env0 hb' r h) ?_
  rintro (e | fl) s' q
  · cases q
  · cases fl with
    | ret u => exact I.after q
    | next => cases q
    | brk => cases q
    | cont => cases q
/-- f(..), f an own def -/
theorem pe_clG {cl : Call} {mp : List Nat} {f : Nat} {ms : List Am} {es : List Expr} {xs : List Ex} {x : Str} {p pos : Pos} (F : FnG X.prog X.w X.K X.mg X.base k fa fd ps (spF X.K mp (cl f))) (hgd : X.A.guards = some []) (hr : Room k X.A) (hg : Gl X x) (hm : X.mg x = some (.ref fa))
    (hk : PySem.W.keepIn X.K (.ref fa) = true) (hb : Binds X.K fd ps []) (hdb : (x == ("__debug__" : Str)) = false) (hs : notStars es = true) (ho : msOk mp 0 ms = true) (ha : MixOk X cl noX ms es xs) : PE X (.Call (.Name x p) es [] pos) (tEv X.K cl noX (.call f ms xs)) := by
  refine ⟨fun pins s σ H Q I h => wpAny_Call_Name_kw (ld_glob I hg hm ?_ hdb)⟩
  have h1 : tMix X.K cl noX ms xs σ H fun ws H1 => spF X.K mp (cl f) ws H1 Q E0 := n_call ho ha.needs h
  cases es with
  | nil =>
    cases ha
    unfold tMix at h1
    exact PySem.W.callWith_K0 I.kIn hk (runG (us := []) F hgd hr hb I .nil h1)
  | cons e es =>
    have hA := (pa_mix hs ha).run pos pins s σ H _ I h1
    refine PySem.W.callWith_K I.ok.mod.kin hk (thn hA ?_) (starEach_cons (notStars_cons hs).1) (back_any (notStars_cons hs).2)
    rintro us s1 ⟨vs, H1, I1, r, q⟩
    exact ⟨I1.kIn, runG F hgd hr hb I1 r q⟩
mutual
theorem plain_noDict : ∀ d : D, d.plain = true → d.hasDict = false
  | .none, _ => rfl
  | .bool _, _ => rfl
  | .int _, _ => rfl
  | .str _, _ => rfl
  | .list xs, h => by rw [PyData.hasDict]; exact plain_noDicts xs (by simpa [PyData.plain] using h)
  | .tuple xs, h => by rw [PyData.hasDict]; exact plain_noDicts xs (by simpa [PyData.plain] using h)
  | .dict _, h => by simp [PyData.plain] at h
theorem plain_noDicts : ∀ ds : List D, PyData.plainAll ds = true → PyData.hasDictAll ds = false
  | [], _ => rfl
  | x :: xs, h => by
    rw [PyData.plainAll, Bool.and_eq_true] at h
    rw [PyData.hasDictAll, plain_noDict x h.1, plain_noDicts xs h.2]; rfl
end
/-- repr of data -/
theorem k_repr (hgd : X.A.guards = some []) (hu : X.A.units + 100 < cLine) : CallR X (.builtin "repr") (rPr X.K prRepr) := by
  intro pins s σ H vs us Q I r ⟨S, ds, d, f, hS, ha, hp, q⟩
  unfold prRepr at hp
  split at hp
  · rename_i d0
    cases ha with | cons a ha =>
    cases ha
    split at hp
    · rename_i hc
      cases hp
      simp only [Bool.and_eq_true, decide_eq_true_eq] at hc
      obtain ⟨⟨⟨c1, c2⟩, c3⟩, c4⟩ := hc
      have hl := line_le c4
      obtain ⟨u, rfl, ru⟩ := vals1 r
      obtain ⟨as, rd⟩ := a.reads I hS ru c1
      have fin : ∀ (h' : Heap) (tk : Nat) (u' : Tok), (∀ b o, s.heap.get? b = some o → h'.get? b = some o) → EP X pins σ Q (.str d0.shown u') { s with heap := h', toks := tk } := fun h' tk u' hk =>
        ⟨.str d0.shown, H, I.kept hk, ⟨_, rfl⟩, q _ H (KeepA.refl H) (.str hl)⟩
      have nd : d0.hasDict = true → False := fun z => by rw [plain_noDict d0 c1] at z; cases z
      cases rd with
      | none => exact PySem.P.repr_of_none (fin s.heap _ _ fun _ _ e => e)
      | bool b => exact PySem.P.repr_of_bool (fin s.heap _ _ fun _ _ e => e)
      | int i t => exact PySem.P.repr_of_int (by simpa [PyData.showable] using c2) (fin s.heap _ _ fun _ _ e => e)
      | str x t => exact PySem.P.repr_of_str (fin s.heap _ _ fun _ _ e => e) hl
      | list h1 h2 h3 h4 => exact repr_of_reads' (.list h1 h2 h3 h4) c2 (fun z => (nd z).elim) hgd (by omega) (fun _ _ e => e) (fun h' u tk hk => fin h' tk u hk) hl
      | tuple h1 h2 h3 h4 => exact repr_of_reads' (.tuple h1 h2 h3 h4) c2 (fun z => (nd z).elim) hgd (by omega) (fun _ _ e => e) (fun h' u tk hk => fin h' tk u hk) hl
      | dict h1 h2 h3 h4 h5 => exact (nd rfl).elim
    · cases hp
  · cases hp
end
end Ev

end

-- EvTopA
section

/-! Ev: the translation of expressions is sound: the parts. -/
namespace Ev
open PySem PySem.Spec PyProof.Rows L2

/-! ### where code stands -/
def bltN : List Str := ["len", "abs", "min", "max", "sum", "all", "any", "sorted", "tuple", "list", "int", "repr", "range", "enumerate", "zip", "set", "isinstance", "bool", "str", "dict"]
structure Good (c : Tc) (cl : Call) (k : Nat) (X : Cx) : Prop where
  N : c.N = X.N
  nd : X.N.Nodup
  calm : X.calm = true
  room : Room k X.A
  gd : X.A.guards = some []
  fns : ∀ x f np mp, c.fn.lookup x = some (f, np, mp) → ∃ fa fd ps, X.mg x = some (.ref fa) ∧ FnG X.prog X.w X.K X.mg X.base k fa fd ps (spF X.K mp (cl f)) ∧ PySem.W.keepIn X.K (.ref fa) = true ∧ Binds X.K fd ps []
  cst : ∀ x d, c.cs.lookup x = some d → ∃ v u, X.mg x = some u ∧ RelV v u ∧ ∀ (H : Hp) (S : List Addr), (∀ b ∈ S, LiveM H b) → Rep X.K H S v d
  blt : ∀ x ∈ bltN, X.mg x = none
section
variable {c : Tc} {cl : Call} {k : Nat} {X : Cx}
theorem Good.hu (G : Good c cl k X) : X.A.units + 100 < cLine := by have := G.room.un; omega
theorem Good.blk (G : Good c cl k X) {s : Shared} {H : Hp} {scope : Scope} {cenv : Env} {fp : List Addr} : Good c cl k (X.blk s H scope cenv fp) := ⟨G.N, G.nd, G.calm, G.room, G.gd, G.fns, G.cst, G.blt⟩
end

/-! ### the readings by mode -/
def Rd' (X : Cx) (cl : Call) (m : Mo) (e : Expr) (x : Ex) : Prop := match m with
  | .val => isBor x = none ∧ PE X e (tEv X.K cl noX x)
  | .bor => PE X e (tVl X.K cl noX x)
  | .tst => PT X e (tTs X.K cl noX x)
section
variable {X : Cx} {cl : Call} {m : Mo} {e : Expr} {x : Ex}
theorem vForm_bor (h : vForm x = true) : isBor x = none := by cases x <;> first | rfl | cases h
theorem rd_bor (hb : isBor x = none) (h : PE X e (tEv X.K cl noX x)) : PE X e (tVl X.K cl noX x) := PE.imp h fun σ H Q q => tVl_ev hb q
theorem rd_val {m : Mo} (h : Rd' X cl .val e x) : PE X e (tVl X.K cl noX x) := rd_bor h.1 h.2
theorem rd_mk (hv : vForm x = true) (h : PE X e (tEv X.K cl noX x)) (ht : ∀ whole, isTrue e X.env whole = (do let v ← whole; standAt e.pos; holding [v] (truthy v))) : Rd' X cl m e x := by
  cases m with
  | val => exact ⟨vForm_bor hv, h⟩
  | bor => exact rd_bor (vForm_bor hv) h
  | tst => exact PT.imp (pt_truth h ht) fun σ H Q q => tst_val hv q
theorem rd_name {i : Nat} (h : PE X e (tVar i)) (ht : ∀ whole, isTrue e X.env whole = (do let v ← whole; standAt e.pos; holding [v] (truthy v))) : Rd' X cl m e (if m = .val then .var i else .bor i) := by
  cases m with
  | val => exact ⟨rfl, PE.imp h fun σ H Q q => n_var q⟩
  | bor => exact PE.imp h fun σ H Q q => n_bor q
  | tst => exact PT.imp (pt_truth h ht) fun σ H Q q => tst_bor q
theorem optAll_paired {α β : Type} {f : α → Option β} : ∀ {as : List α} {bs : List β}, optAll f as = some bs → Paired (fun a b => f a = some b) as bs
  | [], bs, h => by unfold optAll at h; cases h; exact .nil
  | a :: as, bs, h => by
    unfold optAll at h
    cases e : f a with
    | none => rw [e] at h; cases h
    | some b =>
      rw [e] at h
      simp only [Option.bind] at h
      cases e2 : optAll f as with
      | none => rw [e2] at h; cases h
      | some bs' =>
        rw [e2] at h
        cases h
        exact .cons e (optAll_paired e2)
end

/-! ### primitives that answer with a truth value -/
theorem bp_eq : boolP .eq := fun ds d f h0 => by
  have h : prEq ds = some (d, f) := h0
  unfold prEq at h
  split at h
  · rename_i x y; cases e : eqD x y with
    | none => rw [e] at h; cases h
    | some b => rw [e] at h; cases h; exact ⟨_, rfl, rfl⟩
  · cases h
theorem bp_ne : boolP .ne := fun ds d f h0 => by
  have h : prNe ds = some (d, f) := h0
  unfold prNe at h
  split at h
  · rename_i x y; cases e : eqD x y with
    | none => rw [e] at h; cases h
    | some b => rw [e] at h; cases h; exact ⟨_, rfl, rfl⟩
  · cases h
theorem bp_in : boolP .isIn := fun ds d f h0 => by
  have h : prIsIn ds = some (d, f) := h0
  unfold prIsIn at h
  split at h
  · rename_i x y; cases e : inD x y with
    | none => rw [e] at h; cases h
    | some b => rw [e] at h; cases h; exact ⟨_, rfl, rfl⟩
  · cases h
theorem bp_notIn : boolP .notIn := fun ds d f h0 => by
  have h : prNotIn ds = some (d, f) := h0
  unfold prNotIn at h
  split at h
  · rename_i x y; cases e : inD x y with
    | none => rw [e] at h; cases h
    | some b => rw [e] at h; cases h; exact ⟨_, rfl, rfl⟩
  · cases h
theorem bp_lt : boolP .lt := fun ds d f h0 => by
  have h : prLt ds = some (d, f) := h0
  unfold prLt at h
  split at h
  · split at h
    · cases h; exact ⟨_, rfl, rfl⟩
    · cases h
  · cases h
theorem bp_le : boolP .le := fun ds d f h0 => by
  have h : prLe ds = some (d, f) := h0
  unfold prLe at h
  split at h
  · split at h
    · cases h; exact ⟨_, rfl, rfl⟩
    · cases h
  · cases h
theorem bp_gt : boolP .gt := fun ds d f h0 => by
  have h : prGt ds = some (d, f) := h0
  unfold prGt at h
  split at h
  · split at h
    · cases h; exact ⟨_, rfl, rfl⟩
    · cases h
  · cases h
theorem bp_ge : boolP .ge := fun ds d f h0 => by
  have h : prGe ds = some (d, f) := h0
  unfold prGe at h
  split at h
  · split at h
    · cases h; exact ⟨_, rfl, rfl⟩
    · cases h
  · cases h
theorem bp_isNo : boolP .isNo := fun ds d f h0 => by
  have h : prIsNo ds = some (d, f) := h0
  unfold prIsNo at h
  split at h
  · cases h; exact ⟨_, rfl, rfl⟩
  · cases h
theorem bp_notNo : boolP .notNo := fun ds d f h0 => by
  have h : prNotNo ds = some (d, f) := h0
  unfold prNotNo at h
  split at h
  · cases h; exact ⟨_, rfl, rfl⟩
  · cases h
theorem bp_isB {b : Bool} : boolP (.isB b) := fun ds d f h0 => by
  have h : prIsB b ds = some (d, f) := h0
  unfold prIsB at h
  split at h
  · cases h; exact ⟨_, rfl, rfl⟩
  · cases h
theorem bp_notB {b : Bool} : boolP (.notB b) := fun ds d f h0 => by
  have h : prNotB b ds = some (d, f) := h0
  unfold prNotB at h
  split at h
  · cases h; exact ⟨_, rfl, rfl⟩
  · cases h
section
variable {X : Cx}
theorem cmp_ok (hu : X.A.units + 100 < cLine) {op : CmpOp} {p : Pr} (h : trCmp op = some p) : OpR X (compareOp op) (rPr2 X.K (pr p)) ∧ boolP p := by
  cases op <;> unfold trCmp at h <;> cases h
  · exact ⟨c_eq hu, bp_eq⟩
  · exact ⟨c_ne hu, bp_ne⟩
  · exact ⟨c_lt hu, bp_lt⟩
  · exact ⟨c_le hu, bp_le⟩
  · exact ⟨c_gt hu, bp_gt⟩
  · exact ⟨c_ge hu, bp_ge⟩
  · exact ⟨c_in hu, bp_in⟩
  · exact ⟨c_notIn hu, bp_notIn⟩
theorem bin_ok {op : Operator} {p : Pr} (h : trOp op = some p) : OpR X (binaryOp op) (rPr2 X.K (pr p)) := by
  cases op <;> unfold trOp at h <;> cases h
  · exact o_add
  · exact o_sub
  · exact o_mul
  · exact o_mod
  · exact o_pow
  · exact o_fdiv
theorem marks_ok {op : CmpOp} {b : Expr} (h : isSetDisp b = false) : behindInMarks op b = false := by
  cases b <;> first | (cases h; done) | (unfold behindInMarks; simp) | rfl
/-- is None, is not None -/
def isNon : D → Bool
  | .none => true
  | _ => false
theorem non_of {K : PySem.W.Frag} {H : Hp} {S : List Addr} {x : V} {d : D} (a : ArgR K H S x d) : decide (x = .non) = isNon d := by
  rcases a with a | ⟨p, e, _, a⟩
  · cases a <;> simp [isNon]
  · subst e; cases a <;> simp [isNon]
theorem isNo_ok {K : PySem.W.Frag} {x : V} {H : Hp} {Q : VK} (h : rPr1 K prIsNo x H Q) : Q (.bl (decide (x = .non))) H := by
  obtain ⟨S, ds, d, f, hS, ha, hp, q⟩ := h
  cases ha with | cons a ha =>
  cases ha
  rename_i d0
  rw [non_of a]
  cases d0 <;> (cases hp; exact q _ H (KeepA.refl H) (.bl _))
theorem notNo_ok {K : PySem.W.Frag} {x : V} {H : Hp} {Q : VK} (h : rPr1 K prNotNo x H Q) : Q (.bl (!decide (x = .non))) H := by
  obtain ⟨S, ds, d, f, hS, ha, hp, q⟩ := h
  cases ha with | cons a ha =>
  cases ha
  rename_i d0
  rw [non_of a]
  cases d0 <;> (cases hp; exact q _ H (KeepA.refl H) (.bl _))
theorem isB_ok {K : PySem.W.Frag} {b : Bool} {x : V} {H : Hp} {Q : VK} (h : rPr1 K (prIsB b) x H Q) : rIsB x (.bl b) H Q := by
  obtain ⟨S, ds, d, f, hS, ha, hp, q⟩ := h
  cases ha with | cons a ha =>
  cases ha
  rename_i d0
  cases d0 with
  | bool c =>
    cases hp
    refine ⟨c, b, a.bl, rfl, ?_⟩
    have := q (.bl (b == c)) H (KeepA.refl H) (.bl _)
    have e : decide (c = b) = (b == c) := by cases b <;> cases c <;> rfl
    rw [e]; exact this
  | _ => cases hp
theorem notB_ok {K : PySem.W.Frag} {b : Bool} {x : V} {H : Hp} {Q : VK} (h : rPr1 K (prNotB b) x H Q) : rNotB x (.bl b) H Q := by
  obtain ⟨S, ds, d, f, hS, ha, hp, q⟩ := h
  cases ha with | cons a ha =>
  cases ha
  rename_i d0
  cases d0 with
  | bool c =>
    cases hp
    refine ⟨c, b, a.bl, rfl, ?_⟩
    have := q (.bl (!(b == c))) H (KeepA.refl H) (.bl _)
    have e : (!decide (c = b)) = (!(b == c)) := by cases b <;> cases c <;> rfl
    rw [e]; exact this
  | _ => cases hp
end
/-! ### operators, comparisons -/
section
variable {X : Cx} {cl : Call} {m : Mo} {a b l : Expr} {x y z : Ex} {pos : Pos}
theorem e_bin {op : Operator} {p : Pr} (h : trOp op = some p) (ha : PE X a (tVl X.K cl noX x)) (hb : PE X b (tVl X.K cl noX y)) : PE X (.BinOp a op b pos) (tEv X.K cl noX (.ap p [x, y])) :=
  PE.imp (pe_op (bin_ok h) ha hb) fun σ H Q q => tArgs2 (ap_args q)
theorem e_neg (ha : PE X a (tVl X.K cl noX x)) : PE X (.UnaryOp .USub a pos) (tEv X.K cl noX (.ap .neg [x])) :=
  PE.imp (pe_un u_neg ha) fun σ H Q q => tArgs1 (ap_args q)
theorem e_cmp (hu : X.A.units + 100 < cLine) {op : CmpOp} {p : Pr} (h : trCmp op = some p) (ha : PE X a (tVl X.K cl noX x)) (hb : PE X b (tVl X.K cl noX y)) (hs : isSetDisp b = false) : Rd' X cl m (.Compare a [op] [b] pos) (.ap p [x, y]) := by
  obtain ⟨h1, h2⟩ := cmp_ok hu h
  have pe : PE X (.Compare a [op] [b] pos) (tEv X.K cl noX (.ap p [x, y])) := PE.imp (pe_cmpR h1 ha hb (marks_ok hs)) fun σ H Q q => tArgs2 (ap_args q)
  cases m with
  | val => exact ⟨rfl, pe⟩
  | bor => exact rd_bor rfl pe
  | tst => exact PT.imp (pt_cmpR h1 ha hb (marks_ok hs)) fun σ H Q q => tArgs2 (ap_test h2 q)
theorem lm_ok {o1 o2 : CmpOp} (h1 : isSetDisp a = false) (h2 : isSetDisp b = false) : lastMarks [o1, o2] [a, b] = false := by
  first
    | (unfold lastMarks; simp [marks_ok h1, marks_ok h2]; done)
    | (simp [lastMarks, marks_ok h1, marks_ok h2]; done)
    | exact marks_ok h2
theorem e_chn (hu : X.A.units + 100 < cLine) {o1 o2 : CmpOp} {p1 p2 : Pr} (h1 : trCmp o1 = some p1) (h2 : trCmp o2 = some p2) (hl : PE X l (tVl X.K cl noX x)) (ha : PE X a (tVl X.K cl noX y)) (hb : PE X b (tVl X.K cl noX z)) (s1 : isSetDisp a = false) (s2 : isSetDisp b = false) :
    Rd' X cl m (.Compare l [o1, o2] [a, b] pos) (.chn x [p1, p2] [y, z]) := by
  obtain ⟨k1, k2⟩ := cmp_ok hu h1
  obtain ⟨k3, k4⟩ := cmp_ok hu h2
  have pe : PE X (.Compare l [o1, o2] [a, b] pos) (tEv X.K cl noX (.chn x [p1, p2] [y, z])) := PE.imp (pe_chain k1 k3 hl ha hb (lm_ok s1 s2)) fun σ H Q q => n_chn k4 q
  cases m with
  | val => exact ⟨rfl, pe⟩
  | bor => exact rd_bor rfl pe
  | tst => exact PT.imp (pt_chain k1 k3 hl ha hb (lm_ok s1 s2)) fun σ H Q q => t_chn k4 q
/-- is, is not -/
theorem e_is {neg : Bool} {kk : Nat} {p0 : Pos} {cst : Const} {ex : Ex} (ha : PE X a (tVl X.K cl noX x)) (h : (match cst with | .none => some (.ap (if neg then .notNo else .isNo) [x]) | .bool b => some (.ap (if neg then .notB b else .isB b) [x]) | _ => none) = some ex) :
    Rd' X cl m (.Compare a [if neg then .IsNot else .Is] [.Constant cst kk p0] pos) ex := by
  have key : ∀ {t : TE} {op : CmpOp} {p : Pr}, PE X (.Compare a [op] [.Constant cst kk p0] pos) t → PT X (.Compare a [op] [.Constant cst kk p0] pos) (tTest t) → boolP p → (∀ σ H Q, (tVl X.K cl noX x σ H fun v H1 => rPr1 X.K (pr p) v H1 Q) → t σ H Q) → Rd' X cl m (.Compare a [op] [.Constant cst kk p0] pos) (.ap p [x]) := fun {t op p} pe pt bp i => by
    have pe2 : PE X (.Compare a [op] [.Constant cst kk p0] pos) (tEv X.K cl noX (.ap p [x])) := PE.imp pe fun σ H Q q => i σ H Q (tArgs1 (ap_args q))
    cases m with
    | val => exact ⟨rfl, pe2⟩
    | bor => exact rd_bor rfl pe2
    | tst => exact PT.imp pt fun σ H Q q => i σ H _ (tArgs1 (ap_test bp q))
  cases cst with
  | none =>
    cases neg with
    | false =>
      cases h
      exact key (p := .isNo) (pe_cmp (pc_isN ha) (nobehind _ (by decide) (by decide))) (pt_cmp (pc_isN ha) (nobehind _ (by decide) (by decide))) bp_isNo fun σ H Q q => tVl_mono (fun v H1 q => isNo_ok q) q
    | true =>
      cases h
      exact key (p := .notNo) (pe_cmp (pc_notN ha) (nobehind _ (by decide) (by decide))) (pt_cmp (pc_notN ha) (nobehind _ (by decide) (by decide))) bp_notNo fun σ H Q q => tVl_mono (fun v H1 q => notNo_ok q) q
  | bool b =>
    cases neg with
    | false =>
      cases h
      exact key (p := .isB b) (pe_cmpR op_isBl ha pe_bl (nomark _)) (pt_cmpR op_isBl ha pe_bl (nomark _)) bp_isB fun σ H Q q => tVl_mono (fun v H1 q => isB_ok q) q
    | true =>
      cases h
      exact key (p := .notB b) (pe_cmpR op_notBl ha pe_bl (nomark _)) (pt_cmpR op_notBl ha pe_bl (nomark _)) bp_notB fun σ H Q q => tVl_mono (fun v H1 q => notB_ok q) q
  | _ => cases h
end
end Ev

end

-- EvChn
section
/-! Ev: chains of three links. -/
namespace Ev
open PySem PySem.Spec PyProof.Rows L2
section
variable {K : PySem.W.Frag} {cl : Call} {W : Nat → L2.St → Hp → Prop} {σ : L2.St}
/-- the links behind the first value -/
def tTail (K : PySem.W.Frag) (cl : Call) (W : Nat → L2.St → Hp → Prop) : List Pr → List Ex → V → TE
  | [], _, _ => fun _ _ _ => False
  | _ :: _, [], _ => fun _ _ _ => False
  | [p], e :: _, y => fun σ H Q => tVl K cl W e σ H fun w H1 => rPr2 K (pr p) y w H1 Q
  | p :: q :: ps, e :: es, y => fun σ H Q => tVl K cl W e σ H fun w H1 => rPr2 K (pr p) y w H1 fun z H2 => ∃ k, z = .bl k ∧ if k = true then tTail K cl W (q :: ps) es w σ H2 Q else Q (.bl false) H2
theorem n_tail {Q : VK} {H0 : Hp} {T0 : List Addr} {ow0 : List (Option Addr)} {g0 : Gm} : ∀ (ps : List Pr) (es : List Ex) {H : Hp} {T : List Addr} {ow : List (Option Addr)} {g : Gm} {y : V} {l : Vl}, (∀ p ∈ ps, boolP p) → FrOk K T0 ow0 g0 σ H0 → Step K T0 ow0 g0 σ H0 T ow g σ H → VR K σ H0 H T ow y l →
    (match evc cl l ps es g with
      | .ok r => ∀ T' ow' H' v, Step K T0 ow0 g0 σ H0 T' ow' r.2.2 σ H' → RV K H0 H' T' ow' v r.1 r.2.1 → Q v H'
      | .exc c g' => ∀ T' ow' H', Step K T0 ow0 g0 σ H0 T' ow' g' σ H' → W c σ H'
      | .bad => False) → tTail K cl W ps es y σ H Q
  | [], es, H, T, ow, g, y, l, _, F, S, hy, h => by cases es <;> exact h
  | p :: ps, [], H, T, ow, g, y, l, _, F, S, hy, h => by cases ps <;> exact h
  | p :: ps, e :: es, H, T, ow, g, y, l, hb, F, S, hy, h => by
    simp only [evc] at h
    have hS : tVl K cl W e σ H fun w H1 => rPr2 K (pr p) y w H1 fun z H2 => ∃ k, z = .bl k ∧ ∃ T2 ow2 g2 lw, Step K T0 ow0 g0 σ H0 T2 ow2 g2 σ H2 ∧ VR K σ H0 H2 T2 ow2 w lw ∧ (match (if (k && !ps.isEmpty) = true then evc cl lw ps es g2 else .ok (.bool k, false, g2)) with
      | .ok r => ∀ T' ow' H' v, Step K T0 ow0 g0 σ H0 T' ow' r.2.2 σ H' → RV K H0 H' T' ow' v r.1 r.2.1 → Q v H'
      | .exc c g' => ∀ T' ow' H', Step K T0 ow0 g0 σ H0 T' ow' g' σ H' → W c σ H'
      | .bad => False) := by
      refine ⟨T, ow, g, S.fr, ?_⟩
      cases e2 : vl (isBor e) (ev cl false e g) g with
      | bad => rw [e2] at h; exact h
      | exc c g' => rw [e2] at h; exact fun T2 ow2 H2 S2 => h T2 ow2 H2 (S.trans S2)
      | ok x =>
        rw [e2] at h
        intro T2 ow2 H2 vx S2 hx
        simp only [Out.bind] at h
        have hy2 : VR K σ H0 H2 T2 ow2 y l := hy.step S.fr S2
        have hx2 : VR K σ H0 H2 T2 ow2 vx x.1 := hx.old fun c n => S.back n
        cases e3 : resAll x.2 [l, x.1] with
        | none => rw [e3] at h; exact h.elim
        | some ds =>
          rw [e3] at h
          cases e4 : pr p ds with
          | none => simp only [e4, Option.bind] at h
          | some df =>
            obtain ⟨d, f⟩ := df
            obtain ⟨b2, rfl, rfl⟩ := hb p List.mem_cons_self _ _ _ e4
            simp only [e4, Option.bind] at h
            have S12 := S.trans S2
            refine ⟨T2 ++ owS ow2, ds, _, _, S2.fr.lv, VRs.args (.cons hy2 (.cons hx2 .nil)) S2.fr e3, e4, fun z H3 k rr => ?_⟩
            have S3 : Step K T2 ow2 x.2 σ H2 T2 ow2 x.2 σ H3 := S2.fr.keepA k
            cases (show Rep K H3 (T2 ++ owS ow2) z (.bool b2) from rr)
            exact ⟨b2, rfl, T2, ow2, x.2, x.1, S12.trans S3, hx2.step S2.fr S3, h⟩
    have fin : ∀ (k : Bool) (H2 : Hp) (T2 : List Addr) (ow2 : List (Option Addr)) (g2 : Gm), Step K T0 ow0 g0 σ H0 T2 ow2 g2 σ H2 → (∀ T' ow' H' v, Step K T0 ow0 g0 σ H0 T' ow' g2 σ H' → RV K H0 H' T' ow' v (.bool k) false → Q v H') → Q (.bl k) H2 := fun k H2 T2 ow2 g2 S2 h => h T2 ow2 H2 _ S2 (.bl _)
    cases ps with
    | nil =>
      refine tVl_mono (fun w H1 q => ?_) hS
      obtain ⟨S4, ds, d, f, a1, a2, a3, a4⟩ := q
      refine ⟨S4, ds, d, f, a1, a2, a3, fun v H' b1 b2 => ?_⟩
      obtain ⟨k, e1, T2, ow2, g2, lw, c1, c2, c3⟩ := a4 v H' b1 b2
      subst e1
      simp only [List.isEmpty_nil, Bool.not_true, Bool.and_false] at c3
      exact fin k H' T2 ow2 g2 c1 c3
    | cons q ps =>
      refine tVl_mono (fun w H1 q => ?_) hS
      obtain ⟨S4, ds, d, f, a1, a2, a3, a4⟩ := q
      refine ⟨S4, ds, d, f, a1, a2, a3, fun v H' b1 b2 => ?_⟩
      obtain ⟨k, e1, T2, ow2, g2, lw, c1, c2, c3⟩ := a4 v H' b1 b2
      refine ⟨k, e1, ?_⟩
      cases k with
      | false => exact fin false H' T2 ow2 g2 c1 c3
      | true =>
        rw [if_pos rfl]
        simp only [List.isEmpty_cons, Bool.not_false, Bool.and_true, if_true] at c3
        exact n_tail (q :: ps) es (fun p hp => hb p (List.mem_cons_of_mem _ hp)) F c1 c2 c3
end
/-- a chain of three links -/
theorem n_chn3 {K : PySem.W.Frag} {cl : Call} {W : Nat → L2.St → Hp → Prop} {σ : L2.St} {H : Hp} {a : Ex} {ps : List Pr} {es : List Ex} {Q : VK} (hb : ∀ p ∈ ps, boolP p) (h : tEv K cl W (.chn a ps es) σ H Q) : tVl K cl W a σ H fun y H1 => tTail K cl W ps es y σ H1 Q := by
  obtain ⟨T, ow, g, F, h⟩ := h
  refine ⟨T, ow, g, F, ?_⟩
  simp only [ev] at h
  cases e1 : vl (isBor a) (ev cl false a g) g with
  | bad => rw [e1] at h; exact h
  | exc c g' => rw [e1] at h; exact h
  | ok x =>
    rw [e1] at h
    intro T1 ow1 H1 vx S1 hx
    simp only [Out.bind] at h
    exact n_tail ps es hb F S1 hx h
theorem evc_bool {cl : Call} : ∀ (ps : List Pr) (es : List Ex) (x : Vl) (g : Gm) (r : D × Bool × Gm), evc cl x ps es g = .ok r → ∃ k, r.1 = .bool k ∧ r.2.1 = false
  | [], es, x, g, r, h => by cases es <;> simp [evc] at h
  | p :: ps, [], x, g, r, h => by simp [evc] at h
  | p :: ps, e :: es, x, g, r, h => by
    simp only [evc] at h
    cases e2 : vl (isBor e) (ev cl false e g) g with
    | bad => rw [e2] at h; cases h
    | exc c g' => rw [e2] at h; cases h
    | ok y =>
      rw [e2] at h
      simp only [Out.bind] at h
      cases e3 : (resAll y.2 [x, y.1]).bind (pr p) with
      | none => rw [e3] at h; cases h
      | some df =>
        rw [e3] at h
        obtain ⟨d, f⟩ := df
        cases d with
        | bool b =>
          simp only at h
          split at h
          · exact evc_bool ps es y.1 y.2 r h
          · cases h; exact ⟨b, rfl, rfl⟩
        | _ => cases h
theorem t_chn3 {K : PySem.W.Frag} {cl : Call} {W : Nat → L2.St → Hp → Prop} {σ : L2.St} {H : Hp} {a : Ex} {ps : List Pr} {es : List Ex} {Q : Bool → Hp → Prop} (hb : ∀ p ∈ ps, boolP p) (h : tTs K cl W (.chn a ps es) σ H Q) : tTest (fun σ H Q => tVl K cl W a σ H fun y H1 => tTail K cl W ps es y σ H1 Q) σ H Q := by
  refine n_chn3 hb ?_
  obtain ⟨T, ow, g, F, h⟩ := h
  refine ⟨T, ow, g, F, ?_⟩
  have e : ev cl true (.chn a ps es) g = ev cl false (.chn a ps es) g := by simp only [ev]
  rw [e] at h
  cases e1 : ev cl false (.chn a ps es) g with
  | bad => rw [e1] at h; exact h
  | exc c g' => rw [e1] at h; exact h
  | ok r =>
    rw [e1] at h
    intro T1 ow1 H1 v S q
    have hbool : ∃ k, r.1 = .bool k ∧ r.2.1 = false := by
      simp only [ev] at e1
      cases e2 : vl (isBor a) (ev cl false a g) g with
      | bad => rw [e2] at e1; cases e1
      | exc c g' => rw [e2] at e1; cases e1
      | ok x => rw [e2] at e1; exact evc_bool ps es _ _ _ e1
    obtain ⟨k, e2, e3⟩ := hbool
    rw [e2, e3] at q
    obtain ⟨b, eb, hq⟩ := h T1 ow1 H1 S
    rw [e2] at eb
    cases eb
    cases (show Rep K H1 (T1 ++ owS ow1) v (.bool k) from q)
    exact ⟨k, rfl, hq⟩
section
variable {X : Cx} {cl : Call} {W : Nat → L2.St → Hp → Prop}
/-- the model's chain -/
theorem run_tail {pos : Pos} : ∀ (ops : List CmpOp) (ps : List Pr) (bs : List Expr) (es : List Ex), ops.length = bs.length → Paired (fun o p => OpR X (compareOp o) (rPr2 X.K (pr p))) ops ps → Paired (fun e x => PE X e (tVl X.K cl W x)) bs es →
    ∀ (pins : List (Addr × Obj)) (s : Shared) (σ : L2.St) (H : Hp) (Q : VK) (y : V) (u : Value), L2.Inv X pins σ H s → RelV y u → tTail X.K cl W ps es y σ H Q → wpAny (model X.prog X.w) X.A (compareChain pos u ops (bs.map fun b => eval b X.env)) (EP X pins σ Q) X.xe s
  | [], _, _, es, _, .nil, _, pins, s, σ, H, Q, y, u, I, r, h => by cases es <;> exact h.elim
  | _ :: _, _, [], _, hl, _, _, pins, s, σ, H, Q, y, u, I, r, h => by simp at hl
  | [o], _, b :: b2 :: bs, _, hl, _, _, pins, s, σ, H, Q, y, u, I, r, h => by simp at hl
  | [o], _, [b], _, _, .cons ho .nil, .cons hb .nil, pins, s, σ, H, Q, y, u, I, r, h => by
    rename_i p x
    have h' : tVl X.K cl W x σ H fun w H1 => rPr2 X.K (pr p) y w H1 Q := h
    exact chain_last (thn (hb.run pins s σ H _ I h') fun v s1 ⟨w, H1, I1, r1, q1⟩ => ho pins s1 σ H1 y w u v Q I1 r r1 q1)
  | o :: o2 :: ops, _, [b], _, hl, _, _, pins, s, σ, H, Q, y, u, I, r, h => by simp at hl
  | o :: o2 :: ops, _, b :: b2 :: bs, _, hl, .cons ho (.cons ho2 hos), .cons hb (.cons hb2 hbs), pins, s, σ, H, Q, y, u, I, r, h => by
    rename_i p p2 ps x x2 xs
    have h' : tVl X.K cl W x σ H fun w H1 => rPr2 X.K (pr p) y w H1 fun z H2 => ∃ k, z = .bl k ∧ if k = true then tTail X.K cl W (p2 :: ps) (x2 :: xs) w σ H2 Q else Q (.bl false) H2 := h
    refine chain_link (thn (hb.run pins s σ H _ I h') fun v s1 ⟨w, H1, I1, r1, q1⟩ => thn (ho pins s1 σ H1 y w u v _ I1 r r1 q1) fun d s2 ⟨z, H2, I2, r2, k, ek, q2⟩ => ?_)
    subst ek
    cases r2
    refine wpAny_truthy_bool ?_
    cases k with
    | false => exact ite_ff ⟨.bl false, H2, I2, rfl, q2⟩
    | true => exact ite_tt (run_tail (o2 :: ops) (p2 :: ps) (b2 :: bs) (x2 :: xs) (by simpa using hl) (.cons ho2 hos) (.cons hb2 hbs) pins s2 σ H2 Q w v I2 r1 q2)
theorem pe_chain3 {a b c d : Expr} {x y z u : Ex} {o1 o2 o3 : CmpOp} {p1 p2 p3 : Pr} {pos : Pos} (h1 : OpR X (compareOp o1) (rPr2 X.K (pr p1))) (h2 : OpR X (compareOp o2) (rPr2 X.K (pr p2))) (h3 : OpR X (compareOp o3) (rPr2 X.K (pr p3))) (ha : PE X a (tVl X.K cl W x)) (hb : PE X b (tVl X.K cl W y)) (hc : PE X c (tVl X.K cl W z)) (hd : PE X d (tVl X.K cl W u)) (hm : lastMarks [o1, o2, o3] [b, c, d] = false) :
    PE X (.Compare a [o1, o2, o3] [b, c, d] pos) (fun σ H Q => tVl X.K cl W x σ H fun v H1 => tTail X.K cl W [p1, p2, p3] [y, z, u] v σ H1 Q) :=
  ⟨fun pins s σ H Q I h => Compare_chain (thn (ha.run pins s σ H _ I h) fun v s1 ⟨w, H1, I1, r1, q1⟩ => run_tail [o1, o2, o3] [p1, p2, p3] [b, c, d] [y, z, u] rfl (.cons h1 (.cons h2 (.cons h3 .nil))) (.cons hb (.cons hc (.cons hd .nil))) pins s1 σ H1 Q w v I1 r1 q1) hm⟩
theorem run_tailT {pos : Pos} : ∀ (ops : List CmpOp) (ps : List Pr) (bs : List Expr) (es : List Ex), ops.length = bs.length → Paired (fun o p => OpR X (compareOp o) (rPr2 X.K (pr p))) ops ps → Paired (fun e x => PE X e (tVl X.K cl W x)) bs es →
    ∀ (pins : List (Addr × Obj)) (s : Shared) (σ : L2.St) (H : Hp) (Q : Bool → Hp → Prop) (y : V) (u : Value), L2.Inv X pins σ H s → RelV y u → tTail X.K cl W ps es y σ H (fun x H' => ∃ k, x = .bl k ∧ Q k H') → wpAny (model X.prog X.w) X.A (testChain pos u ops (bs.map fun b => eval b X.env)) (TP X pins σ Q) X.xe s
  | [], _, _, es, _, .nil, _, pins, s, σ, H, Q, y, u, I, r, h => by cases es <;> exact h.elim
  | _ :: _, _, [], _, hl, _, _, pins, s, σ, H, Q, y, u, I, r, h => by simp at hl
  | [o], _, b :: b2 :: bs, _, hl, _, _, pins, s, σ, H, Q, y, u, I, r, h => by simp at hl
  | [o], _, [b], _, _, .cons ho .nil, .cons hb .nil, pins, s, σ, H, Q, y, u, I, r, h => by
    rename_i p x
    have h' : tVl X.K cl W x σ H fun w H1 => rPr2 X.K (pr p) y w H1 fun x H' => ∃ k, x = .bl k ∧ Q k H' := h
    refine test_last (thn (hb.run pins s σ H _ I h') fun v s1 ⟨w, H1, I1, r1, q1⟩ => thn (ho pins s1 σ H1 y w u v _ I1 r r1 q1) fun d s2 ⟨z, H2, I2, r2, k, ek, q2⟩ => ?_)
    subst ek
    cases r2
    exact wpAny_truthy_bool ⟨H2, I2, q2⟩
  | o :: o2 :: ops, _, [b], _, hl, _, _, pins, s, σ, H, Q, y, u, I, r, h => by simp at hl
  | o :: o2 :: ops, _, b :: b2 :: bs, _, hl, .cons ho (.cons ho2 hos), .cons hb (.cons hb2 hbs), pins, s, σ, H, Q, y, u, I, r, h => by
    rename_i p p2 ps x x2 xs
    have h' : tVl X.K cl W x σ H fun w H1 => rPr2 X.K (pr p) y w H1 fun z H2 => ∃ k, z = .bl k ∧ if k = true then tTail X.K cl W (p2 :: ps) (x2 :: xs) w σ H2 (fun x H' => ∃ k, x = .bl k ∧ Q k H') else ∃ k, V.bl false = .bl k ∧ Q k H2 := h
    refine test_link (thn (hb.run pins s σ H _ I h') fun v s1 ⟨w, H1, I1, r1, q1⟩ => thn (ho pins s1 σ H1 y w u v _ I1 r r1 q1) fun d s2 ⟨z, H2, I2, r2, k, ek, q2⟩ => ?_)
    subst ek
    cases r2
    refine wpAny_truthy_bool ?_
    cases k with
    | false =>
      obtain ⟨k, e, q3⟩ := q2
      cases e
      exact ite_ff ⟨H2, I2, q3⟩
    | true => exact ite_tt (run_tailT (o2 :: ops) (p2 :: ps) (b2 :: bs) (x2 :: xs) (by simpa using hl) (.cons ho2 hos) (.cons hb2 hbs) pins s2 σ H2 Q w v I2 r1 q2)
theorem pt_chain3 {a b c d : Expr} {x y z u : Ex} {o1 o2 o3 : CmpOp} {p1 p2 p3 : Pr} {pos : Pos} (h1 : OpR X (compareOp o1) (rPr2 X.K (pr p1))) (h2 : OpR X (compareOp o2) (rPr2 X.K (pr p2))) (h3 : OpR X (compareOp o3) (rPr2 X.K (pr p3))) (ha : PE X a (tVl X.K cl W x)) (hb : PE X b (tVl X.K cl W y)) (hc : PE X c (tVl X.K cl W z)) (hd : PE X d (tVl X.K cl W u)) (hm : lastMarks [o1, o2, o3] [b, c, d] = false) :
    PT X (.Compare a [o1, o2, o3] [b, c, d] pos) (tTest (fun σ H Q => tVl X.K cl W x σ H fun v H1 => tTail X.K cl W [p1, p2, p3] [y, z, u] v σ H1 Q)) :=
  ⟨fun pins s σ H Q I h => isTrue_chain (thn (ha.run pins s σ H _ I h) fun v s1 ⟨w, H1, I1, r1, q1⟩ => run_tailT [o1, o2, o3] [p1, p2, p3] [b, c, d] [y, z, u] rfl (.cons h1 (.cons h2 (.cons h3 .nil))) (.cons hb (.cons hc (.cons hd .nil))) pins s1 σ H1 Q w v I1 r1 q1) hm⟩
theorem lm_ok3 {a b d : Expr} {o1 o2 o3 : CmpOp} (h1 : isSetDisp a = false) (h2 : isSetDisp b = false) (h3 : isSetDisp d = false) : lastMarks [o1, o2, o3] [a, b, d] = false := by
  first
    | (unfold lastMarks; simp [marks_ok h1, marks_ok h2, marks_ok h3]; done)
    | (simp [lastMarks, marks_ok h1, marks_ok h2, marks_ok h3]; done)
    | exact marks_ok h3
theorem e_chn3 {l a b d : Expr} {x y z u : Ex} {pos : Pos} {m : Mo} (hu : X.A.units + 100 < cLine) {o1 o2 o3 : CmpOp} {p1 p2 p3 : Pr} (h1 : trCmp o1 = some p1) (h2 : trCmp o2 = some p2) (h3 : trCmp o3 = some p3) (hl : PE X l (tVl X.K cl noX x)) (ha : PE X a (tVl X.K cl noX y)) (hb : PE X b (tVl X.K cl noX z)) (hd : PE X d (tVl X.K cl noX u)) (s1 : isSetDisp a = false) (s2 : isSetDisp b = false) (s3 : isSetDisp d = false) :
    Rd' X cl m (.Compare l [o1, o2, o3] [a, b, d] pos) (.chn x [p1, p2, p3] [y, z, u]) := by
  obtain ⟨k1, k2⟩ := cmp_ok hu h1
  obtain ⟨k3, k4⟩ := cmp_ok hu h2
  obtain ⟨k5, k6⟩ := cmp_ok hu h3
  have hbo : ∀ p ∈ [p1, p2, p3], boolP p := by
    intro p hp
    simp only [List.mem_cons, List.not_mem_nil, or_false] at hp
    rcases hp with rfl | rfl | rfl
    · exact k2
    · exact k4
    · exact k6
  have pe : PE X (.Compare l [o1, o2, o3] [a, b, d] pos) (tEv X.K cl noX (.chn x [p1, p2, p3] [y, z, u])) := PE.imp (pe_chain3 k1 k3 k5 hl ha hb hd (lm_ok3 s1 s2 s3)) fun σ H Q q => n_chn3 hbo q
  cases m with
  | val => exact ⟨rfl, pe⟩
  | bor => exact rd_bor rfl pe
  | tst => exact PT.imp (pt_chain3 k1 k3 k5 hl ha hb hd (lm_ok3 s1 s2 s3)) fun σ H Q q => t_chn3 hbo q
end
end Ev

end

-- EvTopB
section
/-! Ev: the translation of expressions is sound: subscripts, displays, calls. -/
namespace Ev
open PySem PySem.Spec PyProof.Rows L2

/-! ### slices whose bounds are known behind -/
def PartV : Option V → Option Int → Prop
  | none, none => True
  | some (.int i), some j => i = j
  | _, _ => False
/-- a bound of a slice, as it is written -/
structure PV (X : Cx) (e : Option Expr) (t : L2.St → Hp → (Option V → Hp → Prop) → Prop) : Prop where
  run : ∀ (pins : List (Addr × Obj)) (s : Shared) (σ : L2.St) (H : Hp) (Q : Option V → Hp → Prop), L2.Inv X pins σ H s → t σ H Q →
    wpAny (model X.prog X.w) X.A (evalPart e X.env) (fun u s' => ∃ o H', L2.Inv X pins σ H' s' ∧ (match o with | none => u = .none | some v => RelV v u) ∧ Q o H') X.xe s
section
variable {X : Cx} {e : Expr} {te : TE} {lo hi : Option Expr} {tl th : L2.St → Hp → (Option V → Hp → Prop) → Prop} {pos p2 : Pos}
theorem pv_none : PV X none (fun _ H Q => Q none H) := by
  refine ⟨fun pins s σ H Q I h => ?_⟩
  rw [evalPart_none]
  exact wpAny_pure ⟨none, H, I, rfl, h⟩
theorem pv_some {b : Expr} {tb : TE} (h : PE X b tb) : PV X (some b) (fun σ H Q => tb σ H fun v H1 => Q (some v) H1) := by
  refine ⟨fun pins s σ H Q I hw => ?_⟩
  rw [evalPart_some]
  exact thn (h.run pins s σ H _ I hw) fun u s1 ⟨x, H1, I1, r1, q1⟩ => ⟨some x, H1, I1, r1, q1⟩
theorem part_of {o : Option V} {u : Value} {j : Option Int} (h : match o with | none => u = .none | some v => RelV v u) (p : PartV o j) : IsPart u j := by
  cases o with
  | none =>
    cases j with
    | none => subst h; exact .none
    | some j => cases p
  | some v =>
    cases j with
    | none => cases v <;> cases p
    | some j =>
      cases v with
      | int i =>
        cases p
        obtain ⟨t, rfl⟩ := h
        exact .int _ t
      | _ => cases p
def tSlV (r : V → Option Int → Option Int → Hp → VK → Prop) (te : TE) (tl th : L2.St → Hp → (Option V → Hp → Prop) → Prop) : TE := fun σ H Q => te σ H fun x H1 => tl σ H1 fun l H2 => th σ H2 fun u H3 => ∃ i j, PartV l i ∧ PartV u j ∧ r x i j H3 Q
theorem pe_sliceV {r : V → Option Int → Option Int → Hp → VK → Prop} (hr : SlR X r) (he : PE X e te) (hl : PV X lo tl) (hu : PV X hi th) : PE X (.Subscript e (.Slice lo hi none p2) pos) (tSlV r te tl th) := by
  constructor
  intro pins s σ H Q I h
  apply Subscript_
  refine thn (he.run pins s σ H _ I h) ?_
  rintro v s1 ⟨x, H1, I1, r1, q1⟩
  apply wpAny_Slice
  refine thn (hl.run pins s1 σ H1 _ I1 q1) ?_
  rintro vl s2 ⟨l, H2, I2, pl, q2⟩
  refine thn (hu.run pins s2 σ H2 _ I2 q2) ?_
  rintro vu s3 ⟨u, H3, I3, pu, i, j, p1, p2, q3⟩
  rw [evalPart_none]
  apply wpAny_pure
  have I4 : L2.Inv X pins σ H3 { s3 with heap := s3.heap.push { cls := .type "slice", data := .fields #[vl, vu, .none] } } := I3.kept (t' := s3.toks) fun b ob z => Heap.get?_push_of_some _ z
  obtain ⟨T, id, hT, ht, hg⟩ := hr pins _ σ H3 x v vl vu i j s3.heap.objs.size Q I4 r1 (Heap.IsSliceOf.new ..) (part_of pl p1) (part_of pu p2) q3
  exact tail_any (ops := [.ref s3.heap.objs.size, v]) ht hT hg (by with_unfolding_all rfl)
end
section
variable {X : Cx} {cl : Call} {m : Mo} {a b e : Expr} {x y z : Ex} {pos p2 : Pos} {lo hi : Expr}
theorem int_arg {K : PySem.W.Frag} {H : Hp} {S : List Addr} {v : V} {i : Int} (a : ArgR K H S v (.int i)) : PartV (some v) (some i) := by rw [a.int]; exact rfl
theorem slTT {K : PySem.W.Frag} {x l u : V} {H : Hp} {Q : VK} (h : rPr K (pr (.sl true true)) [x, l, u] H Q) : ∃ i j, PartV (some l) i ∧ PartV (some u) j ∧ rSl K prSlTT mTT x i j H Q := by
  obtain ⟨S, ds, d, f, hS, ha, hp, q⟩ := h
  have hp0 : prSlTT ds = some (d, f) := hp
  unfold prSlTT at hp0
  have key : ∀ {d1 : D} {i j : Int}, ds = [d1, .int i, .int j] → ∃ i j, PartV (some l) i ∧ PartV (some u) j ∧ rSl K prSlTT mTT x i j H Q := fun {d1 i j} e => by
    subst e
    cases ha with | cons a1 ha => cases ha with | cons a2 ha => cases ha with | cons a3 ha =>
    cases ha
    refine ⟨some i, some j, int_arg a2, int_arg a3, [.int i, .int j], rfl, S, _, d, f, hS, ?_, hp, q⟩
    have e2 := a2.int
    have e3 := a3.int
    subst e2; subst e3
    exact .cons a1 (.cons a2 (.cons a3 .nil))
  split at hp0
  · exact key rfl
  · exact key rfl
  · exact key rfl
  · cases hp0
theorem slTF {K : PySem.W.Frag} {x l : V} {H : Hp} {Q : VK} (h : rPr K (pr (.sl true false)) [x, l] H Q) : ∃ i j, PartV (some l) i ∧ PartV none j ∧ rSl K prSlTF mTF x i j H Q := by
  obtain ⟨S, ds, d, f, hS, ha, hp, q⟩ := h
  have hp0 : prSlTF ds = some (d, f) := hp
  unfold prSlTF at hp0
  have key : ∀ {d1 : D} {i : Int}, ds = [d1, .int i] → ∃ i j, PartV (some l) i ∧ PartV none j ∧ rSl K prSlTF mTF x i j H Q := fun {d1 i} e => by
    subst e
    cases ha with | cons a1 ha => cases ha with | cons a2 ha =>
    cases ha
    refine ⟨some i, none, int_arg a2, trivial, [.int i], rfl, S, _, d, f, hS, ?_, hp, q⟩
    have e2 := a2.int
    subst e2
    exact .cons a1 (.cons a2 .nil)
  split at hp0
  · exact key rfl
  · exact key rfl
  · exact key rfl
  · cases hp0
theorem slFT {K : PySem.W.Frag} {x u : V} {H : Hp} {Q : VK} (h : rPr K (pr (.sl false true)) [x, u] H Q) : ∃ i j, PartV none i ∧ PartV (some u) j ∧ rSl K prSlFT mFT x i j H Q := by
  obtain ⟨S, ds, d, f, hS, ha, hp, q⟩ := h
  have hp0 : prSlFT ds = some (d, f) := hp
  unfold prSlFT at hp0
  have key : ∀ {d1 : D} {i : Int}, ds = [d1, .int i] → ∃ i j, PartV none i ∧ PartV (some u) j ∧ rSl K prSlFT mFT x i j H Q := fun {d1 i} e => by
    subst e
    cases ha with | cons a1 ha => cases ha with | cons a2 ha =>
    cases ha
    refine ⟨none, some i, trivial, int_arg a2, [.int i], rfl, S, _, d, f, hS, ?_, hp, q⟩
    have e2 := a2.int
    subst e2
    exact .cons a1 (.cons a2 .nil)
  split at hp0
  · exact key rfl
  · exact key rfl
  · exact key rfl
  · cases hp0
theorem e_slTT (he : PE X e (tVl X.K cl noX x)) (hl : PE X lo (tVl X.K cl noX y)) (hh : PE X hi (tVl X.K cl noX z)) : PE X (.Subscript e (.Slice (some lo) (some hi) none p2) pos) (tEv X.K cl noX (.ap (.sl true true) [x, y, z])) :=
  PE.imp (pe_sliceV s_TT he (pv_some hl) (pv_some hh)) fun σ H Q q => tVl_mono (fun _ _ q => tVl_mono (fun _ _ q => tVl_mono (fun _ _ q => slTT q) q) q) (tArgs3 (ap_args q))
theorem e_slTF (he : PE X e (tVl X.K cl noX x)) (hl : PE X lo (tVl X.K cl noX y)) : PE X (.Subscript e (.Slice (some lo) none none p2) pos) (tEv X.K cl noX (.ap (.sl true false) [x, y])) :=
  PE.imp (pe_sliceV s_TF he (pv_some hl) pv_none) fun σ H Q q => tVl_mono (fun _ _ q => tVl_mono (fun _ _ q => slTF q) q) (tArgs2 (ap_args q))
theorem e_slFT (he : PE X e (tVl X.K cl noX x)) (hh : PE X hi (tVl X.K cl noX z)) : PE X (.Subscript e (.Slice none (some hi) none p2) pos) (tEv X.K cl noX (.ap (.sl false true) [x, z])) :=
  PE.imp (pe_sliceV s_FT he pv_none (pv_some hh)) fun σ H Q q => tVl_mono (fun _ _ q => tVl_mono (fun _ _ q => slFT q) q) (tArgs2 (ap_args q))
theorem e_rev {kk : Nat} {p1 p3 p4 : Pos} (he : PE X e (tVl X.K cl noX x)) : PE X (.Subscript e (.Slice none none (some (.UnaryOp .USub (.Constant (.int 1) kk p1) p3)) p4) pos) (tEv X.K cl noX (.ap .rev [x])) :=
  PE.imp (pe_rev he) fun σ H Q q => tArgs1 (ap_args q)
theorem e_ix (hu : X.A.units + 100 < cLine) (he : PE X e (tVl X.K cl noX x)) (hi : PE X b (tVl X.K cl noX y)) (hp : PlainIx b) : PE X (.Subscript e b pos) (tEv X.K cl noX (.ap .ix [x, y])) :=
  PE.imp (pe_ix (i_ix hu) he hi hp) fun σ H Q q => tArgs2 (ap_args q)

/-! ### displays -/
theorem flat_len : ∀ {ks : List (Option Expr)} {vs : List Expr} {es : List Expr}, flat ks vs = some es → ks.all (·.isSome) = true ∧ ks.length = vs.length ∧ es.length = 2 * ks.length
  | [], [], es, h => by unfold flat at h; cases h; exact ⟨rfl, rfl, rfl⟩
  | [], _ :: _, _, h => by unfold flat at h; cases h
  | none :: _, [], _, h => by unfold flat at h; cases h
  | none :: _, _ :: _, _, h => by unfold flat at h; cases h
  | some _ :: _, [], _, h => by unfold flat at h; cases h
  | some k :: ks, v :: vs, es, h => by
    unfold flat at h
    cases e : flat ks vs with
    | none => rw [e] at h; cases h
    | some r =>
      rw [e] at h
      cases h
      obtain ⟨h1, h2, h3⟩ := flat_len e
      refine ⟨by rw [List.all_cons, h1]; rfl, by rw [List.length_cons, List.length_cons, h2], ?_⟩
      rw [List.length_cons, List.length_cons, h3, List.length_cons]; omega
theorem pps_go : ∀ {ks : List (Option Expr)} {vs : List Expr} {es : List Expr} {xs : List Ex}, flat ks vs = some es → Paired (fun e x => PE X e (tVl X.K cl noX x)) es xs → PPs X pos ks vs (prs X.K cl noX xs)
  | [], [], es, xs, h, p => by unfold flat at h; cases h; cases p; exact pps_nil
  | [], _ :: _, _, _, h, _ => by unfold flat at h; cases h
  | none :: _, [], _, _, h, _ => by unfold flat at h; cases h
  | none :: _, _ :: _, _, _, h, _ => by unfold flat at h; cases h
  | some _ :: _, [], _, _, h, _ => by unfold flat at h; cases h
  | some k :: ks, v :: vs, es, xs, h, p => by
    unfold flat at h
    cases e : flat ks vs with
    | none => rw [e] at h; cases h
    | some r =>
      rw [e] at h
      cases h
      cases p with | cons p1 p => cases p with | cons p2 p =>
      exact pps_cons p1 p2 (pps_go e p)
theorem e_dct {ks : List (Option Expr)} {vs : List Expr} {es : List Expr} {xs : List Ex} (h : flat ks vs = some es) (h15 : ks.length ≤ 15) (p : Paired (fun e x => PE X e (tVl X.K cl noX x)) es xs) : PE X (.Dict ks vs pos) (tEv X.K cl noX (.dct xs)) := by
  obtain ⟨h1, h2, h3⟩ := flat_len h
  cases ks with
  | nil =>
    cases vs with
    | nil =>
      unfold flat at h
      cases h
      cases p
      exact PE.imp pe_dnewK fun σ H Q q => c_dct0 q
    | cons _ _ => cases h2
  | cons k ks =>
    refine PE.imp (pe_disp (pps_go h p) h1 h2 (by simp) h15) fun σ H Q q => c_dct (n := (k :: ks).length) ?_ q
    rw [← h3]
    exact (Paired.length p).symm
end

/-! ### built-ins by name -/
section
variable {c : Tc} {cl : Call} {k : Nat} {X : Cx} {m : Mo}
/-- how a built-in of the table is called -/
structure Bi (X : Cx) (x : Str) (p : Pr) : Prop where
  call : (∃ id, bootBuiltins x = some (.builtin id) ∧ CallR X (.builtin id) (rPr X.K (pr p))) ∨ (∃ T, bootBuiltins x = some (.type T) ∧ CallR X (.type T) (rPr X.K (pr p)))
  mem : x ∈ bltN
  nm : x ≠ "__name__"
  db : (x == ("__debug__" : Str)) = false
theorem bi_ok (G : Good c cl k X) {x : Str} {n : Nat} {p : Pr} (h : trBi x n = some p) : Bi X x p := by
  have hu := G.hu
  have hc := G.calm
  unfold trBi at h
  have A : ∀ {x' : Str} {n' : Nat} {p' : Pr} {r : Option Pr}, (if x = x' ∧ n = n' then some p' else r) = some p → (x = x' ∧ p' = p) ∨ r = some p := fun {x' n' p' r} h => by
    by_cases e : x = x' ∧ n = n'
    · rw [if_pos e] at h; cases h; exact .inl ⟨e.1, rfl⟩
    · rw [if_neg e] at h; exact .inr h
  rcases A h with ⟨rfl, rfl⟩ | h
  · exact ⟨.inl ⟨_, by decide +kernel, k_len⟩, by decide, by decide, by decide⟩
  rcases A h with ⟨rfl, rfl⟩ | h
  · exact ⟨.inl ⟨_, by decide +kernel, k_abs⟩, by decide, by decide, by decide⟩
  rcases A h with ⟨rfl, rfl⟩ | h
  · exact ⟨.inl ⟨_, by decide +kernel, k_min1 hc hu⟩, by decide, by decide, by decide⟩
  rcases A h with ⟨rfl, rfl⟩ | h
  · exact ⟨.inl ⟨_, by decide +kernel, k_max1 hc hu⟩, by decide, by decide, by decide⟩
  rcases A h with ⟨rfl, rfl⟩ | h
  · exact ⟨.inl ⟨_, by decide +kernel, k_min2 hc⟩, by decide, by decide, by decide⟩
  rcases A h with ⟨rfl, rfl⟩ | h
  · exact ⟨.inl ⟨_, by decide +kernel, k_max2 hc⟩, by decide, by decide, by decide⟩
  rcases A h with ⟨rfl, rfl⟩ | h
  · exact ⟨.inl ⟨_, by decide +kernel, k_sum1 hc⟩, by decide, by decide, by decide⟩
  rcases A h with ⟨rfl, rfl⟩ | h
  · exact ⟨.inl ⟨_, by decide +kernel, k_all hc⟩, by decide, by decide, by decide⟩
  rcases A h with ⟨rfl, rfl⟩ | h
  · exact ⟨.inl ⟨_, by decide +kernel, k_any hc⟩, by decide, by decide, by decide⟩
  rcases A h with ⟨rfl, rfl⟩ | h
  · exact ⟨.inl ⟨_, by decide +kernel, k_sortedA hc hu⟩, by decide, by decide, by decide⟩
  rcases A h with ⟨rfl, rfl⟩ | h
  · exact ⟨.inr ⟨_, by decide +kernel, k_tupOf⟩, by decide, by decide, by decide⟩
  rcases A h with ⟨rfl, rfl⟩ | h
  · exact ⟨.inr ⟨_, by decide +kernel, k_lstOf hc⟩, by decide, by decide, by decide⟩
  rcases A h with ⟨rfl, rfl⟩ | h
  · exact ⟨.inr ⟨_, by decide +kernel, k_intOf⟩, by decide, by decide, by decide⟩
  rcases A h with ⟨rfl, rfl⟩ | h
  · exact ⟨.inl ⟨_, by decide +kernel, k_repr G.gd hu⟩, by decide, by decide, by decide⟩
  rcases A h with ⟨rfl, rfl⟩ | h
  · exact ⟨.inr ⟨_, by decide +kernel, k_dictOf hc⟩, by decide, by decide, by decide⟩
  cases h
theorem trBi_args {x : Str} {n : Nat} {p : Pr} (h : trBi x n = some p) : 1 ≤ n := by
  have A : ∀ {x' : Str} {n' : Nat} {p' : Pr} {r : Option Pr}, 1 ≤ n' → (r = some p → 1 ≤ n) → (if x = x' ∧ n = n' then some p' else r) = some p → 1 ≤ n := fun {x' n' p' r} h1 h2 h => by
    by_cases e : x = x' ∧ n = n'
    · rw [e.2]; exact h1
    · rw [if_neg e] at h; exact h2 h
  unfold trBi at h
  revert h
  iterate 15 refine A (by decide) ?_
  intro h
  cases h
/-- a built-in of the table, called -/
theorem e_bi (G : Good c cl k X) {x : Str} {es : List Expr} {exs : List Ex} {p : Pr} {pp pos : Pos} (b : Bi X x p) (hn : 1 ≤ es.length) (hg : Gl X x) (hs : notStars es = true) (ha : PA X es (tArgs X.K cl noX exs)) : PE X (.Call (.Name x pp) es [] pos) (tEv X.K cl noX (.ap p exs)) := by
  cases es with
  | nil => simp at hn
  | cons e es =>
    obtain ⟨h1, h2⟩ := notStars_cons hs
    rcases b.call with ⟨id, b1, b2⟩ | ⟨T, b1, b2⟩
    · exact PE.imp (pe_callB b2 hg (G.blt x b.mem) b1 ha b.nm b.db (starEach_cons h1) (back_any h2)) fun σ H Q q => ap_args q
    · exact PE.imp (pe_callTy b2 hg (G.blt x b.mem) b1 ha b.nm b.db (starEach_cons h1) (back_any h2)) fun σ H Q q => ap_args q
end
end Ev

end

-- EvTopC
section
/-! Ev: the translation of expressions is sound: names, calls, methods. -/
namespace Ev
open PySem PySem.Spec PyProof.Rows L2

section
variable {c : Tc} {cl : Call} {k : Nat} {X : Cx} {m : Mo}
/-! ### names -/
theorem visB_of {sc : Scope} {x : Str} (h : visB sc x = true) : Vis sc x := by
  unfold visB at h
  split at h
  · rename_i e; exact .inl e
  · rename_i e; exact .inr (.inl e)
  · rename_i e; exact .inr (.inr e)
  · cases h
theorem glB_of {sc : Scope} {x : Str} (h : glB sc x = true) : sc.names.lookup x = some .globalImplicit := by
  unfold glB at h
  split at h
  · rename_i e; exact e
  · cases h
theorem gl_of {x : Str} (h : glB X.env.scope x = true) : Gl X x := glB_of h
theorem odd_of {x : Str} (h : oddB x = false) : (x == ("__debug__" : Str)) = false ∧ (x == ("__classdict__" : Str)) = false ∧ x ≠ "__name__" := by
  unfold oddB at h
  simp only [Bool.or_eq_false_iff, decide_eq_false_iff_not] at h
  obtain ⟨⟨h1, h2⟩, h3⟩ := h
  exact ⟨by simpa using h1, by simpa using h2, h3⟩
theorem pv_name (G : Good c cl k X) {x : Str} {i : Nat} {pos : Pos} (hv : visB X.env.scope x = true) (ho : oddB x = false) (hi : slotOf c.N x = some i) : PE X (.Name x pos) (tVar i) := by
  obtain ⟨o1, o2, _⟩ := odd_of ho
  exact pe_var (by rw [← G.N]; exact slotOf_at hi) (visB_of hv) o1 o2
theorem e_name (G : Good c cl k X) {x : Str} {pos : Pos} {ex : Ex} (h : trName c X.env.scope m x = some ex) : Rd' X cl m (.Name x pos) ex := by
  unfold trName at h
  by_cases ho : oddB x = true
  · rw [if_pos ho] at h; cases h
  have ho : oddB x = false := by simpa using ho
  rw [if_neg (by rw [ho]; decide)] at h
  by_cases hv : visB X.env.scope x = true
  · rw [if_pos hv] at h
    cases e : slotOf c.N x with
    | none => rw [e] at h; cases h
    | some i =>
      rw [e] at h
      cases h
      exact rd_name (pv_name G hv ho e) fun _ => rfl
  · rw [if_neg hv] at h
    by_cases hg : glB X.env.scope x = true
    · rw [if_pos hg] at h
      cases e : c.cs.lookup x with
      | none => rw [e] at h; cases h
      | some d =>
        rw [e] at h
        cases h
        obtain ⟨v, u, h1, h2, h3⟩ := G.cst x d e
        exact rd_mk rfl (PE.imp (pe_glob (gl_of hg) h1 h2 (odd_of ho).1) fun σ H Q q => n_lit h3 q) fun _ => rfl
    · rw [if_neg hg] at h; cases h
theorem slot_name (G : Good c cl k X) {e : Expr} {i : Nat} (h : trSlot c X.env.scope e = some i) : PE X e (tVar i) := by
  unfold trSlot at h
  split at h
  · split at h
    · rename_i hc
      rw [Bool.and_eq_true] at hc
      exact pv_name G hc.1 (by simpa using hc.2) h
    · cases h
  · cases h
theorem e_const {cst : Const} {kk : Nat} {pos : Pos} {d : D} (h : trC cst = some d) : Rd' X cl m (.Constant cst kk pos) (.lit d) := by
  refine rd_mk rfl ?_ fun _ => rfl
  cases cst with
  | none => cases h; exact PE.imp pe_non fun σ H Q q => n_lit (fun _ _ _ => .non) q
  | bool b => cases h; exact PE.imp pe_bl fun σ H Q q => n_lit (fun _ _ _ => .bl b) q
  | int i => cases h; exact PE.imp pe_int fun σ H Q q => n_lit (fun _ _ _ => .int i) q
  | str x =>
    have h : (if line x.length = true then some (PyData.str x) else none) = some d := h
    split at h
    · rename_i hl; cases h; exact PE.imp pe_str fun σ H Q q => n_lit (fun _ _ _ => .str (line_le hl)) q
    · cases h
  | _ => cases h

/-! ### how parts are read -/
/-- what the parts' translation gives -/
def Ih (c : Tc) (cl : Call) (k : Nat) (r : TrF) : Prop := ∀ X, Good c cl k X → ∀ m e x, r X.env.scope m e = some x → Rd' X cl m e x
variable {r : TrF}
theorem ih_bor (ih : Ih c cl k r) (G : Good c cl k X) {e : Expr} {x : Ex} (h : r X.env.scope .bor e = some x) : PE X e (tVl X.K cl noX x) := ih X G .bor e x h
theorem ih_val (ih : Ih c cl k r) (G : Good c cl k X) {e : Expr} {x : Ex} (h : r X.env.scope .val e = some x) : PE X e (tVl X.K cl noX x) := rd_val (m := .val) (ih X G .val e x h)
theorem ihs_bor (ih : Ih c cl k r) (G : Good c cl k X) {es : List Expr} {xs : List Ex} (h : optAll (r X.env.scope .bor) es = some xs) : Paired (fun e x => PE X e (tVl X.K cl noX x)) es xs := Paired.mapP (optAll_paired h) fun _ _ z => ih_bor ih G z
theorem ihs_val (ih : Ih c cl k r) (G : Good c cl k X) {es : List Expr} {xs : List Ex} (h : optAll (r X.env.scope .val) es = some xs) : Paired (fun e x => PE X e (tVl X.K cl noX x)) es xs := Paired.mapP (optAll_paired h) fun _ _ z => ih_val ih G z

/-! ### and, or -/
theorem e_bool (op : BoolOp) (ih : Ih c cl k r) (G : Good c cl k X) {pos : Pos} : ∀ {es : List Expr} {xs : List Ex} {x : Ex}, optAll (r X.env.scope (inner m)) es = some xs → foldB op xs = some x → (m ≠ .tst → isBor x = none ∧ PE X (.BoolOp op es pos) (tEv X.K cl noX x)) ∧ (m = .tst → PW X (.BoolOp op es pos) (tTs X.K cl noX x)) := by
  intro es
  induction es with
  | nil => intro xs x h hf; unfold optAll at h; cases h; unfold foldB at hf; cases hf
  | cons e es ihl =>
    intro xs x h hf
    unfold optAll at h
    cases e1 : r X.env.scope (inner m) e with
    | none => rw [e1] at h; cases h
    | some y =>
      rw [e1] at h
      simp only [Option.bind] at h
      cases e2 : optAll (r X.env.scope (inner m)) es with
      | none => rw [e2] at h; cases h
      | some ys =>
        rw [e2] at h
        cases h
        have h1 := ih X G (inner m) e y e1
        cases es with
        | nil =>
          unfold optAll at e2
          cases e2
          unfold foldB at hf
          cases hf
          refine ⟨fun hm => ?_, fun hm => ?_⟩
          · have : inner m = .val := by unfold inner; rw [if_neg hm]
            rw [this] at h1
            exact ⟨h1.1, pe_one h1.2⟩
          · subst hm
            cases op with
            | And => exact pw_and1 h1
            | Or => exact pw_or1 h1
        | cons e' es' =>
          cases ys with
          | nil => have := Paired.length (optAll_paired e2); simp at this
          | cons y' ys' =>
            unfold foldB at hf
            cases e3 : foldB op (y' :: ys') with
            | none => rw [e3] at hf; cases hf
            | some z =>
              rw [e3] at hf
              obtain ⟨k1, k2⟩ := ihl e2 e3
              refine ⟨fun hm => ?_, fun hm => ?_⟩
              · have : inner m = .val := by unfold inner; rw [if_neg hm]
                rw [this] at h1
                have k1 := k1 hm
                cases op with
                | And => cases hf; exact ⟨rfl, PE.imp (pe_and h1.2 k1.2) fun σ H Q q => n_and q⟩
                | Or => cases hf; exact ⟨rfl, PE.imp (pe_or h1.2 k1.2) fun σ H Q q => n_or q⟩
              · have k3 := k2 hm
                subst hm
                have h1 : PT X e (tTs X.K cl noX y) := h1
                cases op with
                | And => cases hf; exact ⟨fun wh pins s σ H Q I q => (pw_and h1 k3).run wh pins s σ H Q I (t_and q)⟩
                | Or => cases hf; exact ⟨fun wh pins s σ H Q I q => (pw_or h1 k3).run wh pins s σ H Q I (t_or q)⟩

/-! ### calls of own defs -/
theorem split_ok (ih : Ih c cl k r) (G : Good c cl k X) {mp : List Nat} : ∀ {es : List Expr} {j : Nat} {ms : List Am} {rest : List Expr} {xs : List Ex}, splitA c X.env.scope mp j es = some (ms, rest) → optAll (r X.env.scope .bor) rest = some xs → MixOk X cl noX ms es xs ∧ msOk mp j ms = true
  | [], j, ms, rest, xs, h, ho => by
    unfold splitA at h; cases h
    unfold optAll at ho; cases ho
    exact ⟨.nil, by unfold msOk; rfl⟩
  | e :: es, j, ms, rest, xs, h, ho => by
    unfold splitA at h
    cases e1 : splitA c X.env.scope mp (j + 1) es with
    | none => rw [e1] at h; cases h
    | some q =>
      obtain ⟨ms', rest'⟩ := q
      rw [e1] at h
      simp only [Option.bind] at h
      have two : ∀ {y : Expr} {ys : List Expr} {xs : List Ex}, optAll (r X.env.scope .bor) (y :: ys) = some xs → ∃ x xs', xs = x :: xs' ∧ PE X y (tVl X.K cl noX x) ∧ optAll (r X.env.scope .bor) ys = some xs' := fun {y ys xs} ho => by
        unfold optAll at ho
        cases e2 : r X.env.scope .bor y with
        | none => rw [e2] at ho; cases ho
        | some x =>
          rw [e2] at ho
          simp only [Option.bind] at ho
          cases e3 : optAll (r X.env.scope .bor) ys with
          | none => rw [e3] at ho; cases ho
          | some xs' => rw [e3] at ho; cases ho; exact ⟨x, xs', rfl, ih_bor ih G e2, rfl⟩
      by_cases hm : mp.contains j = true
      · rw [if_pos hm] at h
        cases es1 : trSlot c X.env.scope e with
        | some i =>
          rw [es1] at h
          cases h
          obtain ⟨k1, k2⟩ := split_ok ih G e1 ho
          exact ⟨.ln (slot_name G es1) k1, by unfold msOk; rw [hm, k2]; rfl⟩
        | none =>
          rw [es1] at h
          cases h
          obtain ⟨x, xs', e2, p, ho'⟩ := two ho
          subst e2
          obtain ⟨k1, k2⟩ := split_ok ih G e1 ho'
          exact ⟨.tm p k1, by unfold msOk; rw [hm, k2]; rfl⟩
      · rw [if_neg hm] at h
        cases h
        obtain ⟨x, xs', e2, p, ho'⟩ := two ho
        subst e2
        obtain ⟨k1, k2⟩ := split_ok ih G e1 ho'
        exact ⟨.pl p k1, by unfold msOk; rw [k2]; simpa using hm⟩

/-! ### calls by name -/
theorem isSet1_of {sc : Scope} {es : List Expr} {e : Expr} (h : isSet1 sc es = some e) : ∃ p pos, es = [.Call (.Name "set" p) [e] [] pos] ∧ glB sc "set" = true ∧ isStar e = false := by
  unfold isSet1 at h
  split at h
  · split at h
    · rename_i hc
      obtain ⟨h1, h2, h3⟩ := hc
      subst h2
      cases h
      exact ⟨_, _, rfl, h1, h3⟩
    · cases h
  · cases h
theorem star1 {e : Expr} {env : Env} (h : isStar e = false) : starEach [e] env = (false, eval e env) :: starEach [] env := starEach_cons h
theorem e_isi (G : Good c cl k X) (ih : Ih c cl k r) {es : List Expr} {ex : Ex} {p pos : Pos} (hg : Gl X "isinstance") (h : trIsi r X.env.scope es = some ex) (hs : notStars es = true) : PE X (.Call (.Name "isinstance" p) es [] pos) (tEv X.K cl noX ex) ∧ vForm ex = true := by
  unfold trIsi at h
  split at h
  · rename_i a t
    cases e1 : trTy X.env.scope t with
    | none => rw [e1] at h; cases h
    | some ty =>
      rw [e1] at h
      simp only [Option.bind] at h
      cases e2 : r X.env.scope .bor a with
      | none => rw [e2] at h; cases h
      | some y =>
        rw [e2] at h
        cases h
        refine ⟨?_, rfl⟩
        -- the type's name
        have ht : PE X t (tC (.ty (tyN ty))) := by
          unfold trTy at e1
          split at e1
          · split at e1
            · rename_i x tp hgl
              have hgl := gl_of hgl
              repeat' (split at e1)
              all_goals first
                | (cases e1; done)
                | (rename_i ex; subst ex; cases e1
                   exact pe_bltn hgl (G.blt _ (by decide)) (u := .type _) (by decide +kernel) rfl (by decide) (by decide))
                | (rename_i ex1 ex; subst ex; cases e1
                   exact pe_bltn hgl (G.blt _ (by decide)) (u := .type _) (by decide +kernel) rfl (by decide) (by decide))
            · cases e1
          · cases e1
        obtain ⟨s1, s2⟩ := notStars_cons hs
        refine PE.imp (pe_callB (k_isi ty) hg (G.blt _ (by decide)) (id := "isinstance") (by decide +kernel) (pa_cons (ih_bor ih G e2) (pa_cons ht pa_nil (starEach_cons (notStars_cons s2).1)) (starEach_cons s1)) (by decide) (by decide) (starEach_cons s1) (back_any s2)) fun σ H Q q => ?_
        exact tVl_mono (fun v H1 q => ⟨v, rfl, q⟩) (tArgs1 (ap_args q))
  · cases h
end
end Ev

end

-- EvTopD
section
/-! Ev: the translation of expressions is sound: built-ins, methods, comprehensions. -/
namespace Ev
open PySem PySem.Spec PyProof.Rows L2

section
variable {c : Tc} {cl : Call} {k : Nat} {X : Cx} {m : Mo} {r : TrF}
/-! ### len(set(..)), sorted(set(..)), list(range(..)), tuple(range(..)) -/
theorem e_set (G : Good c cl k X) (ih : Ih c cl k r) {a : Expr} {y : Ex} {q pos : Pos} (hg : glB X.env.scope "set" = true) (hs : isStar a = false) (ha : PE X a (tVl X.K cl noX y)) : PE X (.Call (.Name "set" q) [a] [] pos) (tCB (rSetA X) (tCons (tVl X.K cl noX y) tNil)) :=
  pe_callTy (k_setA G.calm G.hu) (gl_of hg) (G.blt _ (by decide)) (by decide +kernel) (pa_cons ha pa_nil (star1 hs)) (by decide) (by decide) (star1 hs) rfl
theorem rgV_D {K : PySem.W.Frag} {H : Hp} {S : List Addr} (a b : Int) : Reps K H S (rgV a b) (rngD a b 1) := by
  rw [rngD_one]
  unfold rgV
  induction (b - a).toNat with
  | zero => exact .nil
  | succ n ih =>
    rw [List.range_succ, List.map_append, List.map_append]
    exact ih.app (.one (.int _))
theorem rng_ok {a b : Int} (h1 : smallI a = true) (h2 : smallI b = true) (h3 : line (rngD a b 1).length = true) : RgOk a b := by
  obtain ⟨a1, a2⟩ := smallI_of h1
  obtain ⟨b1, b2⟩ := smallI_of h2
  have := line_le h3
  rw [rngD_one, List.length_map, List.length_range, sizeLine_eq] at this
  exact ⟨by omega, by omega, by omega, by omega, by omega⟩
theorem small0 : smallI 0 = true := by decide
/-- what list(range(a, b)), tuple(range(a, b)) ask -/
theorem lr_res {K : PySem.W.Frag} {p : List D → Option (D × Bool)} {vs : List V} {H : Hp} {Q : VK} (hp : p = prLstIt .rng ∨ p = prTupIt .rng) (h : rPr K p vs H Q) :
    (∃ n : Int, vs = [.int n] ∧ RgOk 0 n ∧ (p = prLstIt .rng → ∀ q, H q = none → Q (.ref q) (upd H q (.lst (rgV 0 n)))) ∧ (p = prTupIt .rng → ∀ q, H q = none → Q (.ref q) (upd H q (.tup (rgV 0 n))))) ∨
    (∃ a b : Int, vs = [.int a, .int b] ∧ RgOk a b ∧ (p = prLstIt .rng → ∀ q, H q = none → Q (.ref q) (upd H q (.lst (rgV a b)))) ∧ (p = prTupIt .rng → ∀ q, H q = none → Q (.ref q) (upd H q (.tup (rgV a b))))) ∨ ∃ x y z, vs = [x, y, z] := by
  obtain ⟨S, ds, d, f, hS, ha, hpr, q⟩ := h
  have key : ∀ {a b : Int}, smallI a = true → smallI b = true → itD .rng ds = some (rngD a b 1) → RgOk a b ∧ (p = prLstIt .rng → ∀ q, H q = none → Q (.ref q) (upd H q (.lst (rgV a b)))) ∧ (p = prTupIt .rng → ∀ q, H q = none → Q (.ref q) (upd H q (.tup (rgV a b)))) := fun {a b} s1 s2 e => by
    have hl : line (rngD a b 1).length = true := by
      rcases hp with hp | hp <;> subst hp
      · have hpr : ((itD .rng ds).bind fun xs => if line xs.length = true then some ((.list xs : D), true) else none) = some (d, f) := hpr
        rw [e] at hpr
        by_cases hl : line (rngD a b 1).length = true
        · exact hl
        · simp only [Option.bind, if_neg hl] at hpr; cases hpr
      · have hpr : ((itD .rng ds).bind fun xs => if line xs.length = true then some ((.tuple xs : D), false) else none) = some (d, f) := hpr
        rw [e] at hpr
        by_cases hl : line (rngD a b 1).length = true
        · exact hl
        · simp only [Option.bind, if_neg hl] at hpr; cases hpr
    have hlen : (rgV a b).length ≤ sizeLine := by rw [(rgV_D (K := K) (H := H) (S := S) a b).len]; exact line_le hl
    refine ⟨rng_ok s1 s2 hl, fun ep q' hq => ?_, fun ep q' hq => ?_⟩
    · subst ep
      have hpr : ((itD .rng ds).bind fun xs => if line xs.length = true then some ((.list xs : D), true) else none) = some (d, f) := hpr
      rw [e] at hpr
      simp only [Option.bind, if_pos hl] at hpr
      cases hpr
      exact q _ _ (KeepA.upd hq) (res_lst hS hq hlen (rgV_D a b))
    · subst ep
      have hpr : ((itD .rng ds).bind fun xs => if line xs.length = true then some ((.tuple xs : D), false) else none) = some (d, f) := hpr
      rw [e] at hpr
      simp only [Option.bind, if_pos hl] at hpr
      cases hpr
      exact q _ _ (KeepA.upd hq) (rep_tup hS hq hlen (rgV_D a b))
  have hit : ∃ xs, itD .rng ds = some xs := by
    cases e : itD .rng ds with
    | some xs => exact ⟨xs, rfl⟩
    | none =>
      rcases hp with hp | hp <;> subst hp
      · have hpr : ((itD .rng ds).bind fun xs => if line xs.length = true then some ((.list xs : D), true) else none) = some (d, f) := hpr
        rw [e] at hpr; cases hpr
      · have hpr : ((itD .rng ds).bind fun xs => if line xs.length = true then some ((.tuple xs : D), false) else none) = some (d, f) := hpr
        rw [e] at hpr; cases hpr
  obtain ⟨xs, e⟩ := hit
  cases ha with
  | nil => unfold itD at e; cases e
  | cons a1 ha =>
  cases ha with
  | nil =>
    left
    rename_i d1
    cases d1 with
    | int n =>
      have e' : (if smallI n = true then some (rngD 0 n 1) else none) = some xs := e
      by_cases hs : smallI n = true
      · rw [if_pos hs] at e'
        cases e'
        exact ⟨n, by rw [a1.int], key small0 hs e⟩
      · rw [if_neg hs] at e'; cases e'
    | _ => cases e
  | cons a2 ha =>
  cases ha with
  | nil =>
    right; left
    rename_i d1 _ d2
    cases d1 with
    | int a =>
      cases d2 with
      | int b =>
        have e' : (if (smallI a && smallI b) = true then some (rngD a b 1) else none) = some xs := e
        by_cases hs : (smallI a && smallI b) = true
        · rw [if_pos hs] at e'
          cases e'
          rw [Bool.and_eq_true] at hs
          exact ⟨a, b, by rw [a1.int, a2.int], key hs.1 hs.2 e⟩
        · rw [if_neg hs] at e'; cases e'
      | _ => cases e
    | _ => cases e
  | cons a3 ha =>
  cases ha with
  | nil => exact .inr (.inr ⟨_, _, _, rfl⟩)
  | cons a4 ha => simp [itD] at e
theorem trIt_of {x : Str} {n : Nat} {kk : ItK} (h : trIt x n = some kk) : (x = "range" ∧ kk = .rng ∧ 1 ≤ n ∧ n ≤ 3) ∨ (x = "enumerate" ∧ kk = .enu ∧ n = 1) ∨ (x = "zip" ∧ kk = .zip ∧ 2 ≤ n ∧ n ≤ 3) := by
  unfold trIt at h
  by_cases h1 : x = ("range" : Str) ∧ 1 ≤ n ∧ n ≤ 3
  · rw [if_pos h1] at h; cases h; exact .inl ⟨h1.1, rfl, h1.2⟩
  rw [if_neg h1] at h
  by_cases h2 : x = ("enumerate" : Str) ∧ n = 1
  · rw [if_pos h2] at h; cases h; exact .inr (.inl ⟨h2.1, rfl, h2.2⟩)
  rw [if_neg h2] at h
  by_cases h3 : x = ("zip" : Str) ∧ 2 ≤ n ∧ n ≤ 3
  · rw [if_pos h3] at h; cases h; exact .inr (.inr ⟨h3.1, rfl, h3.2⟩)
  rw [if_neg h3] at h; cases h
theorem isIter1_of {sc : Scope} {es as : List Expr} {kk : ItK} (h : isIter1 sc es = some (kk, as)) : ∃ x p pos, es = [.Call (.Name x p) as [] pos] ∧ glB sc x = true ∧ trIt x as.length = some kk := by
  unfold isIter1 at h
  split at h
  · rename_i x p es' pos
    by_cases hg : glB sc x = true
    · rw [if_pos hg] at h
      cases e : trIt x es'.length with
      | none => rw [e] at h; cases h
      | some k' => rw [e] at h; cases h; exact ⟨x, p, pos, rfl, hg, e⟩
    · rw [if_neg hg] at h; cases h
  · cases h
/-- list(range(..)), tuple(range(..)) -/
theorem e_rng (G : Good c cl k X) (ih : Ih c cl k r) {as : List Expr} {xs : List Ex} {q pos p' pos' : Pos} (hg : glB X.env.scope "range" = true) (hs : notStars as = true) (hl : 1 ≤ as.length ∧ as.length ≤ 2) (ha : Paired (fun e x => PE X e (tVl X.K cl noX x)) as xs) :
    (glB X.env.scope "list" = true → PE X (.Call (.Name "list" p') [.Call (.Name "range" q) as [] pos] [] pos') (tEv X.K cl noX (.ap (.lstIt .rng) xs))) ∧ (glB X.env.scope "tuple" = true → PE X (.Call (.Name "tuple" p') [.Call (.Name "range" q) as [] pos] [] pos') (tEv X.K cl noX (.ap (.tupIt .rng) xs))) := by
  have hr := G.blt "range" (by decide)
  match as, xs, ha, hs, hl with
  | [a], [x], .cons a1 .nil, hs, _ =>
    have pr := prg_1 (pos := pos) (p := q) (gl_of hg) hr a1 (starEach_cons (notStars_cons hs).1)
    refine ⟨fun hl => PE.imp (pe_listRg G.calm (gl_of hl) (G.blt _ (by decide)) pr (by rfl)) fun σ H Q q => ?_, fun hl => PE.imp (pe_tupRg G.calm (gl_of hl) (G.blt _ (by decide)) pr (by rfl)) fun σ H Q q => ?_⟩
    · refine tVl_mono (fun v H1 q => ?_) (tArgs1 (ap_args q))
      rcases lr_res (.inl rfl) q with ⟨n, e, h1, h2, _⟩ | ⟨a, b, e, _⟩ | ⟨a, b, d, e⟩
      · cases e; exact ⟨n, rfl, h1, h2 rfl⟩
      · cases e
      · cases e
    · refine tVl_mono (fun v H1 q => ?_) (tArgs1 (ap_args q))
      rcases lr_res (.inr rfl) q with ⟨n, e, h1, _, h2⟩ | ⟨a, b, e, _⟩ | ⟨a, b, d, e⟩
      · cases e; exact ⟨n, rfl, h1, h2 rfl⟩
      · cases e
      · cases e
  | [a, b], [x, y], .cons a1 (.cons a2 .nil), hs, _ =>
    have pr := prg_2 (pos := pos) (p := q) (gl_of hg) hr a1 a2 (starEach_cons (notStars_cons hs).1) (starEach_cons (notStars_cons (notStars_cons hs).2).1) (back_any (notStars_cons hs).2)
    refine ⟨fun hl => PE.imp (pe_listRg G.calm (gl_of hl) (G.blt _ (by decide)) pr (by rfl)) fun σ H Q q => ?_, fun hl => PE.imp (pe_tupRg G.calm (gl_of hl) (G.blt _ (by decide)) pr (by rfl)) fun σ H Q q => ?_⟩
    · refine tVl_mono (fun v H1 q => tVl_mono (fun w H2 q => ?_) q) (tArgs2 (ap_args q))
      rcases lr_res (.inl rfl) q with ⟨n, e, _⟩ | ⟨a, b, e, h1, h2, _⟩ | ⟨a, b, d, e⟩
      · cases e
      · cases e; exact ⟨a, b, rfl, rfl, h1, h2 rfl⟩
      · cases e
    · refine tVl_mono (fun v H1 q => tVl_mono (fun w H2 q => ?_) q) (tArgs2 (ap_args q))
      rcases lr_res (.inr rfl) q with ⟨n, e, _⟩ | ⟨a, b, e, h1, _, h2⟩ | ⟨a, b, d, e⟩
      · cases e
      · cases e; exact ⟨a, b, rfl, rfl, h1, h2 rfl⟩
      · cases e
  | [], _, _, _, hl => simp at hl
  | _ :: _ :: _ :: _, _, _, _, hl => simp at hl
theorem e_built (G : Good c cl k X) (ih : Ih c cl k r) {x : Str} {es : List Expr} {ex : Ex} {p pos : Pos} (hx : glB X.env.scope x = true) (h : trBuilt r X.env.scope x es = some ex) (hs : notStars es = true) : PE X (.Call (.Name x p) es [] pos) (tEv X.K cl noX ex) ∧ vForm ex = true := by
  unfold trBuilt at h
  cases e1 : isSet1 X.env.scope es with
  | some a =>
    rw [e1] at h
    simp only at h
    obtain ⟨q, pos2, ee, hg, hst⟩ := isSet1_of e1
    subst ee
    obtain ⟨s1, s2⟩ := notStars_cons hs
    by_cases h1 : x = ("len" : Str)
    · rw [if_pos h1] at h
      subst h1
      cases e2 : r X.env.scope .bor a with
      | none => rw [e2] at h; cases h
      | some y =>
        rw [e2] at h
        cases h
        refine ⟨PE.imp (pe_callB k_lenSetO (gl_of hx) (G.blt _ (by decide)) (id := "len") (by decide +kernel) (pa_cons (e_set G ih hg hst (ih_bor ih G e2)) pa_nil (star1 s1)) (by decide) (by decide) (star1 s1) rfl) fun σ H Q q => ?_, rfl⟩
        exact tVl_mono (fun v H1 q => lenSetA_to q) (tArgs1 (ap_args q))
    · rw [if_neg h1] at h
      by_cases h2 : x = ("sorted" : Str)
      · rw [if_pos h2] at h
        subst h2
        cases e2 : r X.env.scope .bor a with
        | none => rw [e2] at h; cases h
        | some y =>
          rw [e2] at h
          cases h
          refine ⟨PE.imp (pe_callB (k_sortSetA G.calm) (gl_of hx) (G.blt _ (by decide)) (id := "sorted") (by decide +kernel) (pa_cons (e_set G ih hg hst (ih_bor ih G e2)) pa_nil (star1 s1)) (by decide) (by decide) (star1 s1) rfl) fun σ H Q q => ?_, rfl⟩
          exact tVl_mono (fun v H1 q => sortSetA_to q) (tArgs1 (ap_args q))
      · rw [if_neg h2] at h; cases h
  | none =>
    rw [e1] at h
    simp only at h
    cases e2 : isIter1 X.env.scope es with
    | some ka =>
      obtain ⟨kk, as⟩ := ka
      rw [e2] at h
      simp only at h
      obtain ⟨x2, q, pos2, ee, hg, ht⟩ := isIter1_of e2
      subst ee
      by_cases hc : (notStars as && decide (kk = .rng) && decide (as.length ≤ 2)) = true
      · rw [if_pos hc] at h
        simp only [Bool.and_eq_true, decide_eq_true_eq] at hc
        obtain ⟨⟨c1, c2⟩, c3⟩ := hc
        subst c2
        rcases trIt_of ht with ⟨t1, _, t2⟩ | ⟨_, t1, _⟩ | ⟨_, t1, _⟩
        · subst t1
          by_cases h1 : x = ("list" : Str)
          · rw [if_pos h1] at h
            subst h1
            cases e3 : optAll (r X.env.scope .bor) as with
            | none => rw [e3] at h; cases h
            | some xs => rw [e3] at h; cases h; exact ⟨(e_rng G ih hg c1 ⟨t2.1, c3⟩ (ihs_bor ih G e3)).1 hx, rfl⟩
          · rw [if_neg h1] at h
            by_cases h2 : x = ("tuple" : Str)
            · rw [if_pos h2] at h
              subst h2
              cases e3 : optAll (r X.env.scope .bor) as with
              | none => rw [e3] at h; cases h
              | some xs => rw [e3] at h; cases h; exact ⟨(e_rng G ih hg c1 ⟨t2.1, c3⟩ (ihs_bor ih G e3)).2 hx, rfl⟩
            · rw [if_neg h2] at h; cases h
        · cases t1
        · cases t1
      · rw [if_neg hc] at h; cases h
    | none =>
      rw [e2] at h
      simp only at h
      cases e3 : trBi x es.length with
      | none => rw [e3] at h; cases h
      | some pp =>
        rw [e3] at h
        simp only [Option.bind] at h
        cases e4 : optAll (r X.env.scope .bor) es with
        | none => rw [e4] at h; cases h
        | some xs =>
          rw [e4] at h
          cases h
          exact ⟨e_bi G (bi_ok G e3) (trBi_args e3) (gl_of hx) hs (pa_go hs (ihs_bor ih G e4)), rfl⟩
/-- a call by name -/
theorem e_callN (G : Good c cl k X) (ih : Ih c cl k r) {x : Str} {es : List Expr} {ex : Ex} {p pos : Pos} (h : trCallN c r X.env.scope x es = some ex) : PE X (.Call (.Name x p) es [] pos) (tEv X.K cl noX ex) ∧ vForm ex = true := by
  unfold trCallN at h
  by_cases hc : (oddB x || !glB X.env.scope x || !notStars es) = true
  · rw [if_pos hc] at h; cases h
  rw [if_neg hc] at h
  simp only [Bool.or_eq_true, Bool.not_eq_true', not_or, Bool.not_eq_false, Bool.not_eq_true] at hc
  obtain ⟨⟨c1, c2⟩, c3⟩ := hc
  cases e1 : c.fn.lookup x with
  | some q =>
    obtain ⟨f, np, mp⟩ := q
    rw [e1] at h
    simp only at h
    by_cases hl : es.length = np
    · rw [if_pos hl] at h
      cases e2 : splitA c X.env.scope mp 0 es with
      | none => rw [e2] at h; cases h
      | some mr =>
        obtain ⟨ms, rest⟩ := mr
        rw [e2] at h
        simp only [Option.bind] at h
        cases e3 : optAll (r X.env.scope .bor) rest with
        | none => rw [e3] at h; cases h
        | some xs =>
          rw [e3] at h
          cases h
          obtain ⟨fa, fd, ps, k1, k2, k3, k4⟩ := G.fns x f np mp e1
          obtain ⟨m1, m2⟩ := split_ok ih G e2 e3
          exact ⟨pe_clG k2 G.gd G.room (gl_of c2) k1 k3 k4 (odd_of c1).1 c3 m2 m1, rfl⟩
    · rw [if_neg hl] at h; cases h
  | none =>
    rw [e1] at h
    simp only at h
    by_cases hi : x = ("isinstance" : Str)
    · rw [if_pos hi] at h
      subst hi
      exact e_isi G ih (gl_of c2) h c3
    · rw [if_neg hi] at h
      exact e_built G ih c2 h c3

/-! ### methods -/
theorem trMt_of {x : Str} {n : Nat} {p : Pr} (h : trMt x n = some p) : (x = "count" ∧ n = 1 ∧ p = .count) ∨ (x = "index" ∧ n = 1 ∧ p = .index) ∨ (x = "get" ∧ n = 1 ∧ p = .get1) ∨ (x = "get" ∧ n = 2 ∧ p = .get2) ∨ (x = "join" ∧ n = 1 ∧ p = .join) := by
  have A : ∀ {x' : Str} {n' : Nat} {p' : Pr} {r : Option Pr}, (if x = x' ∧ n = n' then some p' else r) = some p → (x = x' ∧ n = n' ∧ p = p') ∨ r = some p := fun {x' n' p' r} h => by
    by_cases e : x = x' ∧ n = n'
    · rw [if_pos e] at h; cases h; exact .inl ⟨e.1, e.2, rfl⟩
    · rw [if_neg e] at h; exact .inr h
  unfold trMt at h
  rcases A h with h | h
  · exact .inl h
  rcases A h with h | h
  · exact .inr (.inl h)
  rcases A h with h | h
  · exact .inr (.inr (.inl h))
  rcases A h with h | h
  · exact .inr (.inr (.inr (.inl h)))
  rcases A h with h | h
  · exact .inr (.inr (.inr (.inr h)))
  cases h
theorem trMu_of {x : Str} {n : Nat} {p : Mu} (h : trMu x n = some p) : (x = "append" ∧ n = 1 ∧ p = .append) ∨ (x = "extend" ∧ n = 1 ∧ p = .extend) ∨ (x = "pop" ∧ n = 0 ∧ p = .pop0) ∨ (x = "pop" ∧ n = 1 ∧ p = .pop1) ∨ (x = "update" ∧ n = 1 ∧ p = .update) ∨ (x = "remove" ∧ n = 1 ∧ p = .remove) := by
  have A : ∀ {x' : Str} {n' : Nat} {p' : Mu} {r : Option Mu}, (if x = x' ∧ n = n' then some p' else r) = some p → (x = x' ∧ n = n' ∧ p = p') ∨ r = some p := fun {x' n' p' r} h => by
    by_cases e : x = x' ∧ n = n'
    · rw [if_pos e] at h; cases h; exact .inl ⟨e.1, e.2, rfl⟩
    · rw [if_neg e] at h; exact .inr h
  unfold trMu at h
  rcases A h with h | h
  · exact .inl h
  rcases A h with h | h
  · exact .inr (.inl h)
  rcases A h with h | h
  · exact .inr (.inr (.inl h))
  rcases A h with h | h
  · exact .inr (.inr (.inr (.inl h)))
  rcases A h with h | h
  · exact .inr (.inr (.inr (.inr (.inl h))))
  rcases A h with h | h
  · exact .inr (.inr (.inr (.inr (.inr h))))
  cases h
theorem tag4 {d : D} (h : 4 = tag d) : ofTag d = "list" ∧ (tag d = 3 ∨ tag d = 4 ∨ tag d = 6) := by cases d <;> simp_all [tag, ofTag]
theorem tag6 {d : D} (h : 6 = tag d) : ofTag d = "dict" ∧ (tag d = 3 ∨ tag d = 4 ∨ tag d = 6) := by cases d <;> simp_all [tag, ofTag]
theorem tag3 {d : D} (h : 3 = tag d) : ofTag d = "str" ∧ (tag d = 3 ∨ tag d = 4 ∨ tag d = 6) := by cases d <;> simp_all [tag, ofTag]
/-- whose method it is -/
def Sel (X : Cx) (p : Pr) (name : Str) : Prop := ∀ d, mtOk p d = true → ∃ T id pq, PlainAttrs T ∧ Slot T name id ∧ typeOf (.builtin id) = pure (.type "method_descriptor") ∧ CallR X (.builtin id) (rPr X.K pq) ∧ ofTag d = T ∧ (tag d = 3 ∨ tag d = 4 ∨ tag d = 6) ∧ ∀ d2 ds, tag d = tag d2 → pr p (d2 :: ds) = pq (d2 :: ds)
theorem sel_join : Sel X .join "join" := fun d h => by
  cases d <;> first | (cases h; done) | exact ⟨_, _, prJoin, PySem.F.plainAttrs_str, PySem.F.slot_str_join, PySem.F.type_str_join, k_join, rfl, by simp [tag], fun _ _ _ => rfl⟩
theorem sel_get1 (hu : X.A.units + 100 < cLine) : Sel X .get1 "get" := fun d h => by
  cases d <;> first | (cases h; done) | exact ⟨_, _, prGet1, PySem.F.plainAttrs_dict, PySem.F.slot_dict_get, PySem.F.type_dict_get, k_get1 hu, rfl, by simp [tag], fun _ _ _ => rfl⟩
theorem sel_get2 (hu : X.A.units + 100 < cLine) : Sel X .get2 "get" := fun d h => by
  cases d <;> first | (cases h; done) | exact ⟨_, _, prGet2, PySem.F.plainAttrs_dict, PySem.F.slot_dict_get, PySem.F.type_dict_get, k_get2 hu, rfl, by simp [tag], fun _ _ _ => rfl⟩
theorem sel_index (hu : X.A.units + 100 < cLine) : Sel X .index "index" := fun d h => by
  cases d <;> first | (cases h; done) | exact ⟨_, _, prIndex, PySem.F.plainAttrs_list, PySem.F.slot_list_index, PySem.F.type_list_index, k_index hu, rfl, by simp [tag], fun _ _ _ => rfl⟩
theorem sel_count (hu : X.A.units + 100 < cLine) : Sel X .count "count" := fun d h => by
  cases d with
  | list xs => exact ⟨_, _, prCountL, PySem.F.plainAttrs_list, PySem.F.slot_list_count, PySem.F.type_list_count, k_count hu, rfl, by simp [tag], fun d2 _ e => by cases d2 <;> first | rfl | cases e⟩
  | str x => exact ⟨_, _, prCountS, PySem.F.plainAttrs_str, PySem.F.slot_str_count, PySem.F.type_str_count, k_countS, rfl, by simp [tag], fun d2 _ e => by cases d2 <;> first | rfl | cases e⟩
  | _ => cases h
theorem e_callM (G : Good c cl k X) (ih : Ih c cl k r) {v : Expr} {a : Str} {es : List Expr} {ex : Ex} {apos pos : Pos} (h : trCallM c r X.env.scope v a es (apos.endLine == pos.line) = some ex) : PE X (.Call (.Attribute v a apos) es [] pos) (tEv X.K cl noX ex) ∧ vForm ex = true := by
  have hu := G.hu
  unfold trCallM at h
  by_cases hc : (!notStars es || !okBase v || !(apos.endLine == pos.line)) = true
  · rw [if_pos hc] at h; cases h
  rw [if_neg hc] at h
  simp only [Bool.or_eq_true, Bool.not_eq_true', not_or, Bool.not_eq_false] at hc
  obtain ⟨⟨c1, c2⟩, c3⟩ := hc
  cases e1 : trMu a es.length with
  | some mt =>
    rw [e1] at h
    simp only at h
    cases e2 : trSlot c X.env.scope v with
    | none => rw [e2] at h; cases h
    | some i =>
      rw [e2] at h
      simp only [Option.bind] at h
      cases e3 : optAll (r X.env.scope .val) es with
      | none => rw [e3] at h; cases h
      | some xs =>
        rw [e3] at h
        cases h
        refine ⟨?_, rfl⟩
        have ho := slot_name G e2
        have ps := ihs_val ih G e3
        rcases trMu_of e1 with ⟨n1, n2, n3⟩ | ⟨n1, n2, n3⟩ | ⟨n1, n2, n3⟩ | ⟨n1, n2, n3⟩ | ⟨n1, n2, n3⟩ | ⟨n1, n2, n3⟩
        · subst n1; subst n3
          match es, n2, ps, c1 with
          | [e], _, ps, c1 => exact pe_mu PySem.F.plainAttrs_list PySem.F.slot_list_append PySem.F.type_list_append m_append (fun d h => tag4 h) ho (pa_go c1 ps) c1 (by simp) c2 c3
        · subst n1; subst n3
          match es, n2, ps, c1 with
          | [e], _, ps, c1 => exact pe_mu PySem.F.plainAttrs_list PySem.F.slot_list_extend PySem.F.type_list_extend m_extend (fun d h => tag4 h) ho (pa_go c1 ps) c1 (by simp) c2 c3
        · subst n1; subst n3
          match es, n2, ps, c1 with
          | [], _, ps, c1 =>
            cases ps
            exact pe_mu0 PySem.F.plainAttrs_list PySem.F.slot_list_pop PySem.F.type_list_pop m_pop0 (fun d h => tag4 h) ho c2 c3
        · subst n1; subst n3
          match es, n2, ps, c1 with
          | [e], _, ps, c1 => exact pe_mu PySem.F.plainAttrs_list PySem.F.slot_list_pop PySem.F.type_list_pop m_pop1 (fun d h => tag4 h) ho (pa_go c1 ps) c1 (by simp) c2 c3
        · subst n1; subst n3
          match es, n2, ps, c1 with
          | [e], _, ps, c1 => exact pe_mu PySem.F.plainAttrs_dict PySem.F.slot_dict_update PySem.F.type_dict_update m_update (fun d h => tag6 h) ho (pa_go c1 ps) c1 (by simp) c2 c3
        · subst n1; subst n3
          match es, n2, ps, c1 with
          | [e], _, ps, c1 => exact pe_mu PySem.F.plainAttrs_list PySem.F.slot_list_remove PySem.F.type_list_remove m_remove (fun d h => tag4 h) ho (pa_go c1 ps) c1 (by simp) c2 c3
  | none =>
    rw [e1] at h
    simp only at h
    cases e2 : trMt a es.length with
    | none => rw [e2] at h; cases h
    | some p =>
      rw [e2] at h
      simp only [Option.bind] at h
      cases e4 : r X.env.scope .bor v with
      | none => rw [e4] at h; cases h
      | some x =>
        rw [e4] at h
        simp only at h
        cases e3 : optAll (r X.env.scope .bor) es with
        | none => rw [e3] at h; cases h
        | some xs =>
          rw [e3] at h
          cases h
          refine ⟨?_, rfl⟩
          have ho := ih_bor ih G e4
          have ps := ihs_bor ih G e3
          rcases trMt_of e2 with ⟨n1, n2, n3⟩ | ⟨n1, n2, n3⟩ | ⟨n1, n2, n3⟩ | ⟨n1, n2, n3⟩ | ⟨n1, n2, n3⟩
          · subst n1; subst n3
            match es, n2, ps, c1 with
            | [e], _, ps, c1 => exact pe_mt (sel_count hu) ho (pa_go c1 ps) c1 (by simp) c2 c3
          · subst n1; subst n3
            match es, n2, ps, c1 with
            | [e], _, ps, c1 => exact pe_mt (sel_index hu) ho (pa_go c1 ps) c1 (by simp) c2 c3
          · subst n1; subst n3
            match es, n2, ps, c1 with
            | [e], _, ps, c1 => exact pe_mt (sel_get1 hu) ho (pa_go c1 ps) c1 (by simp) c2 c3
          · subst n1; subst n3
            match es, n2, ps, c1 with
            | [e, e'], _, ps, c1 => exact pe_mt (sel_get2 hu) ho (pa_go c1 ps) c1 (by simp) c2 c3
          · subst n1; subst n3
            match es, n2, ps, c1 with
            | [e], _, ps, c1 => exact pe_mt sel_join ho (pa_go c1 ps) c1 (by simp) c2 c3
end
end Ev

end

-- EvTopE
section
/-! Ev: the translation of expressions is sound: comprehensions, the whole. -/
namespace Ev
open PySem PySem.Spec PyProof.Rows L2

section
variable {c : Tc} {cl : Call} {k : Nat} {X : Cx} {m : Mo} {r : TrF}
/-! ### what is walked -/
theorem isTupE_of {e : Expr} (h : isTupE e = true) : ∃ es kk pos, e = .Tuple es kk pos := by
  cases e <;> first | exact ⟨_, _, _, rfl⟩ | cases h
theorem isSet_fold {e : Expr} {env : Env} (h : isSetDisp e = false) (x : Value) : foldedSetIterable e env x = pure x := by
  cases e <;> first | rfl | cases h
theorem w_ok (G : Good c cl k X) (ih : Ih c cl k r) {iter tg : Expr} {xs : List Ex} (hs : notStars (walked X.env.scope iter).2 = true) (hf : tgFits (walked X.env.scope iter).1 tg = true) (h : optAll (r X.env.scope .bor) (walked X.env.scope iter).2 = some xs) :
    PI X tg iter (iEv X.K cl noX (walked X.env.scope iter).1 xs) := by
  unfold walked at hs hf h ⊢
  cases e1 : isIter1 X.env.scope [iter] with
  | none =>
    rw [e1] at hs hf h
    simp only at hs hf h ⊢
    have ps := ihs_bor ih G h
    cases ps with | cons p1 p2 =>
    cases p2
    exact pi_seq p1
  | some ka =>
    obtain ⟨kk, as⟩ := ka
    rw [e1] at hs hf h
    simp only at hs hf h ⊢
    obtain ⟨x, p, pos, ee, hg, ht⟩ := isIter1_of e1
    cases ee
    have ps := ihs_bor ih G h
    have hl : as.length = xs.length := Paired.length ps
    have pa := pa_go hs ps
    have gg := gl_of hg
    rcases trIt_of ht with ⟨t1, t2, t3⟩ | ⟨t1, t2, t3⟩ | ⟨t1, t2, t3⟩
    · subst t1; subst t2
      exact pi_rng gg (G.blt _ (by decide)) hl pa hs t3
    · subst t1; subst t2
      obtain ⟨es, kk, tp, rfl⟩ := isTupE_of hf
      exact pi_enu gg (G.blt _ (by decide)) pa hs t3
    · subst t1; subst t2
      obtain ⟨es, kk, tp, rfl⟩ := isTupE_of hf
      exact pi_zip gg (G.blt _ (by decide)) hl pa hs t3

/-! ### comprehensions -/
structure LcOk (X : Cx) (cl : Call) (elt tg iter : Expr) (ifs : List Expr) (scope : Scope) (own : List (Str × Nat)) (kk : ItK) (xs : List Ex) (g : Tg) (t y : Ex) : Prop where
  hi : PI X tg iter (iEv X.K cl noX kk xs)
  ok : BlkOk X.N X.env.scope scope own
  hg : ∀ (s : Shared) (H : Hp) (C : Addr) (cl : List (Str × Addr)) (fp : List Addr), PG (X.blk s H scope (compEnvC scope cl C X.env) fp) tg (gEv X.K g)
  ht : ∀ (s : Shared) (H : Hp) (C : Addr) (cl' : List (Str × Addr)) (fp : List Addr), PTs (X.blk s H scope (compEnvC scope cl' C X.env) fp) ifs (tTs X.K cl noX t)
  he : ∀ (s : Shared) (H : Hp) (C : Addr) (cl' : List (Str × Addr)) (fp : List Addr), PE (X.blk s H scope (compEnvC scope cl' C X.env) fp) elt (tEv X.K cl noX y)
  hs : ∀ x, foldedSetIterable iter X.env x = pure x
theorem cellB_eq (scope : Scope) : cellB scope = fun x => scope.names.lookup x == some NameKind.cell := by
  funext x
  unfold cellB
  cases e : scope.names.lookup x with
  | none => rfl
  | some q => cases q <;> rfl
theorem comp_ok (G : Good c cl k X) (ih : Ih c cl k r) {elt tg iter : Expr} {ifs : List Expr} {scope : Scope} {ex : Ex} (h : trComp c r X.env.scope elt tg iter ifs scope = some ex) :
    ∃ kk xs g t y own, LcOk X cl elt tg iter ifs scope own kk xs g t y ∧ ex = .lc kk xs g t y (own.map (·.2)) := by
  unfold trComp at h
  split at h
  · rename_i hc
    simp only [Bool.and_eq_true, Bool.not_eq_true'] at hc
    obtain ⟨⟨⟨c1, c2⟩, c3⟩, c4⟩ := hc
    cases e1 : optAll (r X.env.scope .bor) (walked X.env.scope iter).2 with
    | none => rw [e1] at h; cases h
    | some xs =>
      rw [e1] at h
      simp only [Option.bind] at h
      cases e2 : trG c (relS scope X.env.scope) (cellB scope) tg with
      | none => rw [e2] at h; cases h
      | some g =>
        rw [e2] at h
        simp only at h
        cases e3 : trIfs r (relS scope X.env.scope) ifs with
        | none => rw [e3] at h; cases h
        | some t =>
          rw [e3] at h
          simp only at h
          cases e4 : r (relS scope X.env.scope) .val elt with
          | none => rw [e4] at h; cases h
          | some y =>
            rw [e4] at h
            cases h
            have sc : ∀ (cl' : List (Str × Addr)) (C : Addr), (compEnvC scope cl' C X.env).scope = relS scope X.env.scope := fun _ _ => rfl
            refine ⟨_, xs, g, t, y, _, ⟨w_ok G ih c2 c4 e1, blkOk_by (by rw [← G.N]; exact c1), fun s H C cl' fp => ?_, fun s H C cl' fp => ?_, fun s H C cl' fp => ?_, fun x => isSet_fold c3 x⟩, rfl⟩
            · refine pg_ok (X := X.blk s H scope (compEnvC scope cl' C X.env) fp) G.calm G.nd G.N ?_
              rw [cellB_eq] at e2
              exact e2
            · unfold trIfs at e3
              split at e3
              · cases e3
                refine ⟨fun pins s' σ H' Q I q => pts_nil.run pins s' σ H' Q I ?_⟩
                obtain ⟨T, ow, g, F, q⟩ := q
                simp only [ev, fin, if_true, truD] at q
                obtain ⟨b, eb, hq⟩ := q T ow H' (Step.refl F)
                cases eb
                exact hq
              · rename_i t1
                exact pts_one (ih (X.blk s H scope (compEnvC scope cl' C X.env) fp) G.blk .tst t1 t e3)
              · cases e3
            · exact (ih (X.blk s H scope (compEnvC scope cl' C X.env) fp) G.blk .val elt y e4).2
  · cases h
theorem e_lc (G : Good c cl k X) {elt tg iter : Expr} {ifs : List Expr} {scope : Scope} {own : List (Str × Nat)} {kk : ItK} {xs : List Ex} {g : Tg} {t y : Ex} {pos : Pos} (L : LcOk X cl elt tg iter ifs scope own kk xs g t y) : PE X (.ListComp elt [⟨tg, iter, ifs, 0⟩] scope pos) (tEv X.K cl noX (.lc kk xs g t y (own.map (·.2)))) := by
  have p := pe_lc (pos := pos) (own := own) G.calm G.nd L.hi L.ok L.hg L.ht L.he L.hs
  exact PE.or p (pe_lock p) fun σ H Q q => n_lc q

/-! ### the whole -/
theorem step_ok (G : Good c cl k X) (ih : Ih c cl k r) {e : Expr} {x : Ex} (h : stepE c r X.env.scope m e = some x) : Rd' X cl m e x := by
  have hu := G.hu
  unfold stepE at h
  split at h
  · -- a constant
    cases e1 : trC ‹Const› with
    | none => rw [e1] at h; cases h
    | some d => rw [e1] at h; cases h; exact e_const e1
  · exact e_name G h
  · -- a tuple
    rename_i es _ _
    by_cases hs : notStars es = true
    · rw [if_pos hs] at h
      cases e1 : optAll (r X.env.scope .val) es with
      | none => rw [e1] at h; cases h
      | some xs =>
        rw [e1] at h; cases h
        exact rd_mk rfl (PE.imp (pe_tup (pa_go hs (ihs_val ih G e1))) fun σ H Q q => c_tup q) fun _ => rfl
    · rw [if_neg hs] at h; cases h
  · -- a list
    rename_i es _
    by_cases hs : notStars es = true
    · rw [if_pos hs] at h
      cases e1 : optAll (r X.env.scope .val) es with
      | none => rw [e1] at h; cases h
      | some xs =>
        rw [e1] at h; cases h
        exact rd_mk rfl (PE.imp (pe_lst (pa_go hs (ihs_val ih G e1))) fun σ H Q q => c_lst q) fun _ => rfl
    · rw [if_neg hs] at h; cases h
  · -- a dict
    rename_i ks vs _
    by_cases hl : decide (ks.length ≤ 15) = true
    · rw [if_pos hl] at h
      cases e1 : flat ks vs with
      | none => rw [e1] at h; cases h
      | some es =>
        rw [e1] at h
        simp only [Option.bind] at h
        cases e2 : optAll (r X.env.scope .val) es with
        | none => rw [e2] at h; cases h
        | some xs =>
          rw [e2] at h; cases h
          exact rd_mk rfl (e_dct e1 (of_decide_eq_true hl) (ihs_val ih G e2)) fun _ => rfl
    · rw [if_neg hl] at h; cases h
  · -- an operator
    rename_i a op b _
    cases e1 : trOp op with
    | none => rw [e1] at h; cases h
    | some p =>
      rw [e1] at h
      simp only [Option.bind] at h
      cases e2 : r X.env.scope .bor a with
      | none => rw [e2] at h; cases h
      | some y =>
        rw [e2] at h
        simp only at h
        cases e3 : r X.env.scope .bor b with
        | none => rw [e3] at h; cases h
        | some z => rw [e3] at h; cases h; exact rd_mk rfl (e_bin e1 (ih_bor ih G e2) (ih_bor ih G e3)) fun _ => rfl
  · -- not, -
    rename_i op a _
    cases op with
    | Not =>
      simp only at h
      cases e1 : r X.env.scope (inner m) a with
      | none => rw [e1] at h; cases h
      | some y =>
        rw [e1] at h; cases h
        have h1 := ih X G (inner m) a y e1
        cases m with
        | val => exact ⟨rfl, PE.imp (pe_not h1.2) fun σ H Q q => n_not q⟩
        | bor => exact rd_bor rfl (PE.imp (pe_not h1.2) fun σ H Q q => n_not q)
        | tst => exact PT.imp (pt_not h1) fun σ H Q q => t_not q
    | USub =>
      simp only at h
      cases e1 : r X.env.scope .bor a with
      | none => rw [e1] at h; cases h
      | some y => rw [e1] at h; cases h; exact rd_mk rfl (e_neg (ih_bor ih G e1)) fun _ => rfl
    | _ => cases h
  · -- and, or
    rename_i op es pos
    cases e1 : optAll (r X.env.scope (inner m)) es with
    | none => rw [e1] at h; cases h
    | some xs =>
      rw [e1] at h
      have h : foldB op xs = some x := h
      obtain ⟨k1, k2⟩ := e_bool (m := m) (pos := pos) op ih G e1 h
      cases m with
      | val => exact k1 (by decide)
      | bor => exact rd_bor (k1 (by decide)).1 (k1 (by decide)).2
      | tst => exact (k2 rfl).pt
  · -- if
    rename_i t a b _
    cases e1 : r X.env.scope .tst t with
    | none => rw [e1] at h; cases h
    | some y =>
      rw [e1] at h
      simp only [Option.bind] at h
      cases e2 : r X.env.scope (inner m) a with
      | none => rw [e2] at h; cases h
      | some z =>
        rw [e2] at h
        simp only at h
        cases e3 : r X.env.scope (inner m) b with
        | none => rw [e3] at h; cases h
        | some w =>
          rw [e3] at h; cases h
          have h1 := ih X G .tst t y e1
          have h2 := ih X G (inner m) a z e2
          have h3 := ih X G (inner m) b w e3
          cases m with
          | val => exact ⟨rfl, PE.imp (pe_ifExp h1 h2.2 h3.2) fun σ H Q q => n_ite q⟩
          | bor => exact rd_bor rfl (PE.imp (pe_ifExp h1 h2.2 h3.2) fun σ H Q q => n_ite q)
          | tst => exact PT.imp (pt_ifExp h1 h2 h3) fun σ H Q q => t_ite q
  · -- a comparison
    rename_i l ops rs pos
    unfold trCompare at h
    split at h
    · rename_i op a
      by_cases o1 : op = .Is
      · rw [if_pos o1] at h
        subst o1
        cases a with
        | Constant cst kk p0 =>
          unfold constOf at h
          simp only [Option.bind] at h
          cases e1 : r X.env.scope .bor l with
          | none => cases cst <;> (unfold trIs at h; rw [e1] at h; cases h) <;> (unfold trIs at h; cases h)
          | some y =>
            have hb := ih_bor ih G e1
            refine e_is (neg := false) hb ?_
            cases cst <;> unfold trIs at h <;> first | (rw [e1] at h; exact h) | exact h
        | _ => cases h
      rw [if_neg o1] at h
      by_cases o2 : op = .IsNot
      · rw [if_pos o2] at h
        subst o2
        cases a with
        | Constant cst kk p0 =>
          unfold constOf at h
          simp only [Option.bind] at h
          cases e1 : r X.env.scope .bor l with
          | none => cases cst <;> (unfold trIs at h; rw [e1] at h; cases h) <;> (unfold trIs at h; cases h)
          | some y =>
            have hb := ih_bor ih G e1
            refine e_is (neg := true) hb ?_
            cases cst <;> unfold trIs at h <;> first | (rw [e1] at h; exact h) | exact h
        | _ => cases h
      rw [if_neg o2] at h
      unfold trCmp1 at h
      by_cases hs : isSetDisp a = true
      · rw [if_pos hs] at h; cases h
      rw [if_neg hs] at h
      have hs : isSetDisp a = false := by simpa using hs
      cases e1 : trCmp op with
      | none => rw [e1] at h; cases h
      | some p =>
        rw [e1] at h
        simp only [Option.bind] at h
        cases e2 : r X.env.scope .bor l with
        | none => rw [e2] at h; cases h
        | some y =>
          rw [e2] at h
          simp only at h
          cases e3 : r X.env.scope .bor a with
          | none => rw [e3] at h; cases h
          | some z => rw [e3] at h; cases h; exact e_cmp hu e1 (ih_bor ih G e2) (ih_bor ih G e3) hs
    · rename_i o1 o2 a b
      by_cases hs : (isSetDisp a || isSetDisp b) = true
      · rw [if_pos hs] at h; cases h
      rw [if_neg hs] at h
      simp only [Bool.or_eq_true, not_or, Bool.not_eq_true] at hs
      cases e1 : trCmp o1 with
      | none => rw [e1] at h; cases h
      | some p1 =>
        rw [e1] at h
        simp only [Option.bind] at h
        cases e2 : trCmp o2 with
        | none => rw [e2] at h; cases h
        | some p2 =>
          rw [e2] at h
          simp only at h
          cases e3 : r X.env.scope .bor l with
          | none => rw [e3] at h; cases h
          | some y =>
            rw [e3] at h
            simp only at h
            cases e4 : r X.env.scope .bor a with
            | none => rw [e4] at h; cases h
            | some z =>
              rw [e4] at h
              simp only at h
              cases e5 : r X.env.scope .bor b with
              | none => rw [e5] at h; cases h
              | some w => rw [e5] at h; cases h; exact e_chn hu e1 e2 (ih_bor ih G e3) (ih_bor ih G e4) (ih_bor ih G e5) hs.1 hs.2
    · rename_i o1 o2 o3 a b d
      by_cases hs : (isSetDisp a || isSetDisp b || isSetDisp d) = true
      · rw [if_pos hs] at h; cases h
      rw [if_neg hs] at h
      simp only [Bool.or_eq_true, not_or, Bool.not_eq_true] at hs
      cases e1 : trCmp o1 with
      | none => rw [e1] at h; cases h
      | some p1 =>
        rw [e1] at h
        simp only [Option.bind] at h
        cases e2 : trCmp o2 with
        | none => rw [e2] at h; cases h
        | some p2 =>
          rw [e2] at h
          simp only at h
          cases e2' : trCmp o3 with
          | none => rw [e2'] at h; cases h
          | some p3 =>
          rw [e2'] at h
          simp only at h
          cases e3 : r X.env.scope .bor l with
          | none => rw [e3] at h; cases h
          | some y =>
            rw [e3] at h
            simp only at h
            cases e4 : r X.env.scope .bor a with
            | none => rw [e4] at h; cases h
            | some z =>
              rw [e4] at h
              simp only at h
              cases e5 : r X.env.scope .bor b with
              | none => rw [e5] at h; cases h
              | some w =>
                rw [e5] at h
                simp only at h
                cases e6 : r X.env.scope .bor d with
                | none => rw [e6] at h; cases h
                | some w2 => rw [e6] at h; cases h; exact e_chn3 hu e1 e2 e2' (ih_bor ih G e3) (ih_bor ih G e4) (ih_bor ih G e5) (ih_bor ih G e6) hs.1.1 hs.1.2 hs.2
    · cases h
  · -- a subscript
    rename_i v i pos
    unfold trSub at h
    split at h
    · rename_i s _
      by_cases hm : isM1 s = true
      · rw [if_pos hm] at h
        cases e1 : r X.env.scope .bor v with
        | none => rw [e1] at h; cases h
        | some y =>
          rw [e1] at h; cases h
          unfold isM1 at hm
          split at hm
          · exact rd_mk rfl (e_rev (ih_bor ih G e1)) fun _ => rfl
          · cases hm
      · rw [if_neg hm] at h; cases h
    · rename_i lo hi _
      cases e1 : r X.env.scope .bor v with
      | none => rw [e1] at h; cases h
      | some y =>
        rw [e1] at h
        simp only [Option.bind] at h
        cases e2 : r X.env.scope .bor lo with
        | none => rw [e2] at h; cases h
        | some z =>
          rw [e2] at h
          simp only at h
          cases e3 : r X.env.scope .bor hi with
          | none => rw [e3] at h; cases h
          | some w => rw [e3] at h; cases h; exact rd_mk rfl (e_slTT (ih_bor ih G e1) (ih_bor ih G e2) (ih_bor ih G e3)) fun _ => rfl
    · rename_i lo _
      cases e1 : r X.env.scope .bor v with
      | none => rw [e1] at h; cases h
      | some y =>
        rw [e1] at h
        simp only [Option.bind] at h
        cases e2 : r X.env.scope .bor lo with
        | none => rw [e2] at h; cases h
        | some z => rw [e2] at h; cases h; exact rd_mk rfl (e_slTF (ih_bor ih G e1) (ih_bor ih G e2)) fun _ => rfl
    · rename_i hi _
      cases e1 : r X.env.scope .bor v with
      | none => rw [e1] at h; cases h
      | some y =>
        rw [e1] at h
        simp only [Option.bind] at h
        cases e2 : r X.env.scope .bor hi with
        | none => rw [e2] at h; cases h
        | some z => rw [e2] at h; cases h; exact rd_mk rfl (e_slFT (ih_bor ih G e1) (ih_bor ih G e2)) fun _ => rfl
    · cases h
    · rename_i n1 n2 n3 n4 n5
      have pl : PlainIx i := by
        cases i <;> first | exact fun _ _ => rfl | exact absurd rfl (n5 _ _ _ _)
      cases e1 : r X.env.scope .bor v with
      | none => rw [e1] at h; cases h
      | some y =>
        rw [e1] at h
        simp only [Option.bind] at h
        cases e2 : r X.env.scope .bor i with
        | none => rw [e2] at h; cases h
        | some z => rw [e2] at h; cases h; exact rd_mk rfl (e_ix hu (ih_bor ih G e1) (ih_bor ih G e2) pl) fun _ => rfl
  · -- a call
    rename_i f es pos
    unfold trCall at h
    split at h
    · obtain ⟨p, v⟩ := e_callN (pos := pos) (p := ‹Pos›) G ih h
      exact rd_mk v p fun _ => rfl
    · obtain ⟨p, v⟩ := e_callM G ih h
      exact rd_mk v p fun _ => rfl
    · cases h
  · -- a comprehension
    obtain ⟨kk, xs, g, t, y, own, L, rfl⟩ := comp_ok G ih h
    exact rd_mk rfl (e_lc G L) fun _ => rfl
  · cases h
theorem trE_ok (c : Tc) (cl : Call) (k : Nat) : ∀ n, Ih c cl k (trE c n)
  | 0 => fun X G m e x h => by unfold trE at h; cases h
  | n + 1 => fun X G m e x h => step_ok G (trE_ok c cl k n) (by unfold trE at h; exact h)
end
end Ev

end

-- EvTopF
section
/-! Ev: the translation of statements is sound. -/
namespace Ev
open PySem PySem.Spec PyProof.Rows L2

structure GoodS (c : Tc) (cl : Call) (k : Nat) (X : Cx) : Prop extends Good c cl k X where
  fnT : ∀ x, X.fn x = true
  kind : X.env.scope.kind = .function
  own : PassesOwn (model X.prog X.w) X.A X.env X.xe
section
variable {c : Tc} {cl : Call} {k : Nat} {X : Cx} {H0 : Hp}
theorem sw_plain {e : Expr} {t : Option Expr} {l : Nat} {env : Env} (h : isCompE e = false) : swapsWith e t l env = pure false := by
  cases e <;> first | rfl | cases h
theorem blk_fun (G : GoodS c cl k X) : X.env.blockKind = .function := by unfold Env.blockKind; rw [G.kind]; rfl
theorem swE (G : Good c cl k X) {n : Nat} {m : Mo} {e : Expr} {x : Ex} (h : trE c n X.env.scope m e = some x) : Rd' X cl m e x := trE_ok c cl k n X G m e x h
/-- no set or dict comprehension is translated -/
theorem trE_comp {n : Nat} {m : Mo} {sc : Scope} {e : Expr} {x : Ex} (h : trE c n sc m e = some x) (hc : isCompE e = true) : ∃ elt tg iter ifs scope pos, e = .ListComp elt [⟨tg, iter, ifs, 0⟩] scope pos ∧ ∃ n', n = n' + 1 ∧ trComp c (trE c n') sc elt tg iter ifs scope = some x := by
  cases n with
  | zero => unfold trE at h; cases h
  | succ n =>
    have h : stepE c (trE c n) sc m e = some x := h
    match e, hc with
    | .ListComp elt gs scope pos, _ =>
      unfold stepE at h
      split at h
      all_goals first
        | (rename_i e1; cases e1; done)
        | skip
      all_goals first
        | (rename_i e1; cases e1; exact ⟨_, _, _, _, _, _, rfl, n, rfl, h⟩)
        | (cases h; done)
    | .SetComp _ _ _ _, _ => cases h
    | .DictComp _ _ _ _ _, _ => cases h

/-! ### assignments -/
theorem ta_name (G : GoodS c cl k X) {x : Str} {i : Nat} {pos : Pos} (h1 : stoB X.env.scope (fun _ => true) x = true) (h2 : slotOf c.N x = some i) : PG X (.Name x pos) (gTa X.K cl (.nm i)) := by
  have hi : X.N[i]? = some x := by rw [← G.N]; exact slotOf_at h2
  exact PG.imp (pg_name G.nd hi (stoB_loc h1).1 (.inl (G.fnT x))) fun v σ H Q q => ta_nm q
theorem ta_ok (G : GoodS c cl k X) {n : Nat} {t : Expr} {ta : Ta} (h : trTa c n X.env.scope t = some ta) : PG X t (gTa X.K cl ta) ∧ isStar t = false := by
  unfold trTa at h
  split at h
  · rename_i x _
    split at h
    · rename_i hc
      rw [Bool.and_eq_true] at hc
      cases e : slotOf c.N x with
      | none => rw [e] at h; cases h
      | some i => rw [e] at h; cases h; exact ⟨ta_name G hc.1 e, rfl⟩
    · cases h
  · rename_i x p i pos
    split at h
    · cases h
    · rename_i hns
      split at h
      · rename_i hc
        rw [Bool.and_eq_true] at hc
        cases e : slotOf c.N x with
        | none => rw [e] at h; cases h
        | some s =>
          rw [e] at h
          simp only [Option.bind] at h
          cases e2 : trE c n X.env.scope .val i with
          | none => rw [e2] at h; cases h
          | some y =>
            rw [e2] at h
            cases h
            have hv := pv_name (pos := p) G.toGood hc.1 (by simpa using hc.2) e
            have hi := (swE (m := .val) (cl := cl) G.toGood e2).2
            refine ⟨PG.imp (pg_sub hv hi (st_set G.hu) (by intro v; cases i <;> first | rfl | exact absurd rfl (hns _ _ _ _))) fun v σ H Q q => ta_sub q, rfl⟩
      · cases h
  · cases h
theorem tas_ok (G : GoodS c cl k X) {n : Nat} : ∀ {ts : List Expr} {tas : List Ta}, optAll (trTa c n X.env.scope) ts = some tas → PGs X ts (gTas X.K cl tas) ∧ (assignEach ts X.env).length = tas.length ∧ (assignEach ts X.env).findIdx? (·.1) = none
  | [], tas, h => by
    unfold optAll at h; cases h
    exact ⟨PGs.imp pgs_nil fun v σ H Q q => ta_nil q, rfl, rfl⟩
  | t :: ts, tas, h => by
    unfold optAll at h
    cases e1 : trTa c n X.env.scope t with
    | none => rw [e1] at h; cases h
    | some ta =>
      rw [e1] at h
      simp only [Option.bind] at h
      cases e2 : optAll (trTa c n X.env.scope) ts with
      | none => rw [e2] at h; cases h
      | some tas' =>
        rw [e2] at h
        cases h
        obtain ⟨h1, h2⟩ := ta_ok (cl := cl) G e1
        obtain ⟨k1, k2, k3⟩ := tas_ok G e2
        refine ⟨PGs.imp (pgs_cons h1 k1 (by rw [assignEach_cons h2]; rfl)) fun v σ H Q q => ta_cons q, ?_, ?_⟩
        · rw [assignEach_cons h2, List.length_cons, k2]; rfl
        · rw [assignEach_cons h2, List.findIdx?_cons, k3]; rfl
/-- the target of a plain assignment -/
theorem ta2_ok (G : GoodS c cl k X) {n : Nat} {t : Expr} {ta : Ta} (h : trTa2 c n X.env.scope t = some ta) : PG X t (fun v σ H Q => gTas X.K cl [ta] [v] σ H Q) ∧ isStar t = false := by
  unfold trTa2 at h
  split at h
  · rename_i ts _ _
    cases e : optAll (trTa c n X.env.scope) ts with
    | none => rw [e] at h; cases h
    | some tas =>
      rw [e] at h
      cases h
      obtain ⟨k1, k2, k3⟩ := tas_ok (cl := cl) G e
      exact ⟨PG.imp (pg_tup G.calm k1 k2 k3) fun v σ H Q q => ta_tup q, rfl⟩
  · obtain ⟨h1, h2⟩ := ta_ok (cl := cl) G h
    exact ⟨PG.imp h1 fun v σ H Q q => gTa_one q, h2⟩
theorem lockE_set {t : TE} {i : Nat} {D : Ends} {σ : L2.St} {H : Hp} (h : tLockE t σ H fun x H1 => gName i x σ H1 D.nx) : tLock (tAsg t (gName i)) D σ H := h
/-- target = value -/
theorem asg_ok (G : GoodS c cl k X) {t e : Expr} {sm : Sm} {pos : Pos} (hw : swappedStores [t] e X.env = pure none) (h : trAsg c 60 X.env.scope t e = some sm) : PS X (.Assign [t] e pos) (tSt X.K cl H0 sm) := by
  unfold trAsg at h
  cases e1 : trTa2 c 60 X.env.scope t with
  | none => rw [e1] at h; cases h
  | some ta =>
    rw [e1] at h
    simp only [Option.bind] at h
    cases e2 : trE c 60 X.env.scope .val e with
    | none => rw [e2] at h; cases h
    | some x =>
      rw [e2] at h
      cases h
      obtain ⟨g1, g2⟩ := ta2_ok (cl := cl) G e1
      have he := (swE (m := .val) (cl := cl) G.toGood e2).2
      have plain : swapsWith e (some t) pos.line X.env = pure false → PS X (.Assign [t] e pos) (tSt X.K cl H0 (.asg ta x)) := fun hs =>
        PS.imp (ps_asg he g1 hs hw (by rw [assignEach_cons g2]; rfl)) fun D σ H q => s_asg q
      by_cases hc : isCompE e = true
      case neg => exact plain (sw_plain (by simpa using hc))
      obtain ⟨elt, tg, iter, ifs, scope, cpos, rfl, n', hn, hcomp⟩ := trE_comp e2 hc
      cases t with
      | Name y py =>
        -- a name's comprehension may be stored within the block
        by_cases hsw : (X.env.blockKind == .function && X.env.kindOf y == some .local && py.line == cpos.line && !(scope.names.any fun (n, k) => n == y && (k == .local || k == .cell))) = true
        case neg => exact plain (by
          have : (X.env.blockKind == .function && X.env.kindOf y == some .local && py.line == cpos.line && !(scope.names.any fun (n, k) => n == y && (k == .local || k == .cell))) = false := by
            cases hb : (X.env.blockKind == .function && X.env.kindOf y == some .local && py.line == cpos.line && !(scope.names.any fun (n, k) => n == y && (k == .local || k == .cell))) with
            | false => rfl
            | true => exact absurd hb hsw
          show (pure (X.env.blockKind == .function && X.env.kindOf y == some .local && py.line == cpos.line && !(scope.names.any fun (n, k) => n == y && (k == .local || k == .cell))) : Sem Bool) = pure false
          rw [this])
        have hst : swapsWith (.ListComp elt [⟨tg, iter, ifs, 0⟩] scope cpos) (some (.Name y py)) pos.line X.env = pure true := by
          show (pure (X.env.blockKind == .function && X.env.kindOf y == some .local && py.line == cpos.line && !(scope.names.any fun (n, k) => n == y && (k == .local || k == .cell))) : Sem Bool) = pure true
          rw [hsw]
        obtain ⟨kk, xs, g, tt, yy, own, L, rfl⟩ := comp_ok G.toGood (trE_ok c cl k n') hcomp
        have hyl : X.env.scope.names.lookup y = some .local := by
          simp only [Bool.and_eq_true] at hsw
          have := hsw.1.1.2
          cases eq : X.env.kindOf y with
          | none => rw [eq] at this; cases this
          | some q => rw [eq] at this; cases q <;> first | exact eq | cases this
        -- the name's slot
        have hnm : ∃ i, ta = .nm i ∧ X.N[i]? = some y := by
          have e1 : trTa c 60 X.env.scope (.Name y py) = some ta := e1
          unfold trTa at e1
          simp only at e1
          split at e1
          · cases es : slotOf c.N y with
            | none => rw [es] at e1; cases e1
            | some i => rw [es] at e1; cases e1; exact ⟨i, rfl, by rw [← G.N]; exact slotOf_at es⟩
          · cases e1
        obtain ⟨i, rfl, hi⟩ := hnm
        have p := ps_setLc (spos := pos) (pos := cpos) (py := py) (own := own) G.calm G.nd hi hyl hst L.hi L.ok L.hg L.ht L.he L.hs
        refine PS.or p (ps_lock p) fun D σ H q => ?_
        have q1 := s_asg q
        have q2 : tEv X.K cl noX (.lc kk xs g tt yy (own.map (·.2))) σ H fun x H1 => gName i x σ H1 D.nx := tEv_mono (fun v H1 q => ta_nm (gTa_one q)) q1
        rcases n_lc q2 with q3 | q3
        · exact .inl q3
        · exact .inr (lockE_set q3)
      | _ => exact plain rfl
theorem paired_two {α β : Type} {P : α → β → Prop} {a b : α} {ys : List β} (h : Paired P [a, b] ys) : ∃ x y, ys = [x, y] ∧ P a x ∧ P b y := by
  cases h with | cons p h => cases h with | cons q h => cases h; exact ⟨_, _, rfl, p, q⟩
/-- a plain local name on the row -/
def nmF (X : Cx) (l : Nat) : Expr → Option Str
  | .Name id pos => if X.env.kindOf id == some .local && pos.line == l then some id else none
  | _ => none
theorem nmF_of (G : GoodS c cl k X) {l : Nat} {t : Expr} {ta : Ta} {x : Str} (h : nmF X l t = some x) (ht : trTa c 60 X.env.scope t = some ta) : ∃ p i, t = .Name x p ∧ X.env.scope.names.lookup x = some .local ∧ ta = .nm i ∧ X.N[i]? = some x := by
  cases t with
  | Name y p =>
    have h : (if (X.env.kindOf y == some .local && p.line == l) = true then some y else none) = some x := h
    by_cases hc : (X.env.kindOf y == some .local && p.line == l) = true
    · rw [if_pos hc] at h
      cases h
      have hk : X.env.kindOf x = some .local := by
        rw [Bool.and_eq_true] at hc
        have := hc.1
        cases eq : X.env.kindOf x with
        | none => rw [eq] at this; cases this
        | some q => rw [eq] at this; cases q <;> first | rfl | cases this
      unfold trTa at ht
      simp only at ht
      split at ht
      · cases es : slotOf c.N x with
        | none => rw [es] at ht; cases ht
        | some i => rw [es] at ht; cases ht; exact ⟨p, i, rfl, hk, rfl, by rw [← G.N]; exact slotOf_at es⟩
      · cases ht
    · rw [if_neg hc] at h; cases h
  | _ => cases h
theorem ix_ne {N : List Str} {i j : Nat} {x y : Str} (a : N[i]? = some x) (b : N[j]? = some y) (h : x ≠ y) : i ≠ j := fun e => by subst e; rw [a] at b; cases b; exact h rfl
theorem dup2 {x y : Str} (h : [x, y].eraseDups.length = 2) : x ≠ y := fun e => by
  subst e
  simp [List.eraseDups_cons] at h
theorem dup3 {x y z : Str} (h : [x, y, z].eraseDups.length = 3) : x ≠ y ∧ x ≠ z ∧ y ≠ z := by
  refine ⟨fun e => ?_, fun e => ?_, fun e => ?_⟩
  · subst e
    by_cases hz : z = x <;> simp [List.eraseDups_cons, hz] at h
  · subst e
    by_cases hz : y = x <;> simp [List.eraseDups_cons, hz] at h
  · subst e
    by_cases hz : y = x <;> simp [List.eraseDups_cons, hz] at h
/-- several targets -/
theorem mas_ok (G : GoodS c cl k X) {ts vs : List Expr} {kt kv : Nat} {pt pv pos : Pos} {q : Option (List Str)} {tas : List Ta} {xs : List Ex} (hq : swapB X.env.scope ts vs = some q) (hs : notStars vs = true) (hl : vs.length ≤ 64) (h1 : optAll (trTa c 60 X.env.scope) ts = some tas)
    (h2 : optAll (trE c 60 X.env.scope .val) vs = some xs) : PS X (.Assign [.Tuple ts kt pt] (.Tuple vs kv pv) pos) (tSt X.K cl H0 (.mas tas xs)) := by
  have ps : Paired (fun e x => PE X e (tVl X.K cl noX x)) vs xs := ihs_val (trE_ok c cl k 60) G.toGood h2
  have pa := pa_go hs ps
  obtain ⟨k1, k2, k3⟩ := tas_ok (cl := cl) G h1
  -- which stores are exchanged
  obtain ⟨nm, hnm0⟩ : ∃ nm, nm = ts.filterMap (nmF X ((ts.head?.map (·.pos.line)).getD 0)) := ⟨_, rfl⟩
  have hq : (if (!(ts.length == 2 || ts.length == 3) || vs.length != ts.length) = true then some none else if vs.any isStar = true then some none else if (nm.length != ts.length || nm.eraseDups.length != nm.length) = true then some none
      else if vs.all (foldedForSure 8) = true then some none else if vs.all (constantsAlone 8) = true then none else some (some nm)) = some q := by subst hnm0; exact hq
  have swap : swappedStores [.Tuple ts kt pt] (.Tuple vs kv pv) X.env = pure q := by
    unfold swappedStores
    simp only [blk_fun G]
    subst hnm0
    obtain ⟨nm, hnm0⟩ : ∃ nm, nm = ts.filterMap (nmF X ((ts.head?.map (·.pos.line)).getD 0)) := ⟨_, rfl⟩
    rw [← hnm0] at hq
    suffices hh : (if (!(ts.length == 2 || ts.length == 3) || vs.length != ts.length || ScopeKind.function != ScopeKind.function) = true then pure none else if vs.any isStar = true then pure none else if (nm.length != ts.length || nm.eraseDups.length != nm.length) = true then pure none
      else if vs.all (foldedForSure 8) = true then pure none else if vs.all (constantsAlone 8) = true then (do
        unsupported "assign.tuple-of-constant-expressions:order-of-the-stores"
        pure (some nm)) else pure (some nm) : Sem (Option (List Str))) = pure q by subst hnm0; exact hh
    change (if (!(ts.length == 2 || ts.length == 3) || vs.length != ts.length || ScopeKind.function != ScopeKind.function) = true then pure none else if vs.any isStar = true then pure none else if (nm.length != ts.length || nm.eraseDups.length != nm.length) = true then pure none
      else if vs.all (foldedForSure 8) = true then pure none else if vs.all (constantsAlone 8) = true then (do
        unsupported "assign.tuple-of-constant-expressions:order-of-the-stores"
        pure (some nm)) else pure (some nm) : Sem (Option (List Str))) = pure q
    have e0 : (!(ts.length == 2 || ts.length == 3) || vs.length != ts.length || ScopeKind.function != ScopeKind.function) = (!(ts.length == 2 || ts.length == 3) || vs.length != ts.length) := by
      generalize (!(ts.length == 2 || ts.length == 3) || vs.length != ts.length) = b
      cases b <;> rfl
    rw [e0]
    generalize (!(ts.length == 2 || ts.length == 3) || vs.length != ts.length) = b1 at hq ⊢
    generalize vs.any isStar = b2 at hq ⊢
    generalize (nm.length != ts.length || nm.eraseDups.length != nm.length) = b3 at hq ⊢
    generalize vs.all (foldedForSure 8) = b4 at hq ⊢
    generalize vs.all (constantsAlone 8) = b5 at hq ⊢
    cases b1 <;> cases b2 <;> cases b3 <;> cases b4 <;> cases b5 <;> first | (cases hq; rfl) | (cases hq; done)
  have hsw : swapsWithSole [.Tuple ts kt pt] (.Tuple vs kv pv) pos.line X.env = pure false := rfl
  cases q with
  | none =>
    have p := ps_asg (pos := pos) (pe_tup (x1 := kv) (pos := pv) pa) (pg_tup (k := kt) (pos := pt) G.calm k1 k2 k3) hsw swap rfl
    refine PS.imp p fun D σ H q => s_masT (by rw [← Paired.length ps]; exact hl) q
  | some nm' =>
    -- plain local names, each once
    have hnm : (ts.length = 2 ∨ ts.length = 3) ∧ vs.length = ts.length ∧ nm.length = ts.length ∧ nm.eraseDups.length = nm.length ∧ nm' = nm := by
      by_cases b1 : (!(ts.length == 2 || ts.length == 3) || vs.length != ts.length) = true
      · rw [if_pos b1] at hq; cases hq
      rw [if_neg b1] at hq
      by_cases b2 : vs.any isStar = true
      · rw [if_pos b2] at hq; cases hq
      rw [if_neg b2] at hq
      by_cases b3 : (nm.length != ts.length || nm.eraseDups.length != nm.length) = true
      · rw [if_pos b3] at hq; cases hq
      rw [if_neg b3] at hq
      by_cases b4 : vs.all (foldedForSure 8) = true
      · rw [if_pos b4] at hq; cases hq
      rw [if_neg b4] at hq
      by_cases b5 : vs.all (constantsAlone 8) = true
      · rw [if_pos b5] at hq; cases hq
      rw [if_neg b5] at hq
      cases hq
      simp only [Bool.or_eq_true, Bool.not_eq_true', bne_iff_ne, ne_eq, not_or, Decidable.not_not, Bool.or_eq_false_iff, beq_eq_false_iff_ne] at b1 b3
      refine ⟨?_, b1.2, b3.1, b3.2, rfl⟩
      by_cases h2 : ts.length = 2
      · exact .inl h2
      · refine .inr (Decidable.not_not.mp fun h3 => b1.1 ⟨h2, h3⟩)
    obtain ⟨n1, n2, n3, n4, e4⟩ := hnm
    subst e4
    have tps := optAll_paired h1
    generalize ((ts.head?.map (·.pos.line)).getD 0) = l at hnm0
    have n3' : ∀ a ∈ ts, (nmF X l a).isSome = true := by rw [hnm0] at n3; simpa using n3
    clear n3 hq
    match ts, tps, n1, n2, n3', hnm0, swap, hsw, h1 with
    | [t1, t2], .cons q1 (.cons q2 .nil), n1, n2, n3, hnm0, swap, hsw, h1 =>
      cases a1 : nmF X l t1 with
      | none => exact absurd (n3 t1 (by simp)) (by rw [a1]; simp)
      | some x =>
      cases a2 : nmF X l t2 with
      | none => exact absurd (n3 t2 (by simp)) (by rw [a2]; simp)
      | some y =>
      have hnm0 : nm' = [x, y] := by rw [hnm0]; simp [List.filterMap_cons, a1, a2]
      subst hnm0
      obtain ⟨p1, i1, rfl, l1, rfl, x1⟩ := nmF_of G a1 q1
      obtain ⟨p2, i2, rfl, l2, rfl, x2⟩ := nmF_of G a2 q2
      match vs, n2, ps, swap, hsw, pa with
      | [v1, v2], n2, ps, swap, hsw, pa => exact PS.imp (ps_par G.calm G.nd x1 x2 (ix_ne x1 x2 (dup2 n4)) l1 l2 pa swap hsw) fun D σ H q => s_mas2 q
    | [t1, t2, t3], .cons q1 (.cons q2 (.cons q3 .nil)), n1, n2, n3, hnm0, swap, hsw, h1 =>
      cases a1 : nmF X l t1 with
      | none => exact absurd (n3 t1 (by simp)) (by rw [a1]; simp)
      | some x =>
      cases a2 : nmF X l t2 with
      | none => exact absurd (n3 t2 (by simp)) (by rw [a2]; simp)
      | some y =>
      cases a3 : nmF X l t3 with
      | none => exact absurd (n3 t3 (by simp)) (by rw [a3]; simp)
      | some z =>
      have hnm0 : nm' = [x, y, z] := by rw [hnm0]; simp [List.filterMap_cons, a1, a2, a3]
      subst hnm0
      obtain ⟨p1, i1, rfl, l1, rfl, x1⟩ := nmF_of G a1 q1
      obtain ⟨p2, i2, rfl, l2, rfl, x2⟩ := nmF_of G a2 q2
      obtain ⟨p3, i3, rfl, l3, rfl, x3⟩ := nmF_of G a3 q3
      obtain ⟨d1, d2, d3⟩ := dup3 n4
      match vs, n2, ps, swap, hsw, pa with
      | [v1, v2, v3], n2, ps, swap, hsw, pa => exact PS.imp (ps_par3 G.calm G.nd x1 x2 x3 (ix_ne x1 x2 d1) (ix_ne x1 x3 d2) (ix_ne x2 x3 d3) l1 l2 l3 pa swap hsw) fun D σ H q => s_mas3 q
    | [], _, n1, _, _, _, _, _, _ => simp at n1
    | [_], _, n1, _, _, _, _, _, _ => simp at n1
    | _ :: _ :: _ :: _ :: _, _, n1, _, _, _, _, _, _ => simp at n1
/-! ### statements -/
def IhS (c : Tc) (cl : Call) (k : Nat) (H0 : Hp) (X : Cx) (r : TrFS) : Prop := ∀ s sm, r s = some sm → PS X s (tSt X.K cl H0 sm)
theorem pss_of {r : TrFS} (ih : IhS c cl k H0 X r) : ∀ {ss : List Stmt} {sms : List Sm}, optAll r ss = some sms → PSs X ss (tSs X.K cl H0 sms)
  | [], sms, h => by
    unfold optAll at h; cases h
    exact PSs.imp pss_nil fun D σ H q => s_nil q
  | s :: ss, sms, h => by
    unfold optAll at h
    cases e1 : r s with
    | none => rw [e1] at h; cases h
    | some sm =>
      rw [e1] at h
      simp only [Option.bind] at h
      cases e2 : optAll r ss with
      | none => rw [e2] at h; cases h
      | some sms' =>
        rw [e2] at h
        cases h
        exact PSs.imp (pss_cons (ih s sm e1) (pss_of ih e2)) fun D σ H q => s_cons q
theorem assign_ok (G : GoodS c cl k X) {t e : Expr} {sm : Sm} {pos : Pos} (h : trAssign c 60 X.env.scope t e = some sm) : PS X (.Assign [t] e pos) (tSt X.K cl H0 sm) := by
  unfold trAssign at h
  split at h
  · rename_i ts vs e1 e2
    unfold tupE at e1 e2
    split at e1
    · cases e1
      split at e2
      · cases e2
        cases e3 : swapB X.env.scope ts vs with
        | none => rw [e3] at h; cases h
        | some q =>
          rw [e3] at h
          simp only [Option.bind] at h
          by_cases hs : (notStars vs && decide (vs.length ≤ 64)) = true
          · rw [if_pos hs] at h
            rw [Bool.and_eq_true, decide_eq_true_eq] at hs
            cases e4 : optAll (trTa c 60 X.env.scope) ts with
            | none => rw [e4] at h; cases h
            | some tas =>
              rw [e4] at h
              simp only at h
              cases e5 : optAll (trE c 60 X.env.scope .val) vs with
              | none => rw [e5] at h; cases h
              | some xs => rw [e5] at h; cases h; exact mas_ok G e3 hs.1 hs.2 e4 e5
          · rw [if_neg hs] at h; cases h
      · cases e2
    · cases e1
  · rename_i hn
    have hw : swappedStores [t] e X.env = pure none := by
      have tl : ∀ es p, t ≠ .List es p := fun es p e1 => by
        subst e1
        unfold trAsg trTa2 at h
        simp only [trTa] at h
        cases h
      cases t with
      | List es p => exact absurd rfl (tl es p)
      | Tuple ts kt pt =>
        cases e with
        | Tuple vs kv pv => exact absurd rfl (hn ts vs rfl)
        | _ => rfl
      | _ => rfl
    exact asg_ok G hw h
theorem stepS_ok (G : GoodS c cl k X) {r : TrFS} (ih : IhS c cl k H0 X r) {s : Stmt} {sm : Sm} (h : stepS c X.env.scope r s = some sm) : PS X s (tSt X.K cl H0 sm) := by
  unfold stepS at h
  split at h
  · rename_i e _
    by_cases hc : isCompE e = true
    · rw [if_pos hc] at h; cases h
    rw [if_neg hc] at h
    cases e1 : trE c 60 X.env.scope .val e with
    | none => rw [e1] at h; cases h
    | some x =>
      rw [e1] at h; cases h
      exact PS.imp (ps_expr (swE (m := .val) (cl := cl) G.toGood e1).2 (sw_plain (by simpa using hc))) fun D σ H q => s_ex q
  · exact assign_ok G h
  · rename_i t a b _
    cases e1 : trE c 60 X.env.scope .tst t with
    | none => rw [e1] at h; cases h
    | some x =>
      rw [e1] at h
      simp only [Option.bind] at h
      cases e2 : optAll r a with
      | none => rw [e2] at h; cases h
      | some y =>
        rw [e2] at h
        simp only at h
        cases e3 : optAll r b with
        | none => rw [e3] at h; cases h
        | some z =>
          rw [e3] at h; cases h
          exact PS.imp (ps_if (swE (m := .tst) (cl := cl) G.toGood e1) (pss_of ih e2) (pss_of ih e3)) fun D σ H q => s_if q
  · rename_i tg iter body pos
    split at h
    · rename_i hc
      simp only [Bool.and_eq_true, Bool.not_eq_true'] at hc
      obtain ⟨⟨c1, c2⟩, c3⟩ := hc
      cases e1 : optAll (trE c 60 X.env.scope .bor) (walked X.env.scope iter).2 with
      | none => rw [e1] at h; cases h
      | some xs =>
        rw [e1] at h
        simp only [Option.bind] at h
        cases e2 : trG c X.env.scope (fun _ => true) tg with
        | none => rw [e2] at h; cases h
        | some g =>
          rw [e2] at h
          simp only at h
          cases e3 : optAll r body with
          | none => rw [e3] at h; cases h
          | some b =>
            rw [e3] at h; cases h
            have hfn : X.fn = fun _ => true := funext G.fnT
            have hi := w_ok (tg := tg) G.toGood (trE_ok c cl k 60) c1 c3 e1
            have hg : PG X tg (gEv X.K g) := pg_ok G.calm G.nd G.N (by rw [hfn]; exact e2)
            have p := ps_for (pos := pos) G.own G.calm hi hg (pss_of (H0 := H0) ih e3) (fun x => isSet_fold c2 x)
            exact PS.or p (ps_lock p) fun D σ H q => s_for q
    · cases h
  · rename_i t body _
    cases e1 : trE c 60 X.env.scope .tst t with
    | none => rw [e1] at h; cases h
    | some x =>
      rw [e1] at h
      simp only [Option.bind] at h
      cases e2 : optAll r body with
      | none => rw [e2] at h; cases h
      | some y =>
        rw [e2] at h; cases h
        exact PS.imp (ps_while G.own (swE (m := .tst) (cl := cl) G.toGood e1) (pss_of ih e2)) fun D σ H q => s_whl q
  · rename_i e _
    cases e1 : trE c 60 X.env.scope .val e with
    | none => rw [e1] at h; cases h
    | some x =>
      rw [e1] at h
      simp only [Option.bind] at h
      by_cases hr : retB e x = true
      · rw [if_pos hr] at h
        cases h
        by_cases hv : ∃ i, x = .var i
        · obtain ⟨i, rfl⟩ := hv
          cases e with
          | Name y p =>
            have e1' : trName c X.env.scope .val y = some (.var i) := by
              have e1 : stepE c (trE c 59) X.env.scope .val (.Name y p) = some (.var i) := e1
              exact e1
            unfold trName at e1'
            by_cases ho : oddB y = true
            · rw [if_pos ho] at e1'; cases e1'
            have ho : oddB y = false := by simpa using ho
            rw [if_neg (by rw [ho]; decide)] at e1'
            by_cases hvis : visB X.env.scope y = true
            · rw [if_pos hvis] at e1'
              cases es : slotOf c.N y with
              | none => rw [es] at e1'; cases e1'
              | some j =>
                rw [es] at e1'
                have hij : j = i := by
                  have : (some (Ex.var j) : Option Ex) = some (.var i) := e1'
                  cases this; rfl
                subst hij
                exact PS.imp (ps_ret (pv_name G.toGood hvis ho es)) fun D σ H q => s_retV q
            · rw [if_neg hvis] at e1'
              by_cases hg : glB X.env.scope y = true
              · rw [if_pos hg] at e1'
                cases ec : c.cs.lookup y with
                | none => rw [ec] at e1'; cases e1'
                | some d => rw [ec] at e1'; cases e1'
              · rw [if_neg hg] at e1'; cases e1'
          | _ => cases hr
        · exact PS.imp (ps_ret (swE (m := .val) (cl := cl) G.toGood e1).2) fun D σ H q => s_ret (fun i e => hv ⟨i, e⟩) q
      · rw [if_neg hr] at h; cases h
  · cases h; exact PS.imp ps_retN fun D σ H q => s_retN q
  · cases h; exact PS.imp ps_pass fun D σ H q => s_pass q
  · cases h; exact PS.imp ps_break fun D σ H q => s_brk q
  · cases h; exact PS.imp ps_continue fun D σ H q => s_cont q
  · cases h
    refine PS.imp ps_never fun D σ H q => ?_
    unfold trRaise at q
    split at q
    · split at q
      · split at q
        · exact s_raise q
        · exact s_never q
      · exact s_never q
    · exact s_never q
  · cases h
theorem trS_ok (G : GoodS c cl k X) : ∀ n, IhS c cl k H0 X (trS c X.env.scope n)
  | 0 => fun s sm h => by unfold trS at h; cases h
  | n + 1 => fun s sm h => stepS_ok G (trS_ok G n) (by unfold trS at h; exact h)
/-- a def's body -/
theorem body_ok (G : GoodS c cl k X) {body : List Stmt} {sms : List Sm} (h : trB c X.env.scope body = some sms) : PSs X body (tSs X.K cl H0 sms) := pss_of (trS_ok G 60) h
end
end Ev

end

-- EvTopG
section
/-! Ev: the defs of a program keep what the evaluator says. -/
namespace Ev
open PySem PySem.Spec PyProof.Rows L2

/-! ### the parameters at the entry -/
def plA (mp : List Nat) (j : Nat) (v : V) : Option Addr := if mp.contains j then (match v with | .ref a => some a | _ => none) else none
def owP (mp : List Nat) : Nat → List V → List (Option Addr)
  | _, [] => []
  | j, v :: vs => plA mp j v :: owP mp (j + 1) vs
section
variable {K : PySem.W.Frag} {H : Hp} {S : List Addr} {mp : List Nat}
theorem owP_len : ∀ (vs : List V) (j : Nat), (owP mp j vs).length = vs.length
  | [], _ => rfl
  | _ :: vs, j => by rw [owP, List.length_cons, List.length_cons, owP_len vs]
theorem owP_at : ∀ (vs : List V) (j i : Nat), (owP mp j vs)[i]? = vs[i]?.map (plA mp (j + i))
  | [], _, _ => by simp [owP]
  | v :: vs, j, 0 => by simp [owP]
  | v :: vs, j, i + 1 => by
    rw [owP, List.getElem?_cons_succ, List.getElem?_cons_succ, owP_at vs (j + 1) i, show j + 1 + i = j + (i + 1) by omega]
theorem par_ow : ∀ {j : Nat} {vs : List V} {ds : List D} {as : List Addr}, ParR K H S mp j vs ds as → owS (owP mp j vs) = as
  | _, _, _, _, .nil _ => rfl
  | j, _, _, _, .frz (v := v) hm _ t => by
    have := par_ow t
    rw [owP]
    unfold plA
    rw [hm]
    exact this
  | j, _, _, _, .prm hm _ _ t => by
    have := par_ow t
    rw [owP]
    unfold plA
    rw [hm]
    show _ :: owS _ = _
    rw [this]
theorem par_at : ∀ {j : Nat} {vs : List V} {ds : List D} {as : List Addr}, ParR K H S mp j vs ds as → ∀ {i : Nat} {d : D}, ds[i]? = some d → ∃ v, vs[i]? = some v ∧ ((mp.contains (j + i) = false ∧ Rep K H S v d) ∨ (mp.contains (j + i) = true ∧ ∃ a, v = .ref a ∧ Top K H S a d ∧ Mut (H a)))
  | _, _, _, _, .nil _, i, d, e => by simp at e
  | j, _, _, _, .frz hm r t, 0, d, e => by simp at e; subst e; exact ⟨_, rfl, .inl ⟨hm, r⟩⟩
  | j, _, _, _, .prm hm r m t, 0, d, e => by simp at e; subst e; exact ⟨_, rfl, .inr ⟨hm, _, rfl, r, m⟩⟩
  | j, _, _, _, .frz hm r t, i + 1, d, e => by
    obtain ⟨v, h1, h2⟩ := par_at t (i := i) (by simpa using e)
    rw [show j + 1 + i = j + (i + 1) by omega] at h2
    exact ⟨v, by simpa using h1, h2⟩
  | j, _, _, _, .prm hm r m t, i + 1, d, e => by
    obtain ⟨v, h1, h2⟩ := par_at t (i := i) (by simpa using e)
    rw [show j + 1 + i = j + (i + 1) by omega] at h2
    exact ⟨v, by simpa using h1, h2⟩
/-- what the lent parameters are at the end -/
theorem par_lent {P : Addr → D → Prop} {g' : Gm} : ∀ {j : Nat} {vs : List V} {ds : List D} {as : List Addr}, ParR K H S mp j vs ds as → (∀ (i : Nat) a d, vs[i]? = some (.ref a) → mp.contains (j + i) = true → g'[j + i]? = some (some ⟨d, .prm⟩) → P a d) →
    ∀ {ms : List D}, lentD g' ((List.range' j vs.length).filter mp.contains) = some ms → Paired P as ms
  | _, _, _, _, .nil _, _, ms, h => by
    simp [lentD] at h
    subst h
    exact .nil
  | j, _, _, _, .frz (vs := vs) hm r t, hP, ms, h => by
    rw [List.length_cons, List.range'_succ, List.filter_cons, hm] at h
    exact par_lent t (fun i a d e m q => hP (i + 1) a d (by simpa using e) (by rw [show j + (i + 1) = j + 1 + i by omega]; exact m) (by rw [show j + (i + 1) = j + 1 + i by omega]; exact q)) h
  | j, _, _, _, .prm (vs := vs) hm r m t, hP, ms, h => by
    rw [List.length_cons, List.range'_succ, List.filter_cons, hm] at h
    simp only [if_true] at h
    unfold lentD at h
    cases e : g'[j]? with
    | none => rw [e] at h; cases h
    | some o =>
      rw [e] at h
      rcases o with _ | ⟨d, md⟩
      · cases h
      · cases md with
        | prm =>
          simp only [Option.bind] at h
          cases e2 : lentD g' ((List.range' (j + 1) vs.length).filter mp.contains) with
          | none => rw [e2] at h; cases h
          | some ms' =>
            rw [e2] at h
            cases h
            exact .cons (hP 0 _ d rfl (by rw [Nat.add_zero]; exact hm) (by rw [Nat.add_zero]; exact e)) (par_lent t (fun i a d e m q => hP (i + 1) a d (by simpa using e) (by rw [show j + (i + 1) = j + 1 + i by omega]; exact m) (by rw [show j + (i + 1) = j + 1 + i by omega]; exact q)) e2)
        | _ => cases h
end
/-- how the table's def stands -/
structure FnT (fn : Fn) : Prop where
  le : fn.np ≤ fn.ns
  mp : fn.mp = (List.range fn.np).filter fn.mp.contains
theorem initG_len {fn : Fn} (t : FnT fn) {ds : List D} (hl : ds.length = fn.np) : (initG fn ds).length = fn.ns := by
  unfold initG
  rw [List.length_append, List.length_map, List.length_zipIdx, List.length_replicate, hl]
  have := t.le
  omega
theorem initG_at {fn : Fn} {ds : List D} {i : Nat} {s : Sl} (h : (initG fn ds)[i]? = some (some s)) : ∃ d, ds[i]? = some d ∧ s = ⟨d, if fn.mp.contains i then .prm else .frz⟩ := by
  unfold initG at h
  by_cases hi : i < ds.length
  · rw [List.getElem?_append_left (by simpa using hi), List.getElem?_map, List.getElem?_zipIdx] at h
    rw [List.getElem?_eq_getElem hi] at h
    simp only [Option.map_some, Option.some.injEq, Nat.zero_add] at h
    exact ⟨ds[i], List.getElem?_eq_getElem hi, h.symm⟩
  · rw [List.getElem?_append_right (by simpa using hi), List.getElem?_replicate] at h
    split at h <;> cases h
section
variable {K : PySem.W.Frag} {H : Hp} {T0 as : List Addr} {fn : Fn} {vs : List V} {ds : List D} {N : List Str}
/-- the frame at the entry -/
theorem frame0 (t : FnT fn) (hn : fn.ns = N.length) (hl : ds.length = fn.np) (nd : (T0 ++ as).Nodup) (lv : ∀ b ∈ T0 ++ as, LiveM H b) (p : ParR K H (T0 ++ as) fn.mp 0 vs ds as) :
    FrOk K T0 (owP fn.mp 0 vs ++ List.replicate (N.length - vs.length) none) (initG fn ds) (L2.start N vs) H ∧ owS (owP fn.mp 0 vs ++ List.replicate (N.length - vs.length) none) = as := by
  have hv : vs.length = ds.length := p.len
  have hle := t.le
  have how : owS (owP fn.mp 0 vs ++ List.replicate (N.length - vs.length) none) = as := by
    unfold owS
    rw [List.filterMap_append]
    have : (List.replicate (N.length - vs.length) (none : Option Addr)).filterMap id = [] := by
      induction (N.length - vs.length) with
      | zero => rfl
      | succ n ih => rw [List.replicate_succ, List.filterMap_cons]; exact ih
    rw [this, List.append_nil]
    exact par_ow p
  have hs : (L2.start N vs).length = N.length := by
    unfold L2.start
    rw [List.length_append, List.length_map, List.length_replicate]
    omega
  refine ⟨⟨by rw [how]; exact nd, by rw [how]; exact lv, by rw [initG_len t hl, hs, hn], ?_, fun i s e => ?_⟩, how⟩
  · rw [List.length_append, owP_len, List.length_replicate, hs]; omega
  · obtain ⟨d, e1, rfl⟩ := initG_at e
    obtain ⟨v, h1, h2⟩ := par_at p e1
    have hi : i < vs.length := (List.getElem?_eq_some_iff.mp h1).1
    have hσ : (L2.start N vs)[i]? = some (some v) := by
      unfold L2.start
      rw [List.getElem?_append_left (by simpa using hi), List.getElem?_map, h1]; rfl
    have ho : (owP fn.mp 0 vs ++ List.replicate (N.length - vs.length) none)[i]? = some (plA fn.mp i v) := by
      rw [List.getElem?_append_left (by rw [owP_len]; exact hi), owP_at, h1, Nat.zero_add]; rfl
    rw [Nat.zero_add] at h2
    refine ⟨v, _, hσ, ho, ?_⟩
    rw [how]
    rcases h2 with ⟨m, r⟩ | ⟨m, a, ev, tp, mu⟩
    · rw [m]; exact r
    · rw [m]
      subst ev
      exact ⟨a, by unfold plA; rw [m]; rfl, rfl, tp, mu⟩
end

/-! ### a program's defs -/
structure Prg where
  fn : List (Str × Nat × Nat × List Nat)
  cs : List (Str × D)
  xs : List (Str × Nat)
  tbl : List Fn
/-- def j of the table stands at f -/
structure DefOk (G : Prg) (K : PySem.W.Frag) (j : Nat) (f : Addr) (fd : FuncData) (ps : List Str) (fn : Fn) : Prop where
  at_ : G.tbl[j]? = some fn
  ok : FnT fn
  np : fn.np = ps.length
  def_ : ∃ (x qual : Str) (st : Stmt) (N : List Str), Fun K x qual st f fd ∧ FnScope N ps (defScope st) ∧ fn.ns = N.length ∧ trB { N := N, fn := G.fn, cs := G.cs, xs := G.xs } (defScope st) (defBody st) = some fn.body
structure PrgOk (G : Prg) (K : PySem.W.Frag) (mg : Str → Option Value) : Prop where
  fns : ∀ x j np mp, G.fn.lookup x = some (j, np, mp) → ∃ f fd ps fn, mg x = some (.ref f) ∧ PySem.W.keepIn K (.ref f) = true ∧ Binds K fd ps [] ∧ DefOk G K j f fd ps fn ∧ fn.mp = mp
  cst : ∀ x d, G.cs.lookup x = some d → ∃ v u, mg x = some u ∧ RelV v u ∧ ∀ (H : Hp) (S : List Addr), (∀ b ∈ S, LiveM H b) → Rep K H S v d
  blt : ∀ x ∈ bltN, mg x = none
section
variable {G : Prg} {P : Program} {w : World} {K : PySem.W.Frag} {mg : Str → Option Value} {base : Heap}
theorem spF_len {mp : List Nat} {k j : Nat} {f : Addr} {fd : FuncData} {ps : List Str} {fn : Fn} (Dk : DefOk G K j f fd ps fn) {vs : List V} {H : Hp} {Q : VK} (h : spF K mp (evFn G.tbl k j) vs H Q E0) : vs.length = ps.length := by
  obtain ⟨T0, as, ds, nd, lv, p, h⟩ := h
  cases k with
  | zero => exact h.elim
  | succ k =>
    unfold evFn at h
    simp only [Dk.at_] at h
    split at h
    · rename_i hc
      split at hc
      · rename_i hc2
        rw [Bool.and_eq_true, decide_eq_true_eq] at hc2
        rw [p.len, hc2.1, Dk.np]
      · cases hc
    · exact h.elim
    · exact h.elim
theorem fn_all (O : PrgOk G K mg) : ∀ k {j : Nat} {f : Addr} {fd : FuncData} {ps : List Str} {fn : Fn}, DefOk G K j f fd ps fn → FnG P w K mg base k f fd ps (spF K fn.mp (evFn G.tbl k j))
  | 0, j, f, fd, ps, fn, Dk => ⟨fun vs H Q h => spF_len Dk h, fun A outer s H args us vs Q _ _ _ _ _ ⟨T0, as, ds, _, _, _, h⟩ => h.elim⟩
  | k + 1, j, f, fd, ps, fn, Dk => by
    obtain ⟨x, qual, st, N, F, S, hns, htr⟩ := Dk.def_
    refine fnG_of F S (fun vs H Q h => spF_len Dk h) fun cdv A outer s H vs Q hg hr want => ?_
    have want' := want
    obtain ⟨T0, as, ds, nd, lv, p, h⟩ := want
    unfold evFn at h
    simp only [Dk.at_] at h
    have GX : GoodS { N := N, fn := G.fn, cs := G.cs, xs := G.xs } (evFn G.tbl k) k (cxOf CX0 P w K mg base N qual (defScope st) f cdv A outer s H E0).nox := by
      refine ⟨⟨rfl, S.nd, rfl, hr, hg, fun y i np mp hl => ?_, O.cst, O.blt⟩, fun _ => rfl, S.kind, PassesOwn.never⟩
      obtain ⟨f', fd', ps', fn', h1, h2, h3, h4, h5⟩ := O.fns y i np mp hl
      subst h5
      exact ⟨f', fd', ps', h1, fn_all O k h4, h2, h3⟩
    refine ⟨_, body_ok (H0 := H) GX htr, ?_⟩
    by_cases hc : (decide (ds.length = fn.np) && mpOk fn.mp ds) = true
    case neg =>
      split at h
      · rename_i he
        rw [if_neg hc] at he; cases he
      · exact h.elim
      · exact h.elim
    rw [if_pos hc] at h
    rw [Bool.and_eq_true, decide_eq_true_eq] at hc
    obtain ⟨F0, how⟩ := frame0 (N := N) Dk.ok hns hc.1 nd lv p
    have hv : vs.length = fn.np := by rw [p.len]; exact hc.1
    refine ⟨T0, _, initG fn ds, F0, ⟨fun i d a e _ => ?_, fun b o e => ⟨o, e⟩⟩, ?_⟩
    · obtain ⟨d', _, e2⟩ := initG_at e
      have e3 : Md.own = if fn.mp.contains i then Md.prm else Md.frz := congrArg Sl.m e2
      split at e3 <;> cases e3
    -- what a caller is told
    have finR : ∀ {T' ow' g' σ' H'} {ms : List D}, Step K T0 (owP fn.mp 0 vs ++ List.replicate (N.length - vs.length) none) (initG fn ds) (L2.start N vs) H T' ow' g' σ' H' → lentD g' fn.mp = some ms →
        EndR T0 as H (T' ++ owS ow') H' ∧ LentR K (T' ++ owS ow') H' as ms := fun {T' ow' g' σ' H' ms} a hl => by
      have slot : ∀ (i : Nat) b, vs[i]? = some (.ref b) → fn.mp.contains i = true → ow'[i]? = some (some b) ∧ ∃ d', g'[i]? = some (some ⟨d', .prm⟩) := fun i b e m => by
        have hi : i < vs.length := (List.getElem?_eq_some_iff.mp e).1
        have hd : i < ds.length := by rw [← p.len]; exact hi
        have ho : (owP fn.mp 0 vs ++ List.replicate (N.length - vs.length) none)[i]? = some (some b) := by
          rw [List.getElem?_append_left (by rw [owP_len]; exact hi), owP_at, e, Nat.zero_add]
          show some (plA fn.mp i (.ref b)) = _
          unfold plA; rw [m]; rfl
        have eg : (initG fn ds)[i]? = some (some ⟨ds[i], .prm⟩) := by
          unfold initG
          rw [List.getElem?_append_left (by simpa using hd), List.getElem?_map, List.getElem?_zipIdx, List.getElem?_eq_getElem hd]
          simp
          simpa using m
        obtain ⟨e1, e2, d', e3, _⟩ := a.st i _ eg (.inr rfl)
        exact ⟨e1.trans ho, d', e3⟩
      have asIn : ∀ b ∈ as, ∃ i, vs[i]? = some (.ref b) ∧ fn.mp.contains i = true := fun b hb => by
        rw [← par_ow p] at hb
        obtain ⟨i, e⟩ := mem_owS.mp hb
        rw [owP_at, Nat.zero_add] at e
        cases ev : vs[i]? with
        | none => rw [ev] at e; cases e
        | some v =>
          rw [ev] at e
          have e : plA fn.mp i v = some b := by simpa using e
          unfold plA at e
          split at e
          · rename_i m
            split at e
            · cases e; exact ⟨i, ev, m⟩
            · cases e
          · cases e
      refine ⟨⟨fun b hb => ?_, fun b hb => ?_, fun b o e n => a.kx b o e fun z => n (by rw [← how]; exact z.mem), a.lv, a.fr.lv⟩, ?_⟩
      · rcases List.mem_append.mp hb with hb | hb
        · exact List.mem_append_left _ (a.tt b hb)
        · obtain ⟨i, e, m⟩ := asIn b hb
          exact List.mem_append_right _ (mem_owS.mpr ⟨i, (slot i b e m).1⟩)
      · rcases List.mem_append.mp hb with hb | hb
        · have := a.nw b hb
          rw [how] at this
          exact this
        · have := a.os b hb
          rw [how] at this
          exact this.imp (fun z => List.mem_append_right _ z) id
      · have hmp : fn.mp = (List.range' 0 vs.length).filter fn.mp.contains := by
          rw [← List.range_eq_range', hv]; exact Dk.ok.mp
        rw [hmp] at hl
        refine par_lent p (fun i b d e m q => ?_) hl
        rw [Nat.zero_add] at m q
        obtain ⟨w1, d', w2⟩ := slot i b e m
        obtain ⟨v, oa, k1, k2, k3⟩ := a.fr.sl i _ q
        rw [w1] at k2
        cases k2
        obtain ⟨a', z1, _, z3, z4⟩ := (show ∃ a, some b = some a ∧ v = .ref a ∧ Top K H' (T' ++ owS ow') a d ∧ Mut (H' a) from k3)
        cases z1
        exact ⟨z3, z4⟩
    cases ef : evSs (evFn G.tbl k) fn.body (initG fn ds) with
    | nx g' =>
      intro ow' σ' H' a
      rw [ef] at h
      simp only [finish] at h
      cases el : lentD g' fn.mp with
      | none => rw [el] at h; exact h.elim
      | some ms =>
        rw [el] at h
        obtain ⟨E1, L1⟩ := finR a el
        exact h _ H' .non E1 .non L1
    | rt d fl g' =>
      intro T' ow' σ' H' v a rv
      rw [ef] at h
      simp only [finish] at h
      cases el : lentD g' fn.mp with
      | none => rw [el] at h; exact h.elim
      | some ms =>
        rw [el] at h
        obtain ⟨E1, L1⟩ := finR a el
        refine h _ H' v E1 ?_ L1
        cases fl with
        | false => exact rv
        | true =>
          obtain ⟨q, e1, e2, e3, e4, e5⟩ := rv
          exact ⟨q, e1, e3, List.mem_append_left _ e2, e4, e5⟩
    | bk g' => rw [ef] at h; exact h.elim
    | ct g' => rw [ef] at h; exact h.elim
    | exc c' g' =>
      rw [ef] at h
      simp only [finish] at h
      cases el : lentD g' fn.mp with
      | none => rw [el] at h; exact h.elim
      | some ms => rw [el] at h; exact h.elim
    | bad => rw [ef] at h; exact h.elim
end
end Ev

end

-- EvEnd
section
/-! Ev: a law's end. -/
namespace Ev
open PySem PySem.Spec PyProof.Rows L2

/-! ### the law's call -/
theorem law_ev {P : Program} {w : World} {K : PySem.W.Frag} {mg mb : Str → Option Value} {k : Nat} {fa a : Addr} {fd : FuncData} {x : Str} {sp : Sp} {s : Shared} {vs : List Value} {ns : List Int}
    (inK : K.In s.heap) (main : s.heap.Ns mainGlobals mg) (built : s.heap.Ns builtinsNs mb) (boot : ∀ x : Str, x ≠ "__name__" → mb x = bootBuiltins x) (free : s.heap.NoLimit) (gens : s.gens = #[])
    (obj : s.heap.get? a = some { cls := .type "list", data := .seq vs.toArray }) (hin : IntsAre vs ns) (short : ns.length ≤ sizeLine) (room : Room k callerA) (notK : K.lookup a = none)
    (F : ∀ base : Heap, K.In base → base.Ns mainGlobals mg → FnG P w K mg base k fa fd [x] sp) (bind : ∀ (s : Shared) (u : Value), BindsTo s fd ⟨[u], []⟩ [(x, u)])
    (law : ∀ H : Hp, (∀ b, b ≠ a → H b = none) → Rd H a (.lst (ns.map V.int)) → sp [.ref a] H (fun v _ => v = .bl true) E0) :
    codeAny (model P w) callerA (.call (.ref fa) ⟨[.ref a], []⟩) (fun r s' => r = .ok (.ret (.bool true)) ∧ OldK s.heap s'.heap ∧ s'.os = s.os ∧ AllBare s'.gens) s := by
  have rel := vals_ints hin
  have many := hin.length
  let ob : Obj := { cls := .type "list", data := .seq vs.toArray }
  let H : Hp := fun b => if b = a then some (.frz ob (.lst (ns.map V.int))) else none
  have Ha : H a = some (.frz ob (.lst (ns.map V.int))) := if_pos rfl
  have Hb : ∀ b, b ≠ a → H b = none := fun b h => if_neg h
  have hok : HOk P w H s.heap := by
    intro b u e
    by_cases h : b = a
    · subst h
      rw [Ha] at e
      cases e
      refine ⟨obj, ?_, vs, _, rel, obj⟩
      rw [List.length_map]; exact short
    · rw [Hb b h] at e; cases e
  have inB : ∀ {b : Addr} {o : Obj}, s.heap.get? b = some o → b ≠ a → (hidT s.heap H).get? b = some o := fun e h => hidT_get e (Hb _ h)
  have nsB : ∀ {b : Addr} {m : Str → Option Value}, s.heap.Ns b m → (hidT s.heap H).Ns b m := by
    rintro b m ⟨o, es, ep, e, d, r⟩
    refine ⟨o, es, ep, inB e fun h => ?_, d, r⟩
    subst h
    rw [obj] at e
    cases e
    cases d
  have kB : K.In (hidT s.heap H) := fun b o e => inB (inK b o e) fun h => by rw [h, notK] at e; cases e
  have env0 : Env0 P w K mg (hidT s.heap H) callerA [] s H := by
    refine ⟨rfl, ⟨kB, nsB main, ⟨mb, nsB built, boot⟩, ?_⟩, fun b o e => of_hidT e, Nat.le_of_eq (hidT_size _ _), trivial, fun b hb => ?_, hok, .of_eq gens⟩
    · obtain ⟨mc, h1, h2⟩ := free
      exact ⟨mc, nsB h1, h2⟩
    · simp [frs] at hb
  refine codeAny_mono ((F _ kB (nsB main)).go callerA [] s H ⟨[.ref a], []⟩ [.ref a] [.ref a] _ rfl room env0 (bind s (.ref a)) (.cons rfl .nil) (law H Hb (.inr ⟨ob, Ha⟩))) ?_
  rintro (e | fl) s' h
  · cases h
  cases fl with
  | next => cases h
  | brk => cases h
  | cont => cases h
  | ret u =>
    obtain ⟨v, H', os, bare, un, hok', r', q⟩ := h
    subst q
    cases (show u = Value.bool true from r')
    refine ⟨rfl, OldK.of_keep fun b o e => ?_, os, bare⟩
    by_cases hb : b = a
    · subst hb
      obtain ⟨e2, _⟩ := hok' b _ (un.frzs b ob _ Ha)
      rw [obj] at e
      cases e
      exact e2
    · exact un.keep b o e (Hb b hb) (by simp [frs]) (by simp)

/-! ### the head's facts -/
mutual
/-- the written value u is the data d -/
def valB (K : PySem.W.Frag) : D → Value → Bool
  | .none, .none => true
  | .bool b, .bool c => b == c
  | .int i, .int j _ => decide (i = j)
  | .str x, .str y _ => decide (x = y) && line x.length
  | .tuple ds, .ref a => (match K.lookup a with
    | some ⟨.type c, _, .seq its _, _⟩ => decide (c = "tuple") && (isC (.tuple ds) && (decide (its.size ≤ sizeLine) && valsB K ds its.toList))
    | _ => false)
  | _, _ => false
def valsB (K : PySem.W.Frag) : List D → List Value → Bool
  | [], [] => true
  | d :: ds, u :: us => valB K d u && valsB K ds us
  | _, _ => false
end
mutual
theorem valB_ok {K : PySem.W.Frag} : ∀ {d : D} {u : Value}, valB K d u = true → ∃ v, RelV v u ∧ ∀ (H : Hp) (S : List Addr), (∀ b ∈ S, LiveM H b) → Rep K H S v d
  | .none, u, h => by
    cases u <;> first | (unfold valB at h; cases h; done) | exact ⟨.non, rfl, fun _ _ _ => .non⟩
  | .bool b, u, h => by
    cases u with
    | bool c => unfold valB at h; rw [beq_iff_eq] at h; subst h; exact ⟨.bl b, rfl, fun _ _ _ => .bl b⟩
    | _ => unfold valB at h; cases h
  | .int i, u, h => by
    cases u with
    | int j t => unfold valB at h; rw [decide_eq_true_eq] at h; subst h; exact ⟨.int i, ⟨t, rfl⟩, fun _ _ _ => .int i⟩
    | _ => unfold valB at h; cases h
  | .str x, u, h => by
    cases u with
    | str y t => unfold valB at h; rw [Bool.and_eq_true, decide_eq_true_eq] at h; obtain ⟨rfl, hl⟩ := h; exact ⟨.str x, ⟨t, rfl⟩, fun _ _ _ => .str (line_le hl)⟩
    | _ => unfold valB at h; cases h
  | .list _, u, h => by unfold valB at h; cases u <;> cases h
  | .dict _, u, h => by unfold valB at h; cases u <;> cases h
  | .tuple ds, u, h => by
    cases u with
    | ref a =>
      unfold valB at h
      split at h
      · rename_i c dd its nn sl hl
        simp only [Bool.and_eq_true, decide_eq_true_eq] at h
        obtain ⟨h1, h2, h3, h4⟩ := h
        subst h1
        obtain ⟨vs, r1, r2⟩ := valsB_ok h4
        refine ⟨.ref a, rfl, fun H S hS => .tup (.inr ⟨.inr ⟨_, its, nn, hl, rfl, rfl, h3, r1⟩, h2⟩) ?_ (r2 H S hS)⟩
        rw [r1.length]; simpa using h3
      · cases h
    | _ => unfold valB at h; cases h
theorem valsB_ok {K : PySem.W.Frag} : ∀ {ds : List D} {us : List Value}, valsB K ds us = true → ∃ vs, Vals vs us ∧ ∀ (H : Hp) (S : List Addr), (∀ b ∈ S, LiveM H b) → Reps K H S vs ds
  | [], [], _ => ⟨[], .nil, fun _ _ _ => .nil⟩
  | [], _ :: _, h => by unfold valsB at h; cases h
  | _ :: _, [], h => by unfold valsB at h; cases h
  | d :: ds, u :: us, h => by
    unfold valsB at h
    rw [Bool.and_eq_true] at h
    obtain ⟨v, h1, h2⟩ := valB_ok h.1
    obtain ⟨vs, h3, h4⟩ := valsB_ok h.2
    exact ⟨v :: vs, .cons h1 h3, fun H S hS => .cons (h2 H S hS) (h4 H S hS)⟩
end
end Ev

end

-- EvLaw
section
/-! Ev: a law's row, from what the evaluator answers. -/
namespace Ev
open PySem PySem.Spec PyProof.Rows L2

def topOf (P : Program) (i : Nat) : Stmt := P.main.body.getD i (.Pass ⟨0, 0, 0, 0⟩)
/-- a def of the top: its place, its name, its names by slot, its parameters, how the evaluator has it -/
structure Dd where
  i : Nat
  x : Str
  N : List Str
  ps : List Str
  fn : Fn
def Dd.def_ (P : Program) (d : Dd) : He.DefD := ⟨(d.x, none), d.x, d.x, defArgs (topOf P d.i), defBody (topOf P d.i), defScope (topOf P d.i), [], []⟩
def fnTab : Nat → List Dd → List (Str × Nat × Nat × List Nat)
  | _, [] => []
  | j, d :: r => (d.x, j, d.fn.np, d.fn.mp) :: fnTab (j + 1) r
def scB (N ps : List Str) (sc : Scope) : Bool := (match sc.kind with | .function => true | _ => false) && !sc.isCoroutine && !sc.isGenerator && decide N.Nodup && decide (N.take ps.length = ps) &&
  (ps.all fun x => match sc.names.lookup x with | some .local => true | some .cell => true | _ => false) && sc.names.all fun y => match y.2 with | .free => false | _ => true
theorem scB_ok {N ps : List Str} {sc : Scope} (h : scB N ps sc = true) : FnScope N ps sc := by
  unfold scB at h
  simp only [Bool.and_eq_true, Bool.not_eq_true', decide_eq_true_eq, List.all_eq_true] at h
  obtain ⟨⟨⟨⟨⟨⟨h1, h2⟩, h3⟩, h4⟩, h5⟩, h6⟩, h7⟩ := h
  refine ⟨?_, h2, h3, h4, h5, fun x hx => ?_, fun y hy e => ?_⟩
  · split at h1
    · assumption
    · cases h1
  · have := h6 x hx
    split at this
    · left; assumption
    · right; assumption
    · cases this
  · have := h7 y hy
    rw [e] at this
    cases this
def fnB (d : Dd) : Bool := decide (d.fn.np ≤ d.fn.ns) && decide (d.fn.mp = (List.range d.fn.np).filter d.fn.mp.contains) && decide (d.fn.np = d.ps.length) && decide (d.fn.ns = d.N.length)
def BindOk (x : Str) (st : Stmt) (ps : List Str) : Prop := ∀ (kV doc pm : Value) (an : Option Addr) (cdv ct : Value) (us : List Value), us.length = ps.length → bindArgs (PySem.W.fnOf x x (defArgs st) (defBody st) (defScope st) .none kV doc pm an cdv ct) ⟨us, []⟩ = pure (ps.zip us)
/-- the law's tables -/
structure Lw where
  dds : List Dd
  cs : List (Str × D)
  xs : List (Str × Nat)
def Lw.prg (W : Lw) : Prg := ⟨fnTab 0 W.dds, W.cs, W.xs, W.dds.map (·.fn)⟩
structure DdOk (P : Program) (W : Lw) (d : Dd) : Prop where
  sc : scB d.N d.ps (defScope (topOf P d.i)) = true
  fn : fnB d = true
  bd : BindOk d.x (topOf P d.i) d.ps
  tr : trB { N := d.N, fn := fnTab 0 W.dds, cs := W.cs, xs := W.xs } (defScope (topOf P d.i)) (defBody (topOf P d.i)) = some d.fn.body
def AllOk (P : Program) (W : Lw) : List Dd → Prop
  | [] => True
  | d :: r => DdOk P W d ∧ AllOk P W r
theorem AllOk.get {P : Program} {W : Lw} : ∀ {ds : List Dd}, AllOk P W ds → ∀ {j : Nat} {d : Dd}, ds[j]? = some d → DdOk P W d
  | [], _, j, d, e => by simp at e
  | _ :: _, h, 0, d, e => by simp at e; subst e; exact h.1
  | _ :: r, h, j + 1, d, e => AllOk.get h.2 (j := j) (by simpa using e)
theorem fnTab_of {x : Str} {j np : Nat} {mp : List Nat} : ∀ {ds : List Dd} {n : Nat}, (fnTab n ds).lookup x = some (j, np, mp) → ∃ d, n ≤ j ∧ ds[j - n]? = some d ∧ d.x = x ∧ np = d.fn.np ∧ mp = d.fn.mp
  | [], _, h => by cases h
  | d :: r, n, h => by
    unfold fnTab at h
    rw [List.lookup_cons] at h
    split at h
    · rename_i e
      cases h
      exact ⟨d, Nat.le_refl _, by simp, (beq_iff_eq.mp e).symm, rfl, rfl⟩
    · obtain ⟨d', h1, h2, h3⟩ := fnTab_of h
      refine ⟨d', by omega, ?_, h3⟩
      rw [show j - n = (j - (n + 1)) + 1 by omega, List.getElem?_cons_succ]
      exact h2

/-! ### the Hook -/
def csB (cs : List (Str × D)) (K : PySem.W.Frag) : Bool := cs.all fun p => match PySem.W.nsIn K mainGlobals p.1 with
  | some (some u) => valB K p.2 u
  | _ => false
def noLst (K : PySem.W.Frag) : Bool := K.all fun p => match p.2.cls with
  | .type c => !decide (c = "list")
  | _ => true
theorem lookup_memF : ∀ {K : PySem.W.Frag} {a : Addr} {o : Obj}, K.lookup a = some o → (a, o) ∈ K
  | [], _, _, h => by cases h
  | (b, o') :: r, a, o, h => by
    have h' : List.lookup a ((b, o') :: r) = some o := h
    rw [List.lookup_cons] at h'
    split at h'
    · rename_i e
      cases h'
      rw [beq_iff_eq.mp e]
      exact List.mem_cons_self
    · exact List.mem_cons_of_mem _ (lookup_memF h')
theorem noLst_ok {K : PySem.W.Frag} (h : noLst K = true) {a : Addr} {o : Obj} (e : K.lookup a = some o) : o.cls ≠ .type "list" := fun z => by
  have := List.all_eq_true.mp h _ (lookup_memF e)
  simp only [z] at this
  simp at this
def fasOf (W : Lw) : List He.Fa := (W.dds.map fun d => He.Fa.glo d.x) ++ bltN.map He.Fa.free
def defsOf (P : Program) (W : Lw) : List He.DefD := W.dds.map (Dd.def_ P)
def evObs (n : Nat) (P : Program) (W : Lw) (g : Addr → Option Obj) : Bool × He.AlD := (csB W.cs (He.frG g (He.asD g n)) && noLst (He.frG g (He.asD g n)), He.obsDG n (fasOf W) (defsOf P W) g)
def evHook (n : Nat) (P : Program) (W : Lw) : PySem.W.Hook where
  α := Bool × He.AlD
  obs := fun s => evObs n P W s.heap.get?
  val := fun _ => (true, He.valD (defsOf P W))
  says := fun _ h => ∃ K : PySem.W.Frag, K.In h ∧ csB W.cs K = true ∧ noLst K = true ∧ He.SaysD (fasOf W) (defsOf P W) K
  of := fun _ s e => by
    have e1 : (csB W.cs (He.frG s.heap.get? (He.asD s.heap.get? n)) && noLst (He.frG s.heap.get? (He.asD s.heap.get? n))) = true := congrArg (fun z : Bool × He.AlD => z.1) e
    have e2 : He.obsDG n (fasOf W) (defsOf P W) s.heap.get? = He.valD (defsOf P W) := congrArg (fun z : Bool × He.AlD => z.2) e
    rw [Bool.and_eq_true] at e1
    exact ⟨_, He.frG_in, e1.1, e1.2, e2⟩
  keeps := fun _ _ _ ⟨K, hK, c⟩ k => ⟨K, PySem.W.Frag.In.keeps hK k, c⟩
def evOb (n : Nat) (P : Program) (W : Lw) (s : PySem.W.SharedT) : Bool × He.AlD := evObs n P W (HandSHeadRun.getT s)
theorem evOb_eq (n : Nat) (P : Program) (W : Lw) (s : PySem.W.SharedT) : evOb n P W s = (evHook n P W).obs s.abs := by
  have e : HandSHeadRun.getT s = s.abs.heap.get? := funext (HandSHeadRun.getT_eq s)
  unfold evOb
  rw [e]
  rfl
theorem fun_of {K : PySem.W.Frag} {x : Str} {st : Stmt} {f : Addr} {fd : FuncData} (h : FunD K x x (defArgs st) (defBody st) (defScope st) [] [] f fd) : Fun K x x st f fd := by
  obtain ⟨oc, od, dV, kV, doc, pm, an, cdv, ct, osl, h1, h2, h3, h4, _⟩ := h.ex
  rcases h4 with ⟨_, h4⟩ | ⟨h4, _⟩
  · subst h4
    exact ⟨⟨oc, od, kV, doc, pm, an, cdv, ct, osl, h1, h2, h3⟩, h.kp⟩
  · exact absurd rfl h4
section
variable {P : Program} {W : Lw} {K : PySem.W.Frag} {h : Heap} {mg : Str → Option Value}
/-- def j, as the head tells it -/
theorem def_at (A : AllOk P W W.dds) (c : He.SaysD (fasOf W) (defsOf P W) K) {j : Nat} {d : Dd} (e : W.dds[j]? = some d) : ∃ fd, Fun K d.x d.x (topOf P d.i) (He.fAd K (d.x, none)) fd ∧ Binds K fd d.ps [] ∧ DefOk W.prg K j (He.fAd K (d.x, none)) fd d.ps d.fn := by
  have ok := A.get e
  obtain ⟨fd, FD⟩ := c.def_ j (d := d.def_ P) (by unfold defsOf; rw [List.getElem?_map, e]; rfl)
  have F : Fun K d.x d.x (topOf P d.i) (He.fAd K (d.x, none)) fd := fun_of FD
  have hf := ok.fn
  unfold fnB at hf
  simp only [Bool.and_eq_true, decide_eq_true_eq] at hf
  obtain ⟨⟨⟨f1, f2⟩, f3⟩, f4⟩ := hf
  refine ⟨fd, F, F.binds ok.bd, ⟨?_, ⟨f1, f2⟩, f3, d.x, d.x, topOf P d.i, d.N, F, scB_ok ok.sc, f4, ok.tr⟩⟩
  show (W.dds.map (·.fn))[j]? = some d.fn
  rw [List.getElem?_map, e]
  rfl
theorem glo_at (X : K.In h) (G : h.Ns mainGlobals mg) (c : He.SaysD (fasOf W) (defsOf P W) K) {j : Nat} {d : Dd} (e : W.dds[j]? = some d) : mg d.x = some (.ref (He.fAd K (d.x, none))) := by
  have hl : j < W.dds.length := (List.getElem?_eq_some_iff.mp e).1
  refine He.glo_ok X G (c.fact j (f := .glo d.x) ?_)
  unfold fasOf
  rw [List.getElem?_append_left (by simpa using hl), List.getElem?_map, e]
  rfl
theorem prg_ok (X : K.In h) (G : h.Ns mainGlobals mg) (A : AllOk P W W.dds) (hc : csB W.cs K = true) (c : He.SaysD (fasOf W) (defsOf P W) K) : PrgOk W.prg K mg := by
  refine ⟨fun x j np mp hl => ?_, fun x d hl => ?_, fun x hx => ?_⟩
  · obtain ⟨d, _, e, rfl, rfl, rfl⟩ := fnTab_of hl
    rw [Nat.sub_zero] at e
    obtain ⟨fd, F, b, Dk⟩ := def_at A c e
    exact ⟨_, fd, d.ps, d.fn, glo_at X G c e, F.kp, b, Dk, rfl⟩
  · have hm : (x, d) ∈ W.cs := by
      have : ∀ {l : List (Str × D)}, l.lookup x = some d → (x, d) ∈ l := by
        intro l
        induction l with
        | nil => intro e; cases e
        | cons p l ih =>
          obtain ⟨y, d'⟩ := p
          intro e
          rw [List.lookup_cons] at e
          split at e
          · rename_i q
            cases e
            rw [beq_iff_eq.mp q]
            exact List.mem_cons_self
          · exact List.mem_cons_of_mem _ (ih e)
      exact this hl
    have := List.all_eq_true.mp hc _ hm
    simp only at this
    split at this
    · rename_i u e
      obtain ⟨v, h1, h2⟩ := valB_ok this
      exact ⟨v, u, PySem.W.mg_of X G e, h1, h2⟩
    · cases this
  · obtain ⟨i, e⟩ := List.mem_iff_getElem?.mp hx
    refine He.free_ok X G (c.fact (W.dds.length + i) (f := .free x) ?_)
    unfold fasOf
    rw [List.getElem?_append_right (by simp), List.length_map, Nat.add_sub_cancel_left, List.getElem?_map, e]
    rfl
end
theorem rep_script {K : PySem.W.Frag} {H : Hp} {S : List Addr} : ∀ ns : List Int, Reps K H S (ns.map V.int) (ns.map PyData.int)
  | [] => .nil
  | _ :: ns => .cons (.int _) (rep_script ns)
/-- the law, from the evaluator's answers -/
theorem walk_ev {l : PySem.W.OpenLaw} {n k Lj hn0 : Nat} {q : Program} {loose : List Str} {XP : (Str → Option Value) → Heap → Prop} {d : DefRec} {W : Lw} {dl : Dd} {x : Str} (hn : l.most = some n) (hn2 : n ≤ sizeLine) (hdf : d.params.defaults = []) (hr : Room k callerA)
    (A : AllOk l.prog W W.dds) (hL : W.dds[Lj]? = some dl) (hx : d.name = dl.x) (hp : dl.ps = [x]) (hm : dl.fn.mp = []) (hev : ∀ ns : List Int, ns.length ≤ n → evFn W.prg.tbl k Lj [.list (ns.map PyData.int)] = .ok (.bool true, false, [])) :
    PySem.W.WalkO q loose XP (evHook hn0 l.prog W).says l.row.toRowW d [] (fun f vs => PySem.call f vs) := by
  refine Att.attach_call hn hdf fun w s₀ s₁ mg mb fa o pm cd doc a vs ns G Y ho hd hcd hmg hobj hints hlen hg => ?_
  obtain ⟨K, KX, hcs, hnl, c⟩ := Y
  obtain ⟨fd, F, b, Dk⟩ := def_at A c hL
  have e := hmg
  rw [hx, glo_at KX G.T.g c hL] at e
  cases e
  have nK : K.lookup a = none := by
    cases eK : K.lookup a with
    | none => rfl
    | some o' =>
      have := KX a o' eK
      rw [hobj] at this
      cases this
      exact absurd rfl (noLst_ok hnl eK)
  refine law_ev (fd := fd) (sp := spF K dl.fn.mp (evFn W.prg.tbl k Lj)) (x := x) KX G.T.g G.T.b G.T.builtins G.T.nolimit hg hobj hints (Nat.le_trans hlen hn2) hr nK (fun base kin mgn => ?_) (fun s u => ?_) fun H _ rd => ?_
  · have := fn_all (P := l.prog) (w := w) (base := base) (prg_ok KX G.T.g A hcs c) k Dk
    rw [hp] at this
    exact this
  · have hb := F.binds (ps := [x]) (by rw [← hp]; exact (A.get hL).bd)
    obtain ⟨oc, od, kV, doc, pm, an, cdv, ct, osl, e1, _, _⟩ := F.ex
    subst e1
    exact .of_eq ((by rw [← hp]; exact (A.get hL).bd : BindOk dl.x (topOf l.prog dl.i) [x]) kV doc pm an cdv ct [u] rfl)
  · refine ⟨[], [], [.list (ns.map PyData.int)], by simp, fun b hb => by simp at hb, ?_, ?_⟩
    · rw [hm]
      exact .frz rfl (.lst (by simp) rd (by rw [List.length_map]; exact Nat.le_trans hlen hn2) (rep_script ns)) (.nil _)
    · rw [hev ns hlen]
      intro S3 H2 v _ rv _
      cases (show Rep K H2 S3 v (.bool true) from rv)
      rfl
end Ev

end

-- La_k82
section
namespace K82
open PySem PySem.Spec PyProof.Rows L2 Ev
abbrev Pg : Program := PySem.Challenge.pw_fewjewels_k82_whole_stars_and_their_ring
/-- is_integer(thing); slots 0:thing -/
def b0 : List Sm := [.ret (.and (.ap (.isi .int) [(.bor 0)]) (.not (.ap (.isi .bool) [(.bor 0)])))]
def d0 : Dd := ⟨1, (Str.ofString "is_integer"), [(Str.ofString "thing")], [(Str.ofString "thing")], ⟨1, [], 1, b0⟩⟩
/-- is_within(thing, low, high); slots 0:thing 1:low 2:high -/
def b1 : List Sm := [.ret (.and (.call 0 [.pl] [(.bor 0)]) (.chn (.bor 1) [.le, .le] [(.bor 0), (.bor 2)]))]
def d1 : Dd := ⟨2, (Str.ofString "is_within"), [(Str.ofString "thing"), (Str.ofString "low"), (Str.ofString "high")], [(Str.ofString "thing"), (Str.ofString "low"), (Str.ofString "high")], ⟨3, [], 3, b1⟩⟩
/-- is_tuple(thing, least, most); slots 0:thing 1:least 2:most -/
def b2 : List Sm := [.ret (.and (.ap (.isi .tuple) [(.bor 0)]) (.chn (.bor 1) [.le, .le] [(.ap .len [(.bor 0)]), (.bor 2)]))]
def d2 : Dd := ⟨3, (Str.ofString "is_tuple"), [(Str.ofString "thing"), (Str.ofString "least"), (Str.ofString "most")], [(Str.ofString "thing"), (Str.ofString "least"), (Str.ofString "most")], ⟨3, [], 3, b2⟩⟩
/-- divisor(one, other); slots 0:one 1:other -/
def b3 : List Sm := [.mas [(.nm 0), (.nm 1)] [(.ap .abs [(.bor 0)]), (.ap .abs [(.bor 1)])],
  .whl (.ap .ne [(.bor 1), (.lit (.int (0)))]) [
   .mas [(.nm 0), (.nm 1)] [(.var 1), (.ap .mod [(.bor 0), (.bor 1)])]],
  .ret (.var 0)]
def d3 : Dd := ⟨9, (Str.ofString "divisor"), [(Str.ofString "one"), (Str.ofString "other")], [(Str.ofString "one"), (Str.ofString "other")], ⟨2, [], 2, b3⟩⟩
/-- is_size(n); slots 0:n -/
def b4 : List Sm := [.ret (.call 1 [.pl, .pl, .pl] [(.bor 0), (.lit (.int (3))), (.lit (.int (24)))])]
def d4 : Dd := ⟨14, (Str.ofString "is_size"), [(Str.ofString "n")], [(Str.ofString "n")], ⟨1, [], 1, b4⟩⟩
/-- check_star(n, k); slots 0:n 1:k -/
def b5 : List Sm := [.ite (.or (.not (.call 4 [.pl] [(.bor 0)])) (.not (.call 1 [.pl, .pl, .pl] [(.bor 1), (.lit (.int (1))), (.ap .fdiv [(.ap .sub [(.bor 0), (.lit (.int (1)))]), (.lit (.int (2)))])]))) [.never] []]
def d5 : Dd := ⟨15, (Str.ofString "check_star"), [(Str.ofString "n"), (Str.ofString "k")], [(Str.ofString "n"), (Str.ofString "k")], ⟨2, [], 2, b5⟩⟩
/-- rings_in(n, k); slots 0:n 1:k 2:found 3:begin 4:ring -/
def b6 : List Sm := [.ex (.call 5 [.pl, .pl] [(.bor 0), (.bor 1)]),
  .asg (.nm 2) (.lst []),
  .for .rng [(.call 3 [.pl, .pl] [(.bor 0), (.bor 1)])] (.nm 3) [
   .asg (.nm 4) (.lst [(.var 3)]),
   .whl (.ap .ne [(.ap .mod [(.ap .add [(.ap .ix [(.bor 4), (.ap .neg [(.lit (.int (1)))])]), (.bor 1)]), (.bor 0)]), (.bor 3)]) [
    .ex (.mu .append 4 [(.ap .mod [(.ap .add [(.ap .ix [(.bor 4), (.ap .neg [(.lit (.int (1)))])]), (.bor 1)]), (.bor 0)])])],
   .ex (.mu .append 2 [(.ap .tupOf [(.bor 4)])])],
  .ret (.ap .tupOf [(.bor 2)])]
def d6 : Dd := ⟨16, (Str.ofString "rings_in"), [(Str.ofString "n"), (Str.ofString "k"), (Str.ofString "found"), (Str.ofString "begin"), (Str.ofString "ring")], [(Str.ofString "n"), (Str.ofString "k")], ⟨2, [], 5, b6⟩⟩
/-- points_inside(n, k); slots 0:n 1:k -/
def b7 : List Sm := [.ex (.call 5 [.pl, .pl] [(.bor 0), (.bor 1)]),
  .ret (.ap .mul [(.bor 0), (.ap .sub [(.bor 1), (.lit (.int (1)))])])]
def d7 : Dd := ⟨17, (Str.ofString "points_inside"), [(Str.ofString "n"), (Str.ofString "k")], [(Str.ofString "n"), (Str.ofString "k")], ⟨2, [], 2, b7⟩⟩
/-- one_stroke(n); slots 0:n 1:k -/
def b8 : List Sm := [.ite (.not (.call 4 [.pl] [(.bor 0)])) [.never] [],
  .ret (.ap .tupOf [(.lc .rng [(.lit (.int (1))), (.ap .add [(.ap .fdiv [(.ap .sub [(.bor 0), (.lit (.int (1)))]), (.lit (.int (2)))]), (.lit (.int (1)))])] (.nm 1) (.ap .eq [(.call 3 [.pl, .pl] [(.bor 0), (.bor 1)]), (.lit (.int (1)))]) (.var 1) [1])])]
def d8 : Dd := ⟨18, (Str.ofString "one_stroke"), [(Str.ofString "n"), (Str.ofString "k")], [(Str.ofString "n")], ⟨1, [], 2, b8⟩⟩
/-- turns_round(n, k); slots 0:n 1:k -/
def b9 : List Sm := [.ex (.call 5 [.pl, .pl] [(.bor 0), (.bor 1)]),
  .ret (.ap .fdiv [(.bor 1), (.call 3 [.pl, .pl] [(.bor 0), (.bor 1)])])]
def d9 : Dd := ⟨19, (Str.ofString "turns_round"), [(Str.ofString "n"), (Str.ofString "k")], [(Str.ofString "n"), (Str.ofString "k")], ⟨2, [], 2, b9⟩⟩
/-- same_as(n, k); slots 0:n 1:k 2:low -/
def b10 : List Sm := [.ex (.call 5 [.pl, .pl] [(.bor 0), (.bor 1)]),
  .asg (.nm 2) (.call 3 [.pl, .pl] [(.bor 0), (.bor 1)]),
  .ret (.tup [(.ap .fdiv [(.bor 0), (.bor 2)]), (.ap .fdiv [(.bor 1), (.bor 2)])])]
def d10 : Dd := ⟨20, (Str.ofString "same_as"), [(Str.ofString "n"), (Str.ofString "k"), (Str.ofString "low")], [(Str.ofString "n"), (Str.ofString "k")], ⟨2, [], 3, b10⟩⟩
/-- next_star(n, k); slots 0:n 1:k 2:dots 3:good 4:step -/
def b11 : List Sm := [.ex (.call 5 [.pl, .pl] [(.bor 0), (.bor 1)]),
  .for .rng [(.bor 0), (.ap .add [(.lit (.int (24))), (.lit (.int (1)))])] (.nm 2) [
   .asg (.nm 3) (.lc .rng [(.lit (.int (1))), (.ap .add [(.ap .fdiv [(.ap .sub [(.bor 2), (.lit (.int (1)))]), (.lit (.int (2)))]), (.lit (.int (1)))])] (.nm 4) (.and (.ap .eq [(.call 3 [.pl, .pl] [(.bor 2), (.bor 4)]), (.lit (.int (1)))]) (.ap .gt [(.tup [(.var 2), (.var 4)]), (.tup [(.var 0), (.var 1)])])) (.var 4) [4]),
   .ite (.ap .gt [(.ap .len [(.bor 3)]), (.lit (.int (0)))]) [.ret (.tup [(.var 2), (.ap .ix [(.bor 3), (.lit (.int (0)))])])] []],
  .ret (.lit .none)]
def d11 : Dd := ⟨21, (Str.ofString "next_star"), [(Str.ofString "n"), (Str.ofString "k"), (Str.ofString "dots"), (Str.ofString "good"), (Str.ofString "step")], [(Str.ofString "n"), (Str.ofString "k")], ⟨2, [], 5, b11⟩⟩
/-- joined_by(n, steps); slots 0:n 1:steps 2:one 3:other 4:low 5:step -/
def b12 : List Sm := [.ite (.not (.call 4 [.pl] [(.bor 0)])) [.never] [],
  .ite (.or (.not (.call 2 [.pl, .pl, .pl] [(.bor 1), (.lit (.int (1))), (.lit (.int (4)))])) (.not (.ap .all [(.lc .seq [(.bor 1)] (.nm 2) (.lit (.bool true)) (.call 1 [.pl, .pl, .pl] [(.bor 2), (.lit (.int (1))), (.ap .fdiv [(.ap .sub [(.bor 0), (.lit (.int (1)))]), (.lit (.int (2)))])]) [2])]))) [.never] [],
  .ite (.not (.ap .all [(.lc .zip [(.bor 1), (.ap (.sl true false) [(.bor 1), (.lit (.int (1)))])] (.tup [(.nm 2), (.nm 3)]) (.lit (.bool true)) (.ap .lt [(.bor 2), (.bor 3)]) [2, 3])])) [.never] [],
  .asg (.nm 4) (.var 0),
  .for .seq [(.bor 1)] (.nm 5) [
   .asg (.nm 4) (.call 3 [.pl, .pl] [(.bor 4), (.bor 5)])],
  .ret (.var 4)]
def d12 : Dd := ⟨22, (Str.ofString "joined_by"), [(Str.ofString "n"), (Str.ofString "steps"), (Str.ofString "one"), (Str.ofString "other"), (Str.ofString "low"), (Str.ofString "step")], [(Str.ofString "n"), (Str.ofString "steps")], ⟨2, [], 6, b12⟩⟩
/-- _law_hand(script); slots 0:script 1:cells 2:cell -/
def b13 : List Sm := [.asg (.nm 1) (.lc .seq [(.ap (.sl false true) [(.bor 0), (.lit (.int (63)))])] (.nm 2) (.lit (.bool true)) (.ap .abs [(.ap .intOf [(.bor 2)])]) [2]),
  .ret (.lst [(.var 1), (.lit (.int (0))), (.lit (.int (0))), (.ap .add [(.lit (.int (479))), (.ap .mul [(.lit (.int (73))), (.ap .len [(.bor 1)])])]), (.lit (.int (0)))])]
def d13 : Dd := ⟨24, (Str.ofString "_law_hand"), [(Str.ofString "script"), (Str.ofString "cells"), (Str.ofString "cell")], [(Str.ofString "script")], ⟨1, [], 3, b13⟩⟩
/-- _law_draw(hand, sides); slots 0:hand 1:sides 2:cell 3:digit 4:number -/
def b14 : List Sm := [.ite (.and (.ap .eq [(.ap .ix [(.bor 0), (.lit (.int (2)))]), (.lit (.int (0)))]) (.ap .lt [(.ap .ix [(.bor 0), (.lit (.int (1)))]), (.ap .len [(.ap .ix [(.bor 0), (.lit (.int (0)))])])])) [.asg (.nm 2) (.ap .ix [(.ap .ix [(.bor 0), (.lit (.int (0)))]), (.ap .ix [(.bor 0), (.lit (.int (1)))])]),
   .asg (.sub 0 (.lit (.int (1)))) (.ap .add [(.ap .ix [(.bor 0), (.lit (.int (1)))]), (.lit (.int (1)))]),
   .asg (.sub 0 (.lit (.int (3)))) (.ap .mod [(.ap .intOf [(.ap .add [(.ap .add [(.ap .mul [(.ap .ix [(.bor 0), (.lit (.int (3)))]), (.lit (.int (69621)))]), (.bor 2)]), (.lit (.int (29)))])]), (.lit (.int (2147483629)))]),
   .ite (.ap .ge [(.bor 2), (.ap .pow [(.lit (.int (10))), (.lit (.int (18)))])]) [.asg (.sub 0 (.lit (.int (2)))) (.var 2)] []] [],
  .ite (.ap .gt [(.ap .ix [(.bor 0), (.lit (.int (2)))]), (.lit (.int (0)))]) [.asg (.nm 3) (.ap .mod [(.ap .intOf [(.ap .ix [(.bor 0), (.lit (.int (2)))])]), (.bor 1)]),
   .asg (.sub 0 (.lit (.int (2)))) (.ap .fdiv [(.ap .ix [(.bor 0), (.lit (.int (2)))]), (.bor 1)]),
   .ret (.var 3)] [],
  .asg (.sub 0 (.lit (.int (4)))) (.ap .add [(.ap .ix [(.bor 0), (.lit (.int (4)))]), (.lit (.int (1)))]),
  .asg (.nm 4) (.ap .mod [(.ap .intOf [(.ap .mul [(.ap .intOf [(.ap .add [(.ap .ix [(.bor 0), (.lit (.int (3)))]), (.ap .mul [(.lit (.int (7919))), (.ap .ix [(.bor 0), (.lit (.int (4)))])])])]), (.lit (.int (48271)))])]), (.lit (.int (2147483647)))]),
  .asg (.nm 4) (.ap .mod [(.ap .intOf [(.ap .mul [(.bor 4), (.ap .add [(.ap .fdiv [(.bor 4), (.lit (.int (1009)))]), (.lit (.int (69621)))])])]), (.lit (.int (2147483647)))]),
  .asg (.nm 4) (.ap .mod [(.ap .intOf [(.ap .mul [(.bor 4), (.ap .add [(.ap .fdiv [(.bor 4), (.lit (.int (2003)))]), (.lit (.int (40692)))])])]), (.lit (.int (2147483399)))]),
  .ret (.ap .mod [(.ap .intOf [(.ap .fdiv [(.bor 4), (.lit (.int (16)))])]), (.bor 1)])]
def d14 : Dd := ⟨25, (Str.ofString "_law_draw"), [(Str.ofString "hand"), (Str.ofString "sides"), (Str.ofString "cell"), (Str.ofString "digit"), (Str.ofString "number")], [(Str.ofString "hand"), (Str.ofString "sides")], ⟨2, [0], 5, b14⟩⟩
/-- _law_is(one, other); slots 0:one 1:other 2:mine 3:yours 4:key -/
def b15 : List Sm := [.ite (.or (.ap (.isi .bool) [(.bor 0)]) (.ap (.isi .bool) [(.bor 1)])) [.ret (.and (.ap (.isi .bool) [(.bor 0)]) (.and (.ap (.isi .bool) [(.bor 1)]) (.ap .eq [(.bor 0), (.bor 1)])))] [],
  .ite (.or (.ap (.isi .tuple) [(.bor 0)]) (.ap (.isi .list) [(.bor 0)])) [.ite (.or (.ap .ne [(.ap (.isi .tuple) [(.bor 0)]), (.ap (.isi .tuple) [(.bor 1)])]) (.ap .ne [(.ap (.isi .list) [(.bor 0)]), (.ap (.isi .list) [(.bor 1)])])) [.ret (.lit (.bool false))] [],
   .ret (.and (.ap .eq [(.ap .len [(.bor 0)]), (.ap .len [(.bor 1)])]) (.ap .all [(.lc .zip [(.bor 0), (.bor 1)] (.tup [(.nm 2), (.nm 3)]) (.lit (.bool true)) (.call 15 [.pl, .pl] [(.bor 2), (.bor 3)]) [2, 3])]))] [],
  .ite (.ap (.isi .dict) [(.bor 0)]) [.ite (.or (.not (.ap (.isi .dict) [(.bor 1)])) (.ap .ne [(.ap .len [(.bor 0)]), (.ap .len [(.bor 1)])])) [.ret (.lit (.bool false))] [],
   .ret (.ap .all [(.lc .seq [(.bor 0)] (.nm 4) (.lit (.bool true)) (.and (.ap .isIn [(.bor 4), (.bor 1)]) (.call 15 [.pl, .pl] [(.ap .ix [(.bor 0), (.bor 4)]), (.ap .ix [(.bor 1), (.bor 4)])])) [4])])] [],
  .ret (.and (.ap .eq [(.ap (.isi .int) [(.bor 0)]), (.ap (.isi .int) [(.bor 1)])]) (.ap .eq [(.bor 0), (.bor 1)]))]
def d15 : Dd := ⟨26, (Str.ofString "_law_is"), [(Str.ofString "one"), (Str.ofString "other"), (Str.ofString "mine"), (Str.ofString "yours"), (Str.ofString "key")], [(Str.ofString "one"), (Str.ofString "other")], ⟨2, [], 5, b15⟩⟩
/-- _law_rings(n, k); slots 0:n 1:k 2:found 3:met 4:begin 5:ring 6:here 7:again 8:dot -/
def b16 : List Sm := [.mas [(.nm 2), (.nm 3)] [(.lst []), (.dct [])],
  .for .rng [(.bor 0)] (.nm 4) [
   .ite (.ap .notIn [(.bor 4), (.bor 3)]) [.mas [(.nm 5), (.nm 6)] [(.lst []), (.var 4)],
    .for .rng [(.bor 0)] (.nm 7) [
     .ite (.ap .notIn [(.bor 6), (.bor 5)]) [.ex (.mu .append 5 [(.var 6)]),
      .asg (.nm 6) (.ap .mod [(.ap .intOf [(.ap .add [(.bor 6), (.bor 1)])]), (.bor 0)])] []],
    .ex (.mu .update 3 [(.ap .dictOf [(.lc .seq [(.bor 5)] (.nm 8) (.lit (.bool true)) (.tup [(.var 8), (.lit (.bool true))]) [8])])]),
    .ex (.mu .append 2 [(.ap .tupOf [(.bor 5)])])] []],
  .ret (.var 2)]
def d16 : Dd := ⟨27, (Str.ofString "_law_rings"), [(Str.ofString "n"), (Str.ofString "k"), (Str.ofString "found"), (Str.ofString "met"), (Str.ofString "begin"), (Str.ofString "ring"), (Str.ofString "here"), (Str.ofString "again"), (Str.ofString "dot")], [(Str.ofString "n"), (Str.ofString "k")], ⟨2, [], 9, b16⟩⟩
/-- _law_sides(n, k); slots 0:n 1:k 2:at -/
def b17 : List Sm := [.ret (.ap .sortSet [(.lc .rng [(.bor 0)] (.nm 2) (.lit (.bool true)) (.tup [(.ap .min2 [(.bor 2), (.ap .mod [(.ap .intOf [(.ap .add [(.bor 2), (.bor 1)])]), (.bor 0)])]), (.ap .max2 [(.bor 2), (.ap .mod [(.ap .intOf [(.ap .add [(.bor 2), (.bor 1)])]), (.bor 0)])])]) [2])])]
def d17 : Dd := ⟨28, (Str.ofString "_law_sides"), [(Str.ofString "n"), (Str.ofString "k"), (Str.ofString "at")], [(Str.ofString "n"), (Str.ofString "k")], ⟨2, [], 3, b17⟩⟩
/-- _law_pieces(n, steps); slots 0:n 1:steps 2:names 3:k 4:at 5:mine 6:its 7:name -/
def b18 : List Sm := [.asg (.nm 2) (.ap (.lstIt .rng) [(.bor 0)]),
  .for .seq [(.bor 1)] (.nm 3) [
   .for .rng [(.bor 0)] (.nm 4) [
    .mas [(.nm 5), (.nm 6)] [(.ap .ix [(.bor 2), (.bor 4)]), (.ap .ix [(.bor 2), (.ap .mod [(.ap .intOf [(.ap .add [(.bor 4), (.bor 3)])]), (.bor 0)])])],
    .asg (.nm 2) (.lc .seq [(.bor 2)] (.nm 7) (.lit (.bool true)) (.ite (.ap .eq [(.bor 7), (.bor 6)]) (.var 5) (.var 7)) [7])]],
  .ret (.ap .lenSet [(.bor 2)])]
def d18 : Dd := ⟨29, (Str.ofString "_law_pieces"), [(Str.ofString "n"), (Str.ofString "steps"), (Str.ofString "names"), (Str.ofString "k"), (Str.ofString "at"), (Str.ofString "mine"), (Str.ofString "its"), (Str.ofString "name")], [(Str.ofString "n"), (Str.ofString "steps")], ⟨2, [], 8, b18⟩⟩
/-- law(script); slots 0:script 1:hand 2:turn 3:n 4:most 5:k 6:rings 7:sides 8:crossings 9:at 10:a 11:b 12:c 13:d 14:single 15:one 16:many 17:found 18:m 19:steps 20:again -/
def b19 : List Sm := [.asg (.nm 1) (.call 13 [.pl] [(.bor 0)]),
  .for .rng [(.lit (.int (5)))] (.nm 2) [
   .asg (.nm 3) (.ap .add [(.lit (.int (3))), (.call 14 [.ln 1, .pl] [(.lit (.int (14)))])]),
   .asg (.nm 4) (.ap .fdiv [(.ap .sub [(.bor 3), (.lit (.int (1)))]), (.lit (.int (2)))]),
   .asg (.nm 5) (.ap .add [(.lit (.int (1))), (.call 14 [.ln 1, .pl] [(.bor 4)])]),
   .asg (.nm 6) (.call 16 [.pl, .pl] [(.bor 3), (.bor 5)]),
   .ite (.not (.call 15 [.pl, .pl] [(.call 6 [.pl, .pl] [(.bor 3), (.bor 5)]), (.ap .tupOf [(.bor 6)])])) [.ret (.lit (.bool false))] [],
   .mas [(.nm 7), (.nm 8)] [(.call 17 [.pl, .pl] [(.bor 3), (.bor 5)]), (.lit (.int (0)))],
   .for .enu [(.bor 7)] (.tup [(.nm 9), (.tup [(.nm 10), (.nm 11)])]) [
    .asg (.nm 8) (.ap .add [(.bor 8), (.ap .len [(.lc .seq [(.ap (.sl false true) [(.bor 7), (.bor 9)])] (.tup [(.nm 12), (.nm 13)]) (.or (.chn (.bor 10) [.lt, .lt, .lt] [(.bor 12), (.bor 11), (.bor 13)]) (.chn (.bor 12) [.lt, .lt, .lt] [(.bor 10), (.bor 13), (.bor 11)])) (.lit (.int (1))) [12, 13])])])],
   .ite (.not (.call 15 [.pl, .pl] [(.call 7 [.pl, .pl] [(.bor 3), (.bor 5)]), (.bor 8)])) [.ret (.lit (.bool false))] [],
   .asg (.nm 14) (.lc .rng [(.lit (.int (1))), (.ap .add [(.bor 4), (.lit (.int (1)))])] (.nm 15) (.ap .eq [(.ap .len [(.call 16 [.pl, .pl] [(.bor 3), (.bor 15)])]), (.lit (.int (1)))]) (.var 15) [15]),
   .ite (.not (.call 15 [.pl, .pl] [(.call 8 [.pl] [(.bor 3)]), (.ap .tupOf [(.bor 14)])])) [.ret (.lit (.bool false))] [],
   .asg (.nm 16) (.ap .len [(.bor 6)]),
   .ite (.not (.call 15 [.pl, .pl] [(.lst [(.call 9 [.pl, .pl] [(.bor 3), (.bor 5)]), (.call 10 [.pl, .pl] [(.bor 3), (.bor 5)])]), (.lst [(.ap .fdiv [(.bor 5), (.bor 16)]), (.tup [(.ap .fdiv [(.bor 3), (.bor 16)]), (.ap .fdiv [(.bor 5), (.bor 16)])])])])) [.ret (.lit (.bool false))] [],
   .asg (.nm 17) (.lit .none),
   .for .rng [(.bor 3), (.lit (.int (25)))] (.nm 18) [
    .for .rng [(.ite (.ap .eq [(.bor 18), (.bor 3)]) (.ap .add [(.bor 5), (.lit (.int (1)))]) (.lit (.int (1)))), (.ap .add [(.ap .fdiv [(.ap .sub [(.bor 18), (.lit (.int (1)))]), (.lit (.int (2)))]), (.lit (.int (1)))])] (.nm 15) [
     .ite (.and (.ap .isNo [(.bor 17)]) (.ap .eq [(.ap .len [(.call 16 [.pl, .pl] [(.bor 18), (.bor 15)])]), (.lit (.int (1)))])) [.asg (.nm 17) (.tup [(.var 18), (.var 15)])] []]],
   .ite (.not (.call 15 [.pl, .pl] [(.call 11 [.pl, .pl] [(.bor 3), (.bor 5)]), (.bor 17)])) [.ret (.lit (.bool false))] [],
   .asg (.nm 19) (.ap .tupOf [(.ap .sortSet [(.lc .rng [(.ap .add [(.lit (.int (1))), (.call 14 [.ln 1, .pl] [(.lit (.int (4)))])])] (.nm 20) (.lit (.bool true)) (.ap .add [(.lit (.int (1))), (.call 14 [.ln 1, .pl] [(.bor 4)])]) [20])])]),
   .ite (.not (.call 15 [.pl, .pl] [(.call 12 [.pl, .pl] [(.bor 3), (.bor 19)]), (.call 18 [.pl, .pl] [(.bor 3), (.bor 19)])])) [.ret (.lit (.bool false))] []],
  .ret (.and (.ap .eq [(.call 7 [.pl, .pl] [(.lit (.int (5))), (.lit (.int (2)))]), (.lit (.int (5)))]) (.and (.ap .eq [(.call 6 [.pl, .pl] [(.lit (.int (6))), (.lit (.int (2)))]), (.tup [(.tup [(.lit (.int (0))), (.lit (.int (2))), (.lit (.int (4)))]), (.tup [(.lit (.int (1))), (.lit (.int (3))), (.lit (.int (5)))])])]) (.ap .isNo [(.call 11 [.pl, .pl] [(.lit (.int (24))), (.lit (.int (11)))])])))]
def d19 : Dd := ⟨30, (Str.ofString "law"), [(Str.ofString "script"), (Str.ofString "hand"), (Str.ofString "turn"), (Str.ofString "n"), (Str.ofString "most"), (Str.ofString "k"), (Str.ofString "rings"), (Str.ofString "sides"), (Str.ofString "crossings"), (Str.ofString "at"), (Str.ofString "a"), (Str.ofString "b"), (Str.ofString "c"), (Str.ofString "d"), (Str.ofString "single"), (Str.ofString "one"), (Str.ofString "many"), (Str.ofString "found"), (Str.ofString "m"), (Str.ofString "steps"), (Str.ofString "again")], [(Str.ofString "script")], ⟨1, [], 21, b19⟩⟩
def W : Lw := ⟨[d0, d1, d2, d3, d4, d5, d6, d7, d8, d9, d10, d11, d12, d13, d14, d15, d16, d17, d18, d19], [((Str.ofString "LEAST"), .int (3)), ((Str.ofString "MOST"), .int (24)), ((Str.ofString "MOST_STEPS"), .int (4))], []⟩
def T : List Fn := [d0.fn, d1.fn, d2.fn, d3.fn, d4.fn, d5.fn, d6.fn, d7.fn, d8.fn, d9.fn, d10.fn, d11.fn, d12.fn, d13.fn, d14.fn, d15.fn, d16.fn, d17.fn, d18.fn, d19.fn]
end K82

end

-- EvW
section
/-! Ev: words for walking the evaluator. -/
namespace Ev
open PySem L2

/-! ### steps of the evaluator -/
section
variable {cl : Call} {g : Gm} {t : Bool}
theorem vl_none (r : Out Gm (D × Bool × Gm)) : vl none r g = r.bind fun r => .ok (.v r.1 r.2.1, r.2.2) := rfl
theorem ok_bind {ε α β : Type} (a : α) (f : α → Out ε β) : (Out.ok a : Out ε α).bind f = f a := rfl
theorem bad_bind {ε α β : Type} (f : α → Out ε β) : (Out.bad : Out ε α).bind f = .bad := rfl
theorem ok_fl {α : Type} (a : α) (f : α → Fl) : (Out.ok a : Out Gm α).fl f = f a := rfl
theorem some_bind {α β : Type} (a : α) (f : α → Option β) : (some a).bind f = f a := rfl
theorem some_map {α β : Type} (a : α) (f : α → β) : (some a).map f = some (f a) := rfl
theorem fin_f (d : D) (f : Bool) : fin false d f g = .ok (d, f, g) := rfl
theorem fin_t (d : D) (f : Bool) : fin true d f g = (match truD d with | some b => .ok (.bool b, false, g) | none => .bad) := rfl
theorem slotD_at {i : Nat} {s : Sl} (h : g[i]? = some (some s)) : slotD g i = some s.d := by unfold slotD; rw [h]
end
/-- a value that is looked at -/
theorem bor_ok {cl : Call} {g : Gm} {i : Nat} {d : D} (h : slotD g i = some d) : vl (isBor (.bor i)) (ev cl false (.bor i) g) g = .ok (.b i, g) := by
  simp only [isBor, vl, h]

/-! ### loops -/
/-- a for whose turns keep a state -/
theorem forL_inv {α : Type} {g0 : Gm} {turn : D → Gm → Fl} (G : α → Gm) (I : Nat → α → Prop) (items : List D)
    (h : ∀ (i : Nat) (x : D) (s : α), items[i]? = some x → I i s → ∃ s' g2, I (i + 1) s' ∧ (turn x (G s) = .nx g2 ∨ turn x (G s) = .ct g2) ∧ wipeTo g0 g2 = G s') :
    ∀ (s : α), I 0 s → ∃ s', I items.length s' ∧ forL g0 turn items (G s) = .nx (G s') := by
  have key : ∀ (xs : List D) (n : Nat) (s : α), n + xs.length = items.length → items.drop n = xs → I n s → ∃ s', I items.length s' ∧ forL g0 turn xs (G s) = .nx (G s') := by
    intro xs
    induction xs with
    | nil => intro n s hn _ hi; exact ⟨s, by simpa [← hn] using hi, rfl⟩
    | cons x xs ih =>
      intro n s hn hd hi
      have hx : items[n]? = some x := by
        have := congrArg (fun l : List D => l[0]?) hd
        simpa using this
      obtain ⟨s', g2, h1, h2, h3⟩ := h n x s hx hi
      obtain ⟨s'', k1, k2⟩ := ih (n + 1) s' (by simp at hn; omega) (by
        have := congrArg List.tail hd
        simpa using this) h1
      refine ⟨s'', k1, ?_⟩
      unfold forL
      rcases h2 with h2 | h2 <;> (rw [h2]; simp only; rw [h3]; exact k2)
  intro s hi
  exact key items 0 s (by simp) (by simp) hi
/-- a comprehension whose turns leave the slots as they are -/
theorem lcL_pure {own : List Nat} {turn : D → Gm → Out Gm (Option D × Gm)} {g : Gm} (f : D → Option D) : ∀ (items : List D), (∀ x ∈ items, ∃ g2, turn x g = .ok (f x, g2) ∧ clr g2 own = g) → lcL own turn items g = .ok (items.filterMap f, g)
  | [], _ => rfl
  | x :: xs, h => by
    obtain ⟨g2, h1, h2⟩ := h x List.mem_cons_self
    unfold lcL
    rw [h1]
    simp only
    rw [h2, lcL_pure f xs fun y hy => h y (List.mem_cons_of_mem _ hy)]
    simp only [List.filterMap_cons]
    cases f x <;> rfl
/-- a comprehension whose turns keep a state -/
theorem lcL_inv {α : Type} {own : List Nat} {turn : D → Gm → Out Gm (Option D × Gm)} (G : α → Gm) (I : α → Prop) (P : D → D → Prop) : ∀ (items : List D), (∀ x ∈ items, ∀ s, I s → ∃ s' y g2, I s' ∧ P x y ∧ turn x (G s) = .ok (some y, g2) ∧ clr g2 own = G s') →
    ∀ s, I s → ∃ s' ys, I s' ∧ Paired P items ys ∧ lcL own turn items (G s) = .ok (ys, G s')
  | [], _, s, hs => ⟨s, [], hs, .nil, rfl⟩
  | x :: xs, h, s, hs => by
    obtain ⟨s', y, g2, h1, h2, h3, h4⟩ := h x List.mem_cons_self s hs
    obtain ⟨s'', ys, k1, k2, k3⟩ := lcL_inv G I P xs (fun y hy => h y (List.mem_cons_of_mem _ hy)) s' h1
    refine ⟨s'', y :: ys, k1, .cons h2 k2, ?_⟩
    unfold lcL
    rw [h3]
    simp only
    rw [h4, k3]
/-- while, by a measure -/
theorem whL_inv {α : Type} {g0 : Gm} {c : Gm → Out Gm (D × Bool × Gm)} {body : Gm → Fl} (G : α → Gm) (I : α → Prop) (μ : α → Nat) (E : α → Prop)
    (h : ∀ s, I s → (E s ∧ c (G s) = .ok (.bool false, false, G s)) ∨ ∃ g2 s', c (G s) = .ok (.bool true, false, G s) ∧ (body (G s) = .nx g2 ∨ body (G s) = .ct g2) ∧ wipeTo g0 g2 = G s' ∧ I s' ∧ μ s' < μ s) :
    ∀ (n : Nat) (s : α), I s → μ s < n → ∃ s', I s' ∧ E s' ∧ whL g0 c body n (G s) = .nx (G s')
  | 0, _, _, hn => by omega
  | n + 1, s, hs, hn => by
    rcases h s hs with ⟨e, h1⟩ | ⟨g2, s', h1, h2, h3, h4, h5⟩
    · refine ⟨s, hs, e, ?_⟩
      unfold whL
      rw [h1]
      rfl
    · obtain ⟨s'', k1, k2, k3⟩ := whL_inv G I μ E h n s' h4 (by omega)
      refine ⟨s'', k1, k2, ?_⟩
      unfold whL
      rw [h1]
      rcases h2 with h2 | h2 <;> (simp only [ok_fl]; rw [h2]; simp only; rw [h3]; exact k3)
end Ev

end

-- EvPv
section
/-! Ev: expressions that change no slot, as plain functions. -/
namespace Ev
open PySem L2

def boolV (x : Option (D × Bool)) : Option Bool := match x with
  | some (.bool b, _) => some b
  | _ => none
def optL {α : Type} : List (Option α) → Option (List α)
  | [] => some []
  | some a :: r => (optL r).map (a :: ·)
  | none :: _ => none
/-- is no name that is only looked at -/
def notBor : List Ex → Bool
  | [] => true
  | .bor _ :: _ => false
  | _ :: r => notBor r
/-- what is looked at is shared already -/
def borFrz (g : Gm) : List Ex → Bool
  | [] => true
  | .bor i :: r => (match g[i]? with | some (some ⟨_, .frz⟩) => true | _ => false) && borFrz g r
  | _ :: r => borFrz g r
def allPl : List Am → Bool
  | [] => true
  | .pl :: r => allPl r
  | _ :: _ => false
def vlsOf : List Ex → List (D × Bool) → List Vl
  | .bor i :: es, _ :: ds => .b i :: vlsOf es ds
  | _ :: es, d :: ds => .v d.1 d.2 :: vlsOf es ds
  | _, _ => []
def lcF (f : D → Option (Option D)) : List D → Option (List D)
  | [] => some []
  | x :: xs => match f x, lcF f xs with
    | some (some y), some ys => some (y :: ys)
    | some none, some ys => some ys
    | _, _ => none
/-- what is walked -/
def itP (k : ItK) (es : List Ex) (ds : List D) : Option (List D) := itX k es ds
mutual
def pv (cl : Call) (g : Gm) : Ex → Option (D × Bool)
  | .lit d => some (d, false)
  | .var i => (match g[i]? with
    | some (some ⟨d, .frz⟩) => some (d, false)
    | _ => none)
  | .bor i => (slotD g i).map fun d => (d, false)
  | .tup es => if notBor es then (pvs cl g es).bind fun ds => if line ds.length then some (.tuple (ds.map (·.1)), false) else none else none
  | .lst es => if notBor es then (pvs cl g es).bind fun ds => if line ds.length then some (.list (ds.map (·.1)), true) else none else none
  | .ap p es => (pvs cl g es).bind fun ds => pr p (ds.map (·.1))
  | .mt p a es => (pv cl g a).bind fun x => (pvs cl g es).bind fun ds => if mtOk p x.1 then pr p (x.1 :: ds.map (·.1)) else none
  | .not a => (boolV (if isBor a = none then pv cl g a else none)).map fun b => (.bool (!b), false)
  | .and a b => if isBor a = none ∧ isBor b = none then (boolV (pv cl g a)).bind fun x => if x then (boolV (pv cl g b)).map fun y => (.bool y, false) else some (.bool false, false) else none
  | .or a b => if isBor a = none ∧ isBor b = none then (boolV (pv cl g a)).bind fun x => if x then some (.bool true, false) else (boolV (pv cl g b)).map fun y => (.bool y, false) else none
  | .ite c a b => if isBor a = none ∧ isBor b = none then (tv cl g c).bind fun x => if x then pv cl g a else pv cl g b else none
  | .chn a [p, q] [b, c] => (pv cl g a).bind fun x => (pv cl g b).bind fun y => (boolV (pr p [x.1, y.1])).bind fun u => if u then (pv cl g c).bind fun z => (boolV (pr q [y.1, z.1])).map fun w => (.bool w, false) else some (.bool false, false)
  | .call f ms es => if allPl ms && decide (ms.length = es.length) then (pvs cl g es).bind fun ds => match cl f (ds.map (·.1)) with
    | .ok (d, fr, []) => if flatD d || borFrz g es then some (d, fr) else none
    | _ => none
    else none
  | .lc k es tg c e own => (pvs cl g es).bind fun ds => (itX k es (ds.map (·.1))).bind fun items => if own.all (plainAt g) && line items.length && tgIn tg own then
      (lcF (fun x => match bindT tg x (clr (lockAll g (vlsOf es ds)) own) with
        | none => none
        | some g2 => match tv cl g2 c with
          | some true => (if isBor e = none then pv cl g2 e else none).map fun y => some y.1
          | some false => some none
          | none => none) items).map fun ys => (.list ys, true)
    else none
  | _ => none
/-- as a test -/
def tv (cl : Call) (g : Gm) : Ex → Option Bool
  | .not a => (tv cl g a).map (!·)
  | .and a b => (tv cl g a).bind fun x => if x then tv cl g b else some false
  | .or a b => (tv cl g a).bind fun x => if x then some true else tv cl g b
  | .ite c a b => (tv cl g c).bind fun x => if x then tv cl g a else tv cl g b
  | e => (pv cl g e).bind fun x => truD x.1
def pvs (cl : Call) (g : Gm) : List Ex → Option (List (D × Bool))
  | [] => some []
  | e :: es => (pv cl g e).bind fun x => (pvs cl g es).map (x :: ·)
end

/-! ### slots -/
theorem unlock_at1 : ∀ (g g' : Gm) (j : Nat), LkSl g[j]? g'[j]? → (unlock g g')[j]? = if j < g'.length then (if j < g.length then g[j]? else g'[j]?) else none
  | [], g', j, h => by
    unfold unlock
    by_cases hj : j < g'.length
    · rw [if_pos hj, if_neg (by simp)]
    · rw [if_neg hj, List.getElem?_eq_none (by omega)]
  | x :: g, [], j, h => by simp [unlock]
  | x :: g, y :: g', 0, h => by
    rcases h with h | ⟨d, h, h'⟩
    · simp at h
      subst h
      unfold unlock
      split
      · rename_i e1 e2; cases e1; cases e2
      · rename_i e1 e2; cases e1; cases e2
      · rename_i e1 e2; cases e1; cases e2; simp
      · rename_i e1; cases e1
      · rename_i e1 e2; cases e1
    · simp at h h'
      subst h'
      rcases h with h | h <;> (subst h; simp [unlock])
  | x :: g, y :: g', j + 1, h => by
    have ih := unlock_at1 g g' j (by simpa using h)
    have e : (unlock (x :: g) (y :: g'))[j + 1]? = (unlock g g')[j]? := by
      conv => lhs; unfold unlock
      split
      · rename_i e1 e2; cases e1; cases e2; simp
      · rename_i e1 e2; cases e1; cases e2; simp
      · rename_i e1 e2; cases e1; cases e2; simp
      · rename_i e1; cases e1
      · rename_i e1 e2; cases e1
    rw [e, ih]
    simp
theorem back_in : ∀ (g0 g : Gm) (own : List Nat) (j : Nat), j ∈ own → j < g.length → j < g0.length → (back g0 g own)[j]? = g0[j]?
  | g0, g, [], j, h, _, _ => by simp at h
  | g0, g, i :: r, j, h, h1, h2 => by
    rw [back]
    by_cases a : i = j
    · subst a
      rw [List.getElem?_set_self (by rw [back_len]; exact h1), List.getElem?_eq_getElem h2]
    · rw [List.getElem?_set_ne a]
      exact back_in g0 g r j ((List.mem_cons.mp h).resolve_left fun z => a z.symm) h1 h2
theorem clr_in : ∀ (g : Gm) (own : List Nat) (j : Nat), j ∈ own → j < g.length → (clr g own)[j]? = some none
  | g, [], j, h, _ => by simp at h
  | g, i :: r, j, h, hl => by
    rw [clr]
    by_cases a : i = j
    · subst a; rw [List.getElem?_set_self (by rw [clr_len]; exact hl)]
    · rw [List.getElem?_set_ne a]; exact clr_in g r j ((List.mem_cons.mp h).resolve_left fun z => a z.symm) hl
/-- the slots behind a comprehension that changes none -/
theorem back_clr {g : Gm} {own : List Nat} {ls : List Vl} : back g (unlock g (clr (lockAll g ls) own)) own = g := by
  apply List.ext_getElem?
  intro j
  have hl : (unlock g (clr (lockAll g ls) own)).length = g.length := by rw [unlock_len, clr_len, lockAll_len]
  by_cases hj : j < g.length
  · by_cases ho : j ∈ own
    · exact back_in _ _ _ _ ho (by omega) hj
    · rw [(back_at _ _ _ _).1 ho]
      have h2 : LkSl g[j]? (clr (lockAll g ls) own)[j]? := by
        rw [(clr_at _ _ _).1 ho]; exact lockAll_at g ls j
      rw [unlock_at1 _ _ _ h2, clr_len, lockAll_len, if_pos hj, if_pos hj]
  · rw [List.getElem?_eq_none (by rw [back_len]; omega), List.getElem?_eq_none (by omega)]
mutual
theorem bindT_at : ∀ {tg : Tg} {x : D} {g g2 : Gm} {own : List Nat}, tgIn tg own = true → bindT tg x g = some g2 → g2.length = g.length ∧ ∀ j, j ∉ own → g2[j]? = g[j]?
  | .nm i, x, g, g2, own, h1, h2 => by
    unfold bindT at h2
    split at h2
    · cases h2
      refine ⟨List.length_set .., fun j hj => ?_⟩
      have hi : i ∈ own := by unfold tgIn at h1; simpa using h1
      rw [List.getElem?_set_ne (fun e : i = j => hj (e ▸ hi))]
    · cases h2
  | .tup ts, .tuple ds, g, g2, own, h1, h2 => by
    unfold bindT at h2
    unfold tgIn at h1
    exact bindTs_at h1 h2
  | .tup ts, .none, _, _, _, _, h2 => by unfold bindT at h2; cases h2
  | .tup ts, .bool _, _, _, _, _, h2 => by unfold bindT at h2; cases h2
  | .tup ts, .int _, _, _, _, _, h2 => by unfold bindT at h2; cases h2
  | .tup ts, .str _, _, _, _, _, h2 => by unfold bindT at h2; cases h2
  | .tup ts, .list _, _, _, _, _, h2 => by unfold bindT at h2; cases h2
  | .tup ts, .dict _, _, _, _, _, h2 => by unfold bindT at h2; cases h2
theorem bindTs_at : ∀ {ts : List Tg} {xs : List D} {g g2 : Gm} {own : List Nat}, tgsIn ts own = true → bindTs ts xs g = some g2 → g2.length = g.length ∧ ∀ j, j ∉ own → g2[j]? = g[j]?
  | [], [], g, g2, own, _, h2 => by unfold bindTs at h2; cases h2; exact ⟨rfl, fun _ _ => rfl⟩
  | [], _ :: _, _, _, _, _, h2 => by unfold bindTs at h2; cases h2
  | _ :: _, [], _, _, _, _, h2 => by unfold bindTs at h2; cases h2
  | t :: ts, x :: xs, g, g2, own, h1, h2 => by
    unfold bindTs at h2
    unfold tgsIn at h1
    rw [Bool.and_eq_true] at h1
    cases e : bindT t x g with
    | none => rw [e] at h2; cases h2
    | some g1 =>
      rw [e] at h2
      obtain ⟨a1, a2⟩ := bindT_at h1.1 e
      obtain ⟨b1, b2⟩ := bindTs_at h1.2 (show bindTs ts xs g1 = some g2 from h2)
      exact ⟨b1.trans a1, fun j hj => (b2 j hj).trans (a2 j hj)⟩
end
theorem clr_same {g g2 : Gm} {own : List Nat} (hl : g2.length = g.length) (h : ∀ j, j ∉ own → g2[j]? = g[j]?) : clr g2 own = clr g own := by
  apply List.ext_getElem?
  intro j
  by_cases ho : j ∈ own
  · by_cases hj : j < g.length
    · rw [clr_in _ _ _ ho hj, clr_in _ _ _ ho (by omega)]
    · rw [List.getElem?_eq_none (by rw [clr_len]; omega), List.getElem?_eq_none (by rw [clr_len]; omega)]
  · rw [(clr_at _ _ _).1 ho, (clr_at _ _ _).1 ho]; exact h j ho
theorem clr_clr {g : Gm} {own : List Nat} : clr (clr g own) own = clr g own := clr_same (clr_len g own) fun j hj => (clr_at g own j).1 hj

/-! ### the two agree -/
theorem boolV_of {x : Option (D × Bool)} {b : Bool} (h : boolV x = some b) : ∃ f, x = some (.bool b, f) := by
  unfold boolV at h
  split at h
  · cases h; exact ⟨_, rfl⟩
  · cases h
theorem allPl_lent : ∀ {ms : List Am}, allPl ms = true → lent ms = []
  | [], _ => rfl
  | .pl :: r, h => allPl_lent (ms := r) h
  | .tm :: r, h => by cases h
  | .ln _ :: r, h => by cases h
theorem allPl_args {g : Gm} : ∀ {ms : List Am} {vs : List Vl} {ds : List D}, allPl ms = true → ms.length = vs.length → resAll g vs = some ds → argsOf g ms vs = some ds
  | [], [], ds, _, _, h => by unfold resAll at h; cases h; rfl
  | [], _ :: _, _, _, hl, _ => by simp at hl
  | .pl :: r, [], _, _, hl, _ => by simp at hl
  | .pl :: r, v :: vs, ds, h, hl, hr => by
    unfold resAll at hr
    unfold argsOf
    cases e : v.res g with
    | none => rw [e] at hr; cases hr
    | some d =>
      rw [e] at hr
      cases e2 : resAll g vs with
      | none => rw [e2] at hr; cases hr
      | some ds' => rw [e2] at hr; cases hr; rw [allPl_args (ms := r) h (by simpa using hl) e2]; rfl
  | .tm :: r, _, _, h, _, _ => by cases h
  | .ln _ :: r, _, _, h, _, _ => by cases h
theorem allPl_ours : ∀ {ms : List Am} {ds : List D}, allPl ms = true → ours ms ds = []
  | [], _, _ => rfl
  | .pl :: r, ds, h => allPl_ours (ms := r) h
  | .tm :: r, _, h => by cases h
  | .ln _ :: r, _, h => by cases h
theorem frzB_same {g : Gm} : ∀ {es : List Ex} {ds : List (D × Bool)}, borFrz g es = true → frzB g (vlsOf es ds) = some g := by
  intro es
  induction es with
  | nil => intro ds _; rfl
  | cons e es ih =>
    intro ds h
    cases ds with
    | nil => cases e <;> rfl
    | cons d ds =>
      by_cases hb : ∃ i, e = .bor i
      · obtain ⟨i, rfl⟩ := hb
        unfold borFrz at h
        rw [Bool.and_eq_true] at h
        have h1 := h.1
        show frzB g (.b i :: vlsOf es ds) = some g
        unfold frzB
        split at h1
        · rename_i d' e; rw [e]; exact ih h.2
        · cases h1
      · have e1 : vlsOf (e :: es) (d :: ds) = .v d.1 d.2 :: vlsOf es ds := by cases e <;> first | rfl | exact absurd ⟨_, rfl⟩ hb
        have e2 : borFrz g (e :: es) = borFrz g es := by cases e <;> first | rfl | exact absurd ⟨_, rfl⟩ hb
        rw [e1]
        unfold frzB
        exact ih (e2 ▸ h)
theorem notBor_keep : ∀ {es : List Ex} {ds : List (D × Bool)}, notBor es = true → es.length = ds.length → keepAll (vlsOf es ds) = some (ds.map (·.1))
  | [], [], _, _ => rfl
  | [], _ :: _, _, h => by simp at h
  | _ :: _, [], _, h => by simp at h
  | e :: es, d :: ds, hb, hl => by
    have hn : ∀ i, e ≠ .bor i := fun i z => by subst z; cases hb
    have e1 : vlsOf (e :: es) (d :: ds) = .v d.1 d.2 :: vlsOf es ds := by cases e <;> first | rfl | exact absurd rfl (hn _)
    have e2 : notBor es = true := by cases e <;> first | exact hb | exact absurd rfl (hn _)
    rw [e1]
    unfold keepAll
    rw [notBor_keep e2 (by simpa using hl)]
    rfl
section
variable {cl : Call}
/-- what pv says of e -/
def PvOk (cl : Call) (g : Gm) (e : Ex) : Prop := (∀ r, pv cl g e = some r → (isBor e = none → ev cl false e g = .ok (r.1, r.2, g)) ∧ (∀ i, e = .bor i → slotD g i = some r.1)) ∧ ∀ b, tv cl g e = some b → ev cl true e g = .ok (.bool b, false, g)
def PvsOk (cl : Call) (g : Gm) (es : List Ex) : Prop := ∀ ds, pvs cl g es = some ds → es.length = ds.length ∧ evs cl es g = .ok (vlsOf es ds, g) ∧ resAll g (vlsOf es ds) = some (ds.map (·.1))
theorem isBor_some {e : Ex} {i : Nat} (h : isBor e = some i) : e = .bor i := by cases e <;> first | (cases h; rfl) | cases h
/-- a value form, as a test -/
theorem pv_tst {g : Gm} {e : Ex} (hv : vForm e = true) (ht : tv cl g e = (pv cl g e).bind fun x => truD x.1) (h : ∀ r, pv cl g e = some r → ev cl false e g = .ok (r.1, r.2, g)) : PvOk cl g e := by
  refine ⟨fun r hr => ⟨fun _ => h r hr, fun i z => by subst z; cases hv⟩, fun b hb => ?_⟩
  rw [ht] at hb
  cases e1 : pv cl g e with
  | none => rw [e1] at hb; cases hb
  | some r =>
    rw [e1] at hb
    have hb : truD r.1 = some b := hb
    rw [ev_tst cl e g hv, h r e1]
    show fin true r.1 r.2 g = _
    unfold fin
    rw [if_pos rfl, hb]
theorem vl_of {g : Gm} {e : Ex} (h : PvOk cl g e) {r : D × Bool} (hr : pv cl g e = some r) : ∃ v, vl (isBor e) (ev cl false e g) g = .ok (v, g) ∧ v.res g = some r.1 ∧ (∀ es ds, vlsOf (e :: es) (r :: ds) = v :: vlsOf es ds) := by
  obtain ⟨h1, h2⟩ := h.1 r hr
  cases hb : isBor e with
  | none =>
    refine ⟨.v r.1 r.2, by rw [h1 hb]; rfl, rfl, fun es ds => ?_⟩
    cases e <;> first | rfl | cases hb
  | some i =>
    have := isBor_some hb
    subst this
    have hs := h2 i rfl
    exact ⟨.b i, by simp only [vl, hs], hs, fun es ds => rfl⟩
theorem vls_nil {g : Gm} : PvsOk cl g [] := fun ds h => by
  simp only [pvs] at h
  cases h
  exact ⟨rfl, by simp only [evs, vlsOf], rfl⟩
theorem vls_cons {g : Gm} {e : Ex} {es : List Ex} (h : PvOk cl g e) (hs : PvsOk cl g es) : PvsOk cl g (e :: es) := fun ds hd => by
  simp only [pvs] at hd
  cases e1 : pv cl g e with
  | none => rw [e1] at hd; cases hd
  | some r =>
    rw [e1] at hd
    simp only [Option.bind] at hd
    cases e2 : pvs cl g es with
    | none => rw [e2] at hd; cases hd
    | some rs =>
      rw [e2] at hd
      cases hd
      obtain ⟨v, k1, k2, k3⟩ := vl_of h e1
      obtain ⟨m1, m2, m3⟩ := hs rs e2
      refine ⟨by simp [m1], ?_, ?_⟩
      · simp only [evs]
        rw [k1]
        simp only [Out.bind]
        rw [m2]
        simp only
        rw [k3]
      · rw [k3]
        unfold resAll
        rw [k2, m3]
        rfl
/-- a comprehension's turns -/
theorem lcF_ok {gl : Gm} {own : List Nat} {tg : Tg} {c e : Ex} (hg : clr gl own = gl) (ht : tgIn tg own = true) (hc : ∀ g2, PvOk cl g2 c) (he : ∀ g2, PvOk cl g2 e) : ∀ {items ys : List D}, lcF (fun x => match bindT tg x gl with
        | none => none
        | some g2 => match tv cl g2 c with
          | some true => (if isBor e = none then pv cl g2 e else none).map fun y => some y.1
          | some false => some none
          | none => none) items = some ys → lcL own (lcT tg (fun g2 => ev cl true c g2) (fun g2 => ev cl false e g2)) items gl = .ok (ys, gl)
  | [], ys, h => by unfold lcF at h; cases h; rfl
  | x :: xs, ys, h => by
    unfold lcF at h
    cases e1 : bindT tg x gl with
    | none => rw [e1] at h; simp only at h; cases h
    | some g2 =>
      rw [e1] at h
      simp only at h
      obtain ⟨b1, b2⟩ := bindT_at ht e1
      have hcl : clr g2 own = gl := (clr_same b1 b2).trans hg
      cases e2 : tv cl g2 c with
      | none => rw [e2] at h; simp only at h; cases h
      | some b =>
        have hev := (hc g2).2 b e2
        rw [e2] at h
        cases b with
        | false =>
          simp only at h
          split at h
          · rename_i y ys' z1 z2; cases z1
          · rename_i ys' z1 z2
            cases h
            have ih := lcF_ok hg ht hc he z2
            have ht : lcT tg (fun g2 => ev cl true c g2) (fun g2 => ev cl false e g2) x gl = .ok (none, g2) := by
              unfold lcT
              rw [e1]
              simp only
              rw [hev]
            unfold lcL
            rw [ht]
            simp only
            rw [hcl, ih]
          · cases h
        | true =>
          simp only at h
          by_cases hb : isBor e = none
          case neg => rw [if_neg hb] at h; simp only [Option.map] at h; cases h
          rw [if_pos hb] at h
          cases e3 : pv cl g2 e with
          | none => rw [e3] at h; simp only [Option.map] at h; cases h
          | some y =>
            rw [e3] at h
            simp only [Option.map] at h
            have hev2 := ((he g2).1 y e3).1 hb
            split at h
            · rename_i y' ys' z1 z2
              cases z1
              cases h
              have ih := lcF_ok hg ht hc he z2
              have ht : lcT tg (fun g2 => ev cl true c g2) (fun g2 => ev cl false e g2) x gl = .ok (some y.1, g2) := by
                unfold lcT
                rw [e1]
                simp only
                rw [hev]
                simp only
                rw [hev2]
              unfold lcL
              rw [ht]
              simp only
              rw [hcl, ih]
            · rename_i z1 z2; cases z1
            · cases h
theorem ite_n {α : Type} {p : Prop} [Decidable p] {x : Option α} {r : α} (h : (if p then x else none) = some r) : p ∧ x = some r := by
  by_cases hp : p
  · rw [if_pos hp] at h; exact ⟨hp, h⟩
  · rw [if_neg hp] at h; cases h
theorem bind_s {α β : Type} {x : Option α} {f : α → Option β} {r : β} (h : x.bind f = some r) : ∃ a, x = some a ∧ f a = some r := by
  cases x with
  | none => cases h
  | some a => exact ⟨a, rfl, h⟩
theorem map_s {α β : Type} {x : Option α} {f : α → β} {r : β} (h : x.map f = some r) : ∃ a, x = some a ∧ f a = r := by
  cases x with
  | none => cases h
  | some a => cases h; exact ⟨a, rfl, rfl⟩
mutual
theorem pv_ok (cl : Call) : ∀ (e : Ex) (g : Gm), PvOk cl g e
  | .lit d, g => pv_tst rfl (by simp only [tv]) fun r h => by simp only [pv] at h; cases h; simp only [ev, fin]; rfl
  | .var i, g => pv_tst rfl (by simp only [tv]) fun r h => by
    simp only [pv] at h
    simp only [ev, readVar]
    split at h
    · rename_i d e; cases h; rw [e]; rfl
    · cases h
  | .bor i, g => by
    refine ⟨fun r h => ⟨fun z => (by cases z), fun j z => ?_⟩, fun b hb => ?_⟩
    · cases z
      simp only [pv] at h
      obtain ⟨d, h1, h2⟩ := map_s h
      subst h2
      exact h1
    · simp only [tv, pv] at hb
      obtain ⟨r, h1, h2⟩ := bind_s hb
      obtain ⟨d, h3, h4⟩ := map_s h1
      subst h4
      simp only [ev, if_true, h3, fin]
      have h2 : truD d = some b := h2
      rw [h2]
  | .tup es, g => pv_tst rfl (by simp only [tv]) fun r h => by
    simp only [pv] at h
    obtain ⟨h1, h⟩ := ite_n h
    obtain ⟨ds, h2, h⟩ := bind_s h
    obtain ⟨h3, h⟩ := ite_n h
    cases h
    obtain ⟨m1, m2, m3⟩ := pvs_ok cl es g ds h2
    simp only [ev]
    rw [m2]
    simp only [Out.bind]
    rw [notBor_keep h1 m1]
    simp only [List.length_map, h3, if_true]
    rfl
  | .lst es, g => pv_tst rfl (by simp only [tv]) fun r h => by
    simp only [pv] at h
    obtain ⟨h1, h⟩ := ite_n h
    obtain ⟨ds, h2, h⟩ := bind_s h
    obtain ⟨h3, h⟩ := ite_n h
    cases h
    obtain ⟨m1, m2, m3⟩ := pvs_ok cl es g ds h2
    simp only [ev]
    rw [m2]
    simp only [Out.bind]
    rw [notBor_keep h1 m1]
    simp only [List.length_map, h3, if_true]
    rfl
  | .dct es, g => pv_tst rfl (by simp only [tv]) fun r h => by simp only [pv] at h; cases h
  | .ap p es, g => pv_tst rfl (by simp only [tv]) fun r h => by
    simp only [pv] at h
    obtain ⟨ds, h2, h⟩ := bind_s h
    obtain ⟨m1, m2, m3⟩ := pvs_ok cl es g ds h2
    simp only [ev]
    rw [m2]
    simp only [Out.bind]
    rw [m3]
    simp only [Option.bind, h]
    rfl
  | .mt p a es, g => pv_tst rfl (by simp only [tv]) fun r h => by
    simp only [pv] at h
    obtain ⟨x, h1, h⟩ := bind_s h
    obtain ⟨ds, h2, h⟩ := bind_s h
    obtain ⟨h3, h⟩ := ite_n h
    obtain ⟨v, k1, k2, k3⟩ := vl_of (pv_ok cl a g) h1
    obtain ⟨m1, m2, m3⟩ := pvs_ok cl es g ds h2
    simp only [ev]
    rw [k1]
    simp only [Out.bind]
    rw [k2]
    simp only [h3, if_true]
    rw [m2]
    simp only [Out.bind]
    have : resAll g (v :: vlsOf es ds) = some (x.1 :: ds.map (·.1)) := by unfold resAll; rw [k2, m3]; rfl
    rw [this]
    simp only [beq_self_eq_true, if_true, h]
    rfl
  | .mu m i es, g => pv_tst rfl (by simp only [tv]) fun r h => by simp only [pv] at h; cases h
  | .not a, g => by
    have ih := pv_ok cl a g
    refine ⟨fun r h => ⟨fun _ => ?_, fun i z => by cases z⟩, fun b hb => ?_⟩
    · simp only [pv] at h
      obtain ⟨b, h1, h2⟩ := map_s h
      subst h2
      by_cases hn : isBor a = none
      · rw [if_pos hn] at h1
        obtain ⟨f, h3⟩ := boolV_of h1
        simp only [ev]
        rw [(ih.1 _ h3).1 hn]
        rfl
      · rw [if_neg hn] at h1; cases h1
    · simp only [tv] at hb
      obtain ⟨x, h1, h2⟩ := map_s hb
      subst h2
      simp only [ev]
      rw [ih.2 x h1]
      rfl
  | .and a b, g => by
    have iha := pv_ok cl a g
    have ihb := pv_ok cl b g
    refine ⟨fun r h => ⟨fun _ => ?_, fun i z => by cases z⟩, fun y hy => ?_⟩
    · simp only [pv] at h
      obtain ⟨hn, h⟩ := ite_n h
      obtain ⟨x, h1, h⟩ := bind_s h
      obtain ⟨f, h3⟩ := boolV_of h1
      simp only [ev]
      rw [(iha.1 _ h3).1 hn.1]
      cases x with
      | false => cases h; rfl
      | true =>
        obtain ⟨y, h4, h5⟩ := map_s h
        obtain ⟨f2, h6⟩ := boolV_of h4
        subst h5
        simp only [Out.bind]
        rw [(ihb.1 _ h6).1 hn.2]
    · simp only [tv] at hy
      obtain ⟨x, h1, h⟩ := bind_s hy
      simp only [ev]
      rw [iha.2 x h1]
      cases x with
      | false => cases h; rfl
      | true =>
        simp only [Out.bind]
        rw [ihb.2 y h]
  | .or a b, g => by
    have iha := pv_ok cl a g
    have ihb := pv_ok cl b g
    refine ⟨fun r h => ⟨fun _ => ?_, fun i z => by cases z⟩, fun y hy => ?_⟩
    · simp only [pv] at h
      obtain ⟨hn, h⟩ := ite_n h
      obtain ⟨x, h1, h⟩ := bind_s h
      obtain ⟨f, h3⟩ := boolV_of h1
      simp only [ev]
      rw [(iha.1 _ h3).1 hn.1]
      cases x with
      | true => cases h; rfl
      | false =>
        obtain ⟨y, h4, h5⟩ := map_s h
        obtain ⟨f2, h6⟩ := boolV_of h4
        subst h5
        simp only [Out.bind]
        rw [(ihb.1 _ h6).1 hn.2]
    · simp only [tv] at hy
      obtain ⟨x, h1, h⟩ := bind_s hy
      simp only [ev]
      rw [iha.2 x h1]
      cases x with
      | true => cases h; rfl
      | false =>
        simp only [Out.bind]
        rw [ihb.2 y h]
  | .ite c a b, g => by
    have ihc := pv_ok cl c g
    have iha := pv_ok cl a g
    have ihb := pv_ok cl b g
    refine ⟨fun r h => ⟨fun _ => ?_, fun i z => by cases z⟩, fun y hy => ?_⟩
    · simp only [pv] at h
      obtain ⟨hn, h⟩ := ite_n h
      obtain ⟨x, h1, h⟩ := bind_s h
      simp only [ev]
      rw [ihc.2 x h1]
      cases x with
      | true => exact (iha.1 r h).1 hn.1
      | false => exact (ihb.1 r h).1 hn.2
    · simp only [tv] at hy
      obtain ⟨x, h1, h⟩ := bind_s hy
      simp only [ev]
      rw [ihc.2 x h1]
      cases x with
      | true => exact iha.2 y h
      | false => exact ihb.2 y h
  | .chn a ps es, g => by
    have key : ∀ r, pv cl g (.chn a ps es) = some r → ∀ t, ev cl t (.chn a ps es) g = .ok (r.1, r.2, g) ∧ ∃ b, r = (.bool b, false) := fun r h t => by
      match ps, es, h with
      | [p, q], [b, c], h =>
        have iha := pv_ok cl a g
        have ihb := pv_ok cl b g
        have ihc := pv_ok cl c g
        simp only [pv] at h
        obtain ⟨x, h1, h⟩ := bind_s h
        obtain ⟨y, h2, h⟩ := bind_s h
        obtain ⟨u, h3, h⟩ := bind_s h
        obtain ⟨f3, h3⟩ := boolV_of h3
        obtain ⟨va, k1, k2, _⟩ := vl_of iha h1
        obtain ⟨vb, l1, l2, _⟩ := vl_of ihb h2
        have r1 : resAll g [va, vb] = some [x.1, y.1] := by unfold resAll; rw [k2]; unfold resAll; rw [l2]; rfl
        simp only [ev, evc]
        rw [k1]
        simp only [Out.bind]
        rw [l1]
        simp only [Out.bind]
        rw [r1]
        simp only [Option.bind, h3]
        cases u with
        | false => cases h; exact ⟨rfl, _, rfl⟩
        | true =>
          obtain ⟨z, h4, h⟩ := bind_s h
          obtain ⟨w, h5, h⟩ := map_s h
          obtain ⟨f5, h5⟩ := boolV_of h5
          subst h
          obtain ⟨vc, m1, m2, _⟩ := vl_of ihc h4
          have r2 : resAll g [vb, vc] = some [y.1, z.1] := by unfold resAll; rw [l2]; unfold resAll; rw [m2]; rfl
          simp only [List.isEmpty_cons, Bool.not_false, Bool.and_true, if_true]
          rw [m1]
          simp only [Out.bind]
          rw [r2]
          simp only [Option.bind, h5, List.isEmpty_nil, Bool.not_true, Bool.and_false]
          exact ⟨rfl, _, rfl⟩
      | [], _, h => simp only [pv] at h; cases h
      | [_], _, h => simp only [pv] at h; cases h
      | _ :: _ :: _ :: _, _, h => simp only [pv] at h; cases h
      | [_, _], [], h => simp only [pv] at h; cases h
      | [_, _], [_], h => simp only [pv] at h; cases h
      | [_, _], _ :: _ :: _ :: _, h => simp only [pv] at h; cases h
    refine ⟨fun r h => ⟨fun _ => (key r h false).1, fun i z => by cases z⟩, fun b hb => ?_⟩
    simp only [tv] at hb
    obtain ⟨r, h1, h2⟩ := bind_s hb
    obtain ⟨k1, b', k2⟩ := key r h1 true
    subst k2
    cases h2
    exact k1
  | .call f ms es, g => pv_tst rfl (by simp only [tv]) fun r h => by
    simp only [pv] at h
    obtain ⟨h0, h⟩ := ite_n h
    rw [Bool.and_eq_true, decide_eq_true_eq] at h0
    obtain ⟨ds, h1, h⟩ := bind_s h
    obtain ⟨m1, m2, m3⟩ := pvs_ok cl es g ds h1
    have hl := allPl_lent h0.1
    have hlen : (vlsOf es ds).length = es.length := by
      have := m2
      exact evs_len this
    have ha := allPl_args h0.1 (by rw [h0.2, hlen]) m3
    split at h
    · rename_i d fr e1
      obtain ⟨h2, h⟩ := ite_n h
      cases h
      have hok : okB ms (vlsOf es ds) = true := by
        unfold okB
        rw [hl]
        simp
        intro v _
        split <;> rfl
      simp only [ev, hl, List.all_nil, if_true]
      rw [m2]
      simp only [Out.bind]
      rw [ha]
      simp only [hok, if_true]
      rw [e1]
      simp only [callEnd, List.isEmpty_nil, Bool.and_true]
      by_cases hf : flatD d = true
      · rw [if_pos hf]; rfl
      · rw [if_neg hf]
        have hb : borFrz g es = true := by
          simp only [Bool.or_eq_true] at h2
          exact h2.resolve_left hf
        rw [frzB_same hb]
        simp only [Option.bind, hl, allPl_ours h0.1, putBack]
        rfl
    · cases h
  | .lc k es tg c e own, g => pv_tst rfl (by simp only [tv]) fun r h => by
    simp only [pv] at h
    obtain ⟨ds, h1, h⟩ := bind_s h
    obtain ⟨items, h2, h⟩ := bind_s h
    obtain ⟨h3, h⟩ := ite_n h
    obtain ⟨ys, h4, h5⟩ := map_s h
    subst h5
    obtain ⟨m1, m2, m3⟩ := pvs_ok cl es g ds h1
    have h3' := h3
    simp only [Bool.and_eq_true] at h3'
    simp only [ev]
    rw [m2]
    simp only [Out.bind]
    rw [m3]
    simp only [Option.bind, h2, h3, if_true]
    rw [lcF_ok clr_clr h3'.2 (fun g2 => pv_ok cl c g2) (fun g2 => pv_ok cl e g2) h4]
    simp only [back_clr]
    rfl
theorem pvs_ok (cl : Call) : ∀ (es : List Ex) (g : Gm), PvsOk cl g es
  | [], g => vls_nil
  | e :: es, g => vls_cons (pv_ok cl e g) (pvs_ok cl es g)
end
end
end Ev

end

-- EvRs
section
/-! Ev: loop-free statements as plain functions; the rules that simp walks by. -/
namespace Ev
open PySem L2

/-! ### pure expressions, without binders -/
def kcons : Option (D × Bool) → Option (List (D × Bool)) → Option (List (D × Bool))
  | some x, some xs => some (x :: xs)
  | _, _ => none
def kap (p : Pr) : Option (List (D × Bool)) → Option (D × Bool)
  | some ds => pr p (ds.map (·.1))
  | none => none
def ktup : Option (List (D × Bool)) → Option (D × Bool)
  | some ds => if line ds.length then some (.tuple (ds.map (·.1)), false) else none
  | none => none
def klst : Option (List (D × Bool)) → Option (D × Bool)
  | some ds => if line ds.length then some (.list (ds.map (·.1)), true) else none
  | none => none
def kmt (p : Pr) : Option (D × Bool) → Option (List (D × Bool)) → Option (D × Bool)
  | some x, some ds => if mtOk p x.1 then pr p (x.1 :: ds.map (·.1)) else none
  | _, _ => none
def knot : Option (D × Bool) → Option (D × Bool)
  | some (.bool b, _) => some (.bool (!b), false)
  | _ => none
def kand : Option (D × Bool) → Option (D × Bool) → Option (D × Bool)
  | some (.bool false, _), _ => some (.bool false, false)
  | some (.bool true, _), some (.bool y, _) => some (.bool y, false)
  | _, _ => none
def kor : Option (D × Bool) → Option (D × Bool) → Option (D × Bool)
  | some (.bool true, _), _ => some (.bool true, false)
  | some (.bool false, _), some (.bool y, _) => some (.bool y, false)
  | _, _ => none
def kite : Option Bool → Option (D × Bool) → Option (D × Bool) → Option (D × Bool)
  | some true, a, _ => a
  | some false, _, b => b
  | none, _, _ => none
def kchn (p q : Pr) : Option (D × Bool) → Option (D × Bool) → Option (D × Bool) → Option (D × Bool)
  | some x, some y, z => kand (pr p [x.1, y.1]) (match z with | some z => pr q [y.1, z.1] | none => none)
  | _, _, _ => none
def kcall (cl : Call) (g : Gm) (f : Nat) (es : List Ex) : Option (List (D × Bool)) → Option (D × Bool)
  | some ds => (match cl f (ds.map (·.1)) with
    | .ok (d, fr, []) => if flatD d || borFrz g es then some (d, fr) else none
    | _ => none)
  | none => none
def ktru : Option (D × Bool) → Option Bool
  | some x => truD x.1
  | none => none
def tnot : Option Bool → Option Bool
  | some b => some (!b)
  | none => none
def tand : Option Bool → Option Bool → Option Bool
  | some false, _ => some false
  | some true, y => y
  | none, _ => none
def tor : Option Bool → Option Bool → Option Bool
  | some true, _ => some true
  | some false, y => y
  | none, _ => none
def tite : Option Bool → Option Bool → Option Bool → Option Bool
  | some true, a, _ => a
  | some false, _, b => b
  | none, _, _ => none
section
variable {cl : Call} {g : Gm}
@[simp] theorem q_lit {d : D} : pv cl g (.lit d) = some (d, false) := by simp only [pv]
@[simp] theorem q_var {i : Nat} : pv cl g (.var i) = (match g[i]? with
    | some (some ⟨d, .frz⟩) => some (d, false)
    | _ => none) := by first | (simp only [pv]; done) | (simp only [pv]; rfl)
@[simp] theorem q_bor {i : Nat} : pv cl g (.bor i) = (slotD g i).map fun d => (d, false) := by simp only [pv]
@[simp] theorem q_nil : pvs cl g [] = some [] := by simp only [pvs]
@[simp] theorem q_cons {e : Ex} {es : List Ex} : pvs cl g (e :: es) = kcons (pv cl g e) (pvs cl g es) := by
  simp only [pvs]
  cases pv cl g e <;> cases pvs cl g es <;> rfl
@[simp] theorem q_ap {p : Pr} {es : List Ex} : pv cl g (.ap p es) = kap p (pvs cl g es) := by
  simp only [pv]; cases pvs cl g es <;> rfl
@[simp] theorem q_tup {es : List Ex} : pv cl g (.tup es) = if notBor es then ktup (pvs cl g es) else none := by
  simp only [pv]; cases pvs cl g es <;> rfl
@[simp] theorem q_lst {es : List Ex} : pv cl g (.lst es) = if notBor es then klst (pvs cl g es) else none := by
  simp only [pv]; cases pvs cl g es <;> rfl
@[simp] theorem q_mt {p : Pr} {a : Ex} {es : List Ex} : pv cl g (.mt p a es) = kmt p (pv cl g a) (pvs cl g es) := by
  simp only [pv]; cases pv cl g a <;> cases pvs cl g es <;> rfl
@[simp] theorem q_not {a : Ex} : pv cl g (.not a) = if isBor a = none then knot (pv cl g a) else none := by
  simp only [pv]
  by_cases h : isBor a = none
  · rw [if_pos h, if_pos h]
    unfold knot boolV
    split <;> first | rfl | (rename_i e; first | rfl | (simp_all))
  · rw [if_neg h, if_neg h]; rfl
@[simp] theorem q_and {a b : Ex} : pv cl g (.and a b) = if isBor a = none ∧ isBor b = none then kand (pv cl g a) (pv cl g b) else none := by
  simp only [pv]
  congr 1
  rcases pv cl g a with _ | ⟨d, f⟩
  · rfl
  cases d <;> try rfl
  rename_i x
  cases x
  · rfl
  rcases pv cl g b with _ | ⟨d, f⟩
  · rfl
  cases d <;> rfl
@[simp] theorem q_or {a b : Ex} : pv cl g (.or a b) = if isBor a = none ∧ isBor b = none then kor (pv cl g a) (pv cl g b) else none := by
  simp only [pv]
  congr 1
  rcases pv cl g a with _ | ⟨d, f⟩
  · rfl
  cases d <;> try rfl
  rename_i x
  cases x
  · rcases pv cl g b with _ | ⟨d, f⟩
    · rfl
    cases d <;> rfl
  · rfl
@[simp] theorem q_ite {c a b : Ex} : pv cl g (.ite c a b) = if isBor a = none ∧ isBor b = none then kite (tv cl g c) (pv cl g a) (pv cl g b) else none := by
  simp only [pv]
  congr 1
  rcases tv cl g c with _ | x
  · rfl
  cases x <;> rfl
@[simp] theorem q_chn {a b c : Ex} {p q : Pr} : pv cl g (.chn a [p, q] [b, c]) = kchn p q (pv cl g a) (pv cl g b) (pv cl g c) := by
  simp only [pv]
  rcases pv cl g a with _ | x
  · rfl
  rcases pv cl g b with _ | y
  · rfl
  unfold kchn
  simp only [Option.bind]
  rcases pr p [x.1, y.1] with _ | ⟨d, f⟩
  · rfl
  cases d <;> try rfl
  rename_i u
  cases u
  · rfl
  rcases pv cl g c with _ | z
  · rfl
  simp only [boolV, if_true]
  rcases pr q [y.1, z.1] with _ | ⟨d, f⟩
  · rfl
  cases d <;> rfl
@[simp] theorem q_call {f : Nat} {ms : List Am} {es : List Ex} : pv cl g (.call f ms es) = if allPl ms && decide (ms.length = es.length) then kcall cl g f es (pvs cl g es) else none := by
  simp only [pv]
  cases pvs cl g es <;> rfl
theorem t_of {e : Ex} (h : vForm e = true) : tv cl g e = ktru (pv cl g e) := by
  cases e <;> first | (cases h; done) | (simp only [tv]; cases pv cl g _ <;> rfl)
@[simp] theorem t_lit {d : D} : tv cl g (.lit d) = ktru (pv cl g (.lit d)) := t_of rfl
@[simp] theorem t_var {i : Nat} : tv cl g (.var i) = ktru (pv cl g (.var i)) := t_of rfl
@[simp] theorem t_bor {i : Nat} : tv cl g (.bor i) = ktru (pv cl g (.bor i)) := by simp only [tv]; cases pv cl g (.bor i) <;> rfl
@[simp] theorem t_tup {es : List Ex} : tv cl g (.tup es) = ktru (pv cl g (.tup es)) := t_of rfl
@[simp] theorem t_lst {es : List Ex} : tv cl g (.lst es) = ktru (pv cl g (.lst es)) := t_of rfl
@[simp] theorem t_ap {p : Pr} {es : List Ex} : tv cl g (.ap p es) = ktru (pv cl g (.ap p es)) := t_of rfl
@[simp] theorem t_mt {p : Pr} {a : Ex} {es : List Ex} : tv cl g (.mt p a es) = ktru (pv cl g (.mt p a es)) := t_of rfl
@[simp] theorem t_call {f : Nat} {ms : List Am} {es : List Ex} : tv cl g (.call f ms es) = ktru (pv cl g (.call f ms es)) := t_of rfl
@[simp] theorem t_lc {k : ItK} {es : List Ex} {tg : Tg} {c e : Ex} {own : List Nat} : tv cl g (.lc k es tg c e own) = ktru (pv cl g (.lc k es tg c e own)) := t_of rfl
@[simp] theorem t_chn' {a : Ex} {ps : List Pr} {es : List Ex} : tv cl g (.chn a ps es) = ktru (pv cl g (.chn a ps es)) := by simp only [tv]; cases pv cl g (.chn a ps es) <;> rfl
@[simp] theorem t_not' {a : Ex} : tv cl g (.not a) = tnot (tv cl g a) := by simp only [tv]; cases tv cl g a <;> rfl
@[simp] theorem t_and' {a b : Ex} : tv cl g (.and a b) = tand (tv cl g a) (tv cl g b) := by
  simp only [tv]
  rcases tv cl g a with _ | x
  · rfl
  cases x <;> rfl
@[simp] theorem t_or' {a b : Ex} : tv cl g (.or a b) = tor (tv cl g a) (tv cl g b) := by
  simp only [tv]
  rcases tv cl g a with _ | x
  · rfl
  cases x <;> rfl
@[simp] theorem t_ite' {c a b : Ex} : tv cl g (.ite c a b) = tite (tv cl g c) (tv cl g a) (tv cl g b) := by
  simp only [tv]
  rcases tv cl g c with _ | x
  · rfl
  cases x <;> rfl
end
@[simp] theorem kcons_s {x : D × Bool} {xs : List (D × Bool)} : kcons (some x) (some xs) = some (x :: xs) := rfl
@[simp] theorem kap_s {p : Pr} {ds : List (D × Bool)} : kap p (some ds) = pr p (ds.map (·.1)) := rfl
@[simp] theorem ktup_s {ds : List (D × Bool)} : ktup (some ds) = if line ds.length then some (.tuple (ds.map (·.1)), false) else none := rfl
@[simp] theorem klst_s {ds : List (D × Bool)} : klst (some ds) = if line ds.length then some (.list (ds.map (·.1)), true) else none := rfl
@[simp] theorem kmt_s {p : Pr} {x : D × Bool} {ds : List (D × Bool)} : kmt p (some x) (some ds) = if mtOk p x.1 then pr p (x.1 :: ds.map (·.1)) else none := rfl
@[simp] theorem knot_s {b f : Bool} : knot (some (.bool b, f)) = some (.bool (!b), false) := rfl
@[simp] theorem kand_f {f : Bool} {y : Option (D × Bool)} : kand (some (.bool false, f)) y = some (.bool false, false) := rfl
@[simp] theorem kand_s {x y f f' : Bool} : kand (some (.bool x, f)) (some (.bool y, f')) = some (.bool (x && y), false) := by cases x <;> rfl
@[simp] theorem kor_t {f : Bool} {y : Option (D × Bool)} : kor (some (.bool true, f)) y = some (.bool true, false) := rfl
@[simp] theorem kor_s {x y f f' : Bool} : kor (some (.bool x, f)) (some (.bool y, f')) = some (.bool (x || y), false) := by cases x <;> rfl
@[simp] theorem kite_t {a b : Option (D × Bool)} : kite (some true) a b = a := rfl
@[simp] theorem kite_f {a b : Option (D × Bool)} : kite (some false) a b = b := rfl
theorem kite_d {p : Prop} [Decidable p] {a b : Option (D × Bool)} : kite (some (decide p)) a b = if p then a else b := by by_cases h : p <;> simp [h]
@[simp] theorem kchn_s {p q : Pr} {x y z : D × Bool} : kchn p q (some x) (some y) (some z) = kand (pr p [x.1, y.1]) (pr q [y.1, z.1]) := rfl
@[simp] theorem kcall_s {cl : Call} {g : Gm} {f : Nat} {es : List Ex} {ds : List (D × Bool)} : kcall cl g f es (some ds) = (match cl f (ds.map (·.1)) with
    | .ok (d, fr, []) => if flatD d || borFrz g es then some (d, fr) else none
    | _ => none) := rfl
@[simp] theorem ktru_s {x : D × Bool} : ktru (some x) = truD x.1 := rfl
@[simp] theorem tru_bool {b : Bool} : truD (.bool b) = some b := rfl
@[simp] theorem tnot_s {b : Bool} : tnot (some b) = some (!b) := rfl
@[simp] theorem tand_f {y : Option Bool} : tand (some false) y = some false := rfl
@[simp] theorem tand_t {y : Option Bool} : tand (some true) y = y := rfl
@[simp] theorem tand_s {x y : Bool} : tand (some x) (some y) = some (x && y) := by cases x <;> rfl
@[simp] theorem tor_t {y : Option Bool} : tor (some true) y = some true := rfl
@[simp] theorem tor_f {y : Option Bool} : tor (some false) y = y := rfl
@[simp] theorem tor_s {x y : Bool} : tor (some x) (some y) = some (x || y) := by cases x <;> rfl
@[simp] theorem isBor_ap {p : Pr} {es : List Ex} : isBor (.ap p es) = none := rfl
@[simp] theorem isBor_lit {d : D} : isBor (.lit d) = none := rfl
@[simp] theorem isBor_var {i : Nat} : isBor (.var i) = none := rfl
@[simp] theorem isBor_not {a : Ex} : isBor (.not a) = none := rfl
@[simp] theorem isBor_and {a b : Ex} : isBor (.and a b) = none := rfl
@[simp] theorem isBor_or {a b : Ex} : isBor (.or a b) = none := rfl
@[simp] theorem isBor_ite {a b c : Ex} : isBor (.ite a b c) = none := rfl
@[simp] theorem isBor_call {f : Nat} {ms : List Am} {es : List Ex} : isBor (.call f ms es) = none := rfl
@[simp] theorem isBor_chn {a : Ex} {ps : List Pr} {es : List Ex} : isBor (.chn a ps es) = none := rfl
@[simp] theorem isBor_tup {es : List Ex} : isBor (.tup es) = none := rfl
@[simp] theorem isBor_lst {es : List Ex} : isBor (.lst es) = none := rfl
@[simp] theorem isBor_mt {p : Pr} {a : Ex} {es : List Ex} : isBor (.mt p a es) = none := rfl
@[simp] theorem isBor_lc {k : ItK} {es : List Ex} {tg : Tg} {c e : Ex} {own : List Nat} : isBor (.lc k es tg c e own) = none := rfl

/-! ### primitives of ints -/
@[simp] theorem p_add {a b : Int} : pr .add [.int a, .int b] = some (.int (a + b), false) := rfl
@[simp] theorem p_sub {a b : Int} : pr .sub [.int a, .int b] = some (.int (a - b), false) := rfl
@[simp] theorem p_neg {a : Int} : pr .neg [.int a] = some (.int (-a), false) := rfl
theorem p_mul {a b : Int} (h : mulOk a b = true) : pr .mul [.int a, .int b] = some (.int (a * b), false) := by show prMul [.int a, .int b] = some (.int (a * b), false); simp only [prMul, h, if_true]
@[simp] theorem p_abs {a : Int} : pr .abs [.int a] = some (.int (if a < 0 then -a else a), false) := rfl
@[simp] theorem p_intOf {a : Int} : pr .intOf [.int a] = some (.int a, false) := rfl
@[simp] theorem p_max2 {a b : Int} : pr .max2 [.int a, .int b] = some (.int (if a < b then b else a), false) := rfl
@[simp] theorem p_min2 {a b : Int} : pr .min2 [.int a, .int b] = some (.int (if b < a then b else a), false) := rfl
theorem p_mod {a b : Int} (h : b ≠ 0) : pr .mod [.int a, .int b] = some (.int (a.fmod b), false) := by show prMod [.int a, .int b] = some (.int (a.fmod b), false); simp [prMod, h]
theorem p_fdiv {a b : Int} (h : b ≠ 0) (h2 : b.natAbs < 1073741824) : pr .fdiv [.int a, .int b] = some (.int (a.fdiv b), false) := by show prFdiv [.int a, .int b] = some (.int (a.fdiv b), false); simp [prFdiv, h, h2]
@[simp] theorem p_lt {a b : Int} : pr .lt [.int a, .int b] = some (.bool (decide (a < b)), false) := rfl
@[simp] theorem p_gt {a b : Int} : pr .gt [.int a, .int b] = some (.bool (decide (b < a)), false) := rfl
@[simp] theorem p_le {a b : Int} : pr .le [.int a, .int b] = some (.bool (decide (a ≤ b)), false) := by
  have : (!decide (b < a)) = decide (a ≤ b) := by by_cases h : b < a <;> simp [h] <;> omega
  rw [← this]; rfl
@[simp] theorem p_ge {a b : Int} : pr .ge [.int a, .int b] = some (.bool (decide (b ≤ a)), false) := by
  have : (!decide (a < b)) = decide (b ≤ a) := by by_cases h : a < b <;> simp [h] <;> omega
  rw [← this]; rfl
@[simp] theorem p_isi_int {a : Int} {t : Ty} : pr (.isi t) [.int a] = some (.bool (isTy t (.int a)), false) := rfl
@[simp] theorem p_isi {d : D} {t : Ty} : pr (.isi t) [d] = some (.bool (isTy t d), false) := rfl
@[simp] theorem p_lenT {xs : List D} : pr .len [.tuple xs] = some (.int xs.length, false) := rfl
@[simp] theorem p_lenL {xs : List D} : pr .len [.list xs] = some (.int xs.length, false) := rfl
@[simp] theorem p_ixL {xs : List D} {i : Int} : pr .ix [.list xs, .int i] = (atI xs i).map fun x => (x, false) := rfl
@[simp] theorem p_ixT {xs : List D} {i : Int} : pr .ix [.tuple xs, .int i] = (atI xs i).map fun x => (x, false) := rfl
@[simp] theorem p_tupL {xs : List D} : pr .tupOf [.list xs] = some (.tuple xs, false) := rfl
@[simp] theorem ty_int {a : Int} : isTy .int (.int a) = true := rfl
@[simp] theorem ty_bi {a : Int} : isTy .bool (.int a) = false := rfl
@[simp] theorem ty_tt {xs : List D} : isTy .tuple (.tuple xs) = true := rfl
theorem atI_at {α : Type} {xs : List α} {i : Int} {j : Nat} (h : i = (j : Int)) (hj : j < xs.length) : atI xs i = xs[j]? := by
  subst h
  unfold atI ixN
  rw [if_pos (by omega), if_pos (by omega)]
  rfl

/-! ### statements without loops -/
def kasg (g : Gm) (i : Nat) : Option (D × Bool) → Option Fl
  | some (d, f) => if freeAt g i then some (.nx (g.set i (some ⟨d, if f && isMutD d then .own else .frz⟩))) else none
  | none => none
/-- several names at once -/
def setNs (g : Gm) : List Nat → List (D × Bool) → Option Gm
  | [], [] => some g
  | i :: is, (d, f) :: ds => if freeAt g i then setNs (g.set i (some ⟨d, if f && isMutD d then .own else .frz⟩)) is ds else none
  | _, _ => none
def nmsOf : List Ta → Option (List Nat)
  | [] => some []
  | .nm i :: r => (nmsOf r).map (i :: ·)
  | _ => none
def kmas (g : Gm) : Option (List Nat) → Option (List (D × Bool)) → Option Fl
  | some is, some ds => (setNs g is ds).map Fl.nx
  | _, _ => none
def ktas (g : Gm) : Option (List Nat) → Option (D × Bool) → Option Fl
  | some is, some (.tuple ds, _) => (setNs g is (ds.map fun d => (d, false))).map Fl.nx
  | _, _ => none
/-- o[i] = v -/
def kset (g : Gm) (i : Nat) : Option (D × Bool) → Option (D × Bool) → Option Fl
  | some v, some k => (match g[i]? with
    | some (some ⟨o, .own⟩) => (setD o k.1 v.1).map fun o' => Fl.nx (g.set i (some ⟨o', .own⟩))
    | some (some ⟨o, .prm⟩) => (setD o k.1 v.1).map fun o' => Fl.nx (g.set i (some ⟨o', .prm⟩))
    | _ => none)
  | _, _ => none
def kmu (m : Mu) (g : Gm) (i : Nat) : Option (List (D × Bool)) → Option Fl
  | some ds => (match g[i]? with
    | some (some ⟨d, .own⟩) => if muTag m == tag d then (mu m d (ds.map (·.1))).map fun x => Fl.nx (g.set i (some ⟨x.2, .own⟩)) else none
    | some (some ⟨d, .prm⟩) => if muTag m == tag d then (mu m d (ds.map (·.1))).map fun x => Fl.nx (g.set i (some ⟨x.2, .prm⟩)) else none
    | _ => none)
  | none => none
def kret (g : Gm) : Option (D × Bool) → Option Fl
  | some (d, f) => some (.rt d f g)
  | none => none
def retV (g : Gm) (i : Nat) : Option Fl := match g[i]? with
  | some (some ⟨d, .own⟩) => some (.rt d true (g.set i none))
  | some (some ⟨d, .frz⟩) => some (.rt d false g)
  | _ => none
mutual
def rs (cl : Call) : Sm → Gm → Option Fl
  | .ex (.mu m i es), g => if notBor es then kmu m g i (pvs cl g es) else none
  | .ex e, g => if isBor e = none then (pv cl g e).map fun _ => .nx g else none
  | .asg (.nm i) e, g => if isBor e = none then kasg g i (pv cl g e) else none
  | .asg (.tup ts) e, g => if isBor e = none then ktas g (nmsOf ts) (pv cl g e) else none
  | .asg (.sub i k) e, g => if isBor e = none ∧ isBor k = none then kset g i (pv cl g e) (pv cl g k) else none
  | .mas ts es, g => if notBor es then kmas g (nmsOf ts) (pvs cl g es) else none
  | .ite c a b, g => (match tv cl g c with
    | some true => rss cl a g
    | some false => rss cl b g
    | none => none)
  | .ret (.var i), g => retV g i
  | .ret e, g => if isBor e = none then kret g (pv cl g e) else none
  | .retN, g => some (.rt .none false g)
  | .brk, g => some (.bk g)
  | .cont, g => some (.ct g)
  | .pass, g => some (.nx g)
  | _, _ => none
def rss (cl : Call) : List Sm → Gm → Option Fl
  | [], g => some (.nx g)
  | s :: ss, g => (match rs cl s g with
    | some (.nx g1) => rss cl ss g1
    | r => r)
end
def kif (cl : Call) : Option Bool → List Sm → List Sm → Gm → Option Fl
  | some true, a, _, g => rss cl a g
  | some false, _, b, g => rss cl b g
  | none, _, _, _ => none
def kst (cl : Call) : Option Fl → List Sm → Option Fl
  | some (.nx g), ss => rss cl ss g
  | r, _ => r
section
variable {cl : Call} {g : Gm}
@[simp] theorem r_nil : rss cl [] g = some (.nx g) := by simp only [rss]
@[simp] theorem r_cons {s : Sm} {ss : List Sm} : rss cl (s :: ss) g = kst cl (rs cl s g) ss := by
  simp only [rss]
  rcases rs cl s g with _ | fl
  · rfl
  cases fl <;> rfl
@[simp] theorem r_ite {c : Ex} {a b : List Sm} : rs cl (.ite c a b) g = kif cl (tv cl g c) a b g := by
  simp only [rs]
  rcases tv cl g c with _ | x
  · rfl
  cases x <;> rfl
@[simp] theorem kst_nx {ss : List Sm} : kst cl (some (.nx g)) ss = rss cl ss g := rfl
@[simp] theorem kst_rt {ss : List Sm} {d : D} {f : Bool} : kst cl (some (.rt d f g)) ss = some (.rt d f g) := rfl
@[simp] theorem kst_bk {ss : List Sm} : kst cl (some (.bk g)) ss = some (.bk g) := rfl
@[simp] theorem kst_ct {ss : List Sm} : kst cl (some (.ct g)) ss = some (.ct g) := rfl
theorem kst_if {p : Prop} [Decidable p] {a b : Option Fl} {ss : List Sm} : kst cl (if p then a else b) ss = if p then kst cl a ss else kst cl b ss := by by_cases h : p <;> simp [h]
@[simp] theorem kif_t {a b : List Sm} : kif cl (some true) a b g = rss cl a g := rfl
@[simp] theorem kif_f {a b : List Sm} : kif cl (some false) a b g = rss cl b g := rfl
theorem kif_d {p : Prop} [Decidable p] {a b : List Sm} : kif cl (some (decide p)) a b g = if p then rss cl a g else rss cl b g := by by_cases h : p <;> simp [h]
theorem kif_b {x : Bool} {a b : List Sm} : kif cl (some x) a b g = if x = true then rss cl a g else rss cl b g := by cases x <;> rfl
@[simp] theorem r_mu {m : Mu} {i : Nat} {es : List Ex} : rs cl (.ex (.mu m i es)) g = if notBor es then kmu m g i (pvs cl g es) else none := by simp only [rs]
@[simp] theorem r_excall {f : Nat} {ms : List Am} {es : List Ex} : rs cl (.ex (.call f ms es)) g = (pv cl g (.call f ms es)).map fun _ => .nx g := by simp only [rs, isBor, if_true]
@[simp] theorem r_nm {i : Nat} {e : Ex} : rs cl (.asg (.nm i) e) g = if isBor e = none then kasg g i (pv cl g e) else none := by simp only [rs]
@[simp] theorem r_tup {ts : List Ta} {e : Ex} : rs cl (.asg (.tup ts) e) g = if isBor e = none then ktas g (nmsOf ts) (pv cl g e) else none := by simp only [rs]
@[simp] theorem r_sub {i : Nat} {k e : Ex} : rs cl (.asg (.sub i k) e) g = if isBor e = none ∧ isBor k = none then kset g i (pv cl g e) (pv cl g k) else none := by simp only [rs]
@[simp] theorem r_mas {ts : List Ta} {es : List Ex} : rs cl (.mas ts es) g = if notBor es then kmas g (nmsOf ts) (pvs cl g es) else none := by simp only [rs]
@[simp] theorem r_retV {i : Nat} : rs cl (.ret (.var i)) g = retV g i := by simp only [rs]
theorem r_ret {e : Ex} (h : ∀ i, e ≠ .var i) : rs cl (.ret e) g = if isBor e = none then kret g (pv cl g e) else none := by
  cases e <;> first | (simp only [rs]; done) | exact absurd rfl (h _)
@[simp] theorem r_retL {d : D} : rs cl (.ret (.lit d)) g = some (.rt d false g) := by simp only [rs, isBor, if_true, q_lit]; rfl
@[simp] theorem r_retA {p : Pr} {es : List Ex} : rs cl (.ret (.ap p es)) g = kret g (pv cl g (.ap p es)) := by simp only [rs, isBor, if_true]
@[simp] theorem r_retT {es : List Ex} : rs cl (.ret (.tup es)) g = kret g (pv cl g (.tup es)) := by simp only [rs, isBor, if_true]
@[simp] theorem r_retS {es : List Ex} : rs cl (.ret (.lst es)) g = kret g (pv cl g (.lst es)) := by simp only [rs, isBor, if_true]
@[simp] theorem r_retC {f : Nat} {ms : List Am} {es : List Ex} : rs cl (.ret (.call f ms es)) g = kret g (pv cl g (.call f ms es)) := by simp only [rs, isBor, if_true]
@[simp] theorem r_retAnd {a b : Ex} : rs cl (.ret (.and a b)) g = kret g (pv cl g (.and a b)) := by simp only [rs, isBor, if_true]
@[simp] theorem r_retOr {a b : Ex} : rs cl (.ret (.or a b)) g = kret g (pv cl g (.or a b)) := by simp only [rs, isBor, if_true]
@[simp] theorem r_retNot {a : Ex} : rs cl (.ret (.not a)) g = kret g (pv cl g (.not a)) := by simp only [rs, isBor, if_true]
@[simp] theorem r_retIte {a b c : Ex} : rs cl (.ret (.ite a b c)) g = kret g (pv cl g (.ite a b c)) := by simp only [rs, isBor, if_true]
@[simp] theorem r_retLc {k : ItK} {es : List Ex} {tg : Tg} {c e : Ex} {own : List Nat} : rs cl (.ret (.lc k es tg c e own)) g = kret g (pv cl g (.lc k es tg c e own)) := by simp only [rs, isBor, if_true]
@[simp] theorem r_retMt {p : Pr} {a : Ex} {es : List Ex} : rs cl (.ret (.mt p a es)) g = kret g (pv cl g (.mt p a es)) := by simp only [rs, isBor, if_true]
@[simp] theorem r_retChn {a : Ex} {ps : List Pr} {es : List Ex} : rs cl (.ret (.chn a ps es)) g = kret g (pv cl g (.chn a ps es)) := by simp only [rs, isBor, if_true]
@[simp] theorem r_retN : rs cl .retN g = some (.rt .none false g) := by simp only [rs]
@[simp] theorem r_brk : rs cl .brk g = some (.bk g) := by simp only [rs]
@[simp] theorem r_cont : rs cl .cont g = some (.ct g) := by simp only [rs]
@[simp] theorem r_pass : rs cl .pass g = some (.nx g) := by simp only [rs]
@[simp] theorem kasg_s {i : Nat} {d : D} {f : Bool} : kasg g i (some (d, f)) = if freeAt g i then some (.nx (g.set i (some ⟨d, if f && isMutD d then .own else .frz⟩))) else none := rfl
@[simp] theorem kret_s {d : D} {f : Bool} : kret g (some (d, f)) = some (.rt d f g) := rfl
@[simp] theorem kmas_s {is : List Nat} {ds : List (D × Bool)} : kmas g (some is) (some ds) = (setNs g is ds).map Fl.nx := rfl
@[simp] theorem ktas_s {is : List Nat} {ds : List D} {f : Bool} : ktas g (some is) (some (.tuple ds, f)) = (setNs g is (ds.map fun d => (d, false))).map Fl.nx := rfl
@[simp] theorem kset_s {i : Nat} {v k : D × Bool} : kset g i (some v) (some k) = (match g[i]? with
    | some (some ⟨o, .own⟩) => (setD o k.1 v.1).map fun o' => Fl.nx (g.set i (some ⟨o', .own⟩))
    | some (some ⟨o, .prm⟩) => (setD o k.1 v.1).map fun o' => Fl.nx (g.set i (some ⟨o', .prm⟩))
    | _ => none) := rfl
@[simp] theorem kmu_s {m : Mu} {i : Nat} {ds : List (D × Bool)} : kmu m g i (some ds) = (match g[i]? with
    | some (some ⟨d, .own⟩) => if muTag m == tag d then (mu m d (ds.map (·.1))).map fun x => Fl.nx (g.set i (some ⟨x.2, .own⟩)) else none
    | some (some ⟨d, .prm⟩) => if muTag m == tag d then (mu m d (ds.map (·.1))).map fun x => Fl.nx (g.set i (some ⟨x.2, .prm⟩)) else none
    | _ => none) := rfl
end
theorem keepF_vls : ∀ {es : List Ex} {ds : List (D × Bool)}, notBor es = true → es.length = ds.length → keepF (vlsOf es ds) = some ds
  | [], [], _, _ => rfl
  | [], _ :: _, _, h => by simp at h
  | _ :: _, [], _, h => by simp at h
  | e :: es, d :: ds, hb, hl => by
    have hn : ∀ i, e ≠ .bor i := fun i z => by subst z; cases hb
    have e1 : vlsOf (e :: es) (d :: ds) = .v d.1 d.2 :: vlsOf es ds := by cases e <;> first | rfl | exact absurd rfl (hn _)
    have e2 : notBor es = true := by cases e <;> first | exact hb | exact absurd rfl (hn _)
    rw [e1]
    unfold keepF
    rw [keepF_vls e2 (by simpa using hl)]
    rfl
theorem setNs_ok {cl : Call} : ∀ {ts : List Ta} {is : List Nat} {ds : List (D × Bool)} {g g2 : Gm}, nmsOf ts = some is → setNs g is ds = some g2 → asgTs cl ts ds g = .ok g2
  | [], is, ds, g, g2, h1, h2 => by
    unfold nmsOf at h1
    cases h1
    cases ds with
    | nil => unfold setNs at h2; cases h2; simp only [asgTs]
    | cons _ _ => unfold setNs at h2; cases h2
  | .nm i :: ts, is, ds, g, g2, h1, h2 => by
    unfold nmsOf at h1
    obtain ⟨js, k1, k2⟩ := map_s h1
    subst k2
    cases ds with
    | nil => unfold setNs at h2; cases h2
    | cons d ds =>
      unfold setNs at h2
      obtain ⟨k3, k4⟩ := ite_n h2
      simp only [asgTs, asgT, stGm, k3, if_true, ofOpt, Out.bind]
      exact setNs_ok k1 k4
  | .tup _ :: _, _, _, _, _, h1, _ => by unfold nmsOf at h1; cases h1
  | .sub _ _ :: _, _, _, _, _, h1, _ => by unfold nmsOf at h1; cases h1
theorem slotD_some {g : Gm} {i : Nat} {s : Sl} (h : g[i]? = some (some s)) : slotD g i = some s.d := by unfold slotD; rw [h]
mutual
theorem rs_ok (cl : Call) : ∀ (s : Sm) (g : Gm) (fl : Fl), rs cl s g = some fl → evS cl s g = fl
  | .ex e, g, fl, h => by
    have plain : isBor e = none → (∃ r, pv cl g e = some r ∧ fl = .nx g) → evS cl (.ex e) g = fl := fun hb ⟨r, h1, h2⟩ => by
      simp only [evS]
      rw [((pv_ok cl e g).1 r h1).1 hb, h2]
      rfl
    have gen : (if isBor e = none then (pv cl g e).map fun _ => Fl.nx g else none) = some fl → evS cl (.ex e) g = fl := fun h => by
      obtain ⟨h1, h⟩ := ite_n h
      obtain ⟨r, h2, h3⟩ := map_s h
      exact plain h1 ⟨r, h2, h3.symm⟩
    cases e with
    | mu m i es =>
      simp only [rs] at h
      obtain ⟨h1, h⟩ := ite_n h
      cases e1 : pvs cl g es with
      | none => rw [e1] at h; cases h
      | some ds =>
        rw [e1] at h
        obtain ⟨m1, m2, m3⟩ := pvs_ok cl es g ds e1
        have hk := notBor_keep h1 m1
        simp only [kmu_s] at h
        split at h
        · rename_i d eg
          obtain ⟨h2, h⟩ := ite_n h
          obtain ⟨x, h3, h4⟩ := map_s h
          simp only [evS, ev, slotD_some eg, h2, if_true]
          rw [m2]
          simp only [Out.bind, eg, hk, h3, fin]
          exact h4
        · rename_i d eg
          obtain ⟨h2, h⟩ := ite_n h
          obtain ⟨x, h3, h4⟩ := map_s h
          simp only [evS, ev, slotD_some eg, h2, if_true]
          rw [m2]
          simp only [Out.bind, eg, hk, h3, fin]
          exact h4
        · cases h
    | _ => simp only [rs] at h; exact gen h
  | .asg t e, g, fl, h => by
    cases t with
    | nm i =>
      simp only [rs] at h
      obtain ⟨h1, h⟩ := ite_n h
      cases e1 : pv cl g e with
      | none => rw [e1] at h; cases h
      | some r =>
        rw [e1] at h
        obtain ⟨d, f⟩ := r
        simp only [kasg_s] at h
        obtain ⟨h2, h⟩ := ite_n h
        cases h
        simp only [evS]
        rw [((pv_ok cl e g).1 _ e1).1 h1]
        simp only [Out.fl, asgT, stGm, h2, if_true, ofOpt]
    | tup ts =>
      simp only [rs] at h
      obtain ⟨h1, h⟩ := ite_n h
      cases e1 : pv cl g e with
      | none =>
        cases e2 : nmsOf ts with
        | none => rw [e1, e2] at h; cases h
        | some is => rw [e1, e2] at h; cases h
      | some r =>
        rw [e1] at h
        obtain ⟨d, f⟩ := r
        cases e2 : nmsOf ts with
        | none => rw [e2] at h; cases h
        | some is =>
          rw [e2] at h
          cases d with
          | tuple ds =>
            simp only [ktas_s] at h
            obtain ⟨g2, h3, h4⟩ := map_s h
            simp only [evS]
            rw [((pv_ok cl e g).1 _ e1).1 h1]
            simp only [Out.fl, asgT]
            rw [setNs_ok e2 h3]
            exact h4
          | _ => cases h
    | sub i k =>
      simp only [rs] at h
      obtain ⟨h1, h⟩ := ite_n h
      cases e1 : pv cl g e with
      | none => rw [e1] at h; cases h
      | some v =>
        rw [e1] at h
        cases e2 : pv cl g k with
        | none => rw [e2] at h; cases h
        | some kk =>
          rw [e2] at h
          simp only [kset_s] at h
          have k1 := ((pv_ok cl e g).1 _ e1).1 h1.1
          have k2 := ((pv_ok cl k g).1 _ e2).1 h1.2
          split at h
          · rename_i o eg
            obtain ⟨o', h3, h4⟩ := map_s h
            simp only [evS]
            rw [k1]
            simp only [Out.fl, asgT, slotD_some eg]
            rw [k2]
            simp only [Out.bind, eg, h3]
            exact h4
          · rename_i o eg
            obtain ⟨o', h3, h4⟩ := map_s h
            simp only [evS]
            rw [k1]
            simp only [Out.fl, asgT, slotD_some eg]
            rw [k2]
            simp only [Out.bind, eg, h3]
            exact h4
          · cases h
  | .mas ts es, g, fl, h => by
    simp only [rs] at h
    obtain ⟨h1, h⟩ := ite_n h
    cases e1 : nmsOf ts with
    | none => rw [e1] at h; cases h
    | some is =>
      rw [e1] at h
      cases e2 : pvs cl g es with
      | none => rw [e2] at h; cases h
      | some ds =>
        rw [e2] at h
        simp only [kmas_s] at h
        obtain ⟨g2, h3, h4⟩ := map_s h
        obtain ⟨m1, m2, m3⟩ := pvs_ok cl es g ds e2
        simp only [evS]
        rw [m2]
        simp only [Out.fl]
        rw [keepF_vls h1 m1]
        simp only
        rw [setNs_ok e1 h3]
        exact h4
  | .ite c a b, g, fl, h => by
    simp only [rs] at h
    cases e1 : tv cl g c with
    | none => rw [e1] at h; cases h
    | some x =>
      rw [e1] at h
      simp only [evS]
      rw [(pv_ok cl c g).2 x e1]
      cases x with
      | true => exact rss_ok cl a g fl h
      | false => exact rss_ok cl b g fl h
  | .for _ _ _ _, g, fl, h => by simp only [rs] at h; cases h
  | .whl _ _, g, fl, h => by simp only [rs] at h; cases h
  | .ret e, g, fl, h => by
    by_cases hv : ∃ i, e = .var i
    · obtain ⟨i, rfl⟩ := hv
      simp only [rs, retV] at h
      simp only [evS, retOf]
      split at h
      · rename_i d eg; cases h; first | rfl | rw [eg]
      · rename_i d eg; cases h; first | rfl | rw [eg]
      · cases h
    · have hv : ∀ i, e ≠ .var i := fun i z => hv ⟨i, z⟩
      rw [r_ret hv] at h
      obtain ⟨h1, h⟩ := ite_n h
      cases e1 : pv cl g e with
      | none => rw [e1] at h; cases h
      | some r =>
        rw [e1] at h
        cases h
        simp only [evS]
        rw [retOf_ev hv, ((pv_ok cl e g).1 _ e1).1 h1]
        rfl
  | .retN, g, fl, h => by simp only [rs] at h; cases h; simp only [evS]
  | .brk, g, fl, h => by simp only [rs] at h; cases h; simp only [evS]
  | .cont, g, fl, h => by simp only [rs] at h; cases h; simp only [evS]
  | .pass, g, fl, h => by simp only [rs] at h; cases h; simp only [evS]
  | .raise _, g, fl, h => by simp only [rs] at h; cases h
  | .never, g, fl, h => by simp only [rs] at h; cases h
theorem rss_ok (cl : Call) : ∀ (ss : List Sm) (g : Gm) (fl : Fl), rss cl ss g = some fl → evSs cl ss g = fl
  | [], g, fl, h => by simp only [rss] at h; cases h; simp only [evSs]
  | s :: ss, g, fl, h => by
    simp only [rss] at h
    cases e1 : rs cl s g with
    | none => rw [e1] at h; cases h
    | some f1 =>
      rw [e1] at h
      have h1 := rs_ok cl s g f1 e1
      simp only [evSs]
      rw [h1]
      cases f1 with
      | nx g1 => exact rss_ok cl ss g1 fl h
      | rt d f g1 => cases h; rfl
      | bk g1 => cases h; rfl
      | ct g1 => cases h; rfl
      | exc c g1 => cases h; rfl
      | bad => cases h; rfl
end
/-- a block, cut behind its n-th statement -/
theorem evSs_app (cl : Call) : ∀ (a b : List Sm) (g g1 : Gm), evSs cl a g = .nx g1 → evSs cl (a ++ b) g = evSs cl b g1
  | [], b, g, g1, h => by simp only [evSs] at h; cases h; rfl
  | s :: a, b, g, g1, h => by
    simp only [evSs, List.cons_append] at h ⊢
    cases e : evS cl s g with
    | nx g2 => rw [e] at h; exact evSs_app cl a b g2 g1 h
    | rt d f g2 => rw [e] at h; cases h
    | bk g2 => rw [e] at h; cases h
    | ct g2 => rw [e] at h; cases h
    | exc c g2 => rw [e] at h; cases h
    | bad => rw [e] at h; cases h
theorem evSs_nx {cl : Call} {s : Sm} {ss : List Sm} {g g1 : Gm} (h : evS cl s g = .nx g1) : evSs cl (s :: ss) g = evSs cl ss g1 := by simp only [evSs, h]
end Ev

end

-- EvHd
section
/-! Ev: the hand and its draws. -/
namespace Ev
open PySem L2

theorem p_eqI {a b : Int} : pr .eq [.int a, .int b] = some (.bool (decide (a = b)), false) := by
  show ((eqD (.int a) (.int b)).map fun b => (PyData.bool b, false)) = _
  have : eqD (.int a) (.int b) = some (PyData.eqv (.int a) (.int b)) := rfl
  rw [this]
  have : PyData.eqv (.int a) (.int b) = decide (a = b) := by
    unfold PyData.eqv
    by_cases h : a = b <;> simp [h]
  rw [this]
  rfl
theorem p_neI {a b : Int} : pr .ne [.int a, .int b] = some (.bool (!decide (a = b)), false) := by
  show ((eqD (.int a) (.int b)).map fun b => (PyData.bool (!b), false)) = _
  have : eqD (.int a) (.int b) = some (PyData.eqv (.int a) (.int b)) := rfl
  rw [this]
  have : PyData.eqv (.int a) (.int b) = decide (a = b) := by
    unfold PyData.eqv
    by_cases h : a = b <;> simp [h]
  rw [this]
  rfl
@[simp] theorem at0 {α : Type} {x : α} {xs : List α} : atI (x :: xs) 0 = some x := (atI_at (j := 0) rfl (by simp)).trans rfl
@[simp] theorem at1 {α : Type} {x y : α} {xs : List α} : atI (x :: y :: xs) 1 = some y := (atI_at (j := 1) rfl (by simp)).trans rfl
@[simp] theorem at2 {α : Type} {x y z : α} {xs : List α} : atI (x :: y :: z :: xs) 2 = some z := (atI_at (j := 2) rfl (by simp)).trans rfl
@[simp] theorem at3 {α : Type} {x y z w : α} {xs : List α} : atI (x :: y :: z :: w :: xs) 3 = some w := (atI_at (j := 3) rfl (by simp)).trans rfl
@[simp] theorem at4 {α : Type} {x y z w v : α} {xs : List α} : atI (x :: y :: z :: w :: v :: xs) 4 = some v := (atI_at (j := 4) rfl (by simp)).trans rfl

/-! ### what a hand is -/
def hnd (cs : List Int) (p c m n : Int) : D := .list [.list (cs.map .int), .int p, .int c, .int m, .int n]
def HV (h : D) : Prop := ∃ cs p c m n, h = hnd cs p c m n ∧ (∀ x ∈ cs, 0 ≤ x) ∧ 0 ≤ p ∧ 0 ≤ c
/-- f draws -/
def Dr (cl : Call) (f : Nat) : Prop := ∀ h (s : Int), HV h → 0 < s → s < 1073741824 → ∃ d h', 0 ≤ d ∧ d < s ∧ HV h' ∧ cl f [h, .int s] = .ok (.int d, false, [h'])
theorem p_intM {a b : Int} (h : b ≠ 0) : pr .mod [.int a, .int b] = some (.int (a.fmod b), false) := p_mod h
theorem fmod_lo {a b : Int} (h : 0 < b) : 0 ≤ a.fmod b := Int.fmod_nonneg_of_pos a h
theorem fmod_hi {a b : Int} (h : 0 < b) : a.fmod b < b := Int.fmod_lt_of_pos a h
theorem fdiv_lo {a b : Int} (h : 0 ≤ a) (h2 : 0 < b) : 0 ≤ a.fdiv b := Int.fdiv_nonneg h (by omega)

def drawA (a1 a2 a3 M0 b1 b2 M1 q1 e1 M2 q2 e2 M3 : Int) : List Sm := [.ite (.and (.ap .eq [(.ap .ix [(.bor 0), (.lit (.int (2)))]), (.lit (.int (0)))]) (.ap .lt [(.ap .ix [(.bor 0), (.lit (.int (1)))]), (.ap .len [(.ap .ix [(.bor 0), (.lit (.int (0)))])])])) [.asg (.nm 2) (.ap .ix [(.ap .ix [(.bor 0), (.lit (.int (0)))]), (.ap .ix [(.bor 0), (.lit (.int (1)))])]),
   .asg (.sub 0 (.lit (.int (1)))) (.ap .add [(.ap .ix [(.bor 0), (.lit (.int (1)))]), (.lit (.int (1)))]),
   .asg (.sub 0 (.lit (.int (3)))) (.ap .mod [(.ap .intOf [(.ap .add [(.ap .add [(.ap .mul [(.ap .ix [(.bor 0), (.lit (.int (3)))]), (.lit (.int a1))]), (.ap .mul [(.bor 2), (.lit (.int a2))])]), (.lit (.int a3))])]), (.lit (.int M0))]),
   .asg (.sub 0 (.lit (.int (2)))) (.ite (.ap .ge [(.bor 2), (.ap .pow [(.lit (.int (10))), (.lit (.int (18)))])]) (.var 2) (.lit (.int (0))))] [],
  .ite (.ap .gt [(.ap .ix [(.bor 0), (.lit (.int (2)))]), (.lit (.int (0)))]) [.asg (.nm 3) (.ap .mod [(.ap .intOf [(.ap .ix [(.bor 0), (.lit (.int (2)))])]), (.bor 1)]),
   .asg (.sub 0 (.lit (.int (2)))) (.ap .fdiv [(.ap .ix [(.bor 0), (.lit (.int (2)))]), (.bor 1)]),
   .ret (.var 3)] [],
  .asg (.sub 0 (.lit (.int (4)))) (.ap .add [(.ap .ix [(.bor 0), (.lit (.int (4)))]), (.lit (.int (1)))]),
  .asg (.nm 4) (.ap .mod [(.ap .intOf [(.ap .mul [(.ap .intOf [(.ap .add [(.ap .ix [(.bor 0), (.lit (.int (3)))]), (.ap .mul [(.lit (.int b1)), (.ap .ix [(.bor 0), (.lit (.int (4)))])])])]), (.lit (.int b2))])]), (.lit (.int M1))]),
  .asg (.nm 4) (.ap .mod [(.ap .intOf [(.ap .mul [(.bor 4), (.ap .add [(.ap .fdiv [(.bor 4), (.lit (.int q1))]), (.lit (.int e1))])])]), (.lit (.int M2))]),
  .asg (.nm 4) (.ap .mod [(.ap .intOf [(.ap .mul [(.bor 4), (.ap .add [(.ap .fdiv [(.bor 4), (.lit (.int q2))]), (.lit (.int e2))])])]), (.lit (.int M3))]),
  .ret (.ap .mod [(.ap .intOf [(.ap .fdiv [(.bor 4), (.lit (.int (16)))])]), (.bor 1)])]
structure CsOk (a1 a2 a3 M0 b1 b2 M1 q1 e1 M2 q2 e2 M3 : Int) : Prop where
  a1 : -(2 ^ 64) < a1 ∧ a1 < 2 ^ 64
  a2 : -(2 ^ 64) < a2 ∧ a2 < 2 ^ 64
  M0 : 0 < M0
  b1 : -(2 ^ 64) < b1 ∧ b1 < 2 ^ 64
  b2 : -(2 ^ 64) < b2 ∧ b2 < 2 ^ 64
  M1 : 0 < M1 ∧ M1 < 2 ^ 64
  q1 : q1 ≠ 0 ∧ q1.natAbs < 1073741824
  M2 : 0 < M2 ∧ M2 < 2 ^ 64
  q2 : q2 ≠ 0 ∧ q2.natAbs < 1073741824
  M3 : 0 < M3
theorem mulOk_r {a b : Int} (h : -(2 ^ 64) < b ∧ b < 2 ^ 64) : mulOk a b = true := by unfold mulOk; simp only [h.1, h.2]; simp
theorem mulOk_l {a b : Int} (h : -(2 ^ 64) < a ∧ a < 2 ^ 64) : mulOk a b = true := by unfold mulOk; simp only [h.1, h.2]; simp
@[simp] theorem p_pow18 : pr .pow [.int 10, .int 18] = some (.int 1000000000000000000, false) := by rfl
@[simp] theorem setD_l {xs : List D} {i : Int} {v : D} : setD (.list xs) (.int i) v = (ixN xs.length i).map fun j => .list (xs.set j v) := rfl
@[simp] theorem isMut_int {a : Int} : isMutD (.int a) = false := rfl
section
variable {cl : Call} {a1 a2 a3 M0 b1 b2 M1 q1 e1 M2 q2 e2 M3 : Int}
/-- the second half: a digit, or a mixed number -/
theorem draw_end (H : CsOk a1 a2 a3 M0 b1 b2 M1 q1 e1 M2 q2 e2 M3) (cs : List Int) (p c m n s : Int) (x : Option Sl) (hc : ∀ x ∈ cs, 0 ≤ x) (hp : 0 ≤ p) (h0 : 0 ≤ c) (hs : 0 < s) (hs2 : s < 1073741824) :
    ∃ d h' y z, 0 ≤ d ∧ d < s ∧ HV h' ∧ rss cl ((drawA a1 a2 a3 M0 b1 b2 M1 q1 e1 M2 q2 e2 M3).drop 1) [some ⟨hnd cs p c m n, .prm⟩, some ⟨.int s, .frz⟩, x, none, none] = some (.rt (.int d) false [some ⟨h', .prm⟩, some ⟨.int s, .frz⟩, x, y, z]) := by
  have s0 : s ≠ 0 := by omega
  have s1 : s.natAbs < 1073741824 := by omega
  by_cases hc0 : 0 < c
  · refine ⟨c.fmod s, hnd cs p (c.fdiv s) m n, some ⟨.int (c.fmod s), .frz⟩, none, fmod_lo hs, fmod_hi hs, ⟨cs, p, _, m, n, rfl, hc, hp, fdiv_lo h0 hs⟩, ?_⟩
    simp [drawA, hnd, slotD, hc0, p_mod s0, p_fdiv s0 s1, freeAt, ixN, retV]
  · obtain ⟨w1, h1⟩ : ∃ w, w = ((m + b1 * (n + 1)) * b2).fmod M1 := ⟨_, rfl⟩
    have h1' : -(2 ^ 64) < w1 ∧ w1 < 2 ^ 64 := by rw [h1]; have := @fmod_lo ((m + b1 * (n + 1)) * b2) M1 H.M1.1; have := @fmod_hi ((m + b1 * (n + 1)) * b2) M1 H.M1.1; have := H.M1.2; omega
    obtain ⟨w2, h2⟩ : ∃ w, w = (w1 * (w1.fdiv q1 + e1)).fmod M2 := ⟨_, rfl⟩
    have h2' : -(2 ^ 64) < w2 ∧ w2 < 2 ^ 64 := by rw [h2]; have := @fmod_lo (w1 * (w1.fdiv q1 + e1)) M2 H.M2.1; have := @fmod_hi (w1 * (w1.fdiv q1 + e1)) M2 H.M2.1; have := H.M2.2; omega
    obtain ⟨w3, h3⟩ : ∃ w, w = (w2 * (w2.fdiv q2 + e2)).fmod M3 := ⟨_, rfl⟩
    have z1 : M1 ≠ 0 := by have := H.M1.1; omega
    have z2 : M2 ≠ 0 := by have := H.M2.1; omega
    have z3 : M3 ≠ 0 := by have := H.M3; omega
    refine ⟨(w3.fdiv 16).fmod s, hnd cs p c m (n + 1), none, some ⟨.int w3, .frz⟩, fmod_lo hs, fmod_hi hs, ⟨cs, p, c, m, n + 1, rfl, hc, hp, h0⟩, ?_⟩
    simp [drawA, hnd, slotD, hc0, p_mod s0, p_mod z1, p_mod z2, p_mod z3, p_mul (mulOk_r H.b2), p_mul (mulOk_l H.b1), freeAt, ixN, ← h1, p_fdiv H.q1.1 H.q1.2, p_fdiv H.q2.1 H.q2.2, p_mul (mulOk_l h1'), p_mul (mulOk_l h2'), ← h2, ← h3, p_fdiv (a := w3) (b := 16) (by decide) (by decide)]
theorem draw_ok (H : CsOk a1 a2 a3 M0 b1 b2 M1 q1 e1 M2 q2 e2 M3) {tbl : List Fn} {f k : Nat} (hf : tbl[f]? = some ⟨2, [0], 5, drawA a1 a2 a3 M0 b1 b2 M1 q1 e1 M2 q2 e2 M3⟩) : Dr (evFn tbl (k + 1)) f := by
  rintro h s ⟨cs, p, c, m, n, rfl, hc, hp, h0⟩ hs hs2
  have z0 : M0 ≠ 0 := by have := H.M0; omega
  have key : ∃ d h' g, 0 ≤ d ∧ d < s ∧ HV h' ∧ g.length = 4 ∧ rss (evFn tbl k) (drawA a1 a2 a3 M0 b1 b2 M1 q1 e1 M2 q2 e2 M3) [some ⟨hnd cs p c m n, .prm⟩, some ⟨.int s, .frz⟩, none, none, none] = some (.rt (.int d) false (some ⟨h', .prm⟩ :: g)) := by
    by_cases hp2 : c = 0 ∧ p < cs.length
    · have e : (cs.map (PyData.int))[p.toNat]? = some (.int (cs[p.toNat]'(by omega))) := by simp [List.getElem?_eq_getElem (show p.toNat < cs.length by omega)]
      have e2 : atI (cs.map PyData.int) p = some (.int (cs[p.toNat]'(by omega))) := by rw [atI_at (j := p.toNat) (by omega) (by simp; omega), e]
      obtain ⟨cell, hcell⟩ : ∃ cell, cell = cs[p.toNat]'(by omega) := ⟨_, rfl⟩
      have hcp : 0 ≤ cell := by rw [hcell]; exact hc _ (List.getElem_mem _)
      rw [← hcell] at e2
      obtain ⟨rfl, hp3⟩ := hp2
      obtain ⟨d, h', y, z, k1, k2, k3, k4⟩ := draw_end (cl := evFn tbl k) H cs (p + 1) (if 1000000000000000000 ≤ cell then cell else 0) ((m * a1 + cell * a2 + a3).fmod M0) n s (some ⟨.int cell, .frz⟩) hc (by omega) (by split <;> omega) hs hs2
      refine ⟨d, h', [some ⟨.int s, .frz⟩, some ⟨.int cell, .frz⟩, y, z], k1, k2, k3, rfl, ?_⟩
      rw [← k4]
      by_cases hb : 1000000000000000000 ≤ cell
      · simp [drawA, hnd, slotD, p_eqI, hp3, e2, freeAt, ixN, p_mul (mulOk_r H.a1), p_mul (mulOk_r H.a2), p_mod z0, hb]
      · simp [drawA, hnd, slotD, p_eqI, hp3, e2, freeAt, ixN, p_mul (mulOk_r H.a1), p_mul (mulOk_r H.a2), p_mod z0, hb]
    · obtain ⟨d, h', y, z, k1, k2, k3, k4⟩ := draw_end (cl := evFn tbl k) H cs p c m n s none hc hp h0 hs hs2
      refine ⟨d, h', [some ⟨.int s, .frz⟩, none, y, z], k1, k2, k3, rfl, ?_⟩
      rw [← k4]
      have hb : (decide (c = 0) && decide (p < (cs.length : Int))) = false := by
        by_cases a : c = 0 <;> by_cases b : p < (cs.length : Int) <;> simp [a, b]
        exact hp2 ⟨a, b⟩
      simp [drawA, hnd, slotD, p_eqI, hb]
  obtain ⟨d, h', g, k1, k2, k3, k5, k4⟩ := key
  refine ⟨d, h', k1, k2, k3, ?_⟩
  show (match tbl[f]? with | none => _ | some fn => _) = _
  rw [hf]
  simp only
  have e : initG ⟨2, [0], 5, drawA a1 a2 a3 M0 b1 b2 M1 q1 e1 M2 q2 e2 M3⟩ [hnd cs p c m n, .int s] = [some ⟨hnd cs p c m n, .prm⟩, some ⟨.int s, .frz⟩, none, none, none] := rfl
  rw [e, rss_ok _ _ _ _ k4]
  rfl
end
end Ev

end

-- EvCl
section
/-! Ev: calls. -/
namespace Ev
open PySem L2
theorem evFn_of {tbl : List Fn} {k f : Nat} {ds : List D} {fn : Fn} (hf : tbl[f]? = some fn) (hl : ds.length = fn.np) (hm : mpOk fn.mp ds = true) : evFn tbl (k + 1) f ds = finish fn.mp (evSs (evFn tbl k) fn.body (initG fn ds)) := by
  show (match tbl[f]? with | none => _ | some fn => _) = _
  rw [hf]
  simp only [hl, hm, decide_true, Bool.and_true, if_true]
theorem evFn_rt {tbl : List Fn} {k f : Nat} {ds : List D} {np ns : Nat} {body : List Sm} {d : D} {fr : Bool} {g : Gm} (hf : tbl[f]? = some ⟨np, [], ns, body⟩) (hl : ds.length = np) (h : rss (evFn tbl k) body (initG ⟨np, [], ns, body⟩ ds) = some (.rt d fr g)) : evFn tbl (k + 1) f ds = .ok (d, fr, []) := by
  rw [evFn_of hf hl rfl, rss_ok _ _ _ _ h]
  rfl
theorem evFn_nx {tbl : List Fn} {k f : Nat} {ds : List D} {np ns : Nat} {body : List Sm} {g : Gm} (hf : tbl[f]? = some ⟨np, [], ns, body⟩) (hl : ds.length = np) (h : rss (evFn tbl k) body (initG ⟨np, [], ns, body⟩ ds) = some (.nx g)) : evFn tbl (k + 1) f ds = .ok (.none, false, []) := by
  rw [evFn_of hf hl rfl, rss_ok _ _ _ _ h]
  rfl
theorem evFn_rt' {tbl : List Fn} {k f : Nat} {ds : List D} {np ns : Nat} {body : List Sm} {d : D} {fr : Bool} {g : Gm} (hf : tbl[f]? = some ⟨np, [], ns, body⟩) (hl : ds.length = np) (h : evSs (evFn tbl k) body (initG ⟨np, [], ns, body⟩ ds) = .rt d fr g) : evFn tbl (k + 1) f ds = .ok (d, fr, []) := by
  rw [evFn_of hf hl rfl, h]
  rfl
@[simp] theorem allPl_n : allPl [] = true := rfl
@[simp] theorem allPl_c {r : List Am} : allPl (.pl :: r) = allPl r := rfl
@[simp] theorem flat_int {a : Int} : flatD (.int a) = true := rfl
@[simp] theorem flat_bool {a : Bool} : flatD (.bool a) = true := rfl
@[simp] theorem flat_none : flatD .none = true := rfl
@[simp] theorem flat_str {a : Str} : flatD (.str a) = true := rfl
@[simp] theorem flat_list {a : List D} : flatD (.list a) = false := rfl
@[simp] theorem flat_tuple {a : List D} : flatD (.tuple a) = false := rfl
@[simp] theorem bf_nil {g : Gm} : borFrz g [] = true := rfl
@[simp] theorem bf_bor {g : Gm} {i : Nat} {r : List Ex} : borFrz g (.bor i :: r) = ((match g[i]? with | some (some ⟨_, .frz⟩) => true | _ => false) && borFrz g r) := rfl
theorem bf_c {g : Gm} {e : Ex} {r : List Ex} (h : isBor e = none) : borFrz g (e :: r) = borFrz g r := by
  cases e <;> first | rfl | cases h
@[simp] theorem bf_ap {g : Gm} {p : Pr} {es r : List Ex} : borFrz g (.ap p es :: r) = borFrz g r := rfl
@[simp] theorem bf_lit {g : Gm} {d : D} {r : List Ex} : borFrz g (.lit d :: r) = borFrz g r := rfl
@[simp] theorem bf_var {g : Gm} {i : Nat} {r : List Ex} : borFrz g (.var i :: r) = borFrz g r := rfl
@[simp] theorem bf_tup {g : Gm} {es r : List Ex} : borFrz g (.tup es :: r) = borFrz g r := rfl
@[simp] theorem bf_lst {g : Gm} {es r : List Ex} : borFrz g (.lst es :: r) = borFrz g r := rfl
@[simp] theorem bf_call {g : Gm} {f : Nat} {ms : List Am} {es r : List Ex} : borFrz g (.call f ms es :: r) = borFrz g r := rfl
@[simp] theorem nb_nil : notBor [] = true := rfl
@[simp] theorem nb_ap {p : Pr} {es r : List Ex} : notBor (.ap p es :: r) = notBor r := rfl
@[simp] theorem nb_lit {d : D} {r : List Ex} : notBor (.lit d :: r) = notBor r := rfl
@[simp] theorem nb_var {i : Nat} {r : List Ex} : notBor (.var i :: r) = notBor r := rfl
@[simp] theorem nb_tup {es r : List Ex} : notBor (.tup es :: r) = notBor r := rfl
@[simp] theorem nb_lst {es r : List Ex} : notBor (.lst es :: r) = notBor r := rfl
@[simp] theorem nb_call {f : Nat} {ms : List Am} {es r : List Ex} : notBor (.call f ms es :: r) = notBor r := rfl
@[simp] theorem mut_list {xs : List D} : isMutD (.list xs) = true := rfl
@[simp] theorem mut_tuple {xs : List D} : isMutD (.tuple xs) = false := rfl
@[simp] theorem mut_bool {b : Bool} : isMutD (.bool b) = false := rfl
/-- hands back d -/
def RetIs (r : Option Fl) (d : D) (fr : Bool) : Prop := ∃ g, r = some (.rt d fr g)
@[simp] theorem retIs_rt {d d' : D} {fr fr' : Bool} {g : Gm} : RetIs (some (.rt d fr g)) d' fr' ↔ d = d' ∧ fr = fr' := by
  constructor
  · rintro ⟨g, h⟩; cases h; exact ⟨rfl, rfl⟩
  · rintro ⟨rfl, rfl⟩; exact ⟨g, rfl⟩
theorem retIs_if {p : Prop} [Decidable p] {a b : Option Fl} {d : D} {fr : Bool} : RetIs (if p then a else b) d fr ↔ (p → RetIs a d fr) ∧ (¬ p → RetIs b d fr) := by by_cases h : p <;> simp [h]
/-- the slots a def begins with -/
def slots : List D → Nat → Gm
  | [], n => List.replicate n none
  | d :: ds, n => some ⟨d, .frz⟩ :: slots ds n
theorem zip_slots : ∀ (ds : List D) (n i : Nat), ((ds.zipIdx i).map fun p => some (Sl.mk p.1 (if ([] : List Nat).contains p.2 then .prm else .frz))) ++ List.replicate n none = slots ds n
  | [], n, i => rfl
  | d :: ds, n, i => by
    simp only [List.zipIdx_cons, List.map_cons, List.cons_append, slots]
    rw [zip_slots ds n (i + 1)]
    rfl
theorem init_slots {np ns : Nat} {body : List Sm} {ds : List D} : initG ⟨np, [], ns, body⟩ ds = slots ds (ns - np) := zip_slots ds _ 0
theorem evFn_ret {tbl : List Fn} {k f : Nat} {ds : List D} {np ns : Nat} {body : List Sm} {d : D} {fr : Bool} (hf : tbl[f]? = some ⟨np, [], ns, body⟩) (hl : ds.length = np) (h : RetIs (rss (evFn tbl k) body (slots ds (ns - np))) d fr) : evFn tbl (k + 1) f ds = .ok (d, fr, []) := by
  obtain ⟨g, h⟩ := h
  exact evFn_rt hf hl (by rw [init_slots]; exact h)
theorem evFn_none {tbl : List Fn} {k f : Nat} {ds : List D} {np ns : Nat} {body : List Sm} {g : Gm} (hf : tbl[f]? = some ⟨np, [], ns, body⟩) (hl : ds.length = np) (h : rss (evFn tbl k) body (slots ds (ns - np)) = some (.nx g)) : evFn tbl (k + 1) f ds = .ok (.none, false, []) :=
  evFn_nx hf hl (by rw [init_slots]; exact h)

/-! ### comprehensions -/
/-- a turn -/
def lcP (cl : Call) (tg : Tg) (c e : Ex) (gl : Gm) (x : D) : Option (Option D) := match bindT tg x gl with
  | none => none
  | some g2 => match tv cl g2 c with
    | some true => (if isBor e = none then pv cl g2 e else none).map fun y => some y.1
    | some false => some none
    | none => none
def klc (cl : Call) (g : Gm) (k : ItK) (es : List Ex) (tg : Tg) (c e : Ex) (own : List Nat) : Option (List (D × Bool)) → Option (D × Bool)
  | none => none
  | some ds => match itX k es (ds.map (·.1)) with
    | none => none
    | some items => if own.all (plainAt g) && line items.length && tgIn tg own then (lcF (lcP cl tg c e (clr (lockAll g (vlsOf es ds)) own)) items).map fun ys => (.list ys, true) else none
@[simp] theorem q_lc {cl : Call} {g : Gm} {k : ItK} {es : List Ex} {tg : Tg} {c e : Ex} {own : List Nat} : pv cl g (.lc k es tg c e own) = klc cl g k es tg c e own (pvs cl g es) := by
  simp only [pv]
  rcases pvs cl g es with _ | ds
  · rfl
  show (itX k es (ds.map (·.1))).bind _ = klc cl g k es tg c e own (some ds)
  unfold klc
  simp only
  cases itX k es (ds.map (·.1)) <;> rfl
theorem klc_s {cl : Call} {g : Gm} {k : ItK} {es : List Ex} {tg : Tg} {c e : Ex} {own : List Nat} {ds : List (D × Bool)} {items : List D} (h : itX k es (ds.map (·.1)) = some items) (h2 : (own.all (plainAt g) && line items.length && tgIn tg own) = true) : klc cl g k es tg c e own (some ds) = (lcF (lcP cl tg c e (clr (lockAll g (vlsOf es ds)) own)) items).map fun ys => (.list ys, true) := by
  unfold klc
  simp only [h, h2, if_true]
theorem lcF_all {F : D → Option (Option D)} {f : D → Option D} : ∀ {items : List D}, (∀ x ∈ items, F x = some (f x)) → lcF F items = some (items.filterMap f)
  | [], _ => rfl
  | x :: xs, h => by
    unfold lcF
    rw [h x List.mem_cons_self, lcF_all fun y hy => h y (List.mem_cons_of_mem _ hy), List.filterMap_cons]
    cases f x <;> rfl
theorem lcF_map {α : Type} {F : D → Option (Option D)} {u f : α → D} : ∀ {items : List α}, (∀ x ∈ items, F (u x) = some (some (f x))) → lcF F (items.map u) = some (items.map f)
  | [], _ => rfl
  | x :: xs, h => by
    simp only [List.map_cons]
    unfold lcF
    rw [h x List.mem_cons_self, lcF_map fun y hy => h y (List.mem_cons_of_mem _ hy)]
theorem lcF_flt {α : Type} {F : D → Option (Option D)} {u f : α → D} {p : α → Bool} : ∀ {items : List α}, (∀ x ∈ items, F (u x) = some (if p x then some (f x) else none)) → lcF F (items.map u) = some ((items.filter p).map f)
  | [], _ => rfl
  | x :: xs, h => by
    simp only [List.map_cons]
    unfold lcF
    rw [h x List.mem_cons_self, lcF_flt fun y hy => h y (List.mem_cons_of_mem _ hy)]
    cases e : p x <;> simp [List.filter_cons, e]
/-! ### more primitives -/
theorem okInts : ∀ (xs : List Int), PyData.plainAll (xs.map .int) = true ∧ PyData.depthAll (xs.map .int) = 0
  | [] => ⟨rfl, rfl⟩
  | x :: xs => by
    obtain ⟨h1, h2⟩ := okInts xs
    constructor
    · simp only [List.map_cons, PyData.plainAll, PyData.plain, h1, Bool.and_self]
    · simp only [List.map_cons, PyData.depthAll, PyData.depth, h2]; rfl
theorem okBools : ∀ (xs : List Bool), PyData.plainAll (xs.map .bool) = true ∧ PyData.depthAll (xs.map .bool) = 0
  | [] => ⟨rfl, rfl⟩
  | x :: xs => by
    obtain ⟨h1, h2⟩ := okBools xs
    constructor
    · simp only [List.map_cons, PyData.plainAll, PyData.plain, h1, Bool.and_self]
    · simp only [List.map_cons, PyData.depthAll, PyData.depth, h2]; rfl
theorem p_allB {xs : List Bool} : pr .all [.list (xs.map .bool)] = some (.bool (xs.all id), false) := by
  show ((lotD (.list (xs.map .bool))).bind fun xs => if okDs xs then some (PyData.bool (xs.all PyData.truthy), false) else none) = _
  have h := okBools xs
  have e : okDs (xs.map .bool) = true := by unfold okDs; rw [h.1, h.2]; rfl
  show (if okDs (xs.map .bool) = true then some (PyData.bool ((xs.map PyData.bool).all PyData.truthy), false) else none) = _
  rw [if_pos e, List.all_map]
  congr 3
theorem evFn_rtE {tbl : List Fn} {k f : Nat} {ds : List D} {np ns : Nat} {body : List Sm} {d : D} {fr : Bool} (hf : tbl[f]? = some ⟨np, [], ns, body⟩) (hl : ds.length = np) (h : ∃ g, evSs (evFn tbl k) body (slots ds (ns - np)) = .rt d fr g) : evFn tbl (k + 1) f ds = .ok (d, fr, []) := by
  obtain ⟨g, h⟩ := h
  exact evFn_rt' hf hl (by rw [init_slots]; exact h)
theorem ret_ev {cl : Call} {ss : List Sm} {g : Gm} {d : D} {fr : Bool} (h : RetIs (rss cl ss g) d fr) : ∃ g', evSs cl ss g = .rt d fr g' := by
  obtain ⟨g', h⟩ := h
  exact ⟨g', rss_ok _ _ _ _ h⟩
@[simp] theorem p_all2 {a b : Bool} : pr .all [.list [.bool a, .bool b]] = some (.bool (a && b), false) := by
  have := @p_allB [a, b]
  simpa using this
@[simp] theorem isB_lit {d : D} : isBor (.lit d) = none := rfl
@[simp] theorem line_nil {α : Type} : line ([] : List α).length = true := rfl
end Ev

end

-- EvLd
section
/-! Ev: lending calls, sorted numbers, reprs. -/
namespace Ev
open PySem L2
/-! ### a slot is lent -/
theorem lend_ev {cl : Call} {f i : Nat} {e : Ex} {g g2 : Gm} {h h' x d : D} {fr fr' t : Bool} {m : Md} (hm : m = .own ∨ m = .prm) (h0 : (slotD g i).isSome = true) (heb : isBor e = none) (he : ev cl false e g = .ok (x, fr', g2)) (hg : g2[i]? = some (some ⟨h, m⟩)) (hc : cl f [h, x] = .ok (d, fr, [h'])) : ev cl t (.call f [.ln i, .pl] [e]) g = fin t d fr (g2.set i (some ⟨h', m⟩)) := by
  have hv : vl (isBor e) (ev cl false e g) g = .ok (.v x fr', g2) := by rw [heb, he]; rfl
  have ha : argsOf g2 [.ln i, .pl] [.v x fr'] = some [h, x] := by
    rcases hm with rfl | rfl <;> simp [argsOf, hg, Vl.res]
  have hp : putBack g2 [i] [h'] = some (g2.set i (some ⟨h', m⟩)) := by simp [putBack, hg]
  have hb : callEnd t g2 [.v x fr'] [.ln i, .pl] (.ok (d, fr, [h'])) = fin t d fr (g2.set i (some ⟨h', m⟩)) := by
    simp [callEnd, frzB, lent, ours, hp]
  have ho : okB [.ln i, .pl] [.v x fr'] = true := by simp [okB, lent]
  simp only [ev]
  rw [if_pos (by simp [lent, h0])]
  simp only [evs, hv, ok_bind, ha, ho, if_true, hc, hb]
theorem draw_ev {cl : Call} {f : Nat} (hd : Dr cl f) {i : Nat} {e : Ex} {g g2 : Gm} {h : D} {s : Int} {fr : Bool} {m : Md} (hm : m = .own ∨ m = .prm) (h0 : (slotD g i).isSome = true) (heb : isBor e = none) (he : ev cl false e g = .ok (.int s, fr, g2)) (hg : g2[i]? = some (some ⟨h, m⟩)) (hh : HV h) (hs : 0 < s) (hs2 : s < 1073741824) : ∃ d h', 0 ≤ d ∧ d < s ∧ HV h' ∧ ∀ t, ev cl t (.call f [.ln i, .pl] [e]) g = fin t (.int d) false (g2.set i (some ⟨h', m⟩)) := by
  obtain ⟨d, h', k1, k2, k3, k4⟩ := hd h s hh hs hs2
  exact ⟨d, h', k1, k2, k3, fun t => lend_ev hm h0 heb he hg k4⟩
theorem pv_ev {cl : Call} {e : Ex} {g : Gm} {d : D} {fr : Bool} (hb : isBor e = none) (h : pv cl g e = some (d, fr)) : ev cl false e g = .ok (d, fr, g) := ((pv_ok cl e g).1 _ h).1 hb
theorem hv_list {h : D} (hh : HV h) : isMutD h = true := by obtain ⟨cs, p, c, m, n, rfl, _⟩ := hh; rfl

/-! ### sorted numbers -/
theorem cmp_int (xs : List Int) : cmpAll (xs.map .int) = true := by
  unfold cmpAll
  rw [(okInts xs).1, (okInts xs).2]
  simp [List.all_eq_true]
  intro a ha b hb
  rfl
theorem p_sortI {xs : List Int} : pr .sorted [.list (xs.map .int)] = some (.list ((sortI xs).map .int), true) := by
  show (if sortOk (xs.map .int) then some (PyData.list (sortD (xs.map .int)), true) else none) = _
  have : sortOk (xs.map .int) = true := by
    unfold sortOk
    rw [cmp_int]
    simp [List.all_eq_true]
  rw [if_pos this, sortD_ints]
theorem insI_mem {x z : Int} : ∀ {ys : List Int}, z ∈ insI x ys → z = x ∨ z ∈ ys
  | [], h => by simp [insI] at h; exact .inl h
  | y :: ys, h => by
    unfold insI at h
    split at h
    · rcases List.mem_cons.1 h with h | h
      · exact .inr (by simp [h])
      · rcases insI_mem h with h | h
        · exact .inl h
        · exact .inr (List.mem_cons_of_mem _ h)
    · rcases List.mem_cons.1 h with h | h
      · exact .inl h
      · exact .inr h
theorem sortI_mem {z : Int} : ∀ {xs : List Int}, z ∈ sortI xs → z ∈ xs
  | [], h => h
  | x :: xs, h => by
    rcases insI_mem h with h | h
    · simp [h]
    · exact List.mem_cons_of_mem _ (sortI_mem h)
theorem insI_len {x : Int} : ∀ {ys : List Int}, (insI x ys).length = ys.length + 1
  | [] => rfl
  | y :: ys => by
    unfold insI
    split
    · simp [@insI_len x ys]
    · rfl
theorem sortI_len : ∀ {xs : List Int}, (sortI xs).length = xs.length
  | [] => rfl
  | x :: xs => by show (insI x (sortI xs)).length = _; rw [insI_len, sortI_len]; rfl

/-! ### reprs -/
def smI (i : Int) : Prop := -9000000 ≤ i ∧ i ≤ 9000000
theorem short_int {i : Int} (h : smI i) : (PyData.shown (.int i)).length ≤ 8 := by
  have e : (PyData.shown (.int i)).length = (toString i).length := by
    show (Str.ofString (toString i)).length = _
    rw [ofString_length]
  rw [e]
  exact int_text_length_le10 (k := 7) (by decide) (by unfold smI at h; omega)
theorem show_int {i : Int} (h : smI i) : (PyData.int i).showable = true := by
  simp only [PyData.showable, decide_eq_true_eq]
  have : i.natAbs ≤ 9000000 := by unfold smI at h; omega
  have h2 : i.natAbs.log2 ≤ i.natAbs := Nat.log2_le_self _
  by_cases h0 : i.natAbs = 0
  · rw [h0]; decide
  · have := (Nat.log2_lt h0 (k := 24)).2 (by omega)
    omega
theorem repr_of {d : D} (h1 : d.plain = true) (h2 : d.showable = true) (h3 : d.depth ≤ 64) (h4 : d.leavesShort 8 = true) (h5 : d.weight ≤ 1000000) : pr .repr [d] = some (.str d.shown, false) := by
  show (if d.plain && d.showable && decide (d.depth ≤ 64) && line d.shown.length then some (PyData.str d.shown, false) else none) = _
  have := PyData.shown_le 8 (by decide) d h4
  have hl : line d.shown.length = true := by unfold line; simp; omega
  simp [h1, h2, h3, hl]
theorem log_le {i : Int} (h : smI i) : i.natAbs.log2 < 24 := by
  by_cases h0 : i.natAbs = 0
  · rw [h0]; decide
  · exact (Nat.log2_lt h0 (k := 24)).2 (by unfold smI at h; omega)
theorem repr_int {i : Int} (h : smI i) : pr .repr [.int i] = some (.str (PyData.int i).shown, false) :=
  repr_of rfl (show_int h) (by simp only [PyData.depth]; decide) (by simp [PyData.leavesShort, short_int h]) (by have := log_le h; simp only [PyData.weight]; split <;> omega)
theorem ints_facts : ∀ {xs : List Int}, (∀ x ∈ xs, smI x) → PyData.showableAll (xs.map .int) = true ∧ PyData.leavesShortAll 8 (xs.map .int) = true ∧ PyData.weightAll (xs.map .int) ≤ 30 * xs.length
  | [], _ => ⟨rfl, rfl, Nat.le_refl _⟩
  | x :: xs, h => by
    obtain ⟨h1, h2, h3⟩ := @ints_facts xs fun y hy => h y (List.mem_cons_of_mem _ hy)
    refine ⟨?_, ?_, ?_⟩
    · simp only [List.map_cons, PyData.showableAll, show_int (h x List.mem_cons_self), h1, Bool.and_self]
    · simp only [List.map_cons, PyData.leavesShortAll, PyData.leavesShort, short_int (h x List.mem_cons_self), h2, decide_true, Bool.and_self]
    · have := log_le (h x List.mem_cons_self); simp only [List.map_cons, PyData.weightAll, PyData.weight, List.length_cons]; split <;> omega
theorem repr_tup {xs : List Int} (h : ∀ x ∈ xs, smI x) (hl : xs.length ≤ 1000) : pr .repr [.tuple (xs.map .int)] = some (.str (PyData.tuple (xs.map .int)).shown, false) := by
  obtain ⟨h1, h2, h3⟩ := ints_facts h
  refine repr_of ?_ ?_ ?_ ?_ ?_
  · simp only [PyData.plain, (okInts xs).1]
  · simp only [PyData.showable, h1]
  · simp only [PyData.depth, (okInts xs).2]; decide
  · simp only [PyData.leavesShort, h2]
  · simp only [PyData.weight]; omega
theorem p_neS {x : Str} : pr .ne [.str x, .str x] = some (.bool false, false) := by
  show ((eqD (.str x) (.str x)).map fun b => (PyData.bool (!b), false)) = _
  have : eqD (.str x) (.str x) = some (PyData.eqv (.str x) (.str x)) := rfl
  rw [this]
  have : PyData.eqv (.str x) (.str x) = true := by unfold PyData.eqv; simp
  rw [this]
  rfl

/-! ### steps, one by one -/
section
variable {cl : Call} {g g2 g3 : Gm} {e : Ex} {es : List Ex} {vs : List Vl} {d : D} {ds : List D} {f : Bool} {i : Nat}
theorem evs_n : evs cl [] g = .ok ([], g) := by simp only [evs]
theorem evs_vv (hb : isBor e = none) (he : ev cl false e g = .ok (d, f, g2)) (hs : evs cl es g2 = .ok (vs, g3)) : evs cl (e :: es) g = .ok (.v d f :: vs, g3) := by
  simp only [evs]
  rw [hb, he]
  simp only [vl, ok_bind]
  rw [hs]
  rfl
theorem evs_bb (h : slotD g i = some d) (hs : evs cl es g = .ok (vs, g3)) : evs cl (.bor i :: es) g = .ok (.b i :: vs, g3) := by
  simp only [evs, isBor, vl, h, ok_bind]
  rw [hs]
  rfl
theorem ev_app {p : Pr} (hs : evs cl es g = .ok (vs, g2)) (hr : resAll g2 vs = some ds) (hp : pr p ds = some (d, f)) : ev cl false (.ap p es) g = .ok (d, f, g2) := by
  simp only [ev]
  rw [hs]
  simp only [ok_bind, hr, some_bind, hp]
  rfl
theorem ev_tupp (hs : evs cl es g = .ok (vs, g2)) (hk : keepAll vs = some ds) (hl : line ds.length = true) : ev cl false (.tup es) g = .ok (.tuple ds, false, g2) := by
  simp only [ev]
  rw [hs]
  simp only [ok_bind, hk, hl, if_true]
  rfl
theorem ev_lstt (hs : evs cl es g = .ok (vs, g2)) (hk : keepAll vs = some ds) (hl : line ds.length = true) : ev cl false (.lst es) g = .ok (.list ds, true, g2) := by
  simp only [ev]
  rw [hs]
  simp only [ok_bind, hk, hl, if_true]
  rfl
theorem evS_nm (he : ev cl false e g = .ok (d, f, g2)) (hf : freeAt g2 i = true) : evS cl (.asg (.nm i) e) g = .nx (g2.set i (some ⟨d, if f && isMutD d then .own else .frz⟩)) := by
  simp only [evS]
  rw [he]
  simp only [Out.fl, asgT, stGm, hf, if_true, ofOpt]
theorem evS_rtt (hv : ∀ i, e ≠ .var i) (he : ev cl false e g = .ok (d, f, g2)) : evS cl (.ret e) g = .rt d f g2 := by
  simp only [evS]
  rw [retOf_ev hv, he]
  rfl
theorem evSs_rt {s : Sm} {ss : List Sm} (h : evS cl s g = .rt d f g2) : evSs cl (s :: ss) g = .rt d f g2 := by simp only [evSs, h]
theorem ev_varo (h : g[i]? = some (some ⟨d, .own⟩)) : ev cl false (.var i) g = .ok (d, false, g.set i (some ⟨d, .frz⟩)) := by
  simp only [ev, readVar, h]
  rfl
end
/-- a for's turn -/
def fturn (cl : Call) (tg : Tg) (body : List Sm) (x : D) (g1 : Gm) : Fl := match bindT tg x g1 with
  | none => .bad
  | some g2 => evSs cl body g2
theorem evS_for {cl : Call} {k : ItK} {es : List Ex} {tg : Tg} {body : List Sm} {g g0 gl g2 : Gm} {vs : List Vl} {items : List D} (hs : evs cl es g = .ok (vs, g0)) (hi : (resAll g0 vs).bind (itX k es) = some items) (hl : lockAll g0 vs = gl) (hf : forL gl (fturn cl tg body) items gl = .nx g2) : evS cl (.for k es tg body) g = .nx (unlock g0 g2) := by
  simp only [evS]
  rw [hs]
  simp only [Out.fl, hi, hl]
  show (forL gl (fturn cl tg body) items gl).after (unlock g0) = _
  rw [hf]
  rfl
theorem fturn_rs {cl : Call} {tg : Tg} {body : List Sm} {x : D} {g1 g2 : Gm} {fl : Fl} (hb : bindT tg x g1 = some g2) (h : rss cl body g2 = some fl) : fturn cl tg body x g1 = fl := by
  unfold fturn
  rw [hb]
  exact rss_ok _ _ _ _ h
theorem evS_whl {cl : Call} {c : Ex} {body : List Sm} {g g2 : Gm} (h : whL g (ev cl true c) (evSs cl body) fuel g = .nx g2) : evS cl (.whl c body) g = .nx g2 := by
  simp only [evS]
  exact h
theorem tv_ev {cl : Call} {c : Ex} {g : Gm} {b : Bool} (h : tv cl g c = some b) : ev cl true c g = .ok (.bool b, false, g) := (pv_ok cl c g).2 b h
def noLck : Gm → Bool
  | [] => true
  | some ⟨_, .lck⟩ :: _ => false
  | _ :: r => noLck r
theorem unlock_no : ∀ (g g' : Gm), g.length = g'.length → noLck g' = true → unlock g g' = g'
  | [], [], _, _ => rfl
  | [], _ :: _, h, _ => by simp at h
  | _ :: _, [], h, _ => by simp at h
  | x :: g, y :: g', hl, h => by
    rcases x with _ | ⟨a, m⟩ <;> rcases y with _ | ⟨b, n⟩
    · exact congrArg (List.cons _) (unlock_no g g' (by simpa using hl) h)
    · cases n <;> first | exact congrArg (List.cons _) (unlock_no g g' (by simpa using hl) h) | cases h
    · cases m <;> exact congrArg (List.cons _) (unlock_no g g' (by simpa using hl) h)
    · cases m <;> cases n <;> first | exact congrArg (List.cons _) (unlock_no g g' (by simpa using hl) h) | cases h
theorem ev_lcc {cl : Call} {k : ItK} {es : List Ex} {tg : Tg} {c e : Ex} {own : List Nat} {g g0 gz : Gm} {vs : List Vl} {items ys : List D} (hs : evs cl es g = .ok (vs, g0)) (hi : (resAll g0 vs).bind (itX k es) = some items) (ho : (own.all (plainAt g0) && line items.length && tgIn tg own) = true) (hl : lcL own (lcT tg (fun g2 => ev cl true c g2) (fun g2 => ev cl false e g2)) items (clr (lockAll g0 vs) own) = .ok (ys, gz)) : ev cl false (.lc k es tg c e own) g = .ok (.list ys, true, back g0 (unlock g0 gz) own) := by
  simp only [ev]
  rw [hs]
  simp only [ok_bind, hi]
  rw [if_pos ho, hl]
  rfl
theorem lend2_ev {cl : Call} {g : Gm} {h h' a b : D} {m : Md} {fr t : Bool} {d : D} {f i p q : Nat} {ga : Gm} (hm : m = .own ∨ m = .prm) (hg : g[i]? = some (some ⟨h, m⟩)) (hp : slotD g p = some a) (hq : slotD g q = some b) (hc : cl f [h, a, b] = .ok (d, fr, [h'])) (hn : p ≠ i ∧ q ≠ i) (hz : frzB g [.b p, .b q] = some ga) (hga : ga[i]? = some (some ⟨h, m⟩)) : ev cl t (.call f [.ln i, .pl, .pl] [.bor p, .bor q]) g = fin t d fr (ga.set i (some ⟨h', m⟩)) := by
  have h0 : (slotD g i).isSome = true := by rw [slotD_some hg]; rfl
  have hs : evs cl [.bor p, .bor q] g = .ok ([.b p, .b q], g) := evs_bb hp (evs_bb hq evs_n)
  have ha : argsOf g [.ln i, .pl, .pl] [.b p, .b q] = some [h, a, b] := by
    rcases hm with rfl | rfl <;> simp [argsOf, hg, Vl.res, hp, hq]
  have hpb : putBack ga [i] [h'] = some (ga.set i (some ⟨h', m⟩)) := by simp [putBack, hga]
  have hb : callEnd t g [.b p, .b q] [.ln i, .pl, .pl] (.ok (d, fr, [h'])) = fin t d fr (ga.set i (some ⟨h', m⟩)) := by
    simp [callEnd, hz, lent, ours, hpb]
  have ho : okB [.ln i, .pl, .pl] [.b p, .b q] = true := by simp [okB, lent, hn.1, hn.2]
  simp only [ev]
  rw [if_pos (by simp [lent, h0]), hs]
  simp only [ok_bind, ha, ho, if_true, hc, hb]
end Ev

end

-- EvHdB
section
/-! Ev: the other hand's draws. -/
namespace Ev
open PySem L2
def drawB (a1 a3 M0 b1 b2 M1 q1 e1 M2 q2 e2 M3 : Int) : List Sm := [.ite (.and (.ap .eq [(.ap .ix [(.bor 0), (.lit (.int (2)))]), (.lit (.int (0)))]) (.ap .lt [(.ap .ix [(.bor 0), (.lit (.int (1)))]), (.ap .len [(.ap .ix [(.bor 0), (.lit (.int (0)))])])])) [.asg (.nm 2) (.ap .ix [(.ap .ix [(.bor 0), (.lit (.int (0)))]), (.ap .ix [(.bor 0), (.lit (.int (1)))])]),
   .asg (.sub 0 (.lit (.int (1)))) (.ap .add [(.ap .ix [(.bor 0), (.lit (.int (1)))]), (.lit (.int (1)))]),
   .asg (.sub 0 (.lit (.int (3)))) (.ap .mod [(.ap .intOf [(.ap .add [(.ap .add [(.ap .mul [(.ap .ix [(.bor 0), (.lit (.int (3)))]), (.lit (.int a1))]), (.bor 2)]), (.lit (.int a3))])]), (.lit (.int M0))]),
   .ite (.ap .ge [(.bor 2), (.ap .pow [(.lit (.int (10))), (.lit (.int (18)))])]) [.asg (.sub 0 (.lit (.int (2)))) (.var 2)] []] [],
  .ite (.ap .gt [(.ap .ix [(.bor 0), (.lit (.int (2)))]), (.lit (.int (0)))]) [.asg (.nm 3) (.ap .mod [(.ap .intOf [(.ap .ix [(.bor 0), (.lit (.int (2)))])]), (.bor 1)]),
   .asg (.sub 0 (.lit (.int (2)))) (.ap .fdiv [(.ap .ix [(.bor 0), (.lit (.int (2)))]), (.bor 1)]),
   .ret (.var 3)] [],
  .asg (.sub 0 (.lit (.int (4)))) (.ap .add [(.ap .ix [(.bor 0), (.lit (.int (4)))]), (.lit (.int (1)))]),
  .asg (.nm 4) (.ap .mod [(.ap .intOf [(.ap .mul [(.ap .intOf [(.ap .add [(.ap .ix [(.bor 0), (.lit (.int (3)))]), (.ap .mul [(.lit (.int b1)), (.ap .ix [(.bor 0), (.lit (.int (4)))])])])]), (.lit (.int b2))])]), (.lit (.int M1))]),
  .asg (.nm 4) (.ap .mod [(.ap .intOf [(.ap .mul [(.bor 4), (.ap .add [(.ap .fdiv [(.bor 4), (.lit (.int q1))]), (.lit (.int e1))])])]), (.lit (.int M2))]),
  .asg (.nm 4) (.ap .mod [(.ap .intOf [(.ap .mul [(.bor 4), (.ap .add [(.ap .fdiv [(.bor 4), (.lit (.int q2))]), (.lit (.int e2))])])]), (.lit (.int M3))]),
  .ret (.ap .mod [(.ap .intOf [(.ap .fdiv [(.bor 4), (.lit (.int (16)))])]), (.bor 1)])]
section
variable {a1 a3 M0 b1 b2 M1 q1 e1 M2 q2 e2 M3 : Int}
theorem drawB_ok (H : CsOk a1 1 a3 M0 b1 b2 M1 q1 e1 M2 q2 e2 M3) {tbl : List Fn} {f k : Nat} (hf : tbl[f]? = some ⟨2, [0], 5, drawB a1 a3 M0 b1 b2 M1 q1 e1 M2 q2 e2 M3⟩) : Dr (evFn tbl (k + 1)) f := by
  rintro h s ⟨cs, p, c, m, n, rfl, hc, hp, h0⟩ hs hs2
  have z0 : M0 ≠ 0 := by have := H.M0; omega
  have hdr : (drawB a1 a3 M0 b1 b2 M1 q1 e1 M2 q2 e2 M3).drop 1 = (drawA a1 1 a3 M0 b1 b2 M1 q1 e1 M2 q2 e2 M3).drop 1 := rfl
  have key : ∃ d h' g, 0 ≤ d ∧ d < s ∧ HV h' ∧ g.length = 4 ∧ rss (evFn tbl k) (drawB a1 a3 M0 b1 b2 M1 q1 e1 M2 q2 e2 M3) [some ⟨hnd cs p c m n, .prm⟩, some ⟨.int s, .frz⟩, none, none, none] = some (.rt (.int d) false (some ⟨h', .prm⟩ :: g)) := by
    by_cases hp2 : c = 0 ∧ p < cs.length
    · have e : (cs.map (PyData.int))[p.toNat]? = some (.int (cs[p.toNat]'(by omega))) := by simp [List.getElem?_eq_getElem (show p.toNat < cs.length by omega)]
      have e2 : atI (cs.map PyData.int) p = some (.int (cs[p.toNat]'(by omega))) := by rw [atI_at (j := p.toNat) (by omega) (by simp; omega), e]
      obtain ⟨cell, hcell⟩ : ∃ cell, cell = cs[p.toNat]'(by omega) := ⟨_, rfl⟩
      have hcp : 0 ≤ cell := by rw [hcell]; exact hc _ (List.getElem_mem _)
      rw [← hcell] at e2
      obtain ⟨rfl, hp3⟩ := hp2
      obtain ⟨d, h', y, z, k1, k2, k3, k4⟩ := draw_end (cl := evFn tbl k) H cs (p + 1) (if 1000000000000000000 ≤ cell then cell else 0) ((m * a1 + cell + a3).fmod M0) n s (some ⟨.int cell, .frz⟩) hc (by omega) (by split <;> omega) hs hs2
      refine ⟨d, h', [some ⟨.int s, .frz⟩, some ⟨.int cell, .frz⟩, y, z], k1, k2, k3, rfl, ?_⟩
      rw [← k4, ← hdr]
      by_cases hb : 1000000000000000000 ≤ cell
      · simp [drawB, hnd, slotD, p_eqI, hp3, e2, freeAt, ixN, p_mul (mulOk_r H.a1), p_mod z0, hb]
      · simp [drawB, hnd, slotD, p_eqI, hp3, e2, freeAt, ixN, p_mul (mulOk_r H.a1), p_mod z0, hb]
    · obtain ⟨d, h', y, z, k1, k2, k3, k4⟩ := draw_end (cl := evFn tbl k) H cs p c m n s none hc hp h0 hs hs2
      refine ⟨d, h', [some ⟨.int s, .frz⟩, none, y, z], k1, k2, k3, rfl, ?_⟩
      rw [← k4, ← hdr]
      have hb : (decide (c = 0) && decide (p < (cs.length : Int))) = false := by
        by_cases a : c = 0 <;> by_cases b : p < (cs.length : Int) <;> simp [a, b]
        exact hp2 ⟨a, b⟩
      simp [drawB, hnd, slotD, p_eqI, hb]
  obtain ⟨d, h', g, k1, k2, k3, k5, k4⟩ := key
  refine ⟨d, h', k1, k2, k3, ?_⟩
  show (match tbl[f]? with | none => _ | some fn => _) = _
  rw [hf]
  simp only
  have e : initG ⟨2, [0], 5, drawB a1 a3 M0 b1 b2 M1 q1 e1 M2 q2 e2 M3⟩ [hnd cs p c m n, .int s] = [some ⟨hnd cs p c m n, .prm⟩, some ⟨.int s, .frz⟩, none, none, none] := rfl
  rw [e, rss_ok _ _ _ _ k4]
  rfl
end
/-! ### dicts of numbers -/
def dctI (kvs : List (Int × Int)) : D := .dict (kvs.map fun p => (.int p.1, .int p.2))
def gI (k : Int) : List (Int × Int) → Option Int
  | [] => none
  | (a, b) :: r => if a = k then some b else gI k r
def pI (k v : Int) (kvs : List (Int × Int)) : List (Int × Int) := if kvs.any (fun p => p.1 == k) then kvs.map (fun p => if p.1 == k then (p.1, v) else p) else kvs ++ [(k, v)]
theorem dGet_int (k : Int) : ∀ kvs : List (Int × Int), dGet (.int k) (kvs.map fun p => (PyData.int p.1, PyData.int p.2)) = (gI k kvs).map .int
  | [] => rfl
  | (a, b) :: r => by
    simp only [List.map_cons, dGet, gI, eqK]
    by_cases h : a = k
    · simp [h]
    · simp [h, dGet_int k r]
theorem dPut_int (k v : Int) (kvs : List (Int × Int)) : dPut (.int k) (.int v) (kvs.map fun p => (PyData.int p.1, PyData.int p.2)) = (pI k v kvs).map fun p => (PyData.int p.1, PyData.int p.2) := by
  unfold dPut pI
  have e : (kvs.map fun p => (PyData.int p.1, PyData.int p.2)).any (fun p => eqK p.1 (.int k)) = kvs.any (fun p => p.1 == k) := by
    rw [List.any_map]; rfl
  rw [e]
  split
  · rw [List.map_map, List.map_map]
    apply List.map_congr_left
    intro p _
    simp only [Function.comp, eqK]
    by_cases h : p.1 == k <;> simp [h]
  · simp
theorem keyFits_int (k : Int) (kvs : List (Int × Int)) : keyFits (.int k) (kvs.map fun p => (PyData.int p.1, PyData.int p.2)) = true := by
  unfold keyFits
  have e1 : keyOk (.int k) = true := rfl
  rw [e1]
  simp [List.all_eq_true, isTupD]
theorem pI_keys (k v : Int) (kvs : List (Int × Int)) : (pI k v kvs).map (·.1) = if k ∈ kvs.map (·.1) then kvs.map (·.1) else kvs.map (·.1) ++ [k] := by
  unfold pI
  have e : kvs.any (fun p => p.1 == k) = true ↔ k ∈ kvs.map (·.1) := by
    simp [List.any_eq_true]
  by_cases h : k ∈ kvs.map (·.1)
  · rw [if_pos (e.2 h), if_pos h, List.map_map]
    apply List.map_congr_left
    intro p _
    simp only [Function.comp]
    split <;> rfl
  · rw [if_neg (fun z => h (e.1 z)), if_neg h]
    simp
theorem gI_none {k : Int} : ∀ {kvs : List (Int × Int)}, k ∉ kvs.map (·.1) → gI k kvs = none
  | [], _ => rfl
  | (a, b) :: r, h => by
    simp at h
    unfold gI
    rw [if_neg (fun z => h.1 z.symm), gI_none (by simpa using h.2)]
theorem gI_app {k : Int} : ∀ {kvs : List (Int × Int)} {a b : Int}, gI k (kvs ++ [(a, b)]) = match gI k kvs with | some v => some v | none => if a = k then some b else none
  | [], a, b => rfl
  | (x, y) :: r, a, b => by
    show (if x = k then some y else gI k (r ++ [(a, b)])) = match (if x = k then some y else gI k r) with | some v => some v | none => if a = k then some b else none
    rw [gI_app (kvs := r)]
    by_cases h : x = k <;> simp [h]
theorem gI_map {j k v : Int} : ∀ {kvs : List (Int × Int)}, gI j (kvs.map fun p => if p.1 == k then (p.1, v) else p) = if j = k then (gI j kvs).map (fun _ => v) else gI j kvs
  | [] => by simp [gI]
  | (a, b) :: r => by
    have ih := @gI_map j k v r
    by_cases h : a = k
    · subst h
      simp only [List.map_cons, beq_self_eq_true, if_true, gI, ih]
      by_cases hj : j = a
      · subst hj; simp
      · have : ¬ a = j := fun z => hj z.symm
        simp [hj, this]
    · have hb : (a == k) = false := by simp [h]
      simp only [List.map_cons, hb, gI, ih]
      by_cases ha : a = j
      · subst ha
        simp [h]
      · simp [ha]
theorem gI_pI (j k v : Int) (kvs : List (Int × Int)) : gI j (pI k v kvs) = if j = k then some v else gI j kvs := by
  unfold pI
  split
  · rename_i h
    rw [gI_map]
    by_cases hj : j = k
    · subst hj
      rw [if_pos rfl, if_pos rfl]
      have : (gI j kvs).isSome = true := by
        clear v
        induction kvs with
        | nil => simp at h
        | cons p r ih =>
          obtain ⟨a, b⟩ := p
          unfold gI
          by_cases ha : a = j
          · simp [ha]
          · rw [if_neg ha]
            apply ih
            simpa [ha] using h
      obtain ⟨x, hx⟩ := Option.isSome_iff_exists.1 this
      rw [hx]; rfl
    · rw [if_neg hj, if_neg hj]
  · rename_i h
    rw [gI_app]
    by_cases hj : j = k
    · subst hj
      have : gI j kvs = none := gI_none (fun z => h (by
        obtain ⟨p, hp, e⟩ := List.mem_map.1 z
        exact List.any_eq_true.2 ⟨p, hp, by simp [e]⟩))
      simp [this]
    · have : ¬ k = j := fun z => hj z.symm
      rw [if_neg hj]
      cases gI j kvs <;> simp [this]
/-! ### more steps -/
theorem ev_li {cl : Call} {g : Gm} {d : D} : ev cl false (.lit d) g = .ok (d, false, g) := pv_ev rfl q_lit
theorem ev_d0 {cl : Call} {g : Gm} : ev cl false (.dct []) g = .ok (.dict [], true, g) := by simp only [ev, evs]; rfl
theorem evS_mass {cl : Call} {ts : List Ta} {es : List Ex} {g g2 g3 : Gm} {vs : List Vl} {ds : List (D × Bool)} {is : List Nat} (h : evs cl es g = .ok (vs, g2)) (hk : keepF vs = some ds) (hn : nmsOf ts = some is) (hs : setNs g2 is ds = some g3) : evS cl (.mas ts es) g = .nx g3 := by
  simp only [evS]
  rw [h]
  simp only [Out.fl, hk]
  rw [setNs_ok hn hs]
theorem itX_rng {es : List Ex} {ds : List D} : itX .rng es ds = itD .rng ds := rfl
theorem it_rng2 {g : Gm} {es : List Ex} {a b : Int} {vs : List Vl} (hr : resAll g vs = some [.int a, .int b]) (h : (smallI a && smallI b) = true) : (resAll g vs).bind (itX .rng es) = some (rngD a b 1) := by
  rw [hr]
  show (if smallI a && smallI b then some (rngD a b 1) else none) = _
  rw [h]; rfl
theorem it_rng1 {g : Gm} {es : List Ex} {b : Int} {vs : List Vl} (hr : resAll g vs = some [.int b]) (h : smallI b = true) : (resAll g vs).bind (itX .rng es) = some (rngD 0 b 1) := by
  rw [hr]
  show (if smallI b then some (rngD 0 b 1) else none) = _
  rw [h]; rfl
theorem small_of {a : Int} (h1 : -16777216 ≤ a) (h2 : a ≤ 16777216) : smallI a = true := by unfold smallI; simp [h1, h2]
end Ev

end

-- EvTac
section
/-! Ev: steps in a row, loops as folds. -/
namespace Ev
open PySem L2
section
variable {cl : Call} {s : Sm} {ss : List Sm} {g g2 : Gm} {r : Fl}
/-- one loop-free statement, then the others -/
theorem st1 (g2 : Gm) (h : rs cl s g = some (.nx g2)) (h2 : evSs cl ss g2 = r) : evSs cl (s :: ss) g = r := (evSs_nx (rs_ok _ _ _ _ h)).trans h2
theorem stE (g2 : Gm) (h : evS cl s g = .nx g2) (h2 : evSs cl ss g2 = r) : evSs cl (s :: ss) g = r := (evSs_nx h).trans h2
theorem stN (g2 : Gm) (h : rss cl ss g = some (.nx g2)) : evSs cl ss g = .nx g2 := rss_ok _ _ _ _ h
theorem st0 : evSs cl [] g = .nx g := by simp only [evSs]
/-- the last statement -/
theorem stL (g2 : Gm) (h : rs cl s g = some (.nx g2)) : evSs cl [s] g = .nx g2 := st1 g2 h st0
/-- what comes back, in the end -/
def Ret (cl : Call) (ss : List Sm) (g : Gm) (d : D) (f : Bool) : Prop := ∃ g', evSs cl ss g = .rt d f g'
theorem Ret.st1 {d : D} {f : Bool} (g2 : Gm) (h : rs cl s g = some (.nx g2)) (h2 : Ret cl ss g2 d f) : Ret cl (s :: ss) g d f := by
  obtain ⟨g', h2⟩ := h2
  exact ⟨g', (evSs_nx (rs_ok _ _ _ _ h)).trans h2⟩
theorem Ret.stE {d : D} {f : Bool} (g2 : Gm) (h : evS cl s g = .nx g2) (h2 : Ret cl ss g2 d f) : Ret cl (s :: ss) g d f := by
  obtain ⟨g', h2⟩ := h2
  exact ⟨g', (evSs_nx h).trans h2⟩
theorem Ret.rs {d : D} {f : Bool} (h : RetIs (rss cl ss g) d f) : Ret cl ss g d f := ret_ev h
theorem Ret.rt {d : D} {f : Bool} (g2 : Gm) (h : evS cl s g = .rt d f g2) : Ret cl (s :: ss) g d f := ⟨g2, evSs_rt h⟩
theorem Ret.app {d : D} {f : Bool} {s1 s2 : List Sm} (g2 : Gm) (h : evSs cl s1 g = .nx g2) (h2 : Ret cl s2 g2 d f) : Ret cl (s1 ++ s2) g d f := by
  obtain ⟨g', h2⟩ := h2
  exact ⟨g', (evSs_app _ _ _ _ _ h).trans h2⟩
end
theorem evFn_Ret {tbl : List Fn} {k f : Nat} {ds : List D} {np ns : Nat} {body : List Sm} {d : D} {fr : Bool} (hf : tbl[f]? = some ⟨np, [], ns, body⟩) (hl : ds.length = np) (h : Ret (evFn tbl k) body (slots ds (ns - np)) d fr) : evFn tbl (k + 1) f ds = .ok (d, fr, []) := evFn_rtE hf hl h
/-- a for as a fold: its turns keep a state s of the slots G s -/
theorem for_fold {α σ : Type} {cl : Call} {k : ItK} {es : List Ex} {tg : Tg} {body : List Sm} {g : Gm} {vs : List Vl} (xs : List α) (u : α → D) (f : σ → α → σ) (G G' : σ → Gm) (I : σ → Prop) (s0 : σ)
    (hs : evs cl es g = .ok (vs, g)) (hi : (resAll g vs).bind (itX k es) = some (xs.map u)) (hl : lockAll g vs = G s0) (h0 : I s0)
    (ht : ∀ s a, a ∈ xs → I s → I (f s a) ∧ ∃ g2, (fturn cl tg body (u a) (G s) = .nx g2 ∨ fturn cl tg body (u a) (G s) = .ct g2) ∧ wipeTo (G s0) g2 = G (f s a))
    (hu : ∀ s, I s → unlock g (G s) = G' s) : evS cl (.for k es tg body) g = .nx (G' (xs.foldl f s0)) ∧ I (xs.foldl f s0) := by
  have key : ∀ (ys : List α) (s : σ), (∀ a ∈ ys, a ∈ xs) → I s → forL (G s0) (fturn cl tg body) (ys.map u) (G s) = .nx (G (ys.foldl f s)) ∧ I (ys.foldl f s) := by
    intro ys
    induction ys with
    | nil => intro s _ h; exact ⟨rfl, h⟩
    | cons y ys ih =>
      intro s hm h
      obtain ⟨h1, g2, h2, h3⟩ := ht s y (hm y List.mem_cons_self) h
      obtain ⟨k1, k2⟩ := ih (f s y) (fun a ha => hm a (List.mem_cons_of_mem _ ha)) h1
      refine ⟨?_, k2⟩
      rw [List.map_cons]
      unfold forL
      rcases h2 with h2 | h2 <;> (rw [h2]; simp only; rw [h3]; exact k1)
  obtain ⟨k1, k2⟩ := key xs s0 (fun _ h => h) h0
  refine ⟨?_, k2⟩
  have e := evS_for hs hi hl k1
  rw [e, hu _ k2]
/-- items below n -/
theorem itN {n : Nat} {g : Gm} {es : List Ex} {vs : List Vl} (hr : resAll g vs = some [.int (Int.ofNat n)]) (hn : n ≤ 16777216) : (resAll g vs).bind (itX .rng es) = some ((List.range n).map fun i => .int (Int.ofNat i)) := by
  rw [it_rng1 (b := Int.ofNat n) hr (small_of (by simp <;> omega) (by simp <;> omega))]
  unfold rngD
  rw [if_pos (by decide)]
  have e : ((Int.ofNat n - 0 + 1 - 1) / 1).toNat = n := by simp
  rw [e]
  congr 1
  apply List.map_congr_left
  intro i _
  simp
/-- items from a to below b -/
theorem itN2 {a b : Nat} {g : Gm} {es : List Ex} {vs : List Vl} (hr : resAll g vs = some [.int (Int.ofNat a), .int (Int.ofNat b)]) (ha : a ≤ 16777216) (hb : b ≤ 16777216) : (resAll g vs).bind (itX .rng es) = some ((List.range (b - a)).map fun i => .int (Int.ofNat (a + i))) := by
  rw [it_rng2 (a := Int.ofNat a) (b := Int.ofNat b) hr (by rw [small_of (by simp <;> omega) (by simp <;> omega), small_of (by simp <;> omega) (by simp <;> omega)]; rfl)]
  unfold rngD
  rw [if_pos (by decide)]
  have e : ((Int.ofNat b - Int.ofNat a + 1 - 1) / 1).toNat = b - a := by simp <;> omega
  rw [e]
  congr 1
  apply List.map_congr_left
  intro i _
  simp
theorem unlock_pt : ∀ (g g' : Gm), g.length = g'.length → (∀ i : Nat, g[i]? = g'[i]? ∨ ∀ d, g'[i]? ≠ some (some ⟨d, .lck⟩)) → unlock g g' = g'
  | [], [], _, _ => rfl
  | [], _ :: _, h, _ => by simp at h
  | _ :: _, [], h, _ => by simp at h
  | x :: g, y :: g', hl, h => by
    have ih := unlock_pt g g' (by simpa using hl) fun i => by simpa using h (i + 1)
    have h0 : x = y ∨ ∀ d, y ≠ some ⟨d, .lck⟩ := by simpa using h 0
    have hk : ∀ z, unlock (x :: g) (y :: g') = z :: unlock g g' → z = y → unlock (x :: g) (y :: g') = y :: g' := fun z e1 e2 => by rw [e1, e2, ih]
    rcases x with _ | ⟨a, m⟩ <;> rcases y with _ | ⟨b, n⟩
    · exact hk _ rfl rfl
    · exact hk _ rfl rfl
    · cases m <;> exact hk _ rfl rfl
    · cases n with
      | lck =>
        rcases h0 with h0 | h0
        · cases h0; exact hk _ rfl rfl
        · exact absurd rfl (h0 b)
      | _ => cases m <;> exact hk _ rfl rfl
/-- the hand's slot alone is another -/
theorem unlock_set {g : Gm} {i : Nat} (a b : D) (hi : i < g.length) : unlock (g.set i (some ⟨a, .own⟩)) (g.set i (some ⟨b, .own⟩)) = g.set i (some ⟨b, .own⟩) := by
  refine unlock_pt _ _ (by simp) fun j => ?_
  by_cases e : i = j
  · subst e
    right
    intro d
    rw [List.getElem?_set_self hi]
    intro z; cases z
  · left
    rw [List.getElem?_set_ne e, List.getElem?_set_ne e]
/-! ### numbers as data -/
def iN (xs : List Nat) : List D := xs.map fun x => .int (Int.ofNat x)
theorem atN {xs : List Nat} {i : Nat} (h : i < xs.length) : Ev.atI (iN xs) (i : Int) = some (.int (Int.ofNat (xs.getD i 0))) := by
  rw [atI_at (j := i) (by omega) (by simp [iN]; exact h)]
  simp [iN, List.getD_eq_getElem?_getD, List.getElem?_eq_getElem h]
theorem fmN {a b : Nat} : (a : Int).fmod (b : Int) = ((a % b : Nat) : Int) := by
  rw [Int.fmod_eq_emod_of_nonneg _ (by omega)]; rfl
theorem fdN {a b : Nat} : (a : Int).fdiv (b : Int) = ((a / b : Nat) : Int) := by
  rw [Int.fdiv_eq_ediv_of_nonneg _ (by omega)]; rfl
/-! ### comprehensions, by data -/
theorem lcF_mapD {F : D → Option (Option D)} {f : D → D} : ∀ {items : List D}, (∀ x ∈ items, F x = some (some (f x))) → lcF F items = some (items.map f)
  | [], _ => rfl
  | x :: xs, h => by
    unfold lcF
    rw [h x List.mem_cons_self, lcF_mapD fun y hy => h y (List.mem_cons_of_mem _ hy)]
    rfl
theorem lcF_fltD {F : D → Option (Option D)} {f : D → D} {p : D → Bool} : ∀ {items : List D}, (∀ x ∈ items, F x = some (if p x then some (f x) else none)) → lcF F items = some ((items.filter p).map f)
  | [], _ => rfl
  | x :: xs, h => by
    unfold lcF
    rw [h x List.mem_cons_self, lcF_fltD fun y hy => h y (List.mem_cons_of_mem _ hy)]
    cases e : p x <;> simp [List.filter_cons, e]
section
variable {cl : Call} {g : Gm} {k : ItK} {es : List Ex} {tg : Tg} {c e : Ex} {own : List Nat} {fr fr2 : Bool} {xs ys : List D} {a b : D}
theorem itX_seqT : itX .seq es [.tuple xs] = some xs := by
  unfold itX
  split
  · rename_i h1 h2 h3; cases h3
  · rename_i k' es' ds' h; rfl
theorem itX_seqL : itX .seq es [.list xs] = some xs := by
  unfold itX
  split
  · rename_i h1 h2 h3; cases h3
  · rename_i k' es' ds' h; rfl
theorem itX_zip (ha : linD a = some xs) (hb : linD b = some ys) : itX .zip es [a, b] = some (zip2D xs ys) := by
  have : itX .zip es [a, b] = itD .zip [a, b] := rfl
  rw [this]
  show (linD a).bind (fun xs => (linD b).map (zip2D xs)) = _
  rw [ha, hb]; rfl
theorem itX_enu (ha : linD a = some xs) : itX .enu es [a] = some (enuD 0 xs) := by
  have : itX .enu es [a] = itD .enu [a] := rfl
  rw [this]
  show (linD a).map (enuD 0) = _
  rw [ha]; rfl
/-- a comprehension, by its items and its turns' answer -/
theorem klc_to {ds : List (D × Bool)} {items zs : List D} (h : itX k es (ds.map (·.1)) = some items) (h2 : (own.all (plainAt g) && line items.length && tgIn tg own) = true) (h3 : lcF (lcP cl tg c e (clr (lockAll g (vlsOf es ds)) own)) items = some zs) : klc cl g k es tg c e own (some ds) = some (.list zs, true) := by
  rw [klc_s h h2, h3]; rfl
end
end Ev

end

-- EvDraw
section
/-! Ev: hands made, things drawn. -/
namespace Ev
open PySem L2
def ab (a : Int) : Int := if a < 0 then -a else a
def handS (e : Ex) : List Sm := [.asg (.nm 1) (.lc .seq [(.ap (.sl false true) [(.bor 0), (.lit (.int (63)))])] (.nm 2) (.lit (.bool true)) (.ap .abs [(.ap .intOf [(.bor 2)])]) [2]),
  .ret (.lst [(.var 1), (.lit (.int (0))), (.lit (.int (0))), e, (.lit (.int (0)))])]
def handE (c1 c2 : Int) : Ex := .ap .add [(.lit (.int c1)), (.ap .mul [(.lit (.int c2)), (.ap .len [(.bor 1)])])]
def handE1 : Ex := .ap .add [(.lit (.int 1)), (.ap .len [(.bor 1)])]
theorem hand_gen {tbl : List Fn} {f k : Nat} {e : Ex} (hf : tbl[f]? = some ⟨1, [], 3, handS e⟩) (ns : List Int) (h : ns.length ≤ 63)
    (he : ∀ (cl : Call) (a : D), ∃ m : Int, pv cl [some ⟨a, .frz⟩, some ⟨.list ((ns.map ab).map .int), .frz⟩, none] e = some (.int m, false)) (hb : isBor e = none) : ∃ hd, HV hd ∧ evFn tbl (k + 1) f [.list (ns.map .int)] = .ok (hd, true, []) := by
  obtain ⟨m, hm⟩ := he (evFn tbl k) (.list (ns.map .int))
  refine ⟨hnd (ns.map ab) 0 0 m 0, ⟨_, _, _, _, _, rfl, ?_, by decide, by decide⟩, ?_⟩
  · intro x hx
    obtain ⟨y, _, rfl⟩ := List.mem_map.1 hx
    unfold ab; split <;> omega
  have e1 : pr (.sl false true) [.list (ns.map .int), .int 63] = some (.list (ns.map .int), true) := by
    show prSlFT [.list (ns.map .int), .int 63] = _
    unfold prSlFT
    have : cut (ns.map PyData.int) none (some 63) = ns.map .int := by
      unfold cut
      rw [show sIx (ns.map PyData.int).length 0 none = 0 from rfl, List.drop_zero]
      apply List.take_of_length_le
      show _ ≤ min 63 (ns.map PyData.int).length - 0
      rw [List.length_map]; omega
    simp only [this]
  refine evFn_Ret hf rfl ?_
  have hl : line (ns.map PyData.int).length = true := by unfold line; simp; omega
  unfold handS
  refine Ret.st1 [some ⟨.list (ns.map .int), .frz⟩, some ⟨.list ((ns.map ab).map .int), .own⟩, none] ?_ ?_
  · simp [slots, slotD, e1]
    rw [klc_s (items := ns.map .int) rfl (by rw [hl]; rfl), lcF_map (u := .int) (f := fun x => .int (ab x))]
    · simp [freeAt]
    · intro x _
      simp [lcP, bindT, freeAt, lockAll, vlsOf, lockAt, clr, slotD]
      rfl
  · refine Ret.rt [some ⟨.list (ns.map .int), .frz⟩, some ⟨.list ((ns.map ab).map .int), .frz⟩, none] (evS_rtt (fun i => by simp) ?_)
    refine ev_lstt (evs_vv rfl (ev_varo rfl) (evs_vv rfl ev_li (evs_vv rfl ev_li (evs_vv hb (pv_ev hb hm) (evs_vv rfl ev_li evs_n))))) rfl rfl
theorem hand_ok {tbl : List Fn} {f k : Nat} {c1 c2 : Int} (hc : -(2 ^ 64) < c2 ∧ c2 < 2 ^ 64) (hf : tbl[f]? = some ⟨1, [], 3, handS (handE c1 c2)⟩) (ns : List Int) (h : ns.length ≤ 63) : ∃ hd, HV hd ∧ evFn tbl (k + 1) f [.list (ns.map .int)] = .ok (hd, true, []) :=
  hand_gen hf ns h (fun cl a => ⟨c1 + c2 * ns.length, by simp [handE, slotD, p_mul (mulOk_l hc)]⟩) rfl
theorem hand_ok1 {tbl : List Fn} {f k : Nat} (hf : tbl[f]? = some ⟨1, [], 3, handS handE1⟩) (ns : List Int) (h : ns.length ≤ 63) : ∃ hd, HV hd ∧ evFn tbl (k + 1) f [.list (ns.map .int)] = .ok (hd, true, []) :=
  hand_gen hf ns h (fun cl a => ⟨1 + ns.length, by simp [handE1, slotD]⟩) rfl

/-- the bound stands in a slot -/
theorem lendb_ev {cl : Call} {f i p : Nat} {g : Gm} {h h' x d : D} {fr t : Bool} {m : Md} (hm : m = .own ∨ m = .prm) (hp : g[p]? = some (some ⟨x, .frz⟩)) (hne : p ≠ i) (hg : g[i]? = some (some ⟨h, m⟩)) (hc : cl f [h, x] = .ok (d, fr, [h'])) : ev cl t (.call f [.ln i, .pl] [.bor p]) g = fin t d fr (g.set i (some ⟨h', m⟩)) := by
  have hsp : slotD g p = some x := slotD_some hp
  have hs : evs cl [.bor p] g = .ok ([.b p], g) := evs_bb hsp evs_n
  have ha : argsOf g [.ln i, .pl] [.b p] = some [h, x] := by
    rcases hm with rfl | rfl <;> simp [argsOf, hg, Vl.res, hsp]
  have hpb : putBack g [i] [h'] = some (g.set i (some ⟨h', m⟩)) := by simp [putBack, hg]
  have hz : frzB g [.b p] = some g := by simp [frzB, hp]
  have hb : callEnd t g [.b p] [.ln i, .pl] (.ok (d, fr, [h'])) = fin t d fr (g.set i (some ⟨h', m⟩)) := by
    simp [callEnd, hz, lent, ours, hpb]
  have ho : okB [.ln i, .pl] [.b p] = true := by simp [okB, lent, hne]
  simp only [ev]
  rw [if_pos (by simp [lent, slotD_some hg]), hs]
  simp only [ok_bind, ha, ho, if_true, hc, hb]
theorem drawb_ev {cl : Call} {f : Nat} (hd : Dr cl f) {i p : Nat} {g : Gm} {h : D} {s : Int} {m : Md} (hm : m = .own ∨ m = .prm) (hp : g[p]? = some (some ⟨.int s, .frz⟩)) (hne : p ≠ i) (hg : g[i]? = some (some ⟨h, m⟩)) (hh : HV h) (hs : 0 < s) (hs2 : s < 1073741824) :
    ∃ d h', 0 ≤ d ∧ d < s ∧ HV h' ∧ ∀ t, ev cl t (.call f [.ln i, .pl] [.bor p]) g = fin t (.int d) false (g.set i (some ⟨h', m⟩)) := by
  obtain ⟨d, h', k1, k2, k3, k4⟩ := hd h s hh hs hs2
  exact ⟨d, h', k1, k2, k3, fun t => lendb_ev hm hp hne hg k4⟩
/-! ### one of some things -/
def Sme (cl : Call) (f : Nat) : Prop := ∀ h (ds : List D), HV h → ds ≠ [] → ds.length < 1000000 → ∃ d h', d ∈ ds ∧ HV h' ∧ cl f [h, .list ds] = .ok (d, false, [h'])
def someS (f : Nat) : List Sm := [.ret (.ap .ix [(.bor 1), (.call f [.ln 0, .pl] [(.ap .len [(.bor 1)])])])]
theorem some_ok {tbl : List Fn} {f fd k : Nat} (hf : tbl[f]? = some ⟨2, [0], 2, someS fd⟩) (hd : Dr (evFn tbl k) fd) : Sme (evFn tbl (k + 1)) f := by
  intro h ds hh hn hl
  have hpos : 0 < ds.length := by cases ds with | nil => exact absurd rfl hn | cons _ _ => simp
  obtain ⟨d, h', d0, d1, v, kk⟩ := draw_ev (g := [some ⟨h, .prm⟩, some ⟨.list ds, .frz⟩]) hd (i := 0) (m := .prm) (.inr rfl) rfl (e := .ap .len [(.bor 1)]) rfl (g2 := [some ⟨h, .prm⟩, some ⟨.list ds, .frz⟩]) (fr := false) (s := ds.length) (pv_ev rfl (by simp [slotD])) rfl hh (by omega) (by omega)
  obtain ⟨N, rfl⟩ : ∃ N : Nat, d = N := ⟨d.toNat, by omega⟩
  have hN : N < ds.length := by omega
  refine ⟨ds[N], h', List.getElem_mem hN, v, ?_⟩
  have hx : pr .ix [.list ds, .int (N : Int)] = some (ds[N], false) := by
    show (Ev.atI ds (N : Int)).map (fun x => (x, false)) = _
    rw [atI_at (j := N) (by omega) hN, List.getElem?_eq_getElem hN]
    rfl
  have e1 := ev_app (p := .ix) (evs_bb (cl := evFn tbl k) (g := [some ⟨h, .prm⟩, some ⟨.list ds, .frz⟩]) (i := 1) (d := .list ds) rfl (evs_vv rfl (kk false) evs_n)) (ds := [.list ds, .int (N : Int)]) rfl hx
  show (match tbl[f]? with | none => _ | some fn => _) = _
  rw [hf]
  simp only
  have e2 : initG ⟨2, [0], 2, someS fd⟩ [h, .list ds] = [some ⟨h, .prm⟩, some ⟨.list ds, .frz⟩] := rfl
  have e3 : evSs (evFn tbl k) (someS fd) [some ⟨h, .prm⟩, some ⟨.list ds, .frz⟩] = .rt ds[N] false [some ⟨h', .prm⟩, some ⟨.list ds, .frz⟩] := evSs_rt (evS_rtt (fun i => by simp) e1)
  have e4 : (decide ([h, PyData.list ds].length = 2) && mpOk [0] [h, .list ds]) = true := by
    obtain ⟨cs, p, c, m, n, rfl, _⟩ := hh
    rfl
  rw [e2, e3, if_pos e4]
  rfl
theorem some_ev {cl : Call} {f : Nat} (hd : Sme cl f) {i : Nat} {e : Ex} {g g2 : Gm} {h : D} {ds : List D} {fr : Bool} {m : Md} (hm : m = .own ∨ m = .prm) (h0 : (slotD g i).isSome = true) (heb : isBor e = none) (he : ev cl false e g = .ok (.list ds, fr, g2)) (hg : g2[i]? = some (some ⟨h, m⟩)) (hh : HV h) (hn : ds ≠ []) (hl : ds.length < 1000000) :
    ∃ d h', d ∈ ds ∧ HV h' ∧ ∀ t, ev cl t (.call f [.ln i, .pl] [e]) g = fin t d false (g2.set i (some ⟨h', m⟩)) := by
  obtain ⟨d, h', k1, k2, k3⟩ := hd h ds hh hn hl
  exact ⟨d, h', k1, k2, fun t => lend_ev hm h0 heb he hg k3⟩

/-! ### a list of drawn things -/
theorem ev_lcD {cl : Call} {k : ItK} {j : Nat} {es : List Ex} {e : Ex} {g : Gm} {vs : List Vl} {items : List D} (G : D → Gm) (P : D → Prop) (h : D)
    (hs : evs cl es g = .ok (vs, G h)) (hi : (resAll (G h) vs).bind (itX k es) = some items) (hl : lockAll (G h) vs = G h) (hn : line items.length = true) (hG : ∀ h, (G h)[j]? = some none) (hu : ∀ h', unlock (G h) (G h') = G h')
    (turn : ∀ h x, x ∈ items → HV h → ∃ y h' fr, HV h' ∧ P y ∧ ev cl false e ((G h).set j (some ⟨x, .frz⟩)) = .ok (y, fr, (G h').set j (some ⟨x, .frz⟩))) (hh : HV h) :
    ∃ ys h', HV h' ∧ ys.length = items.length ∧ (∀ y ∈ ys, P y) ∧ ev cl false (.lc k es (.nm j) (.lit (.bool true)) e [j]) g = .ok (.list ys, true, G h') := by
  have hset : ∀ h, (G h).set j none = G h := fun h => by
    apply List.ext_getElem?
    intro i
    by_cases e : j = i
    · subst e
      rw [List.getElem?_set_self (List.getElem?_eq_some_iff.mp (hG h)).1, hG h]
    · rw [List.getElem?_set_ne e]
  have hclr : ∀ h, clr (G h) [j] = G h := fun h => hset h
  have key : ∀ (xs : List D) (h : D), (∀ x ∈ xs, x ∈ items) → HV h → ∃ ys h', HV h' ∧ ys.length = xs.length ∧ (∀ y ∈ ys, P y) ∧ lcL [j] (lcT (.nm j) (fun g2 => ev cl true (.lit (.bool true)) g2) (fun g2 => ev cl false e g2)) xs (G h) = .ok (ys, G h') := by
    intro xs
    induction xs with
    | nil => intro h _ hh; exact ⟨[], h, hh, rfl, by simp, rfl⟩
    | cons x xs ih =>
      intro h hm hh
      obtain ⟨y, h1, fr, v1, p1, e1⟩ := turn h x (hm x List.mem_cons_self) hh
      obtain ⟨ys, h2, v2, l2, p2, e2⟩ := ih h1 (fun x hx => hm x (List.mem_cons_of_mem _ hx)) v1
      refine ⟨y :: ys, h2, v2, by simp [l2], fun z hz => ?_, ?_⟩
      · rcases List.mem_cons.mp hz with r | r
        · rw [r]; exact p1
        · exact p2 z r
      · have hb : bindT (.nm j) x (G h) = some ((G h).set j (some ⟨x, .frz⟩)) := by
          unfold bindT freeAt
          rw [hG h]; rfl
        have ht : lcT (.nm j) (fun g2 => ev cl true (.lit (.bool true)) g2) (fun g2 => ev cl false e g2) x (G h) = .ok (some y, (G h1).set j (some ⟨x, .frz⟩)) := by
          unfold lcT
          rw [hb]
          have : ev cl true (.lit (.bool true)) ((G h).set j (some ⟨x, .frz⟩)) = .ok (.bool true, false, (G h).set j (some ⟨x, .frz⟩)) := by simp only [ev]; rfl
          simp only [this]
          rw [e1]
        unfold lcL
        rw [ht]
        simp only
        have hc : clr ((G h1).set j (some ⟨x, .frz⟩)) [j] = G h1 := by
          show ((G h1).set j _).set j none = G h1
          rw [List.set_set, hset]
        rw [hc, e2]
  obtain ⟨ys, h', v, l, p, e'⟩ := key items h (fun _ h => h) hh
  refine ⟨ys, h', v, l, p, ?_⟩
  have hp : ([j].all (plainAt (G h)) && line items.length && tgIn (.nm j) [j]) = true := by
    rw [hn]
    simp [plainAt, hG h, tgIn]
  have hlc := ev_lcc (cl := cl) (g := g) (e := e) (c := .lit (.bool true)) (tg := .nm j) (own := [j]) hs hi hp (gz := G h') (ys := ys) (by rw [hl, hclr]; exact e')
  have hbk : back (G h) (unlock (G h) (G h')) [j] = G h' := by
    rw [hu]
    show (G h').set j (match (G h)[j]? with | some s => s | none => none) = G h'
    rw [hG h]
    exact hset h'
  rw [hbk] at hlc
  exact hlc
end Ev

end

-- Sa2
section
namespace K82
open PySem PySem.Spec PyProof.Rows Ev
/-- the rings of a star -/
def ringN (n k b : Nat) : List Nat := (List.range (n / Nat.gcd n k)).map fun i => (b + i * k) % n
def ringsN (n k : Nat) : List (List Nat) := (List.range (Nat.gcd n k)).map (ringN n k)
def ringsD (n k : Nat) : D := .list ((ringsN n k).map fun r => .tuple (r.map fun i => .int (Int.ofNat i)))
def pairs : List (Nat × Nat) := [(3,1),(4,1),(5,1),(5,2),(6,1),(6,2),(7,1),(7,2),(7,3),(8,1),(8,2),(8,3),(9,1),(9,2),(9,3),(9,4),(10,1),(10,2),(10,3),(10,4),(11,1),(11,2),(11,3),(11,4),(11,5),(12,1),(12,2),(12,3),(12,4),(12,5),(13,1),(13,2),(13,3),(13,4),(13,5),(13,6),(14,1),(14,2),(14,3),(14,4),(14,5),(14,6),(15,1),(15,2),(15,3),(15,4),(15,5),(15,6),(15,7),(16,1),(16,2),(16,3),(16,4),(16,5),(16,6),(16,7),(17,1)]
theorem chunk {α β : Type} (k : Nat) (hk : 0 < k) (xs : List α) (F G : α → β) (N : Nat) (hN : xs.length ≤ k * N) (h : ∀ j, j < N → ((xs.drop (k * j)).take k).map F = ((xs.drop (k * j)).take k).map G) : ∀ x ∈ xs, F x = G x := by
  intro x hx
  obtain ⟨i, hi, rfl⟩ := List.getElem_of_mem hx
  have h1 : i / k < N := by
    rw [Nat.div_lt_iff_lt_mul hk, Nat.mul_comm]; omega
  have h2 := Nat.div_add_mod i k
  have h3 := Nat.mod_lt i hk
  refine List.map_inj_left.mp (h (i / k) h1) _ (List.mem_iff_getElem?.mpr ⟨i % k, ?_⟩)
  rw [List.getElem?_take_of_lt h3, List.getElem?_drop, h2]
  exact List.getElem?_eq_getElem hi
theorem u16_0 : ((pairs.drop (6 * 0)).take 6).map (fun p => evFn T 19 16 [.int (Int.ofNat p.1), .int (Int.ofNat p.2)]) = ((pairs.drop (6 * 0)).take 6).map (fun p => .ok (ringsD p.1 p.2, true, [])) := by kernel_rfl
theorem u16_1 : ((pairs.drop (6 * 1)).take 6).map (fun p => evFn T 19 16 [.int (Int.ofNat p.1), .int (Int.ofNat p.2)]) = ((pairs.drop (6 * 1)).take 6).map (fun p => .ok (ringsD p.1 p.2, true, [])) := by kernel_rfl
theorem u16_2 : ((pairs.drop (6 * 2)).take 6).map (fun p => evFn T 19 16 [.int (Int.ofNat p.1), .int (Int.ofNat p.2)]) = ((pairs.drop (6 * 2)).take 6).map (fun p => .ok (ringsD p.1 p.2, true, [])) := by kernel_rfl
theorem u16_3 : ((pairs.drop (6 * 3)).take 6).map (fun p => evFn T 19 16 [.int (Int.ofNat p.1), .int (Int.ofNat p.2)]) = ((pairs.drop (6 * 3)).take 6).map (fun p => .ok (ringsD p.1 p.2, true, [])) := by kernel_rfl
theorem u16_4 : ((pairs.drop (6 * 4)).take 6).map (fun p => evFn T 19 16 [.int (Int.ofNat p.1), .int (Int.ofNat p.2)]) = ((pairs.drop (6 * 4)).take 6).map (fun p => .ok (ringsD p.1 p.2, true, [])) := by kernel_rfl
theorem u16_5 : ((pairs.drop (6 * 5)).take 6).map (fun p => evFn T 19 16 [.int (Int.ofNat p.1), .int (Int.ofNat p.2)]) = ((pairs.drop (6 * 5)).take 6).map (fun p => .ok (ringsD p.1 p.2, true, [])) := by kernel_rfl
theorem u16_6 : ((pairs.drop (6 * 6)).take 6).map (fun p => evFn T 19 16 [.int (Int.ofNat p.1), .int (Int.ofNat p.2)]) = ((pairs.drop (6 * 6)).take 6).map (fun p => .ok (ringsD p.1 p.2, true, [])) := by kernel_rfl
theorem u16_7 : ((pairs.drop (6 * 7)).take 6).map (fun p => evFn T 19 16 [.int (Int.ofNat p.1), .int (Int.ofNat p.2)]) = ((pairs.drop (6 * 7)).take 6).map (fun p => .ok (ringsD p.1 p.2, true, [])) := by kernel_rfl
theorem u16_8 : ((pairs.drop (6 * 8)).take 6).map (fun p => evFn T 19 16 [.int (Int.ofNat p.1), .int (Int.ofNat p.2)]) = ((pairs.drop (6 * 8)).take 6).map (fun p => .ok (ringsD p.1 p.2, true, [])) := by kernel_rfl
theorem u16_9 : ((pairs.drop (6 * 9)).take 6).map (fun p => evFn T 19 16 [.int (Int.ofNat p.1), .int (Int.ofNat p.2)]) = ((pairs.drop (6 * 9)).take 6).map (fun p => .ok (ringsD p.1 p.2, true, [])) := by kernel_rfl
theorem u16 : ∀ p ∈ pairs, (fun p => evFn T 19 16 [.int (Int.ofNat p.1), .int (Int.ofNat p.2)]) p = (fun p => .ok (ringsD p.1 p.2, true, [])) p := by
  refine chunk 6 (by decide) _ _ _ 10 (by decide) fun j hj => ?_
  match j, hj with
  | 0, _ => exact u16_0
  | 1, _ => exact u16_1
  | 2, _ => exact u16_2
  | 3, _ => exact u16_3
  | 4, _ => exact u16_4
  | 5, _ => exact u16_5
  | 6, _ => exact u16_6
  | 7, _ => exact u16_7
  | 8, _ => exact u16_8
  | 9, _ => exact u16_9
  | j + 10, h => exact absurd h (by omega)
end K82

end

-- Sa3
section
namespace K82
open PySem PySem.Spec PyProof.Rows Ev
def clT : Call := fun f ds => match f, ds with
  | 16, [.int (.ofNat n), .int (.ofNat k)] => if pairs.contains (n, k) then .ok (ringsD n k, true, []) else evFn T 19 16 [.int (.ofNat n), .int (.ofNat k)]
  | f, ds => evFn T 19 f ds
theorem u16_at {n k : Nat} (h : (n, k) ∈ pairs) : evFn T 19 16 [.int (Int.ofNat n), .int (Int.ofNat k)] = .ok (ringsD n k, true, []) :=
  u16 (n, k) h
theorem clT_eq : clT = evFn T 19 := by
  funext f ds
  unfold clT
  split
  · rename_i n k
    by_cases h : pairs.contains (n, k) = true
    · rw [if_pos h]; exact (u16_at (by simpa using h)).symm
    · rw [if_neg h]
  · rfl
def body : List Sm := match b19 with | _ :: .for _ _ _ b :: _ => b | _ => []
def part1 : List Sm := (body.drop 3).take 12
def gg (n k : Nat) (s h t : D) : Gm := [some ⟨s, .frz⟩, some ⟨h, .own⟩, some ⟨t, .frz⟩, some ⟨.int n, .frz⟩, some ⟨.int ((n - 1) / 2 : Nat), .frz⟩, some ⟨.int k, .frz⟩] ++ List.replicate 15 none
def obs : Fl → Option (List (Option (Option Sl)) × Nat) | .nx g => some ([g[0]?, g[1]?, g[2]?, g[3]?, g[4]?, g[19]?, g[20]?], g.length) | _ => none
def exp (n : Nat) (s h t : D) : Option (List (Option (Option Sl)) × Nat) := some ([some (some ⟨s, .frz⟩), some (some ⟨h, .own⟩), some (some ⟨t, .frz⟩), some (some ⟨.int n, .frz⟩), some (some ⟨.int ((n - 1) / 2 : Nat), .frz⟩), some none, some none], 21)
def pairs56 : List (Nat × Nat) := pairs.dropLast
theorem main56_0 (s h t : D) : ((pairs56.drop (4 * 0)).take 4).map (fun p => obs (evSs clT part1 (gg p.1 p.2 s h t))) = ((pairs56.drop (4 * 0)).take 4).map (fun p => exp p.1 s h t) := by kernel_rfl
theorem main56_1 (s h t : D) : ((pairs56.drop (4 * 1)).take 4).map (fun p => obs (evSs clT part1 (gg p.1 p.2 s h t))) = ((pairs56.drop (4 * 1)).take 4).map (fun p => exp p.1 s h t) := by kernel_rfl
theorem main56_2 (s h t : D) : ((pairs56.drop (4 * 2)).take 4).map (fun p => obs (evSs clT part1 (gg p.1 p.2 s h t))) = ((pairs56.drop (4 * 2)).take 4).map (fun p => exp p.1 s h t) := by kernel_rfl
theorem main56_3 (s h t : D) : ((pairs56.drop (4 * 3)).take 4).map (fun p => obs (evSs clT part1 (gg p.1 p.2 s h t))) = ((pairs56.drop (4 * 3)).take 4).map (fun p => exp p.1 s h t) := by kernel_rfl
theorem main56_4 (s h t : D) : ((pairs56.drop (4 * 4)).take 4).map (fun p => obs (evSs clT part1 (gg p.1 p.2 s h t))) = ((pairs56.drop (4 * 4)).take 4).map (fun p => exp p.1 s h t) := by kernel_rfl
theorem main56_5 (s h t : D) : ((pairs56.drop (4 * 5)).take 4).map (fun p => obs (evSs clT part1 (gg p.1 p.2 s h t))) = ((pairs56.drop (4 * 5)).take 4).map (fun p => exp p.1 s h t) := by kernel_rfl
theorem main56_6 (s h t : D) : ((pairs56.drop (4 * 6)).take 4).map (fun p => obs (evSs clT part1 (gg p.1 p.2 s h t))) = ((pairs56.drop (4 * 6)).take 4).map (fun p => exp p.1 s h t) := by kernel_rfl
theorem main56_7 (s h t : D) : ((pairs56.drop (4 * 7)).take 4).map (fun p => obs (evSs clT part1 (gg p.1 p.2 s h t))) = ((pairs56.drop (4 * 7)).take 4).map (fun p => exp p.1 s h t) := by kernel_rfl
theorem main56_8 (s h t : D) : ((pairs56.drop (4 * 8)).take 4).map (fun p => obs (evSs clT part1 (gg p.1 p.2 s h t))) = ((pairs56.drop (4 * 8)).take 4).map (fun p => exp p.1 s h t) := by kernel_rfl
theorem main56_9 (s h t : D) : ((pairs56.drop (4 * 9)).take 4).map (fun p => obs (evSs clT part1 (gg p.1 p.2 s h t))) = ((pairs56.drop (4 * 9)).take 4).map (fun p => exp p.1 s h t) := by kernel_rfl
theorem main56_10 (s h t : D) : ((pairs56.drop (4 * 10)).take 4).map (fun p => obs (evSs clT part1 (gg p.1 p.2 s h t))) = ((pairs56.drop (4 * 10)).take 4).map (fun p => exp p.1 s h t) := by kernel_rfl
theorem main56_11 (s h t : D) : ((pairs56.drop (4 * 11)).take 4).map (fun p => obs (evSs clT part1 (gg p.1 p.2 s h t))) = ((pairs56.drop (4 * 11)).take 4).map (fun p => exp p.1 s h t) := by kernel_rfl
theorem main56_12 (s h t : D) : ((pairs56.drop (4 * 12)).take 4).map (fun p => obs (evSs clT part1 (gg p.1 p.2 s h t))) = ((pairs56.drop (4 * 12)).take 4).map (fun p => exp p.1 s h t) := by kernel_rfl
theorem main56_13 (s h t : D) : ((pairs56.drop (4 * 13)).take 4).map (fun p => obs (evSs clT part1 (gg p.1 p.2 s h t))) = ((pairs56.drop (4 * 13)).take 4).map (fun p => exp p.1 s h t) := by kernel_rfl
theorem main56 (s h t : D) : ∀ p ∈ pairs56, (fun p => obs (evSs clT part1 (gg p.1 p.2 s h t))) p = (fun p => exp p.1 s h t) p := by
  refine chunk 4 (by decide) _ _ _ 14 (by decide) fun j hj => ?_
  match j, hj with
  | 0, _ => exact main56_0 s h t
  | 1, _ => exact main56_1 s h t
  | 2, _ => exact main56_2 s h t
  | 3, _ => exact main56_3 s h t
  | 4, _ => exact main56_4 s h t
  | 5, _ => exact main56_5 s h t
  | 6, _ => exact main56_6 s h t
  | 7, _ => exact main56_7 s h t
  | 8, _ => exact main56_8 s h t
  | 9, _ => exact main56_9 s h t
  | 10, _ => exact main56_10 s h t
  | 11, _ => exact main56_11 s h t
  | 12, _ => exact main56_12 s h t
  | 13, _ => exact main56_13 s h t
  | j + 14, h => exact absurd h (by omega)
end K82

end

-- Sa4
section
namespace K82
open PySem PySem.Spec PyProof.Rows Ev
/-- two names made one -/
def mrg (n k : Nat) (xs : List Nat) (a : Nat) : List Nat := xs.map fun x => if x = xs.getD ((a + k) % n) 0 then xs.getD a 0 else x
def inner (n k : Nat) (xs : List Nat) : List Nat := (List.range n).foldl (mrg n k) xs
def outer (n : Nat) (ks : List Nat) : List Nat := ks.foldl (fun xs k => inner n k xs) (List.range n)
def pieces (n : Nat) (ks : List Nat) : Nat := (dedupI ((outer n ks).map Int.ofNat)).length
theorem mrg_len {n k : Nat} {xs : List Nat} {a : Nat} : (mrg n k xs a).length = xs.length := by simp [mrg]
abbrev fz (n : Nat) : Option Sl := some ⟨.int (Int.ofNat n), .frz⟩
/-- the slots of f18 -/
def S18 (n : Nat) (st : D) (xs : List Nat) (a b c d : Option Sl) : Gm := [fz n, some ⟨st, .frz⟩, some ⟨.list (iN xs), .own⟩, a, b, c, d, none]
def body18 : List Sm := [.mas [(.nm 5), (.nm 6)] [(.ap .ix [(.bor 2), (.bor 4)]), (.ap .ix [(.bor 2), (.ap .mod [(.ap .intOf [(.ap .add [(.bor 4), (.bor 3)])]), (.bor 0)])])],
    .asg (.nm 2) (.lc .seq [(.bor 2)] (.nm 7) (.lit (.bool true)) (.ite (.ap .eq [(.bor 7), (.bor 6)]) (.var 5) (.var 7)) [7])]
theorem in18 (cl : Call) (n k : Nat) (hn : 0 < n) (hn2 : n ≤ 100) (st : D) (xs : List Nat) (hx : xs.length = n) (a : Nat) (ha : a < n) :
    evSs cl body18 (S18 n st xs (fz k) (fz a) none none) = .nx (S18 n st (mrg n k xs a) (fz k) (fz a) (fz (xs.getD a 0)) (fz (xs.getD ((a + k) % n) 0))) := by
  have e1 := atN (xs := xs) (i := a) (by omega)
  have hm := Nat.mod_lt (a + k) hn
  have e2 := atN (xs := xs) (i := (a + k) % n) (by omega)
  have e3 : ((a : Int) + (k : Int)).fmod (n : Int) = (((a + k) % n : Nat) : Int) := by
    rw [show (a : Int) + (k : Int) = ((a + k : Nat) : Int) from by push_cast; rfl, fmN]
  have hn0 : (n : Int) ≠ 0 := by omega
  rw [← e3] at e2
  unfold mrg
  generalize xs.getD a 0 = v1 at *
  generalize xs.getD ((a + k) % n) 0 = v2 at *
  refine st1 (S18 n st xs (fz k) (fz a) (fz v1) (fz v2)) ?_ (stL _ ?_)
  · simp [S18, slotD, p_mod hn0, e1, e2, nmsOf, setNs, freeAt]
  · simp [S18, slotD]
    rw [klc_s (items := iN xs) rfl (by simp [plainAt, tgIn, line, iN]; omega), show iN xs = xs.map (fun x => PyData.int (Int.ofNat x)) from rfl, lcF_map (u := fun x => PyData.int (Int.ofNat x)) (f := fun x => PyData.int (Int.ofNat (if x = v2 then v1 else x)))]
    · simp [freeAt, iN]
    · intro x _
      by_cases h : x = v2
      · simp [lcP, bindT, freeAt, lockAll, vlsOf, lockAt, clr, slotD, p_eqI, h]
      · have h2 : ¬ (x : Int) = (v2 : Int) := by omega
        simp [lcP, bindT, freeAt, lockAll, vlsOf, lockAt, clr, slotD, p_eqI, h, h2]
theorem inn_len {n k : Nat} {xs : List Nat} (h : xs.length = n) : (inner n k xs).length = n := by
  unfold inner
  generalize List.range n = r
  induction r generalizing xs with
  | nil => exact h
  | cons a r ih => exact ih (by rw [mrg_len]; exact h)
theorem inl18 (cl : Call) (n k : Nat) (hn : 0 < n) (hn2 : n ≤ 100) (st : D) (xs : List Nat) (hx : xs.length = n) : evS cl (.for .rng [(.bor 0)] (.nm 4) body18) (S18 n st xs (fz k) none none none) = .nx (S18 n st (inner n k xs) (fz k) none none none) := by
  refine (for_fold (List.range n) (fun a => .int (Int.ofNat a)) (mrg n k) (fun xs => S18 n st xs (fz k) none none none) (fun xs => S18 n st xs (fz k) none none none) (fun xs => xs.length = n) xs (vs := [.b 0]) (evs_bb (d := .int (Int.ofNat n)) rfl evs_n) (itN rfl (by omega)) rfl hx ?_ ?_).1
  · intro s a ha hs
    have ha : a < n := by simpa using ha
    exact ⟨by rw [mrg_len]; exact hs, _, .inl (in18 cl n k hn hn2 st s hs a ha), rfl⟩
  · intro s _; rfl
theorem f18 (k n : Nat) (ks : List Nat) (hn : 0 < n) (hn2 : n ≤ 100) : evFn T (k + 1) 18 [.int (Int.ofNat n), .tuple (iN ks)] = .ok (.int (Int.ofNat (pieces n ks)), false, []) := by
  refine evFn_Ret (f := 18) rfl rfl ?_
  show Ret _ [_, _, _] _ _ _
  have hx : (outer n ks).length = n := by
    unfold outer
    generalize hr : List.range n = r
    have h0 : r.length = n := by rw [← hr]; simp
    clear hr
    induction ks generalizing r with
    | nil => exact h0
    | cons a ks ih => exact ih _ (inn_len h0)
  refine Ret.st1 (S18 n (.tuple (iN ks)) (List.range n) none none none none) ?_ (Ret.stE (S18 n (.tuple (iN ks)) (outer n ks) none none none none) ?_ (Ret.rs ?_))
  · have e : pr (.lstIt .rng) [.int (Int.ofNat n)] = some (.list (iN (List.range n)), true) := by
      have := itN (g := []) (es := []) (vs := [.v (.int (Int.ofNat n)) false]) (n := n) rfl (by omega)
      have e2 : itD .rng [.int (Int.ofNat n)] = some (iN (List.range n)) := this
      show ((itD .rng [.int (Int.ofNat n)]).bind fun xs => if line xs.length then some (PyData.list xs, true) else none) = _
      rw [e2]
      simp [line, iN]; omega
    simp at e
    simp [slots, slotD, e, freeAt, S18]
  · refine (for_fold ks (fun a => .int (Int.ofNat a)) (fun xs k => inner n k xs) (fun xs => S18 n (.tuple (iN ks)) xs none none none none) (fun xs => S18 n (.tuple (iN ks)) xs none none none none) (fun xs => xs.length = n) (List.range n) (vs := [.b 1]) (evs_bb (d := .tuple (iN ks)) rfl evs_n) rfl rfl (by simp) ?_ ?_).1
    · intro s a ha hs
      refine ⟨inn_len hs, S18 n (.tuple (iN ks)) (inner n a s) (fz a) none none none, .inl ?_, rfl⟩
      exact stE _ (inl18 _ n a hn hn2 _ s hs) st0
    · intro s _; rfl
  · have hp : pr .lenSet [.list (iN (outer n ks))] = some (.int (Int.ofNat (pieces n ks)), false) := by
      have e1 : iN (outer n ks) = ((outer n ks).map Int.ofNat).map PyData.int := by rw [List.map_map]; rfl
      have e2 : ∀ xs : List Int, intsOf (xs.map .int) = some xs := by
        intro xs
        induction xs with
        | nil => rfl
        | cons x xs ih => show (intsOf (xs.map .int)).map (x :: ·) = _; rw [ih]; rfl
      show ((intsOf (iN (outer n ks))).bind fun ns => if decide (ns.length ≤ 1000) then some (PyData.int (dedup (iN (outer n ks))).length, false) else none) = _
      rw [e1, e2, dedup_ints]
      have : (outer n ks).length ≤ 1000 := by omega
      simp [pieces, this]
    simp [S18, slotD, hp]
end K82

end

-- Sa5
section
namespace K82
open PySem PySem.Spec PyProof.Rows Ev
def subs : List Nat → List (List Nat)
  | [] => [[]]
  | x :: xs => subs xs ++ (subs xs).map (x :: ·)
def stepsOf (n : Nat) : List (List Nat) := (subs (List.range' 1 ((n - 1) / 2))).filter fun l => decide (1 ≤ l.length) && decide (l.length ≤ 4)
def cases12 : List (Nat × List Nat) := ((List.range' 3 14).map fun n => (stepsOf n).map fun l => (n, l)).flatten
theorem u12_0 : ((cases12.drop (20 * 0)).take 20).map (fun p => evFn T 19 12 [.int (Int.ofNat p.1), .tuple (iN p.2)]) = ((cases12.drop (20 * 0)).take 20).map (fun p => .ok (.int (Int.ofNat (pieces p.1 p.2)), false, [])) := by kernel_rfl
theorem u12_1 : ((cases12.drop (20 * 1)).take 20).map (fun p => evFn T 19 12 [.int (Int.ofNat p.1), .tuple (iN p.2)]) = ((cases12.drop (20 * 1)).take 20).map (fun p => .ok (.int (Int.ofNat (pieces p.1 p.2)), false, [])) := by kernel_rfl
theorem u12_2 : ((cases12.drop (20 * 2)).take 20).map (fun p => evFn T 19 12 [.int (Int.ofNat p.1), .tuple (iN p.2)]) = ((cases12.drop (20 * 2)).take 20).map (fun p => .ok (.int (Int.ofNat (pieces p.1 p.2)), false, [])) := by kernel_rfl
theorem u12_3 : ((cases12.drop (20 * 3)).take 20).map (fun p => evFn T 19 12 [.int (Int.ofNat p.1), .tuple (iN p.2)]) = ((cases12.drop (20 * 3)).take 20).map (fun p => .ok (.int (Int.ofNat (pieces p.1 p.2)), false, [])) := by kernel_rfl
theorem u12_4 : ((cases12.drop (20 * 4)).take 20).map (fun p => evFn T 19 12 [.int (Int.ofNat p.1), .tuple (iN p.2)]) = ((cases12.drop (20 * 4)).take 20).map (fun p => .ok (.int (Int.ofNat (pieces p.1 p.2)), false, [])) := by kernel_rfl
theorem u12_5 : ((cases12.drop (20 * 5)).take 20).map (fun p => evFn T 19 12 [.int (Int.ofNat p.1), .tuple (iN p.2)]) = ((cases12.drop (20 * 5)).take 20).map (fun p => .ok (.int (Int.ofNat (pieces p.1 p.2)), false, [])) := by kernel_rfl
theorem u12_6 : ((cases12.drop (20 * 6)).take 20).map (fun p => evFn T 19 12 [.int (Int.ofNat p.1), .tuple (iN p.2)]) = ((cases12.drop (20 * 6)).take 20).map (fun p => .ok (.int (Int.ofNat (pieces p.1 p.2)), false, [])) := by kernel_rfl
theorem u12_7 : ((cases12.drop (20 * 7)).take 20).map (fun p => evFn T 19 12 [.int (Int.ofNat p.1), .tuple (iN p.2)]) = ((cases12.drop (20 * 7)).take 20).map (fun p => .ok (.int (Int.ofNat (pieces p.1 p.2)), false, [])) := by kernel_rfl
theorem u12_8 : ((cases12.drop (20 * 8)).take 20).map (fun p => evFn T 19 12 [.int (Int.ofNat p.1), .tuple (iN p.2)]) = ((cases12.drop (20 * 8)).take 20).map (fun p => .ok (.int (Int.ofNat (pieces p.1 p.2)), false, [])) := by kernel_rfl
theorem u12_9 : ((cases12.drop (20 * 9)).take 20).map (fun p => evFn T 19 12 [.int (Int.ofNat p.1), .tuple (iN p.2)]) = ((cases12.drop (20 * 9)).take 20).map (fun p => .ok (.int (Int.ofNat (pieces p.1 p.2)), false, [])) := by kernel_rfl
theorem u12_10 : ((cases12.drop (20 * 10)).take 20).map (fun p => evFn T 19 12 [.int (Int.ofNat p.1), .tuple (iN p.2)]) = ((cases12.drop (20 * 10)).take 20).map (fun p => .ok (.int (Int.ofNat (pieces p.1 p.2)), false, [])) := by kernel_rfl
theorem u12_11 : ((cases12.drop (20 * 11)).take 20).map (fun p => evFn T 19 12 [.int (Int.ofNat p.1), .tuple (iN p.2)]) = ((cases12.drop (20 * 11)).take 20).map (fun p => .ok (.int (Int.ofNat (pieces p.1 p.2)), false, [])) := by kernel_rfl
theorem u12_12 : ((cases12.drop (20 * 12)).take 20).map (fun p => evFn T 19 12 [.int (Int.ofNat p.1), .tuple (iN p.2)]) = ((cases12.drop (20 * 12)).take 20).map (fun p => .ok (.int (Int.ofNat (pieces p.1 p.2)), false, [])) := by kernel_rfl
theorem u12_13 : ((cases12.drop (20 * 13)).take 20).map (fun p => evFn T 19 12 [.int (Int.ofNat p.1), .tuple (iN p.2)]) = ((cases12.drop (20 * 13)).take 20).map (fun p => .ok (.int (Int.ofNat (pieces p.1 p.2)), false, [])) := by kernel_rfl
theorem u12_14 : ((cases12.drop (20 * 14)).take 20).map (fun p => evFn T 19 12 [.int (Int.ofNat p.1), .tuple (iN p.2)]) = ((cases12.drop (20 * 14)).take 20).map (fun p => .ok (.int (Int.ofNat (pieces p.1 p.2)), false, [])) := by kernel_rfl
theorem u12_15 : ((cases12.drop (20 * 15)).take 20).map (fun p => evFn T 19 12 [.int (Int.ofNat p.1), .tuple (iN p.2)]) = ((cases12.drop (20 * 15)).take 20).map (fun p => .ok (.int (Int.ofNat (pieces p.1 p.2)), false, [])) := by kernel_rfl
theorem u12_16 : ((cases12.drop (20 * 16)).take 20).map (fun p => evFn T 19 12 [.int (Int.ofNat p.1), .tuple (iN p.2)]) = ((cases12.drop (20 * 16)).take 20).map (fun p => .ok (.int (Int.ofNat (pieces p.1 p.2)), false, [])) := by kernel_rfl
theorem u12_17 : ((cases12.drop (20 * 17)).take 20).map (fun p => evFn T 19 12 [.int (Int.ofNat p.1), .tuple (iN p.2)]) = ((cases12.drop (20 * 17)).take 20).map (fun p => .ok (.int (Int.ofNat (pieces p.1 p.2)), false, [])) := by kernel_rfl
theorem u12_18 : ((cases12.drop (20 * 18)).take 20).map (fun p => evFn T 19 12 [.int (Int.ofNat p.1), .tuple (iN p.2)]) = ((cases12.drop (20 * 18)).take 20).map (fun p => .ok (.int (Int.ofNat (pieces p.1 p.2)), false, [])) := by kernel_rfl
theorem u12_19 : ((cases12.drop (20 * 19)).take 20).map (fun p => evFn T 19 12 [.int (Int.ofNat p.1), .tuple (iN p.2)]) = ((cases12.drop (20 * 19)).take 20).map (fun p => .ok (.int (Int.ofNat (pieces p.1 p.2)), false, [])) := by kernel_rfl
theorem u12_20 : ((cases12.drop (20 * 20)).take 20).map (fun p => evFn T 19 12 [.int (Int.ofNat p.1), .tuple (iN p.2)]) = ((cases12.drop (20 * 20)).take 20).map (fun p => .ok (.int (Int.ofNat (pieces p.1 p.2)), false, [])) := by kernel_rfl
theorem u12 : ∀ p ∈ cases12, (fun p => evFn T 19 12 [.int (Int.ofNat p.1), .tuple (iN p.2)]) p = (fun p => .ok (.int (Int.ofNat (pieces p.1 p.2)), false, [])) p := by
  refine chunk 20 (by decide) _ _ _ 21 (by decide +kernel) fun j hj => ?_
  match j, hj with
  | 0, _ => exact u12_0
  | 1, _ => exact u12_1
  | 2, _ => exact u12_2
  | 3, _ => exact u12_3
  | 4, _ => exact u12_4
  | 5, _ => exact u12_5
  | 6, _ => exact u12_6
  | 7, _ => exact u12_7
  | 8, _ => exact u12_8
  | 9, _ => exact u12_9
  | 10, _ => exact u12_10
  | 11, _ => exact u12_11
  | 12, _ => exact u12_12
  | 13, _ => exact u12_13
  | 14, _ => exact u12_14
  | 15, _ => exact u12_15
  | 16, _ => exact u12_16
  | 17, _ => exact u12_17
  | 18, _ => exact u12_18
  | 19, _ => exact u12_19
  | 20, _ => exact u12_20
  | j + 21, h => exact absurd h (by omega)
end K82

end

-- Sa6
section
namespace K82
open PySem PySem.Spec PyProof.Rows Ev
theorem m56 (s h t : D) {n k : Nat} (hp : (n, k) ∈ pairs56) : obs (evSs clT part1 (gg n k s h t)) = exp n s h t := main56 s h t (n, k) hp
theorem pairs_mem {n k : Nat} (h1 : 3 ≤ n) (h2 : n ≤ 16) (h3 : 1 ≤ k) (h4 : k ≤ (n - 1) / 2) : (n, k) ∈ pairs56 := by
  have key : ((List.range 17).all fun n => (List.range 8).all fun k => !(decide (3 ≤ n) && decide (1 ≤ k) && decide (k ≤ (n - 1) / 2)) || pairs56.contains (n, k)) = true := by decide
  rw [List.all_eq_true] at key
  have a := key n (by simp; omega)
  rw [List.all_eq_true] at a
  have b := a k (by simp; omega)
  simpa [h1, h3, h4] using b
/-! ### the drawn steps -/
theorem mem_subs : ∀ (xs l : List Nat), xs.Pairwise (· < ·) → l.Pairwise (· < ·) → (∀ a ∈ l, a ∈ xs) → l ∈ subs xs
  | [], l, _, _, h => by
    cases l with
    | nil => simp [subs]
    | cons a l => exact absurd (h a List.mem_cons_self) (by simp)
  | x :: xs, l, hx, hl, h => by
    obtain ⟨hx1, hx2⟩ := List.pairwise_cons.mp hx
    unfold subs
    cases l with
    | nil => exact List.mem_append_left _ (mem_subs xs [] hx2 List.Pairwise.nil (by simp))
    | cons a l =>
      obtain ⟨hl1, hl2⟩ := List.pairwise_cons.mp hl
      have hlt : ∀ b ∈ l, b ∈ xs := fun b hb => by
        rcases List.mem_cons.mp (h b (List.mem_cons_of_mem _ hb)) with e | e
        · subst e
          have := hl1 b hb
          rcases List.mem_cons.mp (h a List.mem_cons_self) with e | e
          · omega
          · have := hx1 a e; omega
        · exact e
      rcases List.mem_cons.mp (h a List.mem_cons_self) with e | e
      · subst e
        exact List.mem_append_right _ (List.mem_map_of_mem (mem_subs xs l hx2 hl2 hlt))
      · refine List.mem_append_left _ (mem_subs xs (a :: l) hx2 hl fun b hb => ?_)
        rcases List.mem_cons.mp hb with z | z
        · rw [z]; exact e
        · exact hlt b z
theorem cases_mem {n : Nat} {l : List Nat} (h1 : 3 ≤ n) (h2 : n ≤ 16) (hs : l.Pairwise (· < ·)) (hm : ∀ a ∈ l, 1 ≤ a ∧ a ≤ (n - 1) / 2) (hl : 1 ≤ l.length) (hl2 : l.length ≤ 4) : (n, l) ∈ cases12 := by
  unfold cases12
  refine List.mem_flatten.mpr ⟨(stepsOf n).map fun l => (n, l), List.mem_map.mpr ⟨n, by simp [List.mem_range'_1]; omega, rfl⟩, List.mem_map_of_mem ?_⟩
  unfold stepsOf
  refine List.mem_filter.mpr ⟨mem_subs _ _ (List.pairwise_lt_range') hs fun a ha => ?_, by simp [hl, hl2]⟩
  have := hm a ha
  simp [List.mem_range'_1]; omega
end K82

end

-- Sa7
section
namespace K82
open PySem PySem.Spec PyProof.Rows Ev
structure Ans (cl : Call) : Prop where
  dr : Dr cl 14
  main : ∀ (s h t : D) (n k : Nat), (n, k) ∈ pairs56 → obs (evSs cl part1 (gg n k s h t)) = exp n s h t
  a12 : ∀ n ks, (n, ks) ∈ cases12 → cl 12 [.int (Int.ofNat n), .tuple (iN ks)] = .ok (.int (Int.ofNat (pieces n ks)), false, [])
  a18 : ∀ n ks, 0 < n → n ≤ 100 → cl 18 [.int (Int.ofNat n), .tuple (iN ks)] = .ok (.int (Int.ofNat (pieces n ks)), false, [])
  a15 : ∀ x y : Int, cl 15 [.int x, .int y] = .ok (.bool (decide (x = y)), false, [])
  r7 : cl 7 [.int 5, .int 2] = .ok (.int 5, false, [])
  r6 : cl 6 [.int 6, .int 2] = .ok (.tuple [.tuple [.int 0, .int 2, .int 4], .tuple [.int 1, .int 3, .int 5]], false, [])
  r11 : cl 11 [.int 24, .int 11] = .ok (.none, false, [])
def bs (s h t : D) (a b c : Option Sl) : Gm := [some ⟨s, .frz⟩, some ⟨h, .own⟩, some ⟨t, .frz⟩, a, b, c] ++ List.replicate 15 none
section
variable {cl : Call}
theorem A1 (A : Ans cl) (s h t : D) (hh : HV h) : ∃ h' n k, HV h' ∧ (n, k) ∈ pairs56 ∧ 3 ≤ n ∧ n ≤ 16 ∧ evSs cl (body.take 3) (bs s h t none none none) = .nx (gg n k s h' t) := by
  obtain ⟨d, h1, d0, d1, v1, k1⟩ := draw_ev (g := bs s h t none none none) A.dr (i := 1) (m := .own) (.inl rfl) rfl rfl (ev_li (d := .int 14)) rfl hh (by decide) (by decide)
  obtain ⟨N, hN⟩ : ∃ N : Nat, 3 + d = N := ⟨(3 + d).toNat, by omega⟩
  have e1 := ev_app (p := .add) (evs_vv (cl := cl) (g := bs s h t none none none) (e := .lit (.int 3)) rfl ev_li (evs_vv rfl (k1 false) evs_n)) rfl (p_add (a := 3) (b := d))
  rw [hN] at e1
  let g2 : Gm := bs s h1 t (some ⟨.int N, .frz⟩) (some ⟨.int ((N - 1) / 2 : Nat), .frz⟩) none
  obtain ⟨c, h2, c0, c1, v2, k2⟩ := drawb_ev (g := g2) A.dr (i := 1) (p := 4) (m := .own) (.inl rfl) rfl (by decide) rfl v1 (by omega) (by omega)
  obtain ⟨K, hK⟩ : ∃ K : Nat, 1 + c = K := ⟨(1 + c).toNat, by omega⟩
  have e3 := ev_app (p := .add) (evs_vv (cl := cl) (g := g2) (e := .lit (.int 1)) rfl ev_li (evs_vv rfl (k2 false) evs_n)) rfl (p_add (a := 1) (b := c))
  rw [hK] at e3
  refine ⟨h2, N, K, v2, pairs_mem (by omega) (by omega) (by omega) (by omega), by omega, by omega, ?_⟩
  show evSs cl [_, _, _] _ = _
  refine stE (bs s h1 t (some ⟨.int N, .frz⟩) none none) (evS_nm e1 rfl) (st1 g2 ?_ (stE _ (evS_nm e3 rfl) st0))
  have e5 : ((N : Int) - 1).fdiv 2 = (((N - 1) / 2 : Nat) : Int) := by
    rw [show (N : Int) - 1 = ((N - 1 : Nat) : Int) from by omega]
    exact fdN (a := N - 1) (b := 2)
  simp [bs, slotD, p_fdiv (a := (N : Int) - 1) (b := 2) (by decide) (by decide), e5, freeAt, g2]
theorem A2 (A : Ans cl) (s h t : D) {n k : Nat} (hp : (n, k) ∈ pairs56) : ∃ g, evSs cl part1 (gg n k s h t) = .nx g ∧ g.length = 21 ∧ g[0]? = some (some ⟨s, .frz⟩) ∧ g[1]? = some (some ⟨h, .own⟩) ∧ g[2]? = some (some ⟨t, .frz⟩) ∧ g[3]? = some (some ⟨.int n, .frz⟩) ∧ g[4]? = some (some ⟨.int ((n - 1) / 2 : Nat), .frz⟩) ∧ g[19]? = some none ∧ g[20]? = some none := by
  have := A.main s h t n k hp
  cases e : evSs cl part1 (gg n k s h t) with
  | nx g =>
    rw [e] at this
    simp only [obs, exp, Option.some.injEq, Prod.mk.injEq, List.cons.injEq, and_true] at this
    obtain ⟨⟨a0, a1, a2, a3, a4, a5, a6⟩, a7⟩ := this
    exact ⟨g, rfl, a7, a0, a1, a2, a3, a4, a5, a6⟩
  | _ => rw [e] at this; simp [obs, exp] at this
/-- strictly ascending -/
theorem pw_map {l : List Nat} : (l.map Int.ofNat).Pairwise (· < ·) ↔ l.Pairwise (· < ·) := by
  rw [List.pairwise_map]
  constructor
  · intro h; exact h.imp fun {a b} q => by simpa using q
  · intro h; exact h.imp fun {a b} q => by simpa using q
theorem as_nat : ∀ (xs : List Int), (∀ x ∈ xs, 0 ≤ x) → ∃ l : List Nat, xs = l.map Int.ofNat
  | [], _ => ⟨[], rfl⟩
  | x :: xs, h => by
    obtain ⟨l, e⟩ := as_nat xs fun y hy => h y (List.mem_cons_of_mem _ hy)
    have := h x List.mem_cons_self
    exact ⟨x.toNat :: l, by rw [List.map_cons, ← e]; congr 1; simp; omega⟩
theorem lt_of_le_nd : ∀ {l : List Int}, l.Pairwise (· ≤ ·) → l.Nodup → l.Pairwise (· < ·)
  | [], _, _ => List.Pairwise.nil
  | x :: l, h, n => by
    obtain ⟨h1, h2⟩ := List.pairwise_cons.mp h
    obtain ⟨n1, n2⟩ := List.nodup_cons.mp n
    refine List.pairwise_cons.mpr ⟨fun y hy => ?_, lt_of_le_nd h2 n2⟩
    have := h1 y hy
    have : x ≠ y := fun e => n1 (e ▸ hy)
    omega
theorem A3 (A : Ans cl) (g : Gm) (h : D) (hh : HV h) {n : Nat} (h3 : 3 ≤ n) (h16 : n ≤ 16) (gl : g.length = 21) (g1 : g[1]? = some (some ⟨h, .own⟩)) (g3 : g[3]? = some (some ⟨.int n, .frz⟩)) (g4 : g[4]? = some (some ⟨.int ((n - 1) / 2 : Nat), .frz⟩)) (g19 : g[19]? = some none) (g20 : g[20]? = some none) :
    ∃ h' g', HV h' ∧ evSs cl (body.drop 15) g = .nx g' ∧ g'.length = 21 ∧ g'[0]? = g[0]? ∧ g'[1]? = some (some ⟨h', .own⟩) := by
  let G : D → Gm := fun h => g.set 1 (some ⟨h, .own⟩)
  have hG1 : ∀ h, (G h)[1]? = some (some ⟨h, .own⟩) := fun h => by simp [G, List.getElem?_set, gl]
  have hGo : ∀ h (i : Nat), i ≠ 1 → (G h)[i]? = g[i]? := fun h i hi => by
    simp only [G]; rw [List.getElem?_set_ne (fun e => hi e.symm)]
  have hGs : ∀ h h', (G h).set 1 (some ⟨h', .own⟩) = G h' := fun h h' => by simp [G]
  have hg : g = G h := by
    apply List.ext_getElem?
    intro i
    by_cases e : i = 1
    · subst e; rw [hG1, g1]
    · rw [hGo h i e]
  obtain ⟨m, h1, m0, m1, v1, k1⟩ := draw_ev (g := g) A.dr (i := 1) (m := .own) (.inl rfl) (by rw [slotD_some g1]; rfl) rfl (ev_li (d := .int 4)) g1 hh (by decide) (by decide)
  obtain ⟨M, hM⟩ : ∃ M : Nat, 1 + m = M := ⟨(1 + m).toNat, by omega⟩
  have e1 := ev_app (p := .add) (evs_vv (cl := cl) (g := g) (e := .lit (.int 1)) rfl ev_li (evs_vv rfl (k1 false) evs_n)) rfl (p_add (a := 1) (b := m))
  rw [hM] at e1
  have hg1 : g.set 1 (some ⟨h1, .own⟩) = G h1 := rfl
  rw [hg1] at e1
  obtain ⟨ys, h2, v2, hl, hy, e2⟩ := ev_lcD (cl := cl) (k := .rng) (j := 20) (e := .ap .add [(.lit (.int (1))), (.call 14 [.ln 1, .pl] [(.bor 4)])]) (g := g) G (fun y => ∃ v : Nat, y = .int v ∧ 1 ≤ v ∧ v ≤ (n - 1) / 2) h1
    (evs_vv rfl e1 evs_n) (itN (n := M) rfl (by omega)) rfl (by unfold line; simp; omega) (fun h => by rw [hGo h 20 (by decide)]; exact g20) (fun h' => by
      exact unlock_set _ _ (by omega))
    (by
      intro h x hx hh
      let gx : Gm := (G h).set 20 (some ⟨x, .frz⟩)
      obtain ⟨d, h', d0, d1, v, kk⟩ := drawb_ev (g := gx) A.dr (i := 1) (p := 4) (m := .own) (.inl rfl) (s := ((n - 1) / 2 : Nat)) (by simp only [gx]; rw [List.getElem?_set_ne (by decide), hGo h 4 (by decide)]; exact g4) (by decide) (by simp only [gx]; rw [List.getElem?_set_ne (by decide)]; exact hG1 h) hh (by omega) (by omega)
      obtain ⟨v', hv'⟩ : ∃ v' : Nat, 1 + d = v' := ⟨(1 + d).toNat, by omega⟩
      have e3 := ev_app (p := .add) (evs_vv (cl := cl) (g := gx) (e := .lit (.int 1)) rfl ev_li (evs_vv rfl (kk false) evs_n)) rfl (p_add (a := 1) (b := d))
      rw [hv'] at e3
      refine ⟨_, h', false, v, ⟨v', rfl, by omega, by omega⟩, ?_⟩
      rw [e3]
      simp only [gx]
      rw [List.set_comm _ _ (by decide), hGs]) v1
  have hyn : ∃ zs : List Int, ys = zs.map .int ∧ ∀ z ∈ zs, 1 ≤ z ∧ z ≤ ((n - 1) / 2 : Nat) := by
    clear e2 hl
    induction ys with
    | nil => exact ⟨[], rfl, by simp⟩
    | cons y ys ih =>
      obtain ⟨zs, z1, z2⟩ := ih fun y hy' => hy y (List.mem_cons_of_mem _ hy')
      obtain ⟨v, e, w1, w2⟩ := hy y List.mem_cons_self
      exact ⟨v :: zs, by rw [e, z1]; rfl, fun z hz => by
        rcases List.mem_cons.mp hz with r | r
        · subst r; omega
        · exact z2 z r⟩
  obtain ⟨zs, rfl, hz⟩ := hyn
  have hlen : zs.length = M := by simpa using hl
  obtain ⟨l, hl1⟩ := as_nat (sortI (dedupI zs)) fun x hx => by
    have := hz x (mem_dedupI.mp (mem_sortI.mp hx)); omega
  have hss : pr .sortSet [.list (zs.map .int)] = some (.list (iN l), true) := by
    have e0 : ∀ xs : List Int, intsOf (xs.map .int) = some xs := by
      intro xs
      induction xs with
      | nil => rfl
      | cons x xs ih => show (intsOf (xs.map .int)).map (x :: ·) = _; rw [ih]; rfl
    have e1 : prSortSet [.list (zs.map .int)] = prSortSetI [.list (zs.map .int)] := by cases zs <;> rfl
    show prSortSet [.list (zs.map .int)] = _
    rw [e1]
    show ((intsOf (zs.map .int)).bind fun ns => if decide (ns.length < 64) then some (PyData.list (sortD (dedup (zs.map .int))), true) else none) = _
    have hd : (decide (zs.length < 64)) = true := by simp; omega
    rw [e0]
    simp only [Option.bind, hd, if_true]
    rw [dedup_ints, sortD_ints, hl1, List.map_map]
    rfl
  have hmem : ∀ a ∈ l, 1 ≤ a ∧ a ≤ (n - 1) / 2 := fun a ha => by
    have : Int.ofNat a ∈ sortI (dedupI zs) := by rw [hl1]; exact List.mem_map_of_mem ha
    have := hz _ (mem_dedupI.mp (mem_sortI.mp this))
    simp at this; omega
  have hsl : (sortI (dedupI zs)).length ≤ zs.length := by
    rw [sortI_len]
    clear hss hmem hl1 hz e2 hl hy hlen
    induction zs with
    | nil => exact Nat.le_refl _
    | cons z zs ih =>
      unfold dedupI
      split <;> simp <;> omega
  have hll : l.length = (sortI (dedupI zs)).length := by rw [hl1]; simp
  have hl0 : 1 ≤ l.length := by
    rw [hll]
    cases zs with
    | nil => simp at hlen; omega
    | cons z zs =>
      have : z ∈ sortI (dedupI (z :: zs)) := mem_sortI.mpr (mem_dedupI.mpr List.mem_cons_self)
      cases e : sortI (dedupI (z :: zs)) with
      | nil => rw [e] at this; simp at this
      | cons _ _ => simp
  have hpw : l.Pairwise (· < ·) := pw_map.mp (by rw [← hl1]; exact lt_of_le_nd (sortI_sorted _) ((sortI_perm _).nodup_iff.mpr (nodup_dedupI zs)))
  have hcase := cases_mem h3 h16 hpw hmem hl0 (by omega)
  have e4 := ev_app (evs_vv rfl (ev_app (evs_vv rfl e2 evs_n) rfl hss) evs_n) rfl (p := .tupOf) (ds := [.list (iN l)]) (d := .tuple (iN l)) (f := false) rfl
  have hfree : freeAt (G h2) 19 = true := by unfold freeAt; rw [hGo h2 19 (by decide), g19]
  let g2 : Gm := (G h2).set 19 (some ⟨.tuple (iN l), .frz⟩)
  have q3 : g2[3]? = some (some ⟨.int n, .frz⟩) := by simp only [g2]; rw [List.getElem?_set_ne (by decide), hGo h2 3 (by decide)]; exact g3
  have q19 : g2[19]? = some (some ⟨.tuple (iN l), .frz⟩) := by
    simp only [g2]
    rw [List.getElem?_set_self (by simp [G, gl])]
  refine ⟨h2, g2, v2, ?_, by simp [g2, G, gl], by simp only [g2]; rw [List.getElem?_set_ne (by decide), hGo h2 0 (by decide)], by simp only [g2]; rw [List.getElem?_set_ne (by decide)]; exact hG1 h2⟩
  show evSs cl [_, _] _ = _
  refine stE g2 (evS_nm e4 hfree) (stL _ ?_)
  have a1 := A.a12 n l hcase
  have a2 := A.a18 n l (by omega) (by omega)
  have a3 := A.a15 (Int.ofNat (pieces n l)) (Int.ofNat (pieces n l))
  simp at a1 a2 a3
  simp [slotD, q3, q19, a1, a2, a3]
theorem turn (A : Ans cl) (s h t : D) (hh : HV h) : ∃ h' g, HV h' ∧ evSs cl body (bs s h t none none none) = .nx g ∧ ∀ h0, wipeTo (bs s h0 .none none none none |>.set 2 none) g = (bs s h' .none none none none |>.set 2 none) := by
  obtain ⟨h1, n, k, v1, hp, h3, h16, e1⟩ := A1 A s h t hh
  obtain ⟨g, e2, gl, g0, g1, g2, g3, g4, g19, g20⟩ := A2 A s h1 t hp
  obtain ⟨h2, g', v2, e3, gl', g0', g1'⟩ := A3 A g h1 v1 h3 h16 gl g1 g3 g4 g19 g20
  refine ⟨h2, g', v2, ?_, fun h0 => ?_⟩
  · have hb : body = body.take 3 ++ (part1 ++ body.drop 15) := rfl
    rw [hb, evSs_app _ _ _ _ _ e1, evSs_app _ _ _ _ _ e2]
    exact e3
  · rw [g0] at g0'
    match g', gl', g0', g1' with
    | [a0, a1, a2, a3, a4, a5, a6, a7, a8, a9, a10, a11, a12, a13, a14, a15, a16, a17, a18, a19, a20], _, z0, z1 =>
      simp at z0 z1
      subst z0; subst z1
      rfl
theorem law_gen (A : Ans cl) (s h : D) (hh : HV h) (e13 : cl 13 [s] = .ok (h, true, [])) : Ret cl b19 (slots [s] 20) (.bool true) false := by
  have hm := hv_list hh
  let G : D → Gm := fun h => (bs s h .none none none none).set 2 none
  have e1 : rs cl (.asg (.nm 1) (.call 13 [.pl] [(.bor 0)])) (slots [s] 20) = some (.nx (G h)) := by
    simp [slots, slotD, e13, freeAt, hm, bs, G]
  refine Ret.st1 (G h) e1 ?_
  obtain ⟨h', v, e2⟩ := forL_inv (g0 := G h) (turn := fturn cl (.nm 2) body) (G := G) (I := fun _ h => HV h) [.int 0, .int 1, .int 2, .int 3, .int 4] (by
    intro i x h1 _ hv
    obtain ⟨h2, g2, v2, k1, k2⟩ := turn A s h1 x hv
    exact ⟨h2, g2, v2, .inl k1, k2 h⟩) h hh
  have hs : evs cl [(.lit (.int (5)))] (G h) = .ok ([.v (.int 5) false], G h) := evs_vv rfl ev_li evs_n
  have hi : (resAll (G h) [.v (.int 5) false]).bind (itX .rng [(.lit (.int (5)))]) = some [.int 0, .int 1, .int 2, .int 3, .int 4] := by rfl
  have e3 := evS_for hs hi rfl e2
  rw [unlock_no _ _ (by rfl) (by rfl)] at e3
  refine Ret.stE _ e3 (Ret.rs ?_)
  have ee : pr .eq [.tuple [.tuple [.int 0, .int 2, .int 4], .tuple [.int 1, .int 3, .int 5]], .tuple [.tuple [.int 0, .int 2, .int 4], .tuple [.int 1, .int 3, .int 5]]] = some (.bool true, false) := by rfl
  have en : pr .isNo [.none] = some (.bool true, false) := by rfl
  simp [G, bs, line, A.r7, A.r6, A.r11, p_eqI, ee, en]
end
theorem csOkB : CsOk 69621 1 29 2147483629 7919 48271 2147483647 1009 69621 2147483647 2003 40692 2147483399 := by constructor <;> decide
theorem isTy_int (t : Ty) (x : Int) : isTy t (.int x) = match t with | .int => true | _ => false := by cases t <;> rfl
theorem f15 (k : Nat) (x y : Int) : evFn T (k + 1) 15 [.int x, .int y] = .ok (.bool (decide (x = y)), false, []) := by
  refine evFn_ret (f := 15) rfl rfl ?_
  have e1 : pr .eq [.bool true, .bool true] = some (.bool true, false) := by rfl
  simp [b15, slots, slotD, isTy_int, p_eqI, e1]
theorem ans : Ans (evFn T 19) := ⟨drawB_ok csOkB rfl, fun s h t n k hp => by rw [← clT_eq]; exact m56 s h t hp, fun n ks hp => u12 (n, ks) hp, fun n ks h1 h2 => f18 18 n ks h1 h2, f15 18, by kernel_rfl, by kernel_rfl, by kernel_rfl⟩
theorem law_true : ∀ ns : List Int, ns.length ≤ 63 → evFn W.prg.tbl 20 19 [.list (ns.map PyData.int)] = .ok (.bool true, false, []) := by
  intro ns hn
  have hT : W.prg.tbl = T := rfl
  rw [hT]
  obtain ⟨h, hh, e⟩ := hand_ok (tbl := T) (f := 13) (k := 18) (c1 := 479) (c2 := 73) (by decide) rfl ns hn
  exact evFn_Ret (f := 19) rfl rfl (law_gen ans _ h hh e)
end K82

end

-- Lm_k82
section

end

-- Lb_k82
section
namespace K82
open PySem PySem.Spec PyProof.Rows L2 Ev
theorem t0 : trB { N := d0.N, fn := fnTab 0 W.dds, cs := W.cs, xs := W.xs } (defScope (topOf Pg 1)) (defBody (topOf Pg 1)) = some b0 := by kernel_rfl
theorem o0 : DdOk Pg W d0 := ⟨by decide +kernel, by decide +kernel, fun _ _ _ _ _ _ us hl => match us, hl with | [_], _ => rfl, t0⟩
theorem t1 : trB { N := d1.N, fn := fnTab 0 W.dds, cs := W.cs, xs := W.xs } (defScope (topOf Pg 2)) (defBody (topOf Pg 2)) = some b1 := by kernel_rfl
theorem o1 : DdOk Pg W d1 := ⟨by decide +kernel, by decide +kernel, fun _ _ _ _ _ _ us hl => match us, hl with | [_, _, _], _ => rfl, t1⟩
theorem t2 : trB { N := d2.N, fn := fnTab 0 W.dds, cs := W.cs, xs := W.xs } (defScope (topOf Pg 3)) (defBody (topOf Pg 3)) = some b2 := by kernel_rfl
theorem o2 : DdOk Pg W d2 := ⟨by decide +kernel, by decide +kernel, fun _ _ _ _ _ _ us hl => match us, hl with | [_, _, _], _ => rfl, t2⟩
theorem t3 : trB { N := d3.N, fn := fnTab 0 W.dds, cs := W.cs, xs := W.xs } (defScope (topOf Pg 9)) (defBody (topOf Pg 9)) = some b3 := by kernel_rfl
theorem o3 : DdOk Pg W d3 := ⟨by decide +kernel, by decide +kernel, fun _ _ _ _ _ _ us hl => match us, hl with | [_, _], _ => rfl, t3⟩
theorem t4 : trB { N := d4.N, fn := fnTab 0 W.dds, cs := W.cs, xs := W.xs } (defScope (topOf Pg 14)) (defBody (topOf Pg 14)) = some b4 := by kernel_rfl
theorem o4 : DdOk Pg W d4 := ⟨by decide +kernel, by decide +kernel, fun _ _ _ _ _ _ us hl => match us, hl with | [_], _ => rfl, t4⟩
theorem t5 : trB { N := d5.N, fn := fnTab 0 W.dds, cs := W.cs, xs := W.xs } (defScope (topOf Pg 15)) (defBody (topOf Pg 15)) = some b5 := by kernel_rfl
theorem o5 : DdOk Pg W d5 := ⟨by decide +kernel, by decide +kernel, fun _ _ _ _ _ _ us hl => match us, hl with | [_, _], _ => rfl, t5⟩
theorem t6 : trB { N := d6.N, fn := fnTab 0 W.dds, cs := W.cs, xs := W.xs } (defScope (topOf Pg 16)) (defBody (topOf Pg 16)) = some b6 := by kernel_rfl
theorem o6 : DdOk Pg W d6 := ⟨by decide +kernel, by decide +kernel, fun _ _ _ _ _ _ us hl => match us, hl with | [_, _], _ => rfl, t6⟩
theorem t7 : trB { N := d7.N, fn := fnTab 0 W.dds, cs := W.cs, xs := W.xs } (defScope (topOf Pg 17)) (defBody (topOf Pg 17)) = some b7 := by kernel_rfl
theorem o7 : DdOk Pg W d7 := ⟨by decide +kernel, by decide +kernel, fun _ _ _ _ _ _ us hl => match us, hl with | [_, _], _ => rfl, t7⟩
theorem t8 : trB { N := d8.N, fn := fnTab 0 W.dds, cs := W.cs, xs := W.xs } (defScope (topOf Pg 18)) (defBody (topOf Pg 18)) = some b8 := by kernel_rfl
theorem o8 : DdOk Pg W d8 := ⟨by decide +kernel, by decide +kernel, fun _ _ _ _ _ _ us hl => match us, hl with | [_], _ => rfl, t8⟩
theorem t9 : trB { N := d9.N, fn := fnTab 0 W.dds, cs := W.cs, xs := W.xs } (defScope (topOf Pg 19)) (defBody (topOf Pg 19)) = some b9 := by kernel_rfl
theorem o9 : DdOk Pg W d9 := ⟨by decide +kernel, by decide +kernel, fun _ _ _ _ _ _ us hl => match us, hl with | [_, _], _ => rfl, t9⟩
theorem t10 : trB { N := d10.N, fn := fnTab 0 W.dds, cs := W.cs, xs := W.xs } (defScope (topOf Pg 20)) (defBody (topOf Pg 20)) = some b10 := by kernel_rfl
theorem o10 : DdOk Pg W d10 := ⟨by decide +kernel, by decide +kernel, fun _ _ _ _ _ _ us hl => match us, hl with | [_, _], _ => rfl, t10⟩
theorem t11 : trB { N := d11.N, fn := fnTab 0 W.dds, cs := W.cs, xs := W.xs } (defScope (topOf Pg 21)) (defBody (topOf Pg 21)) = some b11 := by kernel_rfl
theorem o11 : DdOk Pg W d11 := ⟨by decide +kernel, by decide +kernel, fun _ _ _ _ _ _ us hl => match us, hl with | [_, _], _ => rfl, t11⟩
theorem t12 : trB { N := d12.N, fn := fnTab 0 W.dds, cs := W.cs, xs := W.xs } (defScope (topOf Pg 22)) (defBody (topOf Pg 22)) = some b12 := by kernel_rfl
theorem o12 : DdOk Pg W d12 := ⟨by decide +kernel, by decide +kernel, fun _ _ _ _ _ _ us hl => match us, hl with | [_, _], _ => rfl, t12⟩
theorem t13 : trB { N := d13.N, fn := fnTab 0 W.dds, cs := W.cs, xs := W.xs } (defScope (topOf Pg 24)) (defBody (topOf Pg 24)) = some b13 := by kernel_rfl
theorem o13 : DdOk Pg W d13 := ⟨by decide +kernel, by decide +kernel, fun _ _ _ _ _ _ us hl => match us, hl with | [_], _ => rfl, t13⟩
theorem t14 : trB { N := d14.N, fn := fnTab 0 W.dds, cs := W.cs, xs := W.xs } (defScope (topOf Pg 25)) (defBody (topOf Pg 25)) = some b14 := by kernel_rfl
theorem o14 : DdOk Pg W d14 := ⟨by decide +kernel, by decide +kernel, fun _ _ _ _ _ _ us hl => match us, hl with | [_, _], _ => rfl, t14⟩
theorem t15 : trB { N := d15.N, fn := fnTab 0 W.dds, cs := W.cs, xs := W.xs } (defScope (topOf Pg 26)) (defBody (topOf Pg 26)) = some b15 := by kernel_rfl
theorem o15 : DdOk Pg W d15 := ⟨by decide +kernel, by decide +kernel, fun _ _ _ _ _ _ us hl => match us, hl with | [_, _], _ => rfl, t15⟩
theorem t16 : trB { N := d16.N, fn := fnTab 0 W.dds, cs := W.cs, xs := W.xs } (defScope (topOf Pg 27)) (defBody (topOf Pg 27)) = some b16 := by kernel_rfl
theorem o16 : DdOk Pg W d16 := ⟨by decide +kernel, by decide +kernel, fun _ _ _ _ _ _ us hl => match us, hl with | [_, _], _ => rfl, t16⟩
theorem t17 : trB { N := d17.N, fn := fnTab 0 W.dds, cs := W.cs, xs := W.xs } (defScope (topOf Pg 28)) (defBody (topOf Pg 28)) = some b17 := by kernel_rfl
theorem o17 : DdOk Pg W d17 := ⟨by decide +kernel, by decide +kernel, fun _ _ _ _ _ _ us hl => match us, hl with | [_, _], _ => rfl, t17⟩
theorem t18 : trB { N := d18.N, fn := fnTab 0 W.dds, cs := W.cs, xs := W.xs } (defScope (topOf Pg 29)) (defBody (topOf Pg 29)) = some b18 := by kernel_rfl
theorem o18 : DdOk Pg W d18 := ⟨by decide +kernel, by decide +kernel, fun _ _ _ _ _ _ us hl => match us, hl with | [_, _], _ => rfl, t18⟩
theorem t19 : trB { N := d19.N, fn := fnTab 0 W.dds, cs := W.cs, xs := W.xs } (defScope (topOf Pg 30)) (defBody (topOf Pg 30)) = some b19 := by kernel_rfl
theorem o19 : DdOk Pg W d19 := ⟨by decide +kernel, by decide +kernel, fun _ _ _ _ _ _ us hl => match us, hl with | [_], _ => rfl, t19⟩
theorem allOk : AllOk Pg W W.dds := ⟨o0, o1, o2, o3, o4, o5, o6, o7, o8, o9, o10, o11, o12, o13, o14, o15, o16, o17, o18, o19, trivial⟩
abbrev R : PySem.W.OpenRow := PySem.W.OpenLaw.row PySem.Challenge.rw_fewjewels_k82_whole_stars_and_their_ring
def loose : List PySem.Str := ([(Str.ofString "is_integer"), (Str.ofString "is_within"), (Str.ofString "is_tuple"), (Str.ofString "JewelError"), (Str.ofString "NoStar"), (Str.ofString "NoSteps"), (Str.ofString "divisor"), (Str.ofString "LEAST"), (Str.ofString "MOST"), (Str.ofString "MOST_STEPS"), (Str.ofString "is_size"), (Str.ofString "check_star"), (Str.ofString "rings_in"), (Str.ofString "points_inside"), (Str.ofString "one_stroke"), (Str.ofString "turns_round"), (Str.ofString "same_as"), (Str.ofString "next_star"), (Str.ofString "joined_by"), (Str.ofString "_law_hand"), (Str.ofString "_law_draw"), (Str.ofString "_law_is"), (Str.ofString "_law_rings"), (Str.ofString "_law_sides"), (Str.ofString "_law_pieces")] : List PySem.Str)
theorem run (w : World) : HandSHeadRun.RunEq R (PySem.W.view R.prog [30]) (evHook 5 Pg W) (evOb 5 Pg W) 3000 loose w := by
  intro os
  kernel_rfl
end K82

end

open PySem PySem.W PySem.Calls PyProof.Rows
theorem PySem.Challenge.cw_fewjewels_k82_whole_stars_and_their_ring_holds : PySem.Challenge.rw_fewjewels_k82_whole_stars_and_their_ring.Holds := by
  w_on; o_law
  refine HandSHeadRun.head_any (r := K82.R) (q := view K82.R.prog [30]) (H := Ev.evHook 5 K82.Pg K82.W) (ob := Ev.evOb 5 K82.Pg K82.W) (M := 3000) (loose := K82.loose) (d := HandSHeadRun.topDef K82.R.prog 30) (kwd := []) (Ev.evOb_eq 5 K82.Pg K82.W)
    (by kernel_rfl) (fun s => by kernel_rfl) K82.run (by kernel_rfl) (by kernel_rfl) (by kernel_rfl) (by rfl) (by first | assumption | decide +kernel) (by decide +kernel) ⟨rfl, rfl, rfl, rfl, rfl, by decide +kernel⟩ ?hw ?hc
  case hw => w_witness2
  case hc => exact Ev.walk_ev (l := PySem.Challenge.rw_fewjewels_k82_whole_stars_and_their_ring) (n := 63) (k := 20) (Lj := 19) (W := K82.W) (dl := K82.d19) (x := "script") rfl (by decide) (by kernel_rfl) ⟨rfl, by decide, by decide⟩ K82.allOk rfl (by kernel_rfl) rfl rfl K82.law_true
