import PyProof.Rows.All
import Wide.All
import OpenK.AllK
import Wide.FinOn
import HandS.ForMost
import HandS.Zip
import HandS.Defaults
import KE.DataCmp
import KE.SortData
import KE.DataMinMax
import KE.DataIsa
import PyProof.Rows.NestShow
import HandS.TupAny
import HandS.TupMul
import HandS.Style
import HandS.WordsDict
import HandS.SortInts
import HandS.RaiseMore
import HandS.More
import HandS.TupLen
import HandS.Conv
import KE.KTupSum
import HandS.Deep
import HandS.Strs
import KE.DataFind
import KE.GoesNew
import HandS.Small
import HandS.TupSets
import PyProof.Rows.SetFrom
import HandS.HeadHook1
import HandS.HeadHook2
import HandS.Ends
import PyProof.ReprLen
import PyProof.Rows.ReprOcc
import KE.KStateDown
import HandS.Head0
import HandS.Head1
import HandS.Head2
import HandS.HeadEnd
import PySem.Challenge.RW_truthrules_k02_whole_rules
set_option Elab.async false
set_option linter.all false
set_option maxRecDepth 100000
set_option maxHeartbeats 0
set_option maxRecDepth 100000
/-! Ev0: a small pure evaluator. Values are data trees (PyData); what a def may change lies in its slots. -/
namespace RV
open PySem L2
abbrev D := PyData

/-! ### the small language -/
inductive Bop | add | sub | mul | fdiv | mod | pow | shl | shr | band | bor
  deriving DecidableEq
inductive Cop | eq | ne | lt | le | gt | ge | isN | notN | isin | notin
  deriving DecidableEq
/-- built-in functions and types, called by name -/
inductive Bi | len | abs | max | min | sum | sorted | all | any | repr | int | str | bool | tuple | list | dict | sortedSet | lenSet | rangeL | rangeT
  deriving DecidableEq
/-- two calls, one around the other -/
inductive Un | rangeL | rangeT | lenSet | sortedSet
  deriving DecidableEq
/-- methods that change nothing -/
inductive Me | index | count | join | split | items | values | get
  deriving DecidableEq
/-- methods that change their object -/
inductive Mu | append | extend | pop | popAt | insert
  deriving DecidableEq

mutual
inductive E where
  | var (i : Nat)
  | non | bl (b : Bool) | int (n : Int) | str (s : Str)
  | glo (x : Str) (d : D)
  | tup (es : Es) | lst (es : Es) | dnew
  | dis (ks : List D) (es : Es)
  | bin (o : Bop) (a b : E)
  | cmp (o : Cop) (a b : E)
  | isn (neg : Bool) (a : E)
  | chn (o p : Cop) (a b c : E)
  | neg (a : E) | not (a : E)
  | and (a b : E) | or (a b : E)
  | ife (c a b : E)
  | idx (a k : E)
  | slc (a : E) (lo hi : Oe) | rev (a : E)
  | bi (f : Bi) (es : Es)
  | un (f : Un) (a : E)
  | isi (a : E) (ts : List String)
  | me (m : Me) (a e : E)
  | mu (m : Mu) (am : Nat) (i : Nat) (k : Oe) (es : Es)
  | call (f : Nat) (es ks : Es) (perm : List Nat)
  | lc (own : List Nat) (el : E) (tg : Tg) (it : It) (cond : Oe)
inductive Es where
  | nil | cons (e : E) (es : Es)
inductive Oe where
  | none | some (e : E)
/-- what a loop walks -/
inductive It where
  | of (e : E)
  | rng1 (b : E)
  | rng (a b : E)
  | enum (e : E)
  | zip2 (a b : E)
  | zip3 (a b c : E)
inductive Tg where
  | nm (i : Nat) | tp (ts : Tgs)
inductive Tgs where
  | nil | cons (t : Tg) (ts : Tgs)
end

mutual
inductive S where
  | asg (i m : Nat) (e : E)
  | unp (ts : Tgs) (e : E)
  | par2 (i m j m2 : Nat) (x y : E)
  | par3 (i m j m2 l m3 : Nat) (x y z : E)
  | sto (i am : Nat) (k e : E)
  | sto2 (i : Nat) (k l e : E)
  | aug (i : Nat) (o : Bop) (e : E)
  | ex (e : E)
  | ret (e : E) | ret0
  | ifs (c : E) (a b : Ss)
  | loop (tg : Tg) (it : It) (b : Ss)
  | whl (c : E) (b : Ss)
  | brk | cnt | pas
  | bad
inductive Ss where
  | nil | cons (s : S) (ss : Ss)
end

/-! ### slots -/
/-- a slot: how deep its lists are its own (0: not at all), whether a loop walks it, its data -/
structure Sl where
  m : Nat
  lk : Bool
  d : D
abbrev A := List (Option Sl)

/-- no list and no dict at the top -/
def flat : D → Bool
  | .list _ => false
  | .dict _ => false
  | _ => true
def kidsFlat : D → Bool
  | .list ds => ds.all flat
  | .dict kvs => kvs.all fun kv => flat kv.2
  | _ => true
def kidsIm (m : Nat) (d : D) : Bool := decide (m ≤ 1) || kidsFlat d
/-- may a result be handed on at mode m: fresh: a new object -/
def okRes (fresh : Bool) (m : Nat) (d : D) : Bool := flat d || decide (m = 0) || (fresh && (decide (m = 1) || kidsFlat d))

/-! ### what the operations do -/
def i2d (b : Bool) : Int := if b then 1 else 0
def asIdx : D → Option Int
  | .int i => some i
  | _ => none
def asInts : List D → Option (List Int)
  | [] => some []
  | .int i :: r => (asInts r).map (i :: ·)
  | _ => none
def keyOk : D → Bool
  | .int _ => true
  | .str _ => true
  | _ => false
/-- a key that is a tuple of ints -/
def tkey : D → Option (List Int)
  | .tuple ds => asInts ds
  | _ => none
def D.beqKey : D → D → Bool
  | .int i, .int j => decide (i = j)
  | .str x, .str y => decide (x = y)
  | .tuple a, .tuple b => decide (asInts a = asInts b)
  | _, _ => false
def keysT (kvs : List (D × D)) : Bool := kvs.all fun kv => (tkey kv.1).isSome
def dget (kvs : List (D × D)) (k : D) : Option D := match kvs with
  | [] => none
  | (a, v) :: r => if D.beqKey a k then some v else dget r k
def dput (kvs : List (D × D)) (k v : D) : List (D × D) := match kvs with
  | [] => [(k, v)]
  | (a, w) :: r => if D.beqKey a k then (a, v) :: r else (a, w) :: dput r k v
def ddel (kvs : List (D × D)) (k : D) : List (D × D) := match kvs with
  | [] => []
  | (a, w) :: r => if D.beqKey a k then r else (a, w) :: ddel r k
def mulOk (i j : Int) : Bool := (decide (-(2 ^ 64) < i) && decide (i < 2 ^ 64)) || (decide (-(2 ^ 64) < j) && decide (j < 2 ^ 64))
def powOk (i j : Int) : Bool := decide (0 ≤ j) && decide (j ≤ 1000000) && decide (i.natAbs < 2 ^ 64)
def fitL (n : Nat) : Bool := decide (n ≤ sizeLine)

/-- not the written part's -/
def own99 (m : Nat) : Bool := decide (m ≠ 99)
def addD (x y : Nat × D) : Option D :=
  match x.2, y.2 with
  | .int i, .int j => some (.int (i + j))
  | .str s, .str t => if fitL (s.length + t.length) then some (.str (s ++ t)) else none
  | .list a, .list b => if kidsIm x.1 (.list a) && kidsIm y.1 (.list b) && own99 x.1 && own99 y.1 && fitL (a.length + b.length) then some (.list (a ++ b)) else none
  | .tuple a, .tuple b => if fitL (a.length + b.length) then some (.tuple (a ++ b)) else none
  | _, _ => none
def mulD (x y : Nat × D) : Option D :=
  match x.2, y.2 with
  | .int i, .int j => if mulOk i j then some (.int (i * j)) else none
  | .list a, .int k => if kidsIm x.1 (.list a) && own99 x.1 && decide (-(2 ^ 62) ≤ k) && decide (k < 2 ^ 62) && fitL (a.length * k.toNat) then some (.list (List.replicate k.toNat a).flatten) else none
  | .tuple a, .int k => if decide (-(2 ^ 62) ≤ k) && decide (k ≤ 1000) && decide (a.length ≤ 1000) then some (.tuple (List.replicate k.toNat a).flatten) else none
  | _, _ => none
def intD (c : Int → Int → Bool) (f : Int → Int → Int) (x y : Nat × D) : Option D :=
  match x.2, y.2 with
  | .int i, .int j => if c i j then some (.int (f i j)) else none
  | _, _ => none
def binD (o : Bop) : Nat × D → Nat × D → Option D :=
  match o with
  | .add => addD
  | .sub => intD (fun _ _ => true) fun i j => i - j
  | .mul => mulD
  | .fdiv => intD (fun _ j => decide (j ≠ 0) && decide (j.natAbs < 1073741824)) fun i j => i.fdiv j
  | .mod => intD (fun _ j => decide (j ≠ 0)) fun i j => i.fmod j
  | .pow => intD powOk fun i j => i ^ j.toNat
  | .shl => intD powOk fun i j => i * 2 ^ j.toNat
  | .shr => intD (fun _ j => decide (0 ≤ j)) fun i j => i / 2 ^ j.toNat
  | .band => intD (fun _ _ => true) Builtin.bitAnd
  | .bor => intD (fun _ _ => true) Builtin.bitOr
def eqOk (d : D) : Bool := SeqAt.shaped d
def ltD (o : Cop) (x y : D) : Option Bool :=
  match x, y with
  | .int i, .int j => (match o with
    | .lt => some (decide (i < j))
    | .le => some (decide (i ≤ j))
    | .gt => some (decide (j < i))
    | .ge => some (decide (j ≤ i))
    | _ => none)
  | .tuple a, .tuple b => if alike x y && decide (x.depth ≤ 60) then (match o with
    | .lt => some (W.dataLt x y)
    | .le => some (!W.dataLt y x)
    | .gt => some (W.dataLt y x)
    | .ge => some (!W.dataLt x y)
    | _ => none) else none
  | _, _ => none
where alike := W.alike
def inD (x y : D) : Option Bool :=
  match y with
  | .list ds => if eqOk x && eqOk y then some (ds.any fun z => PyData.eqv z x) else none
  | .tuple ds => if eqOk x && eqOk y then some (ds.any fun z => PyData.eqv z x) else none
  | .dict kvs => if keyOk x && kvs.all (fun kv => keyOk kv.1) then some ((dget kvs x).isSome) else if (tkey x).isSome && keysT kvs then some ((dget kvs x).isSome) else none
  | .str t => match x with
    | .str c => some (!(Builtin.Str.occurrences t c 0 t.length 1).isEmpty)
    | _ => none
  | _ => none
def isNone : D → Bool
  | .none => true
  | _ => false
def cmpD (o : Cop) (x y : D) : Option Bool :=
  match o with
  | .eq => if eqOk x && eqOk y then some (PyData.eqv x y) else none
  | .ne => if eqOk x && eqOk y then some (!PyData.eqv x y) else none
  | .isN => some (isNone x)
  | .notN => some (!isNone x)
  | .isin => inD x y
  | .notin => (inD x y).map (!·)
  | o => if PyData.canLay0 x && PyData.canLay0 y then ltD o x y else none
/-- a[k] -/
def idxD (x k : D) : Option D :=
  match x, k with
  | .list ds, .int i => atI ds i
  | .tuple ds, .int i => atI ds i
  | .str s, .int i => if fitL s.length then (atI s.cps.toList i).map fun c => .str ⟨#[c]⟩ else none
  | .dict kvs, k => if keyOk k && kvs.all (fun kv => keyOk kv.1) then dget kvs k else if (tkey k).isSome && keysT kvs then (dget kvs k).filter flat else none
  | _, _ => none
def cutD (ds : List D) (lo hi : Option Int) : List D := (ds.drop (HT.sIx ds.length 0 lo)).take (HT.sIx ds.length ds.length hi - HT.sIx ds.length 0 lo)
def slcD (x : Nat × D) (lo hi : Option Int) : Option D :=
  match x.2 with
  | .list ds => if kidsIm x.1 x.2 then some (.list (cutD ds lo hi)) else none
  | .tuple ds => some (.tuple (cutD ds lo hi))
  | _ => none
def revD (x : Nat × D) : Option D :=
  match x.2 with
  | .list ds => if kidsIm x.1 x.2 then some (.list ds.reverse) else none
  | .tuple ds => some (.tuple ds.reverse)
  | _ => none
def seqOf : D → Option (List D)
  | .list ds => some ds
  | .tuple ds => some ds
  | _ => none
def asBools : List D → Option (List Bool)
  | [] => some []
  | .bool i :: r => (asBools r).map (i :: ·)
  | _ => none
def rangeD (n : Int) : List D := (List.range n.toNat).map fun (i : Nat) => D.int' i
where D.int' (i : Nat) : D := .int i

/-! ### more operations -/
def maxI : List Int → Option Int
  | [] => none
  | x :: r => some (r.foldl (fun m y => if m < y then y else m) x)
def minI : List Int → Option Int
  | [] => none
  | x :: r => some (r.foldl (fun m y => if y < m then y else m) x)
def tupsOk : List D → Bool
  | [] => true
  | d :: ds => (match d with | .tuple (_ :: _) => true | _ => false) && decide (d.depth ≤ 60) && tupsOk ds
def allAlike (ds : List D) : Bool := ds.all fun d => ds.all (W.alike d)
def sortOk (ds : List D) : Bool := (asInts ds).isSome || (tupsOk ds && allAlike ds)
/-- sorted(ds) -/
def sortD (ds : List D) : Option (List D) := if sortOk ds then some (ds.mergeSort fun a b => !W.dataLt b a) else none
def dictOf (kvs : List (D × D)) : List D → Option (List (D × D))
  | [] => some kvs
  | .tuple [k, v] :: r => if keyOk k then dictOf (dput kvs k v) r else none
  | _ => none
def dedupI : List Int → List Int
  | [] => []
  | x :: r => x :: (dedupI r).filter (fun y => decide (y ≠ x))
def showOk (d : D) : Bool := d.showable && decide (d.depth ≤ 60) && fitL d.shown.length
def lenD : List (Nat × D) → Option D
  | [(_, .list ds)] => some (.int ds.length)
  | [(_, .tuple ds)] => some (.int ds.length)
  | [(_, .dict ds)] => some (.int ds.length)
  | [(_, .str x)] => if fitL x.length then some (.int x.length) else none
  | _ => none
def absD : List (Nat × D) → Option D
  | [(_, .int i)] => some (.int (if i < 0 then -i else i))
  | _ => none
def maxDs : List (Nat × D) → Option D
  | [(_, .int i), (_, .int j)] => some (.int (if j > i then j else i))
  | [(_, .list ds)] => ((asInts ds).bind maxI).map .int
  | [(_, .tuple ds)] => ((asInts ds).bind maxI).map .int
  | _ => none
def minDs : List (Nat × D) → Option D
  | [(_, .int i), (_, .int j)] => some (.int (if j < i then j else i))
  | [(_, .list ds)] => ((asInts ds).bind minI).map .int
  | [(_, .tuple ds)] => ((asInts ds).bind minI).map .int
  | _ => none
def sumD : List (Nat × D) → Option D
  | [(_, .list ds)] => (asInts ds).map fun ns => .int ns.sum
  | [(_, .tuple ds)] => (asInts ds).map fun ns => .int ns.sum
  | _ => none
def sortedD : List (Nat × D) → Option D
  | [(m, .list ds)] => if kidsIm m (.list ds) && own99 m then (sortD ds).map .list else none
  | [(_, .dict kvs)] => (sortD (kvs.map (·.1))).map .list
  | _ => none
def allD : List (Nat × D) → Option D
  | [(_, .list ds)] => (asBools ds).map fun bs => .bool (bs.all id)
  | _ => none
def anyD : List (Nat × D) → Option D
  | [(_, .list ds)] => (asBools ds).map fun bs => .bool (bs.any id)
  | _ => none
def reprD : List (Nat × D) → Option D
  | [(m, d)] => if showOk d && (own99 m || !d.hasDict) then some (.str d.shown) else none
  | _ => none
def intDs : List (Nat × D) → Option D
  | [(_, .int i)] => some (.int i)
  | [(_, .bool b)] => some (.int (i2d b))
  | _ => none
def strD : List (Nat × D) → Option D
  | [(_, .int i)] => if decide (i.natAbs.log2 < 1920) then some (.str (toString i : String)) else none
  | _ => none
def boolD : List (Nat × D) → Option D
  | [(_, .int i)] => some (.bool (i != 0))
  | [(_, .bool b)] => some (.bool b)
  | _ => none
def tupleD : List (Nat × D) → Option D
  | [(m, .list ds)] => if kidsIm m (.list ds) then some (.tuple ds) else none
  | [(_, .tuple ds)] => some (.tuple ds)
  | _ => none
def listD : List (Nat × D) → Option D
  | [(m, .list ds)] => if kidsIm m (.list ds) then some (.list ds) else none
  | [(_, .tuple ds)] => some (.list ds)
  | [(_, .dict kvs)] => some (.list (kvs.map (·.1)))
  | _ => none
def dictD : List (Nat × D) → Option D
  | [(m, .list ds)] => if kidsIm m (.list ds) then (dictOf [] ds).map .dict else none
  | _ => none
def sortedSetD : List (Nat × D) → Option D
  | [(_, .list ds)] => (asInts ds).map fun ns => .list (((dedupI ns).mergeSort fun a b => decide (a ≤ b)).map .int)
  | _ => none
def lenSetD : List (Nat × D) → Option D
  | [(_, .list ds)] => (asInts ds).map fun ns => .int (dedupI ns).length
  | _ => none
def rangeLD : List (Nat × D) → Option D
  | [(_, .int n)] => if decide (n ≤ 1000000) && decide (-(2 ^ 62) ≤ n) then some (.list (rangeD n)) else none
  | _ => none
def rangeTD : List (Nat × D) → Option D
  | [(_, .int n)] => if decide (n ≤ 1000000) && decide (-(2 ^ 62) ≤ n) then some (.tuple (rangeD n)) else none
  | _ => none
def biD (f : Bi) : List (Nat × D) → Option D :=
  match f with
  | .len => lenD | .abs => absD | .max => maxDs | .min => minDs | .sum => sumD | .sorted => sortedD | .all => allD | .any => anyD | .repr => reprD | .int => intDs | .str => strD | .bool => boolD
  | .tuple => tupleD | .list => listD | .dict => dictD | .sortedSet => sortedSetD | .lenSet => lenSetD | .rangeL => rangeLD | .rangeT => rangeTD
def isKind : D → String → Bool
  | .none, _ => false
  | .bool _, t => t == "bool" || t == "int"
  | .int _, t => t == "int"
  | .str _, t => t == "str"
  | .list _, t => t == "list"
  | .tuple _, t => t == "tuple"
  | .dict _, t => t == "dict"
def firstAt (ds : List D) (x : D) : Option Nat := ds.findIdx? fun y => PyData.eqv y x
def asStrs : List D → Option (List Str)
  | [] => some []
  | .str i :: r => (asStrs r).map (i :: ·)
  | _ => none
def indexD (ds : List D) (y : D) : Option D := (firstAt ds y).map fun (i : Nat) => PyData.int (i : Int)
def meD (f : Me) (x y : Nat × D) : Option D :=
  match f, x.2 with
  | .index, .list ds => if eqOk y.2 && eqOk x.2 && fitL ds.length then indexD ds y.2 else none
  | .index, .tuple ds => if eqOk y.2 && eqOk x.2 && fitL ds.length then indexD ds y.2 else none
  | .count, .list ds => if eqOk y.2 && eqOk x.2 && fitL ds.length then some (.int (ds.countP fun z => PyData.eqv z y.2)) else none
  | .count, .tuple ds => if eqOk y.2 && eqOk x.2 && fitL ds.length then some (.int (ds.countP fun z => PyData.eqv z y.2)) else none
  | _, _ => none
/-- a method that changes its object: what it gives, what the object is then -/
def appendD : D → List (Nat × D) → Option (D × D)
  | .list ds, [(_, y)] => if decide (ds.length < sizeLine) then some (.none, .list (ds ++ [y])) else none
  | _, _ => none
def extendD : D → List (Nat × D) → Option (D × D)
  | .list ds, [(m, .list es)] => if kidsIm m (.list es) && own99 m && fitL (ds.length + es.length) then some (.none, .list (ds ++ es)) else none
  | _, _ => none
def popD : D → List (Nat × D) → Option (D × D)
  | .list ds, [] => match ds[ds.length - 1]? with
    | some y => some (y, .list ds.dropLast)
    | none => none
  | _, _ => none
def popAtD : D → List (Nat × D) → Option (D × D)
  | .list ds, [(_, .int i)] => match ixN ds.length i with
    | some j => if fitL ds.length then (ds[j]?).map fun y => (y, .list (ds.eraseIdx j)) else none
    | none => none
  | _, _ => none
def insertD : D → List (Nat × D) → Option (D × D)
  | .list ds, [(_, .int i), (_, y)] => if decide (0 ≤ i) && decide (i < 2 ^ 63) && decide (ds.length < sizeLine) then some (.none, .list (ds.take i.toNat ++ [y] ++ ds.drop i.toNat)) else none
  | _, _ => none
def muD (f : Mu) : D → List (Nat × D) → Option (D × D) :=
  match f with
  | .append => appendD | .extend => extendD | .pop => popD | .popAt => popAtD | .insert => insertD
/-- x[k] = y -/
def stoD (x k y : D) : Option D :=
  match x, k with
  | .list ds, .int i => (ixN ds.length i).map fun j => .list (ds.set j y)
  | .dict kvs, k => if keyOk k && kvs.all (fun kv => keyOk kv.1) && decide (kvs.length < sizeLine) then some (.dict (dput kvs k y)) else if (tkey k).isSome && keysT kvs && decide (kvs.length < sizeLine) then some (.dict (dput kvs k y)) else none
  | _, _ => none

/-! ### evaluation -/
/-- how a value is wanted: to look at; to have, its lists to a depth one's own -/
inductive Wt | br | tk (m : Nat)
def Wt.m : Wt → Nat
  | .br => 0
  | .tk m => m
inductive Opd | val (m : Nat) (d : D) | ref (i : Nat) | sub (i : Nat) (k : D)
def Opd.deep : Opd → Bool
  | .sub _ _ => true
  | _ => false
def res (a : A) : Opd → Option (Nat × D)
  | .val m d => some (m, d)
  | .ref i => match a[i]? with
    | some (some s) => some (s.m, s.d)
    | _ => none
  | .sub i k => match a[i]? with
    | some (some s) => (idxD s.d k).map fun d => (s.m - 1, d)
    | _ => none
def resAll (a : A) : List Opd → Option (List (Nat × D))
  | [] => some []
  | o :: r => (res a o).bind fun x => (resAll a r).map (x :: ·)
def valsOf (m : Nat) : List Opd → Option (List D)
  | [] => some []
  | .val k d :: r => if k = m then (valsOf m r).map (d :: ·) else none
  | _ => none
mutual
/-- changes nothing -/
def quiet : E → Bool
  | .var _ | .non | .bl _ | .int _ | .str _ | .glo _ _ => true
  | .bin _ a b => quiet a && quiet b
  | .neg a => quiet a
  | .cmp _ a b => quiet a && quiet b
  | .isn _ a => quiet a
  | .idx a k => quiet a && quiet k
  | .lst .nil => true
  | .tup es => quietTs es
  | .bi .len es => quiets es
  | .bi .abs es => quiets es
  | .bi .int es => quiets es
  | _ => false
def quiets : Es → Bool
  | .nil => true
  | .cons e es => quiet e && quiets es
def quietTs : Es → Bool
  | .nil => true
  | .cons (.var _) _ => false
  | .cons e es => quiet e && quietTs es
end
/-- .. evaluated so -/
def quietW (e : E) : Wt → Bool
  | .br => quiet e
  | .tk _ => match e with
    | .var _ => false
    | e => quiet e
def quietWs (es : Es) : Wt → Bool
  | .br => quiets es
  | .tk _ => quietTs es
def wipeA (a : A) : List Nat → A
  | [] => a
  | v :: vs => (wipeA a vs).set v none
/-- the slots of a comprehension's own names as they were -/
def backA (a0 a : A) : List Nat → A
  | [] => a
  | v :: vs => (backA a0 a vs).set v ((a0[v]?).getD none)
def ownFine (a : A) (vs : List Nat) : Bool := vs.all fun v => match a[v]? with
  | some (some s) => (flat s.d || decide (s.m = 0)) && !s.lk
  | _ => true
/-- the slots that a loop walks: new locks are told by true -/
abbrev Lks := List (Nat × Bool)
def lkAt (a : A) (i : Nat) : Bool := match a[i]? with
  | some (some s) => s.lk
  | _ => false
def holds (lk : Lks) (a : A) : Bool := lk.all fun p => lkAt a p.1
def unlockA (a : A) : Lks → A
  | [] => a
  | (i, true) :: r => match a[i]? with
    | some (some s) => unlockA (a.set i (if own99 s.m then some ⟨s.m, false, s.d⟩ else none)) r
    | _ => unlockA a r
  | (_, false) :: r => unlockA a r
/-- what a loop over this goes through, and the slots that it locks -/
def walkO (a : A) (o : Opd) : Option (List D × A × Lks) :=
  match o with
  | .val m d => match d with
    | .list ds => if kidsIm m d then some (ds, a, []) else none
    | .tuple ds => some (ds, a, [])
    | _ => none
  | .ref i => match a[i]? with
    | some (some s) => match s.d with
      | .list ds => if s.m = 0 then some (ds, a, []) else if kidsIm s.m s.d then (if s.lk then some (ds, a, [(i, false)]) else some (ds, a.set i (some ⟨s.m, true, s.d⟩), [(i, true)])) else none
      | .tuple ds => some (ds, a, [])
      | _ => none
    | _ => none
  | .sub _ _ => none
abbrev RIt := A → Option (List D × A × Lks)
def nilAs : A → Option (List Opd × A) := fun a => some ([], a)
def consAs (re : A → Option (Opd × A)) (rs : A → Option (List Opd × A)) (qs : Bool) : A → Option (List Opd × A) := fun a => (re a).bind fun p => (rs p.2).bind fun q => if p.1.deep && !qs then none else some (p.1 :: q.1, q.2)
def enumD (ds : List D) : List D := ds.mapIdx fun k x => PyData.tuple [.int k, x]
def zipD (ds es : List D) : List D := (ds.zip es).map fun p => PyData.tuple [p.1, p.2]
def zip3D (ds es fs : List D) : List D := (ds.zip (es.zip fs)).map fun p => PyData.tuple [p.1, p.2.1, p.2.2]
def rngD (lo : Int) (n : Nat) : List D := (List.range n).map fun (i : Nat) => PyData.int (lo + i)
def rngOk (n : Int) : Bool := decide (-(2 ^ 62) ≤ n) && decide (n < 2 ^ 62)
def itOne (rs : A → Option (List Opd × A)) (f : List D → List D) : RIt := fun a => (rs a).bind fun p => match p.1 with
  | [o] => (walkO p.2 o).map fun u => (f u.1, u.2.1, u.2.2)
  | _ => none
def itTwo (rs : A → Option (List Opd × A)) (f : List D → List D → List D) : RIt := fun a => (rs a).bind fun p => match p.1 with
  | [o, o2] => (walkO p.2 o).bind fun u => (walkO u.2.1 o2).map fun v => (f u.1 v.1, v.2.1, u.2.2 ++ v.2.2)
  | _ => none
def itThree (rs : A → Option (List Opd × A)) (f : List D → List D → List D → List D) : RIt := fun a => (rs a).bind fun p => match p.1 with
  | [o, o2, o3] => (walkO p.2 o).bind fun u => (walkO u.2.1 o2).bind fun v => (walkO v.2.1 o3).map fun x => (f u.1 v.1 x.1, x.2.1, u.2.2 ++ v.2.2 ++ x.2.2)
  | _ => none
def itRng1 (rs : A → Option (List Opd × A)) : RIt := fun a => (rs a).bind fun p => (resAll p.2 p.1).bind fun us => match us with
  | [(_, .int n)] => if rngOk n then some (rngD 0 n.toNat, p.2, []) else none
  | _ => none
def itRng (rs : A → Option (List Opd × A)) : RIt := fun a => (rs a).bind fun p => (resAll p.2 p.1).bind fun us => match us with
  | [(_, .int l), (_, .int n)] => if rngOk l && rngOk n then some (rngD l (n - l).toNat, p.2, []) else none
  | _ => none
mutual
def bindT : Tg → D → A → Option A
  | .nm i, d, a => some (a.set i (some ⟨0, false, d⟩))
  | .tp ts, .tuple ds, a => bindTs ts ds a
  | _, _, _ => none
def bindTs : Tgs → List D → A → Option A
  | .nil, [], a => some a
  | .cons t ts, d :: ds, a => (bindT t d a).bind fun a1 => bindTs ts ds a1
  | _, _, _ => none
end

def lcLoop (lk : Lks) (turn : D → A → Option (Option D × A)) : List D → A → Option (List D × A)
  | [], a => some ([], a)
  | x :: xs, a => (turn x a).bind fun p => if holds lk p.2 then (lcLoop lk turn xs p.2).map fun q => ((match p.1 with | some d => d :: q.1 | none => q.1), q.2) else none
/-- the calls: a def's number, its arguments; the mode of what it gives, that, its arguments behind it -/
abbrev Fn := Nat → List Sl → Option (Nat × D × List (Option Sl))
def argOf (a : A) : Opd → Option Sl
  | .val m d => some ⟨m, false, d⟩
  | .ref i => match a[i]? with
    | some (some s) => some s
    | _ => none
  | .sub _ _ => none
def argsOf (a : A) : List Opd → Option (List Sl)
  | [] => some []
  | o :: r => (argOf a o).bind fun s => (argsOf a r).map (s :: ·)
/-- the slots that are lent -/
def lent (a : A) : List Opd → List Nat
  | [] => []
  | .ref i :: r => match a[i]? with
    | some (some s) => if flat s.d || decide (s.m = 0) then lent a r else i :: lent a r
    | _ => lent a r
  | _ :: r => lent a r
def nodupN : List Nat → Bool
  | [] => true
  | x :: r => !r.contains x && nodupN r
/-- the slots that were lent come back -/
def backs (a : A) : List Opd → List (Option Sl) → A
  | .ref i :: r, s :: ss => match a[i]? with
    | some (some t) => if flat t.d || decide (t.m = 0) then backs a r ss else (backs a r ss).set i s
    | _ => backs a r ss
  | _ :: r, _ :: ss => backs a r ss
  | _, _ => a
def permO {α : Type} (xs : List α) : List Nat → Option (List α)
  | [] => some []
  | i :: r => (xs[i]?).bind fun x => (permO xs r).map (x :: ·)
def muWt (m : Mu) (am : Nat) : Wt := match m with
  | .append => .tk am
  | _ => .br
def muArgs (f : Mu) (am : Nat) (a : A) (os : List Opd) : Option (List (Nat × D)) := match f with
  | .append => (valsOf am os).map fun ds => ds.map fun d => (am, d)
  | _ => resAll a os
/-- may this be put into a list whose items are at mode m -/
def putV (m : Nat) (x : Nat × D) : Bool := flat x.2 || decide (x.1 = m)
/-- these are flat, or nobody's -/
def putOk0 (m : Nat) (xs : List (Nat × D)) : Bool := xs.all fun x => flat x.2 || (decide (x.1 = 0) && decide (m = 0))
/-- may these be handed to a method of an object whose items are at mode m -/
def putOk (f : Mu) (m : Nat) (xs : List (Nat × D)) : Bool := match f with
  | .append => xs.all (putV m)
  | .insert => putOk0 m xs
  | .extend => decide (m = 0) || xs.all fun x => match seqOf x.2 with
    | some ds => ds.all flat
    | none => true
  | _ => true
def isLst : D → Bool
  | .list _ => true
  | _ => false
def lstAt (a : A) (i : Nat) : Bool := match a[i]? with
  | some (some s) => isLst s.d
  | _ => false
def isApp : Mu → Bool
  | .append => true
  | _ => false
/-- a[k], its parts known -/
def idxStep (x kq : Opd) (a : A) (w : Wt) : Option (Opd × A) := (res a x).bind fun u => (res a kq).bind fun kd => (idxD u.2 kd.2).bind fun d =>
  if flat d || decide (u.1 ≤ 1) || flat u.2 then (if okRes false w.m d then some (.val w.m d, a) else none)
  else match x, w with
    | .ref i, .br => some (.sub i kd.2, a)
    | _, _ => none
abbrev REv := A → Option (Opd × A)
abbrev RAs := A → Option (List Opd × A)
def varEv (i : Nat) (w : Wt) : REv := fun a => match a[i]? with
  | some (some s) => match w with
    | .br => some (.ref i, a)
    | .tk m => if flat s.d then some (.val m s.d, a) else if m = 0 then (if s.m = 0 then some (.val 0 s.d, a) else if s.lk then none else some (.val 0 s.d, a.set i (some ⟨0, false, s.d⟩)))
      else if decide (s.m = m) && !s.lk then some (.val m s.d, a.set i none) else none
  | _ => none
def idxEv (ra rk : REv) (qk : Bool) (w : Wt) : REv := fun a => (ra a).bind fun p => (rk p.2).bind fun q =>
  if p.1.deep && !qk then none else idxStep p.1 q.1 q.2 w
/-- the slot's object is changed -/
def muStep (f : Mu) (am i : Nat) (w : Wt) (os : List Opd) (a : A) : Option (Opd × A) := match a[i]? with
  | some (some s) => if s.lk || decide (s.m = 0) || !(isApp f || kidsIm s.m s.d) then none else
    (muArgs f am a os).bind fun us => if !putOk f (s.m - 1) us then none else (muD f s.d us).bind fun r =>
      if flat r.1 || (decide (s.m = 1) && decide (w.m = 0)) then some (.val w.m r.1, a.set i (some ⟨s.m, false, r.2⟩)) else none
  | _ => none
/-- .. a kid of it -/
def muStep2 (f : Mu) (i : Nat) (kd : D) (w : Wt) (os : List Opd) (a : A) : Option (Opd × A) := match a[i]? with
  | some (some s) => if s.lk || decide (s.m ≤ 1) then none else
    (idxD s.d kd).bind fun x => if !isLst x || !kidsIm (s.m - 1) x then none else
    (resAll a os).bind fun us => if !putOk f (s.m - 2) us || !putOk0 (s.m - 2) us then none else (muD f x us).bind fun r => (stoD s.d kd r.2).bind fun d2 =>
      if flat r.1 || (decide (s.m = 2) && decide (w.m = 0)) then some (.val w.m r.1, a.set i (some ⟨s.m, false, d2⟩)) else none
  | _ => none
def outOk (w m : Nat) (d : D) : Bool := flat d || decide (w = m) || decide (w = 0)
/-- a call: the arguments, which of them each parameter gets, what the def means -/
def callEvF (g : List Sl → Option (Nat × D × List (Option Sl))) (rs rk : RAs) (perm : List Nat) (w : Nat) : REv := fun a => (rs a).bind fun p => (rk p.2).bind fun q => (permO (p.1 ++ q.1) perm).bind fun os =>
  if (p.1 ++ q.1).any Opd.deep || os.any Opd.deep || !nodupN (lent q.2 os) || !nodupN perm then none else
  (argsOf q.2 os).bind fun ss => (g ss).bind fun r =>
    if outOk w r.1 r.2.1 && decide (r.2.2.length = os.length) then some (.val w r.2.1, backs q.2 os r.2.2) else none
def bTest : D → Option Bool
  | .bool b => some b
  | _ => none
def binEv (ra rb : REv) (qb : Bool) (f : Nat × D → Nat × D → Option D) (w : Nat) : REv := fun a => (ra a).bind fun p => (rb p.2).bind fun q =>
  if p.1.deep && !qb then none else
  (res q.2 p.1).bind fun u => (res q.2 q.1).bind fun v => (f u v).bind fun d => if okRes true w d then some (.val w d, q.2) else none
def seqK : D → Nat
  | .list _ => 1
  | .tuple _ => 2
  | _ => 0
/-- a method that changes nothing -/
def meEv (ra rb : REv) (qb : Bool) (f : Nat × D → Nat × D → Option D) (w : Nat) : REv := fun a => (ra a).bind fun p => (res p.2 p.1).bind fun u0 => (rb p.2).bind fun q =>
  if p.1.deep && !qb then none else
  (res q.2 p.1).bind fun u => if decide (seqK u0.2 = seqK u.2) then (res q.2 q.1).bind fun v => (f u v).bind fun d => if okRes true w d then some (.val w d, q.2) else none else none
/-- one operand -/
def oneEv (ra : REv) (f : Nat × D → Option D) (w : Nat) : REv := fun a => (ra a).bind fun p => (res p.2 p.1).bind fun u => (f u).bind fun d => if okRes true w d then some (.val w d, p.2) else none
def b2 (f : D → D → Option Bool) (x y : Nat × D) : Option D := (f x.2 y.2).map .bool
abbrev RTe := A → Option (Bool × A)
/-- an evaluation as a test -/
def tst (r : REv) : RTe := fun a => (r a).bind fun p => (res p.2 p.1).bind fun u => (bTest u.2).map fun b => (b, p.2)
def bV (r : REv) (m : Nat) : REv := fun a => (tst r a).map fun p => (.val m (.bool p.1), p.2)
/-- the evaluation of a test as a value -/
def tV (rt : RTe) (m : Nat) : REv := fun a => (rt a).map fun p => (.val m (.bool p.1), p.2)
def nTe (rt : RTe) : RTe := fun a => (rt a).map fun p => (!p.1, p.2)
def aTe (rt ru : RTe) : RTe := fun a => (rt a).bind fun p => if p.1 then ru p.2 else some (false, p.2)
def oTe (rt ru : RTe) : RTe := fun a => (rt a).bind fun p => if p.1 then some (true, p.2) else ru p.2
/-- a if c else b -/
def iEv (rt : RTe) (ra rb : REv) : REv := fun s => (rt s).bind fun p => if p.1 then ra p.2 else rb p.2
/-- a comparison as a test -/
def cTe (ra rb : REv) (qb : Bool) (f : D → D → Option Bool) : RTe := fun a => (ra a).bind fun p => (rb p.2).bind fun q =>
  if p.1.deep && !qb then none else (res q.2 p.1).bind fun u => (res q.2 q.1).bind fun v => (f u.2 v.2).map fun b => (b, q.2)
/-- is None, is not None -/
def nTest (ra : REv) (o : Cop) : RTe := fun s => (ra s).bind fun p => (res p.2 p.1).bind fun u => (cmpD o u.2 .none).map fun b => (b, p.2)
def chTe (ra rb rc : REv) (f g : D → D → Option Bool) : RTe := fun s => (ra s).bind fun p => (rb p.2).bind fun q =>
  if p.1.deep || q.1.deep then none else
  (res q.2 p.1).bind fun u => (res q.2 q.1).bind fun v => (f u.2 v.2).bind fun b =>
    if b then (rc q.2).bind fun r => (res r.2 q.1).bind fun v2 => (res r.2 r.1).bind fun t => (g v2.2 t.2).map fun c => (c, r.2)
    else some (false, q.2)
def tupEv (rs : RAs) (m : Nat) : REv := fun a => (rs a).bind fun p => (valsOf 0 p.1).bind fun ds => if fitL ds.length then some (.val m (.tuple ds), p.2) else none
def lstEv (rs : RAs) (m : Nat) : REv := fun a => (rs a).bind fun p => (valsOf (m - 1) p.1).bind fun ds => if fitL ds.length then some (.val m (.list ds), p.2) else none
def keysNd : List D → Bool
  | [] => true
  | k :: r => r.all (fun j => !D.beqKey k j) && keysNd r
/-- {k: v, ..} -/
def disEv (ks : List D) (rs : RAs) (m : Nat) : REv := fun a => (rs a).bind fun p => (valsOf (m - 1) p.1).bind fun ds =>
  if decide (ds.length = ks.length) && ks.all keyOk && keysNd ks then some (.val m (.dict (ks.zip ds)), p.2) else none
def negD (x : Nat × D) : Option D := match x.2 with
  | .int i => some (.int (-i))
  | _ => none
abbrev RO := A → Option (Option Int × A)
def partEv (re : REv) : RO := fun a => (re a).bind fun p => match p.1 with
  | .val _ (.int i) => some (some i, p.2)
  | _ => none
def slcEv (ra : REv) (rl rh : RO) (m : Nat) : REv := fun a => (ra a).bind fun p => (rl p.2).bind fun l => (rh l.2).bind fun h =>
  if p.1.deep then none else
  (res h.2 p.1).bind fun u => (slcD u l.1 h.1).bind fun d => if okRes true m d then some (.val m d, h.2) else none
def callEv (rs : RAs) (f : List (Nat × D) → Option D) (m : Nat) : REv := fun a => (rs a).bind fun p => (resAll p.2 p.1).bind fun us => (f us).bind fun d => if okRes true m d then some (.val m d, p.2) else none
def muEv (rs : RAs) (f : Mu) (am i : Nat) (w : Wt) : REv := fun a => if !lstAt a i then none else (rs a).bind fun p => muStep f am i w p.1 p.2
def muSubEv (rk : REv) (qk : Bool) (rs : RAs) (qs : Bool) (f : Mu) (i : Nat) (w : Wt) : REv := fun a => (idxEv (varEv i .br) rk qk .br a).bind fun c => match c.1 with
  | .sub j kd => (res c.2 (.sub j kd)).bind fun u => if !isLst u.2 then none else (rs c.2).bind fun p => if !qs then none else muStep2 f j kd w p.1 p.2
  | _ => none
def lcTurn (tg : Tg) (rc : RTe) (re : REv) (own : List Nat) (m : Nat) : D → A → Option (Option D × A) := fun x b => (bindT tg x b).bind fun b1 => (rc b1).bind fun c =>
  if c.1 then (re c.2).bind fun r => (valsOf m [r.1]).map fun ds => (some (ds.headD .none), wipeA r.2 own) else some (none, wipeA c.2 own)
def lcEv (own : List Nat) (re : REv) (tg : Tg) (ri : RIt) (rc : RTe) (w : Nat) : REv := fun a => (ri a).bind fun p =>
  if !ownFine p.2.1 own || !fitL p.1.length then none else
  (lcLoop p.2.2 (lcTurn tg rc re own (w - 1)) p.1 (wipeA p.2.1 own)).map fun q => (.val w (.list q.1), unlockA (backA p.2.1 q.2 own) p.2.2)
def seqIntsD (c : List Int → Bool) (g : List Int → D) (d : Nat × D) : Option D := match d.2 with
  | .list ds => (asInts ds).bind fun ns => if c ns = true then some (g ns) else none
  | .tuple ds => (asInts ds).bind fun ns => if c ns = true then some (g ns) else none
  | _ => none
def unD : Un → Nat × D → Option D
  | .rangeL => fun x => rangeLD [x]
  | .rangeT => fun x => rangeTD [x]
  | .lenSet => seqIntsD (fun ns => decide (ns.length ≤ 4000)) fun ns => .int (dedupI ns).length
  | .sortedSet => seqIntsD (fun ns => decide (ns.length ≤ 4000) && decide ((dedupI ns).length < 64)) fun ns => .list (((dedupI ns).mergeSort fun a b => decide (a ≤ b)).map .int)
def isiD (ts : List String) (x : Nat × D) : Option D := some (.bool (ts.any (isKind x.2)))
section
variable (fn : Fn)
mutual
def ev : E → Wt → REv
  | .var i, w => varEv i w
  | .non, w => fun a => some (.val w.m .none, a)
  | .bl b, w => fun a => some (.val w.m (.bool b), a)
  | .int n, w => fun a => some (.val w.m (.int n), a)
  | .str x, w => fun a => some (.val w.m (.str x), a)
  | .glo _ d, w => fun a => if flat d then some (.val w.m d, a) else none
  | .tup es, w => tupEv (evs es (.tk 0)) w.m
  | .lst es, w => lstEv (evs es (.tk (w.m - 1))) w.m
  | .dnew, w => fun a => some (.val w.m (.dict []), a)
  | .dis ks es, w => disEv ks (evs es (.tk (w.m - 1))) w.m
  | .bin o x y, w => binEv (ev x .br) (ev y .br) (quiet y) (binD o) w.m
  | .cmp o x y, w => tV (cTe (ev x .br) (ev y .br) (quiet y) (cmpD o)) w.m
  | .isn o x, w => tV (nTest (ev x .br) (if o then .notN else .isN)) w.m
  | .chn o o2 x y z, w => tV (chTe (ev x .br) (ev y .br) (ev z .br) (cmpD o) (cmpD o2)) w.m
  | .neg x, w => oneEv (ev x .br) negD w.m
  | .not x, w => tV (nTe (tst (ev x .br))) w.m
  | .and x y, w => tV (aTe (tst (ev x .br)) (tst (ev y .br))) w.m
  | .or x y, w => tV (oTe (tst (ev x .br)) (tst (ev y .br))) w.m
  | .ife c x y, w => iEv (tst (ev c .br)) (ev x (.tk w.m)) (ev y (.tk w.m))
  | .idx x k, w => idxEv (ev x .br) (ev k .br) (quiet k) w
  | .slc x lo hi, w => slcEv (ev x .br) (evO lo) (evO hi) w.m
  | .rev x, w => oneEv (ev x .br) revD w.m
  | .un f x, w => oneEv (ev x .br) (unD f) w.m
  | .bi f es, w => callEv (evs es .br) (biD f) w.m
  | .isi x ts, w => oneEv (ev x .br) (isiD ts) w.m
  | .me f x y, w => meEv (ev x .br) (ev y .br) (quiet y) (meD f) w.m
  | .mu f am i .none es, w => muEv (evs es (muWt f am)) f am i w
  | .mu f am i (.some k) es, w => muSubEv (ev k .br) (quiet k) (evs es .br) (quiets es) f i w
  | .call f es ks perm, w => callEvF (fn f) (evs es .br) (evs ks .br) perm w.m
  | .lc own el tg it cond, w => lcEv own (ev el (.tk (w.m - 1))) tg (evIt it) (evC cond) w.m
def evs : Es → Wt → RAs
  | .nil, _ => nilAs
  | .cons e es, w => consAs (ev e w) (evs es w) (quietWs es w)
/-- a slice's part -/
def evO : Oe → RO
  | .none => fun a => some (none, a)
  | .some e => partEv (ev e (.tk 0))
/-- a clause's test -/
def evC : Oe → RTe
  | .none => fun a => some (true, a)
  | .some e => tst (ev e .br)
def evIt : It → RIt
  | .of e => itOne (consAs (ev e .br) nilAs true) id
  | .rng1 b => itRng1 (consAs (ev b .br) nilAs true)
  | .rng b c => itRng (consAs (ev b .br) (consAs (ev c .br) nilAs true) (quiet c))
  | .enum e => itOne (consAs (ev e .br) nilAs true) enumD
  | .zip2 b c => itTwo (consAs (ev b .br) (consAs (ev c .br) nilAs true) (quiet c)) zipD
  | .zip3 b c d => itThree (consAs (ev b .br) (consAs (ev c .br) (consAs (ev d .br) nilAs true) (quiet d)) (quiet c && quiet d)) zip3D
end
end
inductive Fl | nx | rt (d : D) | bk | ct
/-- x[k] = y, the parts known -/
def stoStep (i am : Nat) (v kd : D) (a : A) : Option (Fl × A) := match a[i]? with
  | some (some s) => if s.lk || decide (s.m = 0) then none else
      if putV (s.m - 1) (am, v) then (stoD s.d kd v).map fun d => (.nx, a.set i (some ⟨s.m, false, d⟩)) else none
  | _ => none
def stoS (i am : Nat) (re rk : REv) : A → Option (Fl × A) := fun a => (re a).bind fun p => (varEv i .br p.2).bind fun c => (rk c.2).bind fun q => (valsOf am [p.1]).bind fun v => (res q.2 q.1).bind fun kd => stoStep i am (v.headD .none) kd.2 q.2
def stoStep2 (i : Nat) (v kd ld : D) (a : A) : Option (Fl × A) := match a[i]? with
  | some (some s) => if s.lk || decide (s.m ≤ 1) then none else
      (idxD s.d kd).bind fun x => if !isLst x || !(flat v || decide (s.m = 2)) then none else (stoD x ld v).bind fun x2 => (stoD s.d kd x2).map fun d => (.nx, a.set i (some ⟨s.m, false, d⟩))
  | _ => none
def sto2S (i : Nat) (re rk rl : REv) (qk ql : Bool) : A → Option (Fl × A) := fun a => (re a).bind fun p => (idxEv (varEv i .br) rk qk .br p.2).bind fun c => (rl c.2).bind fun l => match c.1 with
  | .sub j kd => if !ql then none else (valsOf 0 [p.1]).bind fun v => (res l.2 l.1).bind fun ld => stoStep2 j (v.headD .none) kd ld.2 l.2
  | _ => none
def augS (i : Nat) (o : Bop) (re : REv) : A → Option (Fl × A) := fun a => match a[i]? with
  | some (some ⟨_, _, .int x⟩) => (re a).bind fun p => (res p.2 p.1).bind fun u => match u.2 with
    | .int y => (binD o (0, .int x) (0, .int y)).map fun d => (.nx, p.2.set i (some ⟨0, false, d⟩))
    | _ => none
  | _ => none
def forLoop (tg : Tg) (lk : Lks) (body : A → Option (Fl × A)) : List D → A → Option (Fl × A)
  | [], a => some (.nx, a)
  | x :: xs, a => (bindT tg x a).bind fun a1 => (body a1).bind fun p => match p.1 with
    | .nx => if holds lk p.2 then forLoop tg lk body xs p.2 else none
    | .ct => if holds lk p.2 then forLoop tg lk body xs p.2 else none
    | .bk => some (.nx, p.2)
    | .rt d => some (.rt d, p.2)
def whlLoop (test : A → Option (Bool × A)) (body : A → Option (Fl × A)) : Nat → A → Option (Fl × A)
  | 0, _ => none
  | n + 1, a => (test a).bind fun c => if c.1 then (body c.2).bind fun p => (match p.1 with
    | .nx => whlLoop test body n p.2
    | .ct => whlLoop test body n p.2
    | .bk => some (.nx, p.2)
    | .rt d => some (.rt d, p.2)) else some (.nx, c.2)
abbrev RSt := A → Option (Fl × A)
def nxS : RSt := fun a => some (.nx, a)
def seqS (r u : RSt) : RSt := fun a => (r a).bind fun p => match p.1 with
  | .nx => u p.2
  | f => some (f, p.2)
def exS (r : REv) : RSt := fun a => (r a).map fun p => (.nx, p.2)
def retS (r : REv) (rm : Nat) : RSt := fun a => (r a).bind fun p => match p.1 with
  | .val k d => if k = rm then some (.rt d, p.2) else none
  | _ => none
def ifS (rt : RTe) (x y : RSt) : RSt := fun a => (rt a).bind fun p => if p.1 then x p.2 else y p.2
/-- x = e -/
def asgS (r : REv) (i m : Nat) : RSt := fun a => (r a).bind fun p => match p.1 with
  | .val k d => if k = m then some (.nx, p.2.set i (some ⟨m, false, d⟩)) else none
  | _ => none
def forS (tg : Tg) (ri : RIt) (rb : RSt) : RSt := fun a => (ri a).bind fun p => (forLoop tg p.2.2 rb p.1 p.2.1).map fun q => (q.1, unlockA q.2 p.2.2)
def unpS (re : REv) (ts : Tgs) : RSt := fun a => (re a).bind fun p => match p.1 with
  | .val k (.tuple ds) => if k = 0 then (bindTs ts ds p.2).map fun a1 => (.nx, a1) else none
  | _ => none
def par2S (i m j m2 : Nat) (rs : RAs) : RSt := fun a => (rs a).bind fun p => match p.1 with
  | [.val k d, .val k2 d2] => if k = m ∧ k2 = m2 then some (.nx, (p.2.set i (some ⟨m, false, d⟩)).set j (some ⟨m2, false, d2⟩)) else none
  | _ => none
def par3S (i m j m2 l m3 : Nat) (rs : RAs) : RSt := fun a => (rs a).bind fun p => match p.1 with
  | [.val k d, .val k2 d2, .val k3 d3] => if k = m ∧ k2 = m2 ∧ k3 = m3 then some (.nx, ((p.2.set i (some ⟨m, false, d⟩)).set j (some ⟨m2, false, d2⟩)).set l (some ⟨m3, false, d3⟩)) else none
  | _ => none
section
variable (fn : Fn) (L rm : Nat)
mutual
def exec : S → RSt
  | .asg i m e => asgS (ev fn e (.tk m)) i m
  | .unp ts e => unpS (ev fn e (.tk 0)) ts
  | .par2 i m j m2 x y => par2S i m j m2 (consAs (ev fn x (.tk m)) (consAs (ev fn y (.tk m2)) nilAs true) false)
  | .par3 i m j m2 l m3 x y z => par3S i m j m2 l m3 (consAs (ev fn x (.tk m)) (consAs (ev fn y (.tk m2)) (consAs (ev fn z (.tk m3)) nilAs true) false) false)
  | .sto i am k e => stoS i am (ev fn e (.tk am)) (ev fn k .br)
  | .sto2 i k l e => sto2S i (ev fn e (.tk 0)) (ev fn k .br) (ev fn l .br) (quiet k) (quiet l)
  | .aug i o e => augS i o (ev fn e .br)
  | .ex e => exS (ev fn e .br)
  | .ret e => retS (ev fn e (.tk rm)) rm
  | .ret0 => fun a => some (.rt .none, a)
  | .ifs c x y => ifS (tst (ev fn c .br)) (execs x) (execs y)
  | .loop tg it b => forS tg (evIt fn it) (execs b)
  | .whl c b => whlLoop (tst (ev fn c .br)) (execs b) L
  | .brk => fun a => some (.bk, a)
  | .cnt => fun a => some (.ct, a)
  | .pas => nxS
  | .bad => fun _ => none
def execs : Ss → RSt
  | .nil => nxS
  | .cons s ss => seqS (exec s) (execs ss)
end
end
/-- a def: its names (parameters first), how many parameters, those that it stores, its body, the mode of what it gives -/
structure Fd where
  name : Str
  N : List Str
  np : Nat
  st : List Nat
  body : Ss
  rm : Nat
/-- or a def whose meaning is told -/
def runFd (fn : Fn) (L : Nat) (f : Fd) (ss : List Sl) : Option (Nat × D × List (Option Sl)) :=
  if ss.length = f.np then
    match execs fn L f.rm f.body (ss.map some ++ List.replicate (f.N.length - f.np) none) with
    | some (.rt d, a) => some (f.rm, d, (List.range f.np).map fun i => if f.st.contains i then none else (a[i]?).getD none)
    | some (.nx, a) => some (f.rm, .none, (List.range f.np).map fun i => if f.st.contains i then none else (a[i]?).getD none)
    | _ => none
  else none
/-- the table's calls, to a depth -/
def callT (tab : List Fd) (L : Nat) : Nat → Fn
  | 0, _, _ => none
  | n + 1, f, ss => match tab[f]? with
    | some d => runFd (callT tab L n) L d ss
    | none => none
end RV

set_option maxRecDepth 100000
/-! Ev1: how data lie in the heap; who owns what. -/
namespace RV
open PySem L2

/-! ### heaps -/
/-- tuples and locked things stand -/
structure Pst (H H' : Hp) : Prop where
  t : ∀ a xs, H a = some (.tup xs) → H' a = some (.tup xs)
  f : ∀ a o u, H a = some (.frz o u) → H' a = some (.frz o u)
theorem Pst.refl (H : Hp) : Pst H H := ⟨fun _ _ h => h, fun _ _ _ h => h⟩
theorem Pst.trans {H H1 H2 : Hp} (p : Pst H H1) (q : Pst H1 H2) : Pst H H2 := ⟨fun a xs h => q.t a xs (p.t a xs h), fun a o u h => q.f a o u (p.f a o u h)⟩
theorem Pst.new {H : Hp} {a : Addr} {o : HO} (h : H a = none) : Pst H (upd H a o) :=
  ⟨fun b xs e => by rw [upd_ne (ne_of_none e h)]; exact e, fun b x u e => by rw [upd_ne (ne_of_none e h)]; exact e⟩
theorem Pst.chg {H : Hp} {a : Addr} {u o : HO} (h : H a = some u) (m : Mut (some u)) : Pst H (upd H a o) :=
  ⟨fun b xs e => by
    rw [upd_ne]; exact e
    intro z; subst z; rw [h] at e; cases e; exact m,
   fun b x v e => by
    rw [upd_ne]; exact e
    intro z; subst z; rw [h] at e; cases e; exact m⟩
theorem Pst.of_same {H H' : Hp} (h : Same H H') : Pst H H' := ⟨fun a xs e => h a _ e, fun a o u e => h a _ e⟩

/-- ghost steps: some things that may be changed are locked for good -/
inductive Gz (Q : Hp → Prop) : Hp → Prop
  | done {H : Hp} : Q H → Gz Q H
  | lock {H : Hp} {a : Addr} {u : HO} : H a = some u → Mut (some u) → (∀ o, Gz Q (upd H a (.frz o u))) → Gz Q H
theorem Gz.bind {Q R : Hp → Prop} {H : Hp} (g : Gz Q H) (h : ∀ H', Q H' → Gz R H') : Gz R H := by
  induction g with
  | done q => exact h _ q
  | lock e m _ ih => exact .lock e m fun o => ih o
theorem Gz.mono {Q R : Hp → Prop} {H : Hp} (g : Gz Q H) (h : ∀ H', Q H' → R H') : Gz R H := g.bind fun H' q => .done (h H' q)
section
variable {X : Cx} {pins : List (Addr × Obj)} {σ : St} {H : Hp} {s : Shared}
theorem inv_gz {Q : Hp → Prop} (g : Gz Q H) (I : Inv X pins σ H s) : ∃ H', Inv X pins σ H' s ∧ Q H' := by
  induction g with
  | done q => exact ⟨_, I, q⟩
  | lock e m _ ih =>
    obtain ⟨od, I1⟩ := I.lock e m
    exact ih od I1
theorem pe_gz {e : Expr} {t : TE} (h : PE X e t) : PE X e (fun σ H Q => t σ H fun v H' => Gz (Q v) H') :=
  ⟨fun pins s σ H Q I hw => thn (h.run pins s σ H _ I hw) fun u s1 ⟨v, H1, I1, r, q⟩ => by
    obtain ⟨H2, I2, q2⟩ := inv_gz q I1
    exact ⟨v, H2, I2, r, q2⟩⟩
theorem pe_imp {e : Expr} {t t' : TE} (h : PE X e t) (i : ∀ σ H Q, t' σ H Q → t σ H Q) : PE X e t' :=
  ⟨fun pins s σ H Q I hw => h.run pins s σ H Q I (i _ _ _ hw)⟩
theorem pt_imp {e : Expr} {t t' : TT} (h : PT X e t) (i : ∀ σ H Q, t' σ H Q → t σ H Q) : PT X e t' :=
  ⟨fun pins s σ H Q I hw => h.run pins s σ H Q I (i _ _ _ hw)⟩
theorem pa_imp {e : List Expr} {t t' : TA} (h : PA X e t) (i : ∀ σ H Q, t' σ H Q → t σ H Q) : PA X e t' :=
  ⟨fun p pins s σ H Q I hw => h.run p pins s σ H Q I (i _ _ _ hw)⟩
theorem ps_imp {e : Stmt} {t t' : TS} (h : PS X e t) (i : ∀ D σ H, t' D σ H → t D σ H) : PS X e t' :=
  ⟨fun pins s σ H D I hw => h.run pins s σ H D I (i _ _ _ hw)⟩
theorem pss_imp {e : List Stmt} {t t' : TS} (h : PSs X e t) (i : ∀ D σ H, t' D σ H → t D σ H) : PSs X e t' :=
  ⟨fun pins s σ H D I hw => h.run pins s σ H D I (i _ _ _ hw)⟩
end

/-! ### data -/
def keyD : Key → D
  | .inl i => .int i
  | .inr x => .str x
def keyTD (k : List Key) : D := .tuple (k.map keyD)
variable (K : PySem.W.Frag)
/-- a list that nobody changes -/
def FzL (H : Hp) (a : Addr) (xs : List V) : Prop := ∃ o, H a = some (.frz o (.lst xs))
/-- .. or one of the written part -/
def FoL (H : Hp) (a : Addr) (xs : List V) : Prop := (∃ o, H a = some (.frz o (.lst xs))) ∨
  ∃ (o : Obj) (its : Array Value) (n : Nat), K.lookup a = some o ∧ o.cls = .type "list" ∧ o.dict = none ∧ o.data = .seq its n ∧ its.size ≤ sizeLine ∧ Vals xs its.toList
/-- no dict hangs on it -/
def Nd (H : Hp) (a : Addr) : Prop := (∃ o u, H a = some (.frz o u) ∧ o.dict = none) ∨ ∃ o, K.lookup a = some o ∧ o.dict = none
def TuA (H : Hp) (a : Addr) (xs : List V) : Prop := SqT K H a xs ∧ Nd K H a
/-- an entry of a dict whose keys are tuples of ints -/
def tEnt (x : List Int × Addr × Value) : DictEntry := ⟨reduceHash (Builtin.Tuple.tupleHashOf (x.1.map hashInt)), .ref x.2.1, x.2.2⟩
structure TObj (ob : Obj) (xs : List (List Int × Addr × Value)) : Prop where
  ex : ob.ExactDict
  dt : ∃ es ep, ob.data = .dict es ep ∧ es.toList = xs.map tEnt
  nd : (xs.map (·.1)).Nodup
  sz : xs.length ≤ sizeLine
/-- that very object -/
def TdO (a : Addr) (ob : Obj) : HO := .ext fun h => h.get? a = some ob
/-- a dict's keys and values -/
def DctIs (H : Hp) (a : Addr) (u : HO) (ks : List D) (vs : List V) : Prop :=
  (∃ kvs : List (Key × V), u = .dK kvs ∧ ks = kvs.map (fun p => keyD p.1) ∧ vs = kvs.map (·.2)) ∨
  ∃ ob xs, u = TdO a ob ∧ (a == sysModules) = false ∧ xs ≠ [] ∧ TObj ob xs ∧ ks = xs.map (fun x => PyData.tuple (x.1.map .int)) ∧ Vals vs (xs.map (·.2.2)) ∧ ∀ x ∈ xs, TuA K H x.2.1 (x.1.map V.int)
theorem DctIs.len {H : Hp} {a : Addr} {u : HO} {ks : List D} {vs : List V} (h : DctIs K H a u ks vs) : ks.length = vs.length := by
  rcases h with ⟨kvs, _, rfl, rfl⟩ | ⟨ob, xs, _, _, _, _, rfl, r, _⟩
  · simp
  · have := r.length
    simp at this
    simp [this]
theorem DctIs.mut {H : Hp} {a : Addr} {u : HO} {ks : List D} {vs : List V} (h : DctIs K H a u ks vs) : Mut (some u) := by
  rcases h with ⟨kvs, rfl, _, _⟩ | ⟨ob, xs, rfl, _⟩
  · trivial
  · trivial
mutual
/-- data that stand for good -/
def Im (H : Hp) : D → V → Prop
  | .none, v => v = .non
  | .bool b, v => v = .bl b
  | .int i, v => v = .int i
  | .str x, v => v = .str x
  | .tuple ds, v => ∃ a xs, v = .ref a ∧ TuA K H a xs ∧ ImA H ds xs
  | .list ds, v => ∃ a xs, v = .ref a ∧ FzL H a xs ∧ ImA H ds xs
  | .dict kvs, v => ∃ a o u xs, v = .ref a ∧ H a = some (.frz o u) ∧ DctIs K H a u (kvs.map (·.1)) xs ∧ ImK H kvs xs
def ImA (H : Hp) : List D → List V → Prop
  | [], vs => vs = []
  | d :: ds, vs => ∃ v r, vs = v :: r ∧ Im H d v ∧ ImA H ds r
def ImK (H : Hp) : List (D × D) → List V → Prop
  | [], vs => vs = []
  | (_, d) :: ds, vs => ∃ v r, vs = v :: r ∧ Im H d v ∧ ImK H ds r
end
variable {K}
theorem Rd.pst {H H' : Hp} {a : Addr} {xs : List V} (p : Pst H H') (h : Rd H a (.tup xs)) : Rd H' a (.tup xs) := by
  rcases h with h | ⟨o, h⟩
  · exact .inl (p.t _ _ h)
  · exact .inr ⟨o, p.f _ _ _ h⟩
theorem SqT.pst {H H' : Hp} {a : Addr} {xs : List V} (p : Pst H H') (h : SqT K H a xs) : SqT K H' a xs := by
  rcases h with h | h
  · exact .inl (Rd.pst p h)
  · exact .inr h
theorem Nd.pst {H H' : Hp} {a : Addr} (p : Pst H H') (h : Nd K H a) : Nd K H' a := by
  rcases h with ⟨o, u, h, e⟩ | h
  · exact .inl ⟨o, u, p.f _ _ _ h, e⟩
  · exact .inr h
theorem TuA.pst {H H' : Hp} {a : Addr} {xs : List V} (p : Pst H H') (h : TuA K H a xs) : TuA K H' a xs := ⟨SqT.pst p h.1, Nd.pst p h.2⟩
theorem DctIs.pst {H H' : Hp} {a : Addr} {u : HO} {ks : List D} {vs : List V} (p : Pst H H') (h : DctIs K H a u ks vs) : DctIs K H' a u ks vs := by
  rcases h with h | ⟨ob, xs, h1, h2, h3, h4, h5, h6, h7⟩
  · exact .inl h
  · exact .inr ⟨ob, xs, h1, h2, h3, h4, h5, h6, fun x hx => (h7 x hx).pst p⟩
theorem TuA.new {H : Hp} {a : Addr} {xs : List V} {o : Obj} (h : o.dict = none) : TuA K (upd H a (.frz o (.tup xs))) a xs := ⟨.inl (.inr ⟨o, upd_same⟩), .inl ⟨o, _, upd_same, h⟩⟩
theorem FzL.pst {H H' : Hp} {a : Addr} {xs : List V} (p : Pst H H') (h : FzL H a xs) : FzL H' a xs := by
  obtain ⟨o, h⟩ := h
  exact ⟨o, p.f _ _ _ h⟩
theorem FzL.rd {H : Hp} {a : Addr} {xs : List V} (h : FzL H a xs) : Rd H a (.lst xs) := .inr h
theorem FzL.sq {H : Hp} {a : Addr} {xs : List V} (h : FzL H a xs) : SqL K H a xs := .inl h.rd
theorem FoL.pst {H H' : Hp} {a : Addr} {xs : List V} (p : Pst H H') (h : FoL K H a xs) : FoL K H' a xs := by
  rcases h with ⟨o, h⟩ | h
  · exact .inl ⟨o, p.f _ _ _ h⟩
  · exact .inr h
theorem FoL.sq {H : Hp} {a : Addr} {xs : List V} (h : FoL K H a xs) : SqL K H a xs := by
  rcases h with ⟨o, h⟩ | h
  · exact .inl (.inr ⟨o, h⟩)
  · exact .inr h
mutual
theorem Im.pst {H H' : Hp} (p : Pst H H') : ∀ (d : D) (v : V), Im K H d v → Im K H' d v
  | .none, v, h => by unfold Im at h ⊢; exact h
  | .bool b, v, h => by unfold Im at h ⊢; exact h
  | .int i, v, h => by unfold Im at h ⊢; exact h
  | .str x, v, h => by unfold Im at h ⊢; exact h
  | .tuple ds, v, h => by
    unfold Im at h ⊢
    obtain ⟨a, xs, e, q, r⟩ := h
    exact ⟨a, xs, e, TuA.pst p q, ImA.pst p ds xs r⟩
  | .list ds, v, h => by
    unfold Im at h ⊢
    obtain ⟨a, xs, e, q, r⟩ := h
    exact ⟨a, xs, e, FzL.pst p q, ImA.pst p ds xs r⟩
  | .dict kvs, v, h => by
    unfold Im at h ⊢
    obtain ⟨a, o, u, xs, e, q, r, z⟩ := h
    exact ⟨a, o, u, xs, e, p.f _ _ _ q, r.pst p, ImK.pst p kvs xs z⟩
theorem ImA.pst {H H' : Hp} (p : Pst H H') : ∀ (ds : List D) (vs : List V), ImA K H ds vs → ImA K H' ds vs
  | [], vs, h => by unfold ImA at h ⊢; exact h
  | d :: ds, vs, h => by
    unfold ImA at h ⊢
    obtain ⟨v, r, e, q, z⟩ := h
    exact ⟨v, r, e, Im.pst p d v q, ImA.pst p ds r z⟩
theorem ImK.pst {H H' : Hp} (p : Pst H H') : ∀ (ds : List (D × D)) (vs : List V), ImK K H ds vs → ImK K H' ds vs
  | [], vs, h => by unfold ImK at h ⊢; exact h
  | (k, d) :: ds, vs, h => by
    unfold ImK at h ⊢
    obtain ⟨v, r, e, q, z⟩ := h
    exact ⟨v, r, e, Im.pst p d v q, ImK.pst p ds r z⟩
end
theorem ImA.iff {H : Hp} : ∀ {ds : List D} {vs : List V}, ImA K H ds vs ↔ ds.length = vs.length ∧ ∀ (i : Nat) d v, ds[i]? = some d → vs[i]? = some v → Im K H d v
  | [], vs => by
    unfold ImA
    constructor
    · rintro rfl; exact ⟨rfl, fun i d v h => by simp at h⟩
    · rintro ⟨h, _⟩; cases vs with
      | nil => rfl
      | cons _ _ => simp at h
  | d :: ds, vs => by
    unfold ImA
    constructor
    · rintro ⟨v, r, rfl, q, z⟩
      obtain ⟨l, z⟩ := ImA.iff.mp z
      refine ⟨by simp [l], fun i d' v' h1 h2 => ?_⟩
      cases i with
      | zero => simp at h1 h2; subst h1; subst h2; exact q
      | succ i => exact z i d' v' (by simpa using h1) (by simpa using h2)
    · rintro ⟨l, z⟩
      cases vs with
      | nil => simp at l
      | cons v r => exact ⟨v, r, rfl, z 0 d v rfl rfl, ImA.iff.mpr ⟨by simpa using l, fun i d' v' h1 h2 => z (i + 1) d' v' (by simpa using h1) (by simpa using h2)⟩⟩
theorem ImK.iff {H : Hp} : ∀ {ds : List (D × D)} {vs : List V}, ImK K H ds vs ↔ ImA K H (ds.map (·.2)) vs
  | [], vs => by unfold ImK; rw [List.map_nil]; unfold ImA; exact Iff.rfl
  | (k, d) :: ds, vs => by
    unfold ImK; rw [List.map_cons]; unfold ImA
    constructor
    · rintro ⟨v, r, e, q, z⟩; exact ⟨v, r, e, q, ImK.iff.mp z⟩
    · rintro ⟨v, r, e, q, z⟩; exact ⟨v, r, e, q, ImK.iff.mpr z⟩
theorem ImA.nil {H : Hp} : ImA K H [] [] := by unfold ImA; rfl
theorem ImA.cons {H : Hp} {d : D} {v : V} {ds : List D} {vs : List V} (h : Im K H d v) (t : ImA K H ds vs) : ImA K H (d :: ds) (v :: vs) := by
  unfold ImA; exact ⟨v, vs, rfl, h, t⟩
theorem ImA.append {H : Hp} {ds es : List D} {vs ws : List V} (h : ImA K H ds vs) (t : ImA K H es ws) : ImA K H (ds ++ es) (vs ++ ws) := by
  induction ds generalizing vs with
  | nil => unfold ImA at h; subst h; exact t
  | cons d ds ih =>
    unfold ImA at h
    obtain ⟨v, r, rfl, q, z⟩ := h
    exact .cons q (ih z)
theorem ImA.len {H : Hp} {ds : List D} {vs : List V} (h : ImA K H ds vs) : ds.length = vs.length := (ImA.iff.mp h).1
theorem ImA.get {H : Hp} {ds : List D} {vs : List V} (h : ImA K H ds vs) {i : Nat} {d : D} (e : ds[i]? = some d) : ∃ v, vs[i]? = some v ∧ Im K H d v := by
  obtain ⟨l, q⟩ := ImA.iff.mp h
  obtain ⟨hi, _⟩ := List.getElem?_eq_some_iff.mp e
  have hv : vs[i]? = some (vs[i]'(by omega)) := List.getElem?_eq_getElem (by omega)
  exact ⟨_, hv, q i d _ e hv⟩

/-! ### what is owned -/
/-- a root -/
def At (z : Bool) (H : Hp) (a : Addr) (u : HO) : Prop := H a = some u
variable (K)
def Own1 (H : Hp) : Nat → D → V → (Addr → Prop) → Prop
  | 0, d, v, _ => Im K H d v
  | m + 1, d, v, F => (flat d = true ∧ Im K H d v) ∨
    (∃ a xs ds, ∃ χ : Addr → Nat, v = .ref a ∧ d = .list ds ∧ F a ∧ H a = some (.lst xs) ∧ ds.length = xs.length ∧
      ∀ (i : Nat) e x, ds[i]? = some e → xs[i]? = some x → Own1 H m e x (fun b => F b ∧ b ≠ a ∧ χ b = i)) ∨
    (∃ a u xs kvs, ∃ χ : Addr → Nat, v = .ref a ∧ d = .dict kvs ∧ F a ∧ H a = some u ∧ DctIs K H a u (kvs.map (·.1)) xs ∧
      ∀ (i : Nat) e x, kvs[i]? = some e → xs[i]? = some x → Own1 H m e.2 x (fun b => F b ∧ b ≠ a ∧ χ b = i))
/-- the data d at v, its lists to the depth m owned within F; z: a loop walks it -/
def Own (H : Hp) (z : Bool) (m : Nat) (d : D) (v : V) (F : Addr → Prop) : Prop :=
  match m with
  | 0 => Im K H d v
  | m + 1 => (flat d = true ∧ Im K H d v) ∨
    (∃ a xs ds, ∃ χ : Addr → Nat, v = .ref a ∧ d = .list ds ∧ F a ∧ At z H a (.lst xs) ∧ ds.length = xs.length ∧
      ∀ (i : Nat) e x, ds[i]? = some e → xs[i]? = some x → Own1 K H m e x (fun b => F b ∧ b ≠ a ∧ χ b = i)) ∨
    (∃ a u xs kvs, ∃ χ : Addr → Nat, v = .ref a ∧ d = .dict kvs ∧ F a ∧ At z H a u ∧ DctIs K H a u (kvs.map (·.1)) xs ∧
      ∀ (i : Nat) e x, kvs[i]? = some e → xs[i]? = some x → Own1 K H m e.2 x (fun b => F b ∧ b ≠ a ∧ χ b = i)) ∨
    (z = true ∧ m = 98 ∧ ∃ (a : Addr) (ns : List Int), v = .ref a ∧ d = .list (ns.map PyData.int) ∧ FoL K H a (ns.map V.int))
variable {K}
theorem own_false {H : Hp} {m : Nat} {d : D} {v : V} {F : Addr → Prop} : Own K H false m d v F ↔ Own1 K H m d v F := by
  cases m with
  | zero => exact Iff.rfl
  | succ m =>
    constructor
    · intro h
      rcases h with h | h | h | ⟨h, _⟩
      · exact .inl h
      · exact .inr (.inl h)
      · exact .inr (.inr h)
      · cases h
    · intro h
      rcases h with h | h | h
      · exact .inl h
      · exact .inr (.inl h)
      · exact .inr (.inr (.inl h))
theorem At.mv {z : Bool} {H H' : Hp} {a : Addr} {u : HO} (h : At z H a u) (k : H' a = H a) : At z H' a u := by
  unfold At at h ⊢
  rw [k]; exact h
theorem Own1.mv {H H' : Hp} (p : Pst H H') : ∀ {m : Nat} {d : D} {v : V} {F G : Addr → Prop}, Own1 K H m d v F → (∀ b, F b → G b) → (∀ b, F b → H' b = H b) → Own1 K H' m d v G
  | 0, d, v, F, G, h, _, _ => by unfold Own1 at h ⊢; exact Im.pst p d v h
  | m + 1, d, v, F, G, h, g, k => by
    unfold Own1 at h ⊢
    rcases h with ⟨f, q⟩ | ⟨a, xs, ds, χ, e1, e2, fa, ha, l, q⟩ | ⟨a, u, xs, kvs, χ, e1, e2, fa, ha, du, q⟩
    · exact .inl ⟨f, Im.pst p d v q⟩
    · exact .inr (.inl ⟨a, xs, ds, χ, e1, e2, g a fa, by rw [k a fa]; exact ha, l, fun i e x h1 h2 => Own1.mv p (q i e x h1 h2) (fun b hb => ⟨g b hb.1, hb.2⟩) fun b hb => k b hb.1⟩)
    · exact .inr (.inr ⟨a, u, xs, kvs, χ, e1, e2, g a fa, by rw [k a fa]; exact ha, du.pst p, fun i e x h1 h2 => Own1.mv p (q i e x h1 h2) (fun b hb => ⟨g b hb.1, hb.2⟩) fun b hb => k b hb.1⟩)
theorem Own.mv {H H' : Hp} (p : Pst H H') {z : Bool} {m : Nat} {d : D} {v : V} {F G : Addr → Prop} (h : Own K H z m d v F) (g : ∀ b, F b → G b) (k : ∀ b, F b → H' b = H b) : Own K H' z m d v G := by
  cases m with
  | zero => unfold Own at h ⊢; exact Im.pst p d v h
  | succ m =>
    unfold Own at h ⊢
    rcases h with ⟨f, q⟩ | ⟨a, xs, ds, χ, e1, e2, fa, ha, l, q⟩ | ⟨a, u, xs, kvs, χ, e1, e2, fa, ha, du, q⟩ | ⟨hz, hm, a, ns, e1, e2, q⟩
    · exact .inl ⟨f, Im.pst p d v q⟩
    · exact .inr (.inl ⟨a, xs, ds, χ, e1, e2, g a fa, At.mv ha (k a fa), l, fun i e x h1 h2 => Own1.mv p (q i e x h1 h2) (fun b hb => ⟨g b hb.1, hb.2⟩) fun b hb => k b hb.1⟩)
    · exact .inr (.inr (.inl ⟨a, u, xs, kvs, χ, e1, e2, g a fa, At.mv ha (k a fa), du.pst p, fun i e x h1 h2 => Own1.mv p (q i e x h1 h2) (fun b hb => ⟨g b hb.1, hb.2⟩) fun b hb => k b hb.1⟩))
    · exact .inr (.inr (.inr ⟨hz, hm, a, ns, e1, e2, q.pst p⟩))
theorem Own1.of_flat {H : Hp} {m : Nat} {d : D} {v : V} {F : Addr → Prop} (f : flat d = true) (h : Im K H d v) : Own1 K H m d v F := by
  cases m with
  | zero => exact h
  | succ m => unfold Own1; exact .inl ⟨f, h⟩
theorem Own.of_flat {H : Hp} {z : Bool} {m : Nat} {d : D} {v : V} {F : Addr → Prop} (f : flat d = true) (h : Im K H d v) : Own K H z m d v F := by
  cases m with
  | zero => exact h
  | succ m => unfold Own; exact .inl ⟨f, h⟩
theorem Own.im_flat {H : Hp} {z : Bool} {m : Nat} {d : D} {v : V} {F : Addr → Prop} (f : flat d = true) (h : Own K H z m d v F) : Im K H d v := by
  cases m with
  | zero => exact h
  | succ m =>
    unfold Own at h
    rcases h with ⟨_, q⟩ | ⟨a, xs, ds, χ, e1, e2, _⟩ | ⟨a, u, xs, kvs, χ, e1, e2, _⟩ | ⟨_, _, a, ns, e1, e2, _⟩
    · exact q
    · subst e2; cases f
    · subst e2; cases f
    · subst e2; cases f
theorem Own1.im_flat {H : Hp} {m : Nat} {d : D} {v : V} {F : Addr → Prop} (f : flat d = true) (h : Own1 K H m d v F) : Im K H d v := Own.im_flat f (own_false.mpr h)
theorem im_ints {H : Hp} : ∀ ns : List Int, ImA K H (ns.map PyData.int) (ns.map V.int)
  | [] => .nil
  | n :: r => .cons (by simp only [Im]) (im_ints r)
theorem At.rd {z : Bool} {H : Hp} {a : Addr} {u : HO} (h : At z H a u) : Rd H a u := .inl h
theorem own_lst {H : Hp} {z : Bool} {m : Nat} {ds : List D} {v : V} {F : Addr → Prop} (h : Own K H z m (.list ds) v F) :
    ∃ a xs, v = .ref a ∧ SqL K H a xs ∧ (m ≠ 99 → Rd H a (.lst xs)) ∧ ds.length = xs.length ∧ (kidsIm m (.list ds) = true → ImA K H ds xs) := by
  cases m with
  | zero =>
    unfold Own at h
    simp only [Im] at h
    obtain ⟨a, xs, e, q, r⟩ := h
    exact ⟨a, xs, e, q.sq, fun _ => q.rd, r.len, fun _ => r⟩
  | succ m =>
    unfold Own at h
    rcases h with ⟨f, _⟩ | ⟨a, xs, ds', χ, e1, e2, _, ha, l, q⟩ | ⟨a, u, xs, kvs, χ, e1, e2, _⟩ | ⟨_, hm, a, ns, e1, e2, q⟩
    · cases f
    · cases e2
      refine ⟨a, xs, e1, .inl ha.rd, fun _ => ha.rd, l, fun k => ImA.iff.mpr ⟨l, fun i e x h1 h2 => ?_⟩⟩
      have q1 := q i e x h1 h2
      unfold kidsIm kidsFlat at k
      rw [Bool.or_eq_true, decide_eq_true_iff] at k
      rcases k with k | k
      · have : m = 0 := by omega
        subst this
        exact q1
      · exact Own1.im_flat (List.all_eq_true.mp k e (List.mem_of_getElem? h1)) q1
    · cases e2
    · cases e2
      exact ⟨a, _, e1, q.sq, fun n => absurd (by omega) n, by simp, fun _ => im_ints ns⟩
theorem kids_im {H : Hp} {z : Bool} {m : Nat} {ds : List D} {v : V} {F : Addr → Prop} (h : Own K H z m (.list ds) v F) (k : kidsIm m (.list ds) = true) :
    ∃ a xs, v = .ref a ∧ SqL K H a xs ∧ ImA K H ds xs := by
  obtain ⟨a, xs, e, q, _, _, i⟩ := own_lst h
  exact ⟨a, xs, e, q, i k⟩
theorem kids_rd {H : Hp} {z : Bool} {m : Nat} {ds : List D} {v : V} {F : Addr → Prop} (h : Own K H z m (.list ds) v F) (k : kidsIm m (.list ds) = true) (n : m ≠ 99) :
    ∃ a xs, v = .ref a ∧ Rd H a (.lst xs) ∧ ImA K H ds xs := by
  obtain ⟨a, xs, e, _, q, _, i⟩ := own_lst h
  exact ⟨a, xs, e, q n, i k⟩
theorem own_list {H : Hp} {z : Bool} {m : Nat} {ds : List D} {v : V} {F : Addr → Prop} (h : Own K H z m (.list ds) v F) : ∃ a xs, v = .ref a ∧ SqL K H a xs ∧ ds.length = xs.length := by
  obtain ⟨a, xs, e, q, _, l, _⟩ := own_lst h
  exact ⟨a, xs, e, q, l⟩
theorem own_tup {H : Hp} {z : Bool} {m : Nat} {ds : List D} {v : V} {F : Addr → Prop} (h : Own K H z m (.tuple ds) v F) : ∃ a xs, v = .ref a ∧ TuA K H a xs ∧ ImA K H ds xs := by
  have h := Own.im_flat rfl h
  unfold Im at h
  exact h

/-! ### freezing -/
theorem upd_some {H : Hp} {a b : Addr} {o : HO} (h : (H a).isSome = true) : ((upd H a o) b).isSome = (H b).isSome := by
  by_cases e : b = a
  · subst e; rw [upd_same, h]; rfl
  · rw [upd_ne e]
/-- what freezing leaves -/
structure Frzn (F : Addr → Prop) (H H' : Hp) : Prop where
  keep : ∀ b, ¬ F b → H' b = H b
  pst : Pst H H'
  dom : ∀ b, (H' b).isSome = (H b).isSome
theorem Frzn.refl {F : Addr → Prop} (H : Hp) : Frzn F H H := ⟨fun _ _ => rfl, .refl H, fun _ => rfl⟩
theorem Frzn.trans {F G : Addr → Prop} {H H1 H2 : Hp} (a : Frzn F H H1) (b : Frzn G H1 H2) (h : ∀ x, F x → G x) : Frzn G H H2 :=
  ⟨fun x n => (b.keep x n).trans (a.keep x fun z => n (h x z)), a.pst.trans b.pst, fun x => (b.dom x).trans (a.dom x)⟩
theorem Frzn.mono {F G : Addr → Prop} {H H1 : Hp} (a : Frzn F H H1) (h : ∀ x, F x → G x) : Frzn G H H1 := ⟨fun x n => a.keep x fun z => n (h x z), a.pst, a.dom⟩
theorem Frzn.one {F : Addr → Prop} {H : Hp} {a : Addr} {u o : HO} (h : H a = some u) (m : Mut (some u)) (f : F a) : Frzn F H (upd H a o) :=
  ⟨fun b n => upd_ne fun z => n (z ▸ f), .chg h m, fun b => upd_some (by rw [h]; rfl)⟩

/-- the children one after another -/
theorem freeze_kids {F : Addr → Prop} {χ : Addr → Nat} {m : Nat} {ds : List D} {xs : List V} (l : ds.length = xs.length)
    (ih : ∀ {H : Hp} {d : D} {v : V} {G : Addr → Prop}, Own1 K H m d v G → Gz (fun H' => Im K H' d v ∧ Frzn G H H') H) :
    ∀ (n : Nat) (H : Hp), n ≤ ds.length → (∀ (i : Nat) e x, ds[i]? = some e → xs[i]? = some x → (i < ds.length - n → Im K H e x) ∧ (ds.length - n ≤ i → Own1 K H m e x (fun b => F b ∧ χ b = i))) →
      Gz (fun H' => ImA K H' ds xs ∧ Frzn F H H') H
  | 0, H, _, h => .done ⟨ImA.iff.mpr ⟨l, fun i e x h1 h2 => (h i e x h1 h2).1 (by have := (List.getElem?_eq_some_iff.mp h1).1; omega)⟩, .refl H⟩
  | n + 1, H, hn, h => by
    have hi : ds.length - (n + 1) < ds.length := by omega
    have e1 : ds[ds.length - (n + 1)]? = some ds[ds.length - (n + 1)] := List.getElem?_eq_getElem hi
    have e2 : xs[ds.length - (n + 1)]? = some (xs[ds.length - (n + 1)]'(by omega)) := List.getElem?_eq_getElem (by omega)
    refine (ih ((h _ _ _ e1 e2).2 (Nat.le_refl _))).bind fun H1 ⟨q1, f1⟩ => ?_
    refine (freeze_kids (F := F) (χ := χ) l ih n H1 (by omega) fun i e x h1 h2 => ⟨fun hl => ?_, fun hl => ?_⟩).mono fun H2 ⟨q2, f2⟩ => ⟨q2, (f1.mono fun x hx => hx.1).trans f2 fun _ z => z⟩
    · by_cases he : i = ds.length - (n + 1)
      · subst he
        rw [e1] at h1; rw [e2] at h2
        cases h1; cases h2
        exact q1
      · exact Im.pst f1.pst _ _ ((h i e x h1 h2).1 (by omega))
    · exact ((h i e x h1 h2).2 (by omega)).mv f1.pst (fun _ z => z) fun b hb => f1.keep b fun z => by have h3 := hb.2; have h4 := z.2; omega
theorem freeze1 : ∀ {m : Nat} {H : Hp} {d : D} {v : V} {F : Addr → Prop}, Own1 K H m d v F → Gz (fun H' => Im K H' d v ∧ Frzn F H H') H
  | 0, H, d, v, F, h => .done ⟨h, .refl H⟩
  | m + 1, H, d, v, F, h => by
    unfold Own1 at h
    rcases h with ⟨_, q⟩ | ⟨a, xs, ds, χ, e1, e2, fa, ha, l, q⟩ | ⟨a, u, xs, kvs, χ, e1, e2, fa, ha, du, q⟩
    · exact .done ⟨q, .refl H⟩
    · subst e1; subst e2
      refine (freeze_kids (F := fun b => F b ∧ b ≠ a) (χ := χ) (m := m) l freeze1 ds.length H (Nat.le_refl _) fun i e x h1 h2 => ⟨fun hl => by omega, fun _ => (q i e x h1 h2).mv (.refl H) (fun b hb => ⟨⟨hb.1, hb.2.1⟩, hb.2.2⟩) fun _ _ => rfl⟩).bind fun H1 ⟨q1, f1⟩ => ?_
      have ha1 : H1 a = some (.lst xs) := (f1.keep a fun z => z.2 rfl).trans ha
      refine .lock ha1 trivial fun o => .done ⟨?_, (f1.mono fun x hx => hx.1).trans (Frzn.one (F := F) ha1 trivial fa) fun _ z => z⟩
      unfold Im
      exact ⟨a, xs, rfl, ⟨o, upd_same⟩, ImA.pst (.chg ha1 trivial) _ _ q1⟩
    · subst e1; subst e2
      have l : (kvs.map (·.2)).length = xs.length := by rw [List.length_map, ← du.len, List.length_map]
      refine (freeze_kids (F := fun b => F b ∧ b ≠ a) (χ := χ) (m := m) l freeze1 (kvs.map (·.2)).length H (Nat.le_refl _) fun i e x h1 h2 => ⟨fun hl => by omega, fun _ => ?_⟩).bind fun H1 ⟨q1, f1⟩ => ?_
      · rw [List.getElem?_map] at h1
        cases hk : kvs[i]? with
        | none => rw [hk] at h1; cases h1
        | some kv =>
          rw [hk] at h1; cases h1
          exact (q i kv x hk h2).mv (.refl H) (fun b hb => ⟨⟨hb.1, hb.2.1⟩, hb.2.2⟩) fun _ _ => rfl
      · have ha1 : H1 a = some u := (f1.keep a fun z => z.2 rfl).trans ha
        refine .lock ha1 du.mut fun o => .done ⟨?_, (f1.mono fun x hx => hx.1).trans (Frzn.one (F := F) ha1 du.mut fa) fun _ z => z⟩
        unfold Im
        exact ⟨a, o, u, xs, rfl, upd_same, du.pst (f1.pst.trans (.chg ha1 du.mut)), ImK.iff.mpr (ImA.pst (.chg ha1 du.mut) _ _ q1)⟩
end RV

set_option maxRecDepth 100000
/-! Ev2: the state of a def's body in data: slots and held values, each with what it owns. -/
namespace RV
open PySem L2

inductive Hd | sl (i : Nat) | tm (j : Nat)
  deriving DecidableEq
/-- a value that is held while others are evaluated -/
structure Tm where
  m : Nat
  d : D
  v : V
/-- what may change of what was there; the slots that a loop walks -/
structure Bk where
  s : Addr → Prop
  l : Nat → Option (V × Nat × D)
instance : CoeFun Bk (fun _ => Addr → Prop) := ⟨Bk.s⟩
structure W (K : PySem.W.Frag) (S0 : Bk) (H0 : Hp) (ω : Addr → Option Hd) (a : A) (σ : St) (T : List Tm) (H : Hp) : Prop where
  dom : ∀ b h, ω b = some h → (H b).isSome = true ∧ (S0 b ∨ H0 b = none)
  old : ∀ b o, H0 b = some o → ¬ S0 b → H b = some o
  pst : Pst H0 H
  slot : ∀ i s, a[i]? = some (some s) → ∃ v, σ[i]? = some (some v) ∧ Own K H s.lk s.m s.d v (fun b => ω b = some (.sl i))
  tmp : ∀ j t, T[j]? = some t → Own K H false t.m t.d t.v (fun b => ω b = some (.tm j))
  lck : ∀ i s v, a[i]? = some (some s) → s.lk = true → σ[i]? = some (some v) → S0.l i = some (v, s.m, s.d)
  len : a.length = σ.length
variable {K : PySem.W.Frag} {S0 : Bk} {H0 H H' : Hp} {ω : Addr → Option Hd} {a : A} {σ : St} {T : List Tm}

theorem W.free (w : W K S0 H0 ω a σ T H) {p : Addr} (h : H p = none) : ω p = none := by
  cases e : ω p with
  | none => rfl
  | some x => have := (w.dom p x e).1; rw [h] at this; cases this
theorem W.old0 (w : W K S0 H0 ω a σ T H) {p : Addr} (h : H p = none) : H0 p = none ∨ S0 p := by
  cases e : H0 p with
  | none => exact .inl rfl
  | some o =>
    by_cases s : S0 p
    · exact .inr s
    · have := w.old p o e s; rw [h] at this; cases this
/-- the heap grows -/
theorem W.grow (w : W K S0 H0 ω a σ T H) (h : Same H H') : W K S0 H0 ω a σ T H' where
  dom := fun b x e => ⟨by
    have := (w.dom b x e).1
    cases q : H b with
    | none => rw [q] at this; cases this
    | some o => rw [h b o q]; rfl, (w.dom b x e).2⟩
  old := fun b o e n => h b o (w.old b o e n)
  pst := w.pst.trans (.of_same h)
  slot := fun i s e => by
    obtain ⟨v, e1, q⟩ := w.slot i s e
    refine ⟨v, e1, q.mv (.of_same h) (fun _ z => z) fun b z => ?_⟩
    have := (w.dom b _ z).1
    cases q : H b with
    | none => rw [q] at this; cases this
    | some o => exact h b o q
  tmp := fun j t e => (w.tmp j t e).mv (.of_same h) (fun _ z => z) fun b z => by
    have := (w.dom b _ z).1
    cases q : H b with
    | none => rw [q] at this; cases this
    | some o => exact h b o q
  lck := w.lck
  len := w.len
theorem same_new {H : Hp} {p : Addr} {o : HO} (h : H p = none) : Same H (upd H p o) := fun b x e => by rw [upd_ne (ne_of_none e h)]; exact e
/-- a value of its own is held -/
theorem W.push (w : W K S0 H0 ω a σ T H) {m : Nat} {d : D} {v : V} (h : Own K H false m d v (fun _ => False)) : W K S0 H0 ω a σ (T ++ [⟨m, d, v⟩]) H where
  dom := w.dom
  old := w.old
  pst := w.pst
  slot := w.slot
  tmp := fun j t e => by
    by_cases hj : j < T.length
    · exact w.tmp j t (by rw [List.getElem?_append_left hj] at e; exact e)
    · by_cases hj2 : j = T.length
      · subst hj2
        rw [List.getElem?_append_right (Nat.le_refl _), Nat.sub_self] at e
        cases e
        exact h.mv (.refl H) (fun _ z => z.elim) fun _ _ => rfl
      · rw [List.getElem?_eq_none (by rw [List.length_append]; show T.length + 1 ≤ j; omega)] at e
        cases e
  lck := w.lck
  len := w.len
theorem W.pushIm (w : W K S0 H0 ω a σ T H) {m : Nat} {d : D} {v : V} (h : Im K H d v) (f : flat d = true ∨ m = 0) : W K S0 H0 ω a σ (T ++ [⟨m, d, v⟩]) H :=
  w.push (by
    rcases f with f | f
    · exact Own.of_flat f h
    · subst f; exact h)
/-- held values are dropped -/
theorem W.drop (w : W K S0 H0 ω a σ (T ++ T') H) : W K S0 H0 ω a σ T H where
  dom := w.dom
  old := w.old
  pst := w.pst
  slot := w.slot
  tmp := fun j t e => w.tmp j t (by rw [List.getElem?_append_left (List.getElem?_eq_some_iff.mp e).1]; exact e)
  lck := w.lck
  len := w.len
theorem W.last (w : W K S0 H0 ω a σ (T ++ [t]) H) : Own K H false t.m t.d t.v (fun b => ω b = some (.tm T.length)) :=
  w.tmp T.length t (by rw [List.getElem?_append_right (Nat.le_refl _), Nat.sub_self]; rfl)
theorem W.last2 {t u : Tm} (w : W K S0 H0 ω a σ ((T ++ [t]) ++ [u]) H) : Own K H false t.m t.d t.v (fun b => ω b = some (.tm T.length)) := w.drop.last
/-- the last held value goes to a slot -/
theorem W.store {t : Tm} (w : W K S0 H0 ω a σ (T ++ [t]) H) (i : Nat) (hi : i < σ.length) (ha : i < a.length) :
    W K S0 H0 (fun b => if ω b = some (.tm T.length) then some (.sl i) else if ω b = some (.sl i) then none else ω b) (a.set i (some ⟨t.m, false, t.d⟩)) (σ.set i (some t.v)) T H where
  dom := fun b h e => by
    try dsimp only at e
    split at e
    · rename_i q; exact w.dom b _ q
    · split at e
      · cases e
      · exact w.dom b h e
  old := w.old
  pst := w.pst
  slot := fun j s e => by
    by_cases hj : i = j
    · subst hj
      rw [List.getElem?_set_self ha] at e
      cases e
      refine ⟨t.v, List.getElem?_set_self hi, w.last.mv (.refl H) (fun b z => by rw [if_pos z]) fun _ _ => rfl⟩
    · rw [List.getElem?_set_ne hj] at e
      obtain ⟨v, e1, q⟩ := w.slot j s e
      refine ⟨v, by rw [List.getElem?_set_ne hj]; exact e1, q.mv (.refl H) (fun b z => ?_) fun _ _ => rfl⟩
      try dsimp only at z ⊢
      rw [if_neg (by rw [z]; simp), if_neg (by rw [z]; simp; exact fun q => hj q.symm)]
      exact z
  tmp := fun j u e => by
    have hj : j < T.length := (List.getElem?_eq_some_iff.mp e).1
    refine (w.tmp j u (by rw [List.getElem?_append_left hj]; exact e)).mv (.refl H) (fun b z => ?_) fun _ _ => rfl
    try dsimp only at z ⊢
    rw [if_neg (by rw [z]; simp; omega), if_neg (by rw [z]; simp)]
    exact z
  lck := fun j s v e1 e2 e3 => by
    by_cases hj : i = j
    · subst hj
      rw [List.getElem?_set_self ha] at e1
      cases e1
      cases e2
    · rw [List.getElem?_set_ne hj] at e1 e3
      exact w.lck j s v e1 e2 e3
  len := by rw [List.length_set, List.length_set]; exact w.len
/-- a slot is forgotten -/
theorem W.forget (w : W K S0 H0 ω a σ T H) (i : Nat) : W K S0 H0 ω (a.set i none) σ T H where
  dom := w.dom
  old := w.old
  pst := w.pst
  slot := fun j s e => by
    by_cases hj : i = j
    · subst hj
      by_cases hi : i < a.length
      · rw [List.getElem?_set_self hi] at e; cases e
      · rw [List.getElem?_eq_none (by rw [List.length_set]; omega)] at e; cases e
    · rw [List.getElem?_set_ne hj] at e
      exact w.slot j s e
  tmp := w.tmp
  lck := fun j s v e1 e2 e3 => by
    by_cases hj : i = j
    · subst hj
      by_cases hi : i < a.length
      · rw [List.getElem?_set_self hi] at e1; cases e1
      · rw [List.getElem?_eq_none (by rw [List.length_set]; omega)] at e1; cases e1
    · rw [List.getElem?_set_ne hj] at e1
      exact w.lck j s v e1 e2 e3
  len := by rw [List.length_set]; exact w.len
/-- a slot's value goes to the held ones -/
theorem W.move (w : W K S0 H0 ω a σ T H) {i : Nat} {s : Sl} {v : V} (e : a[i]? = some (some s)) (lk : s.lk = false) (hv : σ[i]? = some (some v)) :
    W K S0 H0 (fun b => if ω b = some (.sl i) then some (.tm T.length) else if ω b = some (.tm T.length) then none else ω b) (a.set i none) σ (T ++ [⟨s.m, s.d, v⟩]) H where
  dom := fun b h e => by
    try dsimp only at e
    split at e
    · rename_i q; exact w.dom b _ q
    · split at e
      · cases e
      · exact w.dom b h e
  old := w.old
  pst := w.pst
  slot := fun j s' e' => by
    by_cases hj : i = j
    · subst hj
      rw [List.getElem?_set_self (List.getElem?_eq_some_iff.mp e).1] at e'
      cases e'
    · rw [List.getElem?_set_ne hj] at e'
      obtain ⟨v, e1, q⟩ := w.slot j s' e'
      refine ⟨v, e1, q.mv (.refl H) (fun b z => ?_) fun _ _ => rfl⟩
      try dsimp only at z ⊢
      rw [if_neg (by rw [z]; simp; exact fun q => hj q.symm), if_neg (by rw [z]; simp)]
      exact z
  tmp := fun j u e' => by
    by_cases hj : j < T.length
    · refine (w.tmp j u (by rw [List.getElem?_append_left hj] at e'; exact e')).mv (.refl H) (fun b z => ?_) fun _ _ => rfl
      try dsimp only at z ⊢
      rw [if_neg (by rw [z]; simp), if_neg (by rw [z]; simp; omega)]
      exact z
    · by_cases hj2 : j = T.length
      · subst hj2
        rw [List.getElem?_append_right (Nat.le_refl _), Nat.sub_self] at e'
        cases e'
        obtain ⟨v', e1, q⟩ := w.slot i s e
        rw [hv] at e1; cases e1
        rw [lk] at q
        exact q.mv (.refl H) (fun b z => by rw [if_pos z]) fun _ _ => rfl
      · rw [List.getElem?_eq_none (by rw [List.length_append]; show T.length + 1 ≤ j; omega)] at e'
        cases e'
  lck := (w.forget i).lck
  len := by rw [List.length_set]; exact w.len
/-- what a holder owns is frozen -/
theorem W.frzn {h : Hd} (w : W K S0 H0 ω a σ T H) (f : Frzn (fun b => ω b = some h) H H')
    (hs : ∀ i s, h = .sl i → a[i]? = some (some s) → s.lk = true ∧ False) (ht : ∀ j t, h = .tm j → T[j]? = some t → Im K H' t.d t.v ∧ t.m = 0) : W K S0 H0 ω a σ T H' where
  dom := fun b x e => ⟨by rw [f.dom]; exact (w.dom b x e).1, (w.dom b x e).2⟩
  old := fun b o e n => by
    rw [f.keep b fun z => ?_]
    · exact w.old b o e n
    · rcases (w.dom b _ z).2 with q | q
      · exact n q
      · rw [q] at e; cases e
  pst := w.pst.trans f.pst
  slot := fun i s e => by
    obtain ⟨v, e1, q⟩ := w.slot i s e
    by_cases hh : h = .sl i
    · exact (hs i s hh e).2.elim
    · exact ⟨v, e1, q.mv f.pst (fun _ z => z) fun b z => f.keep b fun y => hh (Option.some.inj (y.symm.trans z))⟩
  tmp := fun j t e => by
    by_cases hh : h = .tm j
    · obtain ⟨q1, q2⟩ := ht j t hh e
      show Own K H' false t.m t.d t.v _
      rw [q2]
      exact q1
    · exact (w.tmp j t e).mv f.pst (fun _ z => z) fun b z => f.keep b fun y => hh (Option.some.inj (y.symm.trans z))
  lck := w.lck
  len := w.len
/-- freeze a slot in place and hold its value -/
theorem W.share (w : W K S0 H0 ω a σ T H) {i : Nat} {s : Sl} {v : V} (e : a[i]? = some (some s)) (lk : s.lk = false) (hv : σ[i]? = some (some v)) :
    Gz (fun H' => W K S0 H0 ω (a.set i (some ⟨0, false, s.d⟩)) σ (T ++ [⟨0, s.d, v⟩]) H') H := by
  obtain ⟨v', e1, q⟩ := w.slot i s e
  rw [hv] at e1; cases e1
  rw [lk] at q
  refine (freeze1 (own_false.mp q)).mono fun H' ⟨im, f⟩ => ?_
  have w1 : W K S0 H0 ω (a.set i none) σ T H' := (w.forget i).frzn (h := .sl i) f (fun j s' hj ej => by
    cases hj
    rw [List.getElem?_set_self (List.getElem?_eq_some_iff.mp e).1] at ej
    cases ej) (fun j t hj _ => by cases hj)
  have w2 : W K S0 H0 ω (a.set i (some ⟨0, false, s.d⟩)) σ T H' := ⟨w1.dom, w1.old, w1.pst, fun j s' ej => by
    by_cases hj : i = j
    · subst hj
      rw [List.getElem?_set_self (List.getElem?_eq_some_iff.mp e).1] at ej
      cases ej
      exact ⟨v, hv, im⟩
    · rw [List.getElem?_set_ne hj] at ej
      exact w1.slot j s' (by rw [List.getElem?_set_ne hj]; exact ej), w1.tmp, fun j s' v' e1 e2 e3 => by
    by_cases hj : i = j
    · subst hj
      rw [List.getElem?_set_self (List.getElem?_eq_some_iff.mp e).1] at e1
      cases e1
      cases e2
    · rw [List.getElem?_set_ne hj] at e1
      exact w.lck j s' v' e1 e2 e3, by rw [List.length_set]; exact w.len⟩
  exact w2.pushIm im (.inr rfl)
/-- the last held value is frozen -/
theorem W.ice {t : Tm} (w : W K S0 H0 ω a σ (T ++ [t]) H) : Gz (fun H' => W K S0 H0 ω a σ (T ++ [⟨0, t.d, t.v⟩]) H') H := by
  refine (freeze1 (own_false.mp w.last)).mono fun H' ⟨im, f⟩ => ?_
  exact (w.drop.frzn (h := .tm T.length) f (fun j s hj _ => by cases hj) (fun j u hj ej => by
    cases hj
    rw [List.getElem?_eq_none (Nat.le_refl _)] at ej
    cases ej)).pushIm im (.inr rfl)
/-- a new list of the last held values -/
theorem W.newList {ts : List Tm} {p : Addr} {m : Nat} {ds : List D} (w : W K S0 H0 ω a σ (T ++ ts) H) (hp : H p = none) (hm : ∀ t ∈ ts, t.m = m) :
    W K S0 H0 (fun b => if b = p then some (.tm T.length) else match ω b with
      | some (.tm j) => if T.length ≤ j then some (.tm T.length) else some (.tm j)
      | x => x) a σ (T ++ [⟨m + 1, .list (ts.map (·.d)), .ref p⟩]) (upd H p (.lst (ts.map (·.v)))) := by
  have sm : Same H (upd H p (.lst (ts.map (·.v)))) := same_new hp
  have w1 := w.grow sm
  have wp := w.free hp
  refine ⟨fun b h e => ?_, fun b o e n => ?_, w1.pst, fun i s e => ?_, fun j t e => ?_, w1.lck, w1.len⟩
  · try dsimp only at e
    split at e
    · rename_i hb
      subst hb
      refine ⟨by rw [upd_same]; rfl, ?_⟩
      rcases w.old0 hp with q | q
      · exact .inr q
      · exact .inl q
    · cases q : ω b with
      | none => rw [q] at e; cases e
      | some x => exact w1.dom b x q
  · exact w1.old b o e n
  · obtain ⟨v, e1, q⟩ := w1.slot i s e
    refine ⟨v, e1, q.mv (.refl _) (fun b z => ?_) fun _ _ => rfl⟩
    try dsimp only at z ⊢
    rw [if_neg (fun hb => by subst hb; rw [wp] at z; cases z), z]
  · by_cases hj : j < T.length
    · rw [List.getElem?_append_left hj] at e
      refine (w1.tmp j t (by rw [List.getElem?_append_left hj]; exact e)).mv (.refl _) (fun b z => ?_) fun _ _ => rfl
      try dsimp only at z ⊢
      rw [if_neg (fun hb => by subst hb; rw [wp] at z; cases z), z]
      try dsimp only
      rw [if_neg (by omega)]
    · by_cases hj2 : j = T.length
      · subst hj2
        rw [List.getElem?_append_right (Nat.le_refl _), Nat.sub_self] at e
        cases e
        unfold Own
        refine .inr (.inl ⟨p, ts.map (·.v), ts.map (·.d), fun b => match ω b with
          | some (.tm j) => j - T.length
          | _ => 0, rfl, rfl, if_pos rfl, upd_same, by simp, fun i d x h1 h2 => ?_⟩)
        rw [List.getElem?_map] at h1 h2
        cases ht : ts[i]? with
        | none => rw [ht] at h1; cases h1
        | some u =>
          rw [ht] at h1 h2
          cases h1; cases h2
          have hu := hm u (List.mem_of_getElem? ht)
          have q := w1.tmp (T.length + i) u (by rw [List.getElem?_append_right (by omega), Nat.add_sub_cancel_left]; exact ht)
          rw [hu] at q
          refine (own_false.mp q).mv (.refl _) (fun b z => ?_) fun _ _ => rfl
          have nb : b ≠ p := fun hb => by subst hb; rw [wp] at z; cases z
          try dsimp only at z ⊢
          rw [if_neg nb, z]
          try dsimp only
          rw [if_pos (by omega)]
          exact ⟨rfl, nb, by omega⟩
      · rw [List.getElem?_eq_none (by rw [List.length_append]; show T.length + 1 ≤ j; omega)] at e
        cases e
end RV

set_option maxRecDepth 100000
/-! Ev3: readings of evaluated expressions. -/
namespace RV
open PySem L2
variable {K : PySem.W.Frag} {S0 : Bk} {H0 H H' : Hp} {ω : Addr → Option Hd} {a : A} {σ : St} {T : List Tm}

/-- a new value -/
inductive Made (K : PySem.W.Frag) (H : Hp) : D → V → Hp → Prop
  | flat {d : D} {v : V} {H' : Hp} : flat d = true → Im K H' d v → Same H H' → Made K H d v H'
  | list {p : Addr} {ds : List D} {xs : List V} : H p = none → ImA K H ds xs → Made K H (.list ds) (.ref p) (upd H p (.lst xs))
  | dict {p : Addr} {u : HO} {kvs : List (D × D)} {xs : List V} : H p = none → DctIs K (upd H p u) p u (kvs.map (·.1)) xs → ImA K H (kvs.map (·.2)) xs → Made K H (.dict kvs) (.ref p) (upd H p u)
theorem Made.same {d : D} {v : V} (h : Made K H d v H') : Same H H' := by
  cases h with
  | flat _ _ s => exact s
  | list n _ => exact same_new n
  | dict n _ _ => exact same_new n
theorem Made.im {d : D} {v : V} (f : RV.flat d = true) (h : Im K H d v) : Made K H d v H := .flat f h (.refl H)

theorem kids_own {H : Hp} {m : Nat} {ds : List D} {xs : List V} {G : Nat → Addr → Prop} (h : ImA K H ds xs) (k : m = 0 ∨ ds.all flat = true) :
    ∀ (i : Nat) e x, ds[i]? = some e → xs[i]? = some x → Own1 K H m e x (G i) := fun i e x h1 h2 => by
  have q := (ImA.iff.mp h).2 i e x h1 h2
  rcases k with k | k
  · subst k; exact q
  · exact Own1.of_flat (List.all_eq_true.mp k e (List.mem_of_getElem? h1)) q

/-- a new object is held -/
theorem W.new (w : W K S0 H0 ω a σ T H) {p : Addr} {o : HO} (hp : H p = none) {m : Nat} {d : D} {v : V} (h : Own K (upd H p o) false m d v (fun b => b = p)) :
    W K S0 H0 (fun b => if b = p then some (.tm T.length) else ω b) a σ (T ++ [⟨m, d, v⟩]) (upd H p o) := by
  have sm : Same H (upd H p o) := same_new hp
  have w1 := w.grow sm
  have wp := w.free hp
  refine ⟨fun b h e => ?_, w1.old, w1.pst, fun i s e => ?_, fun j t e => ?_, w1.lck, w1.len⟩
  · try dsimp only at e
    split at e
    · rename_i hb
      subst hb
      refine ⟨by rw [upd_same]; rfl, ?_⟩
      rcases w.old0 hp with q | q
      · exact .inr q
      · exact .inl q
    · exact w1.dom b h e
  · obtain ⟨v, e1, q⟩ := w1.slot i s e
    refine ⟨v, e1, q.mv (.refl _) (fun b z => ?_) fun _ _ => rfl⟩
    try dsimp only at z ⊢
    rw [if_neg (fun hb => by subst hb; rw [wp] at z; cases z), z]
  · by_cases hj : j < T.length
    · rw [List.getElem?_append_left hj] at e
      refine (w1.tmp j t e).mv (.refl _) (fun b z => ?_) fun _ _ => rfl
      try dsimp only at z ⊢
      rw [if_neg (fun hb => by subst hb; rw [wp] at z; cases z), z]
    · by_cases hj2 : j = T.length
      · subst hj2
        rw [List.getElem?_append_right (Nat.le_refl _), Nat.sub_self] at e
        cases e
        exact h.mv (.refl _) (fun b z => by try dsimp only at z ⊢
                                            rw [if_pos z]) fun _ _ => rfl
      · rw [List.getElem?_eq_none (by rw [List.length_append]; show T.length + 1 ≤ j; omega)] at e
        cases e
theorem okRes_cases {f : Bool} {m : Nat} {d : D} (h : okRes f m d = true) : flat d = true ∨ m = 0 ∨ (f = true ∧ (m = 1 ∨ kidsFlat d = true)) := by
  unfold okRes at h
  simp only [Bool.or_eq_true, Bool.and_eq_true, decide_eq_true_eq] at h
  rcases h with (h | h) | ⟨h, h2⟩
  · exact .inl h
  · exact .inr (.inl h)
  · exact .inr (.inr ⟨h, h2⟩)
theorem W.made (w : W K S0 H0 ω a σ T H) {m : Nat} {d : D} {v : V} (h : Made K H d v H') (k : okRes true m d = true) :
    Gz (fun H2 => ∃ ω', W K S0 H0 ω' a σ (T ++ [⟨m, d, v⟩]) H2 ∧ Same H H2) H' := by
  cases h with
  | flat f im s => exact .done ⟨ω, (w.grow s).pushIm im (.inl f), s⟩
  | @list p ds xs n ims =>
    have im2 := ImA.pst (Pst.of_same (same_new (o := .lst xs) n)) _ _ ims
    have ice : Gz (fun H2 => ∃ ω', W K S0 H0 ω' a σ (T ++ [⟨0, .list ds, .ref p⟩]) H2 ∧ Same H H2) (upd H p (.lst xs)) := by
      refine .lock upd_same trivial fun o => ?_
      rw [upd_upd]
      have s : Same H (upd H p (.frz o (.lst xs))) := same_new n
      refine .done ⟨ω, (w.grow s).pushIm ?_ (.inr rfl), s⟩
      simp only [Im]
      exact ⟨p, xs, rfl, ⟨o, upd_same⟩, ImA.pst (.of_same s) _ _ ims⟩
    cases m with
    | zero => exact ice
    | succ m =>
      refine .done ⟨_, w.new (o := .lst xs) n (m := m + 1) (d := .list ds) (v := .ref p) ?_, same_new n⟩
      unfold Own
      refine .inr (.inl ⟨p, xs, ds, fun _ => 0, rfl, rfl, rfl, upd_same, ims.len, kids_own im2 ?_⟩)
      rcases okRes_cases k with f | m0 | ⟨_, k | k⟩
      · cases f
      · cases m0
      · exact .inl (by omega)
      · exact .inr k
  | @dict p u kvs xs n du ims =>
    have im2 := ImA.pst (Pst.of_same (same_new (o := u) n)) _ _ ims
    cases m with
    | zero =>
      refine .lock upd_same du.mut fun o => ?_
      rw [upd_upd]
      have s : Same H (upd H p (.frz o u)) := same_new n
      refine .done ⟨ω, (w.grow s).pushIm ?_ (.inr rfl), s⟩
      simp only [Im]
      exact ⟨p, o, u, xs, rfl, upd_same, du.pst (by have z := Pst.chg (o := HO.frz o u) (upd_same (H := H) (a := p)) du.mut; rw [upd_upd] at z; exact z), ImK.iff.mpr (ImA.pst (.of_same s) _ _ ims)⟩
    | succ m =>
      refine .done ⟨_, w.new (o := u) n (m := m + 1) (d := .dict kvs) (v := .ref p) ?_, same_new n⟩
      unfold Own
      refine .inr (.inr (.inl ⟨p, u, xs, kvs, fun _ => 0, rfl, rfl, rfl, upd_same, du, fun i e x h1 h2 => ?_⟩))
      refine kids_own (ds := kvs.map (·.2)) (G := fun i b => b = p ∧ b ≠ p ∧ (fun _ => 0) b = i) im2 ?_ i e.2 x (by rw [List.getElem?_map, h1]; rfl) h2
      rcases okRes_cases k with f | m0 | ⟨_, k | k⟩
      · cases f
      · cases m0
      · exact .inl (by omega)
      · refine .inr ?_
        rw [List.all_map]
        exact k

/-! ### operands -/
def push : Opd → V → List Tm
  | .val m d, v => [⟨m, d, v⟩]
  | _, _ => []
/-- the kid at a key -/
def kidO (o : HO) (k : D) : Option V := match o, k with
  | .lst xs, .int i => atI xs i
  | .dK kvs, .int i => valV kvs (.inl i)
  | .dK kvs, .str x => valV kvs (.inr x)
  | _, _ => none
def kidV (H : Hp) (v : V) (k : D) : Option V := match v with
  | .ref p => match H p with
    | some (.frz _ o) => kidO o k
    | some o => kidO o k
    | none => none
  | _ => none
theorem kidV_same {H H' : Hp} {v w : V} {k : D} (s : Same H H') (h : kidV H v k = some w) : kidV H' v k = some w := by
  unfold kidV at h ⊢
  cases v with
  | ref p =>
    dsimp only at h ⊢
    cases e : H p with
    | none => rw [e] at h; cases h
    | some o => rw [e] at h; rw [s p o e]; exact h
  | _ => cases h
theorem kidV_lst {H : Hp} {p : Addr} {xs : List V} {i : Int} (r : Rd H p (.lst xs)) : kidV H (.ref p) (.int i) = atI xs i := by
  rcases r with r | ⟨o, r⟩ <;> simp [kidV, r, kidO]
theorem kidV_dK {H : Hp} {p : Addr} {kvs : List (Key × V)} {k : Key} (r : Rd H p (.dK kvs)) : kidV H (.ref p) (keyD k) = valV kvs k := by
  rcases r with r | ⟨o, r⟩ <;> cases k <;> simp [kidV, r, kidO, keyD]
/-- what v is for an operand that is not held -/
def OpV (K : PySem.W.Frag) (σ : St) (a : A) (H : Hp) : Opd → V → Prop
  | .val _ _, _ => True
  | .ref i, v => σ[i]? = some (some v)
  | .sub i k, v => ∃ s x F, a[i]? = some (some s) ∧ idxD s.d k = some x ∧ Own1 K H (s.m - 1) x v F ∧ (∀ b, F b → (H b).isSome = true) ∧ ∃ vi, σ[i]? = some (some vi) ∧ kidV H vi k = some v
/-- the reading of an evaluation -/
def tR (K : PySem.W.Frag) (r : A → Option (Opd × A)) (q : Bool) : TE := fun σ H Q => ∃ S0 H0 ω a T o a', W K S0 H0 ω a σ T H ∧ r a = some (o, a') ∧
  ∀ v H' ω', W K S0 H0 ω' a' σ (T ++ push o v) H' → OpV K σ a' H' o v → (q = true → Same H H' ∧ a' = a) → Q v H'
theorem res_ref {a : A} {i m : Nat} {d : D} (r : res a (.ref i) = some (m, d)) : ∃ s, a[i]? = some (some s) ∧ m = s.m ∧ d = s.d := by
  simp only [res] at r
  split at r
  · rename_i s e
    cases r
    exact ⟨s, e, rfl, rfl⟩
  · cases r
/-- the operand's data, still -/
theorem opd_own {o : Opd} {v : V} {T2 : List Tm} {m : Nat} {d : D} (w : W K S0 H0 ω a σ (T ++ push o v ++ T2) H) (h : OpV K σ a H o v) (r : res a o = some (m, d)) : ∃ z F, Own K H z m d v F := by
  cases o with
  | val m' d' =>
    simp only [res] at r
    cases r
    exact ⟨false, _, w.drop.last⟩
  | ref i =>
    obtain ⟨s, e, rfl, rfl⟩ := res_ref r
    obtain ⟨v', e1, q⟩ := w.slot i s e
    have h : σ[i]? = some (some v) := h
    rw [h] at e1
    cases e1
    exact ⟨_, _, q⟩
  | sub i k =>
    simp only [res] at r
    obtain ⟨s, x, F, e, e2, q, _⟩ := h
    rw [e] at r
    simp only [e2, Option.map_some, Option.some.injEq, Prod.mk.injEq] at r
    obtain ⟨rfl, rfl⟩ := r
    exact ⟨false, F, own_false.mpr q⟩
/-- an operand ahead of a quiet one, or of any where it is not deep -/
theorem opv_keep {o : Opd} {v : V} {a' : A} (h : OpV K σ a H o v) (k : o.deep = false ∨ (Same H H' ∧ a' = a)) : OpV K σ a' H' o v := by
  cases o with
  | val => trivial
  | ref i => exact h
  | sub i x =>
    rcases k with k | ⟨s, e⟩
    · cases k
    · subst e
      obtain ⟨s', y, F, e, e2, q, f, vi, hvi, kv⟩ := h
      have kp : ∀ b, F b → H' b = H b := fun b z => by
        have := f b z
        cases e : H b with
        | none => rw [e] at this; cases this
        | some o => exact s b o e
      exact ⟨s', y, F, e, e2, q.mv (.of_same s) (fun _ z => z) kp, fun b z => by rw [kp b z]; exact f b z, vi, hvi, kidV_same s kv⟩

/-! ### reading data for the library -/
theorem own_any {H : Hp} {z : Bool} {m : Nat} {d : D} {v : V} {F : Addr → Prop} (h : Own K H z m d v F) : (∃ i, v = .int i ∧ d = .int i) ∨ (∃ b, v = .bl b ∧ d = .bool b) ∨ (∃ x, v = .str x ∧ d = .str x) ∨ (v = .non ∧ d = .none) ∨
    (∃ a xs ds, v = .ref a ∧ d = .tuple ds ∧ SqT K H a xs ∧ ImA K H ds xs) ∨ (∃ a xs ds, v = .ref a ∧ d = .list ds ∧ SqL K H a xs ∧ ds.length = xs.length) ∨ (∃ a kvs, v = .ref a ∧ d = .dict kvs) := by
  cases d with
  | none => have := h.im_flat rfl; simp only [Im] at this; exact .inr (.inr (.inr (.inl ⟨this, rfl⟩)))
  | bool b => have := h.im_flat rfl; simp only [Im] at this; exact .inr (.inl ⟨b, this, rfl⟩)
  | int i => have := h.im_flat rfl; simp only [Im] at this; exact .inl ⟨i, this, rfl⟩
  | str x => have := h.im_flat rfl; simp only [Im] at this; exact .inr (.inr (.inl ⟨x, this, rfl⟩))
  | tuple ds =>
    obtain ⟨a, xs, e, q, r⟩ := own_tup h
    exact .inr (.inr (.inr (.inr (.inl ⟨a, xs, ds, e, rfl, q.1, r⟩))))
  | list ds =>
    obtain ⟨a, xs, e, q, r⟩ := own_list h
    exact .inr (.inr (.inr (.inr (.inr (.inl ⟨a, xs, ds, e, rfl, q, r⟩)))))
  | dict kvs =>
    refine .inr (.inr (.inr (.inr (.inr (.inr ?_)))))
    cases m with
    | zero =>
      unfold Own at h
      simp only [Im] at h
      obtain ⟨a, o, u, xs, e, _⟩ := h
      exact ⟨a, kvs, e, rfl⟩
    | succ m =>
      unfold Own at h
      rcases h with ⟨f, _⟩ | ⟨a, xs, ds, χ, e1, e2, _⟩ | ⟨a, u, xs, kvs', χ, e1, e2, _⟩ | ⟨_, _, a, ns, e1, e2, _⟩
      · cases f
      · cases e2
      · cases e2; exact ⟨a, kvs, e1, rfl⟩
      · cases e2
theorem own_int {H : Hp} {z : Bool} {m : Nat} {i : Int} {v : V} {F : Addr → Prop} (h : Own K H z m (.int i) v F) : v = .int i := by
  have := h.im_flat rfl; simpa only [Im] using this
theorem own_bool {H : Hp} {z : Bool} {m : Nat} {i : Bool} {v : V} {F : Addr → Prop} (h : Own K H z m (.bool i) v F) : v = .bl i := by
  have := h.im_flat rfl; simpa only [Im] using this
theorem own_str {H : Hp} {z : Bool} {m : Nat} {i : Str} {v : V} {F : Addr → Prop} (h : Own K H z m (.str i) v F) : v = .str i := by
  have := h.im_flat rfl; simpa only [Im] using this
theorem own_none {H : Hp} {z : Bool} {m : Nat} {v : V} {F : Addr → Prop} (h : Own K H z m .none v F) : v = .non := by
  have := h.im_flat rfl; simpa only [Im] using this

/-! ### the evaluation of parts -/
def Val2 (K : PySem.W.Frag) (r : R2) (f : Nat × D → Nat × D → Option D) : Prop :=
  ∀ (H : Hp) (x y : V) (z1 z2 : Bool) (m1 m2 : Nat) (d1 d2 : D) (F1 F2 : Addr → Prop) (d : D) (Q : VK), Own K H z1 m1 d1 x F1 → Own K H z2 m2 d2 y F2 → f (m1, d1) (m2, d2) = some d →
    (∀ v H', Made K H d v H' → Q v H') → r x y H Q
def Val1 (K : PySem.W.Frag) (r : V → Hp → VK → Prop) (f : Nat × D → Option D) : Prop :=
  ∀ (H : Hp) (x : V) (z1 : Bool) (m1 : Nat) (d1 : D) (F1 : Addr → Prop) (d : D) (Q : VK), Own K H z1 m1 d1 x F1 → f (m1, d1) = some d → (∀ v H', Made K H d v H' → Q v H') → r x H Q
section
variable {X : Cx} {e a b : Expr} {r ra rb : REv} {q qa qb : Bool} {pos : Pos}
/-- a constant -/
theorem made_const {m : Nat} {d : D} {v : V} (f : flat d = true) (im : ∀ H, Im X.K H d v) (h : PE X e (tC v)) (hr : ∀ a, r a = some (.val m d, a)) : PE X e (tR X.K r q) := by
  refine pe_imp h fun σ H Q ⟨S0, H0, ω, a, T, o, a', w, e, k⟩ => ?_
  rw [hr] at e
  cases e
  exact k v H ω (w.pushIm (im H) (.inl f)) trivial fun _ => ⟨.refl H, rfl⟩
/-- two operands, an operation upon their values -/
theorem two_run {t : R2} {f : Nat × D → Nat × D → Option D} {σ : St} {H : Hp} {Q : VK} {S0 : Bk} {H0 : Hp} {ω : Addr → Option Hd} {a : A} {T : List Tm} {p p2 : Opd × A} {u v : Nat × D} {d : D} (hv : Val2 X.K t f)
    (w : W X.K S0 H0 ω a σ T H) (ep : ra a = some p) (eq2 : rb p.2 = some p2) (hd : p.1.deep = false ∨ qb = true) (eu : res p2.2 p.1 = some u) (ev : res p2.2 p2.1 = some v) (ed : f u v = some d)
    (k : ∀ H2 ω2 v' H', W X.K S0 H0 ω2 p2.2 σ T H2 → Made X.K H2 d v' H' → (qa = true → qb = true → Same H H2 ∧ p2.2 = a) → Q v' H') : tOp t (tR X.K ra qa) (tR X.K rb qb) σ H Q := by
  refine ⟨S0, H0, ω, a, T, p.1, p.2, w, ep, fun x H1 ω1 w1 o1 q1 => ⟨S0, H0, ω1, p.2, _, p2.1, p2.2, w1, eq2, fun y H2 ω2 w2 o2 q2 => ?_⟩⟩
  have o1' : OpV X.K σ p2.2 H2 p.1 x := opv_keep o1 (hd.imp id fun h => q2 h)
  obtain ⟨z1, F1, w1'⟩ := opd_own (T2 := push p2.1 y) w2 o1' eu
  obtain ⟨z2, F2, w2'⟩ := opd_own (T2 := []) (by rw [List.append_nil]; exact w2) o2 ev
  refine hv H2 x y z1 z2 _ _ _ _ F1 F2 d _ w1' w2' ed fun v' H' mk => ?_
  rw [List.append_assoc] at w2
  refine k H2 ω2 v' H' w2.drop mk fun h1 h2 => ?_
  obtain ⟨s1, e1⟩ := q1 h1
  obtain ⟨s2, e2⟩ := q2 h2
  exact ⟨s1.trans s2, e2.trans e1⟩
theorem deep_or {p : Opd} {qb : Bool} (h : ¬ (p.deep && !qb) = true) : p.deep = false ∨ qb = true := by
  cases hp : p.deep with
  | false => exact .inl rfl
  | true =>
    cases hb : qb with
    | false => rw [hp, hb] at h; exact absurd rfl h
    | true => exact .inr rfl
theorem two_tR {t : R2} {f : Nat × D → Nat × D → Option D} {m : Nat} {σ : St} {H : Hp} {Q : VK} (hv : Val2 X.K t f) (hq : q = true → qa = true ∧ qb = true)
    (h : tR X.K (binEv ra rb qb f m) q σ H Q) : tOp t (tR X.K ra qa) (tR X.K rb qb) σ H (fun v H' => Gz (Q v) H') := by
  obtain ⟨S0, H0, ω, a, T, o, a', w, e, k⟩ := h
  unfold binEv at e
  simp only [Option.bind_eq_some_iff] at e
  obtain ⟨p, ep, p2, eq2, e⟩ := e
  split at e
  · cases e
  rename_i hd
  simp only [Option.bind_eq_some_iff] at e
  obtain ⟨u, eu, v, ev, d, ed, e⟩ := e
  split at e
  · rename_i hk
    cases e
    refine two_run hv w ep eq2 (deep_or hd) eu ev ed fun H2 ω2 v' H' w3 mk hs => ?_
    refine (w3.made mk hk).mono fun H3 ⟨ω3, w4, s⟩ => k v' H3 ω3 w4 trivial fun hq' => ?_
    obtain ⟨h1, h2⟩ := hq hq'
    obtain ⟨s1, e1⟩ := hs h1 h2
    exact ⟨s1.trans s, e1⟩
  · cases e
theorem pe_bin2 {op : Operator} {t : R2} {f : Nat × D → Nat × D → Option D} {m : Nat} (ho : OpR X (binaryOp op) t) (hv : Val2 X.K t f) (hq : q = true → qa = true ∧ qb = true) (ha : PE X a (tR X.K ra qa)) (hb : PE X b (tR X.K rb qb)) :
    PE X (.BinOp a op b pos) (tR X.K (binEv ra rb qb f m) q) := pe_imp (pe_gz (pe_op ho ha hb)) fun _ _ _ h => two_tR hv hq h
theorem pe_cmp2 {op : CmpOp} {t : R2} {f : Nat × D → Nat × D → Option D} {m : Nat} (ho : OpR X (compareOp op) t) (hv : Val2 X.K t f) (hq : q = true → qa = true ∧ qb = true) (hm : behindInMarks op b = false) (ha : PE X a (tR X.K ra qa)) (hb : PE X b (tR X.K rb qb)) :
    PE X (.Compare a [op] [b] pos) (tR X.K (binEv ra rb qb f m) q) := pe_imp (pe_gz (pe_cmpR ho ha hb hm)) fun _ _ _ h => two_tR hv hq h
theorem one_tR {t : V → Hp → VK → Prop} {f : Nat × D → Option D} {m : Nat} {σ : St} {H : Hp} {Q : VK} (hv : Val1 X.K t f) (hq : q = true → qa = true)
    (h : tR X.K (oneEv ra f m) q σ H Q) : tR X.K ra qa σ H (fun x H1 => t x H1 (fun v H' => Gz (Q v) H')) := by
  obtain ⟨S0, H0, ω, a, T, o, a', w, e, k⟩ := h
  unfold oneEv at e
  simp only [Option.bind_eq_some_iff] at e
  obtain ⟨p, ep, u, eu, d, ed, e⟩ := e
  split at e
  · rename_i hk
    cases e
    refine ⟨S0, H0, ω, a, T, p.1, p.2, w, ep, fun x H1 ω1 w1 o1 q1 => ?_⟩
    obtain ⟨z1, F1, w1'⟩ := opd_own (T2 := []) (by rw [List.append_nil]; exact w1) o1 eu
    refine hv H1 x z1 _ _ F1 d _ w1' ed fun v' H' mk => ?_
    refine (w1.drop.made mk hk).mono fun H3 ⟨ω3, w4, s⟩ => k v' H3 ω3 w4 trivial fun hq' => ?_
    obtain ⟨s1, e1⟩ := q1 (hq hq')
    exact ⟨s1.trans s, e1⟩
  · cases e
end
end RV

set_option maxRecDepth 100000
/-! Ev4: the operators by data. -/
namespace RV
open PySem L2 PySem.Spec PyProof.Rows

section
variable {X : Cx} {pins : List (Addr × Obj)} {σ : L2.St} {H : Hp} {s : Shared}
/-- a list that is tracked or locked, in the heap -/
theorem rd_lst (I : Inv X pins σ H s) {l : Addr} {xs : List V} (h : Rd H l (.lst xs)) :
    ∃ (us : List Value) (n : Nat), Vals xs us ∧ xs.length = us.length ∧ xs.length ≤ sizeLine ∧ s.heap.get? l = some { cls := .type "list", data := .seq us.toArray n } := by
  have ok : ObjOk X.prog X.w H s.heap l (.lst xs) := Rd.ok h I.hok
  obtain ⟨z, us, n, r, e⟩ := ok
  exact ⟨us, n, r, r.length, z, e⟩
/-- list + list -/
def rCatR : R2 := fun x y H Q => ∃ l b xs zs, x = V.ref l ∧ y = V.ref b ∧ Rd H l (.lst xs) ∧ Rd H b (.lst zs) ∧ xs.length + zs.length ≤ sizeLine ∧ ∀ p, H p = none → Q (.ref p) (upd H p (.lst (xs ++ zs)))
theorem op_catR : OpR X (binaryOp .Add) rCatR := by
  intro pins s σ H x y v u Q I rx ry ⟨l, b, xs, zs, e1, e2, h1, h2, hz, q⟩
  subst e1 e2
  cases rx; cases ry
  obtain ⟨us, n, r, hl, _, e⟩ := rd_lst I h1
  obtain ⟨ws, k, r2, hl2, _, e2⟩ := rd_lst I h2
  refine PySem.P.add_list e e2 ?_ (by simp only [List.size_toArray]; omega)
  rw [show us.toArray ++ ws.toArray = (us ++ ws).toArray from by simp]
  have hn := I.fresh
  exact ⟨.ref _, _, I.lnew (t' := s.toks) (Vals.append r r2) (by simp only [List.length_append]; omega), rfl, q _ hn⟩
/-- list * int -/
def rRepR : R2 := fun x y H Q => ∃ l k xs, x = V.ref l ∧ y = V.int k ∧ Rd H l (.lst xs) ∧ -(2 ^ 62) ≤ k ∧ k < 2 ^ 62 ∧ xs.length * k.toNat ≤ sizeLine ∧
  ∀ p, H p = none → Q (.ref p) (upd H p (.lst (List.replicate k.toNat xs).flatten))
theorem op_repR : OpR X (binaryOp .Mult) rRepR := by
  intro pins s σ H x y v u Q I rx ry ⟨l, k, xs, e1, e2, h1, b1, b2, hz, q⟩
  subst e1 e2
  cases rx
  obtain ⟨t, rfl⟩ := ry
  rcases h1 with h1 | ⟨o, h1⟩
  · exact op_rep pins s σ H (.ref l) (.int k) _ _ Q I rfl ⟨t, rfl⟩ ⟨l, k, xs, rfl, rfl, h1, by omega, by omega, hz, q⟩
  · obtain ⟨us, n, r, hl, _, e⟩ := rd_lst I (.inr ⟨o, h1⟩)
    have hle : us.toArray.size * k.toNat ≤ sizeLine := by rw [List.size_toArray, ← hl]; exact hz
    have cap : ¬ us.toArray.size * k.toNat > (2 ^ 63 - 1) / 8 := by
      have : (sizeLine : Nat) ≤ (2 ^ 63 - 1) / 8 := by decide
      omega
    have fit : ¬ (!Builtin.List.listFitsIndex k) = true := by
      rw [fitsIndex_both (by omega) (by omega)]; decide
    have long : ¬ Builtin.List.listTooLong (us.toArray.size * k.toNat) = true := by
      rw [notLongL hle]; decide
    have new : List.foldl (fun x1 x2 => x1 ++ x2) #[] (List.replicate (if us.toArray.isEmpty = true then 0 else k.toNat) us.toArray) = (List.replicate k.toNat us).flatten.toArray := by
      have f0 : ∀ m : Nat, List.foldl (fun x1 x2 => x1 ++ x2) #[] (List.replicate m us.toArray) = (List.replicate m us).flatten.toArray := fun m => by
        simpa using foldl_rep us m []
      rw [f0]
      cases us with
      | nil => simp
      | cons a r' => simp
    refine wpAny_binaryOp_repeat_ref (T := "list") (U := "int") (by decide) ⟨_, e, rfl⟩ (fun s' => typeIs_int s' k t) noFill_list_mul F.fills_int_mul F.slot_int_rmul repeat_list F.slot_int_index.lookup ?_
    refine call_meets F.slot_int_rmul (typeIs_int s k t) F.entry_int_rmul (F.args_int_rmul_2 _ _) (int___rmul___int_list k t l us.toArray n) ⟨e, rfl, ⟨_, e, rfl⟩, ?_⟩
    refine call_meets F.slot_list_mul ⟨_, e, rfl⟩ F.entry_list_mul (F.args_list_mul_2 _ _) (AutoListH.list___mul___list_int_3 l us.toArray n k t fit cap long) ⟨e, ?_⟩
    rw [new]
    have hn := I.fresh
    exact ⟨.ref _, _, I.lnew (t' := s.toks) (Vals.rep r k.toNat) (by rw [PyProof.Rows.lm_len_rep_flat, Nat.mul_comm]; exact hz), rfl, q _ hn⟩
end

/-! ### values -/
theorem ImA.rep {K : PySem.W.Frag} {H : Hp} {ds : List D} {xs : List V} (h : ImA K H ds xs) : ∀ n : Nat, ImA K H (List.replicate n ds).flatten (List.replicate n xs).flatten
  | 0 => .nil
  | n + 1 => by
    rw [List.replicate_succ, List.flatten_cons, List.replicate_succ, List.flatten_cons]
    exact h.append (ImA.rep h n)
theorem im_int {K : PySem.W.Frag} {H : Hp} (i : Int) : Im K H (.int i) (.int i) := by simp only [Im]
theorem im_bool {K : PySem.W.Frag} {H : Hp} (i : Bool) : Im K H (.bool i) (.bl i) := by simp only [Im]
theorem im_str {K : PySem.W.Frag} {H : Hp} (i : Str) : Im K H (.str i) (.str i) := by simp only [Im]
theorem im_none {K : PySem.W.Frag} {H : Hp} : Im K H .none .non := by simp only [Im]
theorem im_tup {K : PySem.W.Frag} {H : Hp} {a : Addr} {ds : List D} {xs : List V} (h : TuA K H a xs) (t : ImA K H ds xs) : Im K H (.tuple ds) (.ref a) := by
  simp only [Im]; exact ⟨a, xs, rfl, h, t⟩
theorem Made.int {K : PySem.W.Frag} {H : Hp} (i : Int) : Made K H (.int i) (.int i) H := .im rfl (im_int i)
theorem Made.bool {K : PySem.W.Frag} {H : Hp} (i : Bool) : Made K H (.bool i) (.bl i) H := .im rfl (im_bool i)
theorem Made.str {K : PySem.W.Frag} {H : Hp} (i : Str) : Made K H (.str i) (.str i) H := .im rfl (im_str i)
theorem Made.tup {K : PySem.W.Frag} {H : Hp} {p : Addr} {ds : List D} {xs : List V} {o : Obj} (n : H p = none) (ho : o.dict = none) (t : ImA K H ds xs) : Made K H (.tuple ds) (.ref p) (upd H p (.frz o (.tup xs))) :=
  .flat rfl (im_tup (.new ho) (ImA.pst (.new n) _ _ t)) (same_new n)
/-- a new tuple, no dict on it -/
def NewT (Q : VK) (H : Hp) (xs : List V) : Prop := ∀ p o, H p = none → o.dict = none → Q (.ref p) (upd H p (.frz o (.tup xs)))
theorem ep_newT {X : Cx} {pins : List (Addr × Obj)} {σ : L2.St} {H : Hp} {s : Shared} {xs : List V} {its : List Value} {Q : VK} (I : Inv X pins σ H s) (r : Vals xs its) (hz : xs.length ≤ sizeLine) (q : NewT Q H xs) :
    EP X pins σ Q (.ref s.heap.objs.size) { s with heap := s.heap.push { cls := .type "tuple", data := .seq its.toArray } } :=
  ⟨.ref s.heap.objs.size, _, I.laid (t' := s.toks) (o := .frz { cls := .type "tuple", data := .seq its.toArray } (.tup xs)) (fun b ob q => Heap.get?_push_of_some _ q) (Nat.le_refl _)
    ⟨Heap.get?_push_size _ rfl, hz, its, r, IsTup.new _ _⟩, rfl, q _ _ (I.hok.fresh (Nat.le_refl _)) rfl⟩
/-- t + u -/
def rCatN (K : PySem.W.Frag) : R2 := fun x y H Q => ∃ a b xs ys, x = .ref a ∧ y = .ref b ∧ SqT K H a xs ∧ SqT K H b ys ∧ xs.length + ys.length ≤ sizeLine ∧
  (xs = [] → Q (.ref b) H) ∧ (xs ≠ [] → ys = [] → Q (.ref a) H) ∧ (xs ≠ [] → ys ≠ [] → NewT Q H (xs ++ ys))
theorem op_catN {X : Cx} : OpR X (binaryOp .Add) (rCatN X.K) := by
  intro pins s σ H x y v u Q I rx ry h
  obtain ⟨a, b, xs, ys, rfl, rfl, ha, hb, hz, q0, q1, q2⟩ := h
  cases rx
  cases ry
  obtain ⟨its, r1, p1, _⟩ := I.tuple ha
  obtain ⟨its2, r2, p2, _⟩ := I.tuple hb
  by_cases hx : xs = []
  · subst hx
    cases r1
    exact L2.cat_tup0 p1 p2 ⟨.ref b, H, I, rfl, q0 rfl⟩
  · refine HT.cat_tup p1 p2 (fun z => hx (r1.nil_iff.mp z)) (fun z => ⟨.ref a, H, I, rfl, q1 hx (r2.nil_iff.mp z)⟩) (fun z => ?_) (by rw [← r1.length, ← r2.length]; exact hz)
    exact ep_newT I (r1.append r2) (by rw [List.length_append]; exact hz) (q2 hx fun w => z (r2.nil_iff.mpr w))
/-- t * k -/
def rRepN (K : PySem.W.Frag) : R2 := fun x y H Q => ∃ l k xs, x = .ref l ∧ y = .int k ∧ SqT K H l xs ∧ -(2 ^ 62) ≤ k ∧ k ≤ 1000 ∧ xs.length ≤ 1000 ∧ ((xs = [] ∨ k = 1) → Q (.ref l) H) ∧ (¬ (xs = [] ∨ k = 1) → NewT Q H (List.replicate k.toNat xs).flatten)
theorem tuple_mulS (l : Addr) (items : Array Value) (n : Nat) (dd : Option Addr) (sl : Array (Option Value)) (x : Int) (u : Tok) (c0 : (decide (x < -(2 ^ 63)) || decide (x ≥ 2 ^ 63)) = false) (c1 : (items.isEmpty || x == 1) = true) :
    Meets (Builtin.«tuple.__mul__» ⟨[.ref l, .int x u], []⟩) (fun _ R s => s.heap.get? l = some { cls := .type "tuple", dict := dd, data := .seq items n, slots := sl } ∧ R (.ok (.ret (Value.ref l))) s) :=
  .of_wp fun prog w A R s h => by
    obtain ⟨hp, g, d, tk, os⟩ := s
    obtain ⟨hl, h⟩ := h
    have f1 := AutoSeq1.idx_int
    wp_walk using wpAny_loadPart' hl
    repeat (first
      | (refine wpAny_ite_false (decide_eq_false (by rw [c0]; exact Bool.false_ne_true)) ?_; wp_walk using wpAny_loadPart' hl)
      | (refine wpAny_ite_true (decide_eq_true (by rw [c1])) ?_; wp_walk using wpAny_loadPart' hl))
    exact ⟨_, rfl, h⟩
theorem tuple_mulE (l : Addr) (items : Array Value) (n : Nat) (dd : Option Addr) (sl : Array (Option Value)) (x : Int) (u : Tok) (c0 : (decide (x < -(2 ^ 63)) || decide (x ≥ 2 ^ 63)) = false) (c1 : (items.isEmpty || x == 1) = false) (c2 : (decide (x ≤ 0) || items.isEmpty) = true) :
    Meets (Builtin.«tuple.__mul__» ⟨[.ref l, .int x u], []⟩) (fun _ R s => s.heap.get? l = some { cls := .type "tuple", dict := dd, data := .seq items n, slots := sl } ∧
      R (.ok (.ret (Value.ref s.heap.objs.size))) { s with heap := s.heap.push { cls := Value.type "tuple", data := Data.seq #[] }, toks := s.toks }) :=
  .of_wp fun prog w A R s h => by
    obtain ⟨hp, g, d, tk, os⟩ := s
    obtain ⟨hl, h⟩ := h
    have f1 := AutoSeq1.idx_int
    wp_walk using wpAny_loadPart' hl
    repeat (first
      | (refine wpAny_ite_false (decide_eq_false (by rw [c0]; exact Bool.false_ne_true)) ?_; wp_walk using wpAny_loadPart' hl)
      | (refine wpAny_ite_false (decide_eq_false (by rw [c1]; exact Bool.false_ne_true)) ?_; wp_walk using wpAny_loadPart' hl)
      | (refine wpAny_ite_true (decide_eq_true (by rw [c2])) ?_; wp_walk using wpAny_loadPart' hl))
    exact ⟨_, rfl, h⟩
theorem op_repN {X : Cx} : OpR X (binaryOp .Mult) (rRepN X.K) := by
  intro pins s σ H x y v u Q I rx ry h
  obtain ⟨l, k, xs, rfl, rfl, hT, h1, h2, hz, q1, q2⟩ := h
  cases rx
  obtain ⟨t, rfl⟩ := ry
  obtain ⟨its, r, ⟨⟨cls, dd, data, sl⟩, ho, hc, n, hd⟩, hs⟩ := I.tuple hT
  simp only at hc hd
  subst hc hd
  have hle : its.length = xs.length := r.length.symm
  have c0 : (decide (k < -(2 ^ 63)) || decide (k ≥ 2 ^ 63)) = false := by rw [decide_eq_false (by omega), decide_eq_false (by omega)] <;> rfl
  have hem : its.toArray.isEmpty = decide (xs = []) := by
    cases its with
    | nil => cases r; rfl
    | cons a b => cases r; rfl
  by_cases hx : xs = [] ∨ k = 1
  · have c1 : (its.toArray.isEmpty || k == 1) = true := by
      rw [hem]
      rcases hx with h | h
      · simp [h]
      · simp [h]
    exact wpAny_binaryOp_repeat_ref (T := "tuple") (U := "int") (by decide) ⟨_, ho, rfl⟩ (fun s' => typeIs_int s' k t) noFill_tuple_mul F.fills_int_mul F.slot_int_rmul repeat_tuple F.slot_int_index.lookup
      (call_meets F.slot_int_rmul (typeIs_int s k t) F.entry_int_rmul (F.args_int_rmul_2 _ _) (int_rmul_tuple k t l its.toArray n dd sl)
        ⟨ho, rfl, ⟨_, ho, rfl⟩, call_meets F.slot_tuple_mul ⟨_, ho, rfl⟩ F.entry_tuple_mul (F.args_tuple_mul_2 _ _) (tuple_mulS l its.toArray n dd sl k t c0 c1) ⟨ho, ⟨.ref l, H, I, rfl, q1 hx⟩⟩⟩)
  have q2 := q2 hx
  simp only [not_or] at hx
  obtain ⟨hne, hk1⟩ := hx
  have hn : its ≠ [] := fun e => hne (by rw [e] at hle; exact List.eq_nil_of_length_eq_zero hle.symm)
  have hi : its.toArray.isEmpty = false := by rw [hem]; exact decide_eq_false hne
  have c1 : (its.toArray.isEmpty || k == 1) = false := by rw [hi, Bool.false_or]; exact beq_eq_false_iff_ne.mpr hk1
  by_cases h0 : k ≤ 0
  · have c2 : (decide (k ≤ 0) || its.toArray.isEmpty) = true := by rw [decide_eq_true h0]; rfl
    have e0 : (List.replicate k.toNat xs).flatten = [] := by rw [show k.toNat = 0 by omega]; rfl
    rw [e0] at q2
    exact wpAny_binaryOp_repeat_ref (T := "tuple") (U := "int") (by decide) ⟨_, ho, rfl⟩ (fun s' => typeIs_int s' k t) noFill_tuple_mul F.fills_int_mul F.slot_int_rmul repeat_tuple F.slot_int_index.lookup
      (call_meets F.slot_int_rmul (typeIs_int s k t) F.entry_int_rmul (F.args_int_rmul_2 _ _) (int_rmul_tuple k t l its.toArray n dd sl)
        ⟨ho, rfl, ⟨_, ho, rfl⟩, call_meets F.slot_tuple_mul ⟨_, ho, rfl⟩ F.entry_tuple_mul (F.args_tuple_mul_2 _ _) (tuple_mulE l its.toArray n dd sl k t c0 c1 c2) ⟨ho, ep_newT (its := []) I .nil (Nat.zero_le _) q2⟩⟩)
  have hsz0 : its.toArray.size = xs.length := by rw [List.size_toArray, hle]
  have a1 : ((xs.length : Nat) : Int) * k ≤ 1000 * k := Int.mul_le_mul_of_nonneg_right (by omega) (by omega)
  have hm : ((its.toArray.size : Nat) : Int) * k ≤ 1000000 := by rw [hsz0]; omega
  have a2 : k.toNat * xs.length ≤ 1000 * 1000 := Nat.mul_le_mul (by omega) hz
  have flen : (List.replicate k.toNat its).flatten.length ≤ sizeLine := by rw [PyProof.Rows.lm_len_rep_flat, hle, sizeLine_eq]; omega
  have c2 : (decide (k ≤ 0) || its.toArray.isEmpty) = false := by rw [hi, Bool.or_false]; exact decide_eq_false h0
  have c4 : Builtin.Tuple.tupleTooMany (((its.toArray.size : Nat) : Int) * k) = false := by unfold Builtin.Tuple.tupleTooMany; rw [sizeLine_eq]; exact decide_eq_false (by omega)
  refine wpAny_binaryOp_repeat_ref (T := "tuple") (U := "int") (by decide) ⟨_, ho, rfl⟩ (fun s' => typeIs_int s' k t) noFill_tuple_mul F.fills_int_mul F.slot_int_rmul repeat_tuple F.slot_int_index.lookup
    (call_meets F.slot_int_rmul (typeIs_int s k t) F.entry_int_rmul (F.args_int_rmul_2 _ _) (int_rmul_tuple k t l its.toArray n dd sl)
      ⟨ho, rfl, ⟨_, ho, rfl⟩, call_meets F.slot_tuple_mul ⟨_, ho, rfl⟩ F.entry_tuple_mul (F.args_tuple_mul_2 _ _) (tuple_mulW l its.toArray n dd sl k t c0 c1 c2 (by omega) c4 (by rw [size_rep, List.size_toArray]; exact flen)) ⟨ho, ?_⟩⟩)
  rw [size_rep]
  exact ep_newT I (r.rep k.toNat) (by rw [PyProof.Rows.lm_len_rep_flat, sizeLine_eq]; omega) q2

section
variable {K : PySem.W.Frag}
def rAddAll (K : PySem.W.Frag) : R2 := fun x y H Q => rI0 (fun i j => .int (i + j)) x y H Q ∨ ((∃ i j, x = .str i ∧ y = .str j ∧ i.length + j.length ≤ sizeLine ∧ Q (.str (i ++ j)) H) ∨ (rCatN K x y H Q ∨ rCatR x y H Q))
theorem op_addAll {X : Cx} : OpR X (binaryOp .Add) (rAddAll X.K) := op_add.or (op_add_str.or (op_catN.or op_catR))
theorem ImA.nil_iff {H : Hp} {ds : List D} {xs : List V} (h : ImA K H ds xs) : ds = [] ↔ xs = [] := by
  have := h.len
  constructor
  · rintro rfl; exact List.eq_nil_of_length_eq_zero this.symm
  · rintro rfl; exact List.eq_nil_of_length_eq_zero this
theorem val_add : Val2 K (rAddAll K) addD := by
  intro H x y z1 z2 m1 m2 d1 d2 F1 F2 d Q o1 o2 e k
  unfold addD at e
  dsimp only at e
  split at e
  · cases e
    rw [own_int o1, own_int o2]
    exact .inl ⟨_, _, rfl, rfl, k _ _ (.int _)⟩
  · split at e
    · rename_i hz
      cases e
      rw [own_str o1, own_str o2]
      exact .inr (.inl ⟨_, _, rfl, rfl, of_decide_eq_true hz, k _ _ (.str _)⟩)
    · cases e
  · split at e
    · rename_i hz
      cases e
      simp only [Bool.and_eq_true, decide_eq_true_eq, own99, fitL] at hz
      obtain ⟨⟨⟨⟨h1, h2⟩, h3⟩, h4⟩, h5⟩ := hz
      obtain ⟨a, xs, rfl, r1, i1⟩ := kids_rd o1 h1 h3
      obtain ⟨b, ys, rfl, r2, i2⟩ := kids_rd o2 h2 h4
      exact .inr (.inr (.inr ⟨a, b, xs, ys, rfl, rfl, r1, r2, by rw [← i1.len, ← i2.len]; exact h5, fun p hp => k _ _ (.list hp (i1.append i2))⟩))
    · cases e
  · split at e
    · rename_i hz
      cases e
      obtain ⟨a, xs, rfl, r1, i1⟩ := own_tup o1
      obtain ⟨b, ys, rfl, r2, i2⟩ := own_tup o2
      refine .inr (.inr (.inl ⟨a, b, xs, ys, rfl, rfl, r1.1, r2.1, by rw [← i1.len, ← i2.len]; exact of_decide_eq_true hz, fun e => ?_, fun _ e => ?_, fun _ _ p o hp ho => ?_⟩))
      · have e0 := i1.nil_iff.mpr e
        subst e0
        rw [List.nil_append] at k
        exact k _ _ (.im rfl (im_tup r2 i2))
      · have e0 := i2.nil_iff.mpr e
        subst e0
        rw [List.append_nil] at k
        exact k _ _ (.im rfl (im_tup r1 i1))
      · exact k _ _ (.tup hp ho (i1.append i2))
    · cases e
  · cases e
def rMulAll (K : PySem.W.Frag) : R2 := fun x y H Q => rI CMul (fun i j => .int (i * j)) x y H Q ∨ (rRepR x y H Q ∨ rRepN K x y H Q)
theorem op_mulAll {X : Cx} : OpR X (binaryOp .Mult) (rMulAll X.K) := op_mul.or (op_repR.or op_repN)
theorem rep_same {a : List D} {k : Int} (h : a = [] ∨ k = 1) : (List.replicate k.toNat a).flatten = a := by
  rcases h with h | h
  · subst h; simp
  · subst h; simp
theorem val_mul : Val2 K (rMulAll K) mulD := by
  intro H x y z1 z2 m1 m2 d1 d2 F1 F2 d Q o1 o2 e k
  unfold mulD at e
  dsimp only at e
  split at e
  · split at e
    · rename_i hz
      cases e
      rw [own_int o1, own_int o2]
      refine .inl ⟨_, _, rfl, rfl, ?_, k _ _ (.int _)⟩
      unfold mulOk at hz
      simp only [Bool.or_eq_true, Bool.and_eq_true, decide_eq_true_eq] at hz
      exact hz
    · cases e
  · split at e
    · rename_i hz
      cases e
      simp only [Bool.and_eq_true, decide_eq_true_eq, own99, fitL] at hz
      obtain ⟨⟨⟨⟨h1, h3⟩, b1⟩, b2⟩, h5⟩ := hz
      obtain ⟨a, xs, rfl, r1, i1⟩ := kids_rd o1 h1 h3
      rw [own_int o2]
      exact .inr (.inl ⟨a, _, xs, rfl, rfl, r1, b1, b2, by rw [← i1.len]; exact h5, fun p hp => k _ _ (.list hp (i1.rep _))⟩)
    · cases e
  · split at e
    · rename_i hz
      cases e
      simp only [Bool.and_eq_true, decide_eq_true_eq] at hz
      obtain ⟨⟨b1, b2⟩, h4⟩ := hz
      obtain ⟨a, xs, rfl, r1, i1⟩ := own_tup o1
      rw [own_int o2]
      refine .inr (.inr ⟨a, _, xs, rfl, rfl, r1.1, b1, b2, by rw [← i1.len]; exact h4, fun e => ?_, fun _ p o hp ho => k _ _ (.tup hp ho (i1.rep _))⟩)
      rw [rep_same (e.imp i1.nil_iff.mpr id)] at k
      exact k _ _ (.im rfl (im_tup r1 i1))
    · cases e
  · cases e
theorem val_int {C : Int → Int → Prop} {c : Int → Int → Bool} {f : Int → Int → Int} (h : ∀ i j, c i j = true → C i j) : Val2 K (rI C fun i j => .int (f i j)) (intD c f) := by
  intro H x y z1 z2 m1 m2 d1 d2 F1 F2 d Q o1 o2 e k
  unfold intD at e
  dsimp only at e
  split at e
  · split at e
    · rename_i hz
      cases e
      rw [own_int o1, own_int o2]
      exact ⟨_, _, rfl, rfl, h _ _ hz, k _ _ (.int _)⟩
    · cases e
  · cases e
theorem val_int0 {f : Int → Int → Int} : Val2 K (rI0 fun i j => .int (f i j)) (intD (fun _ _ => true) f) := by
  intro H x y z1 z2 m1 m2 d1 d2 F1 F2 d Q o1 o2 e k
  unfold intD at e
  dsimp only at e
  split at e
  · rw [if_pos rfl] at e
    cases e
    rw [own_int o1, own_int o2]
    exact ⟨_, _, rfl, rfl, k _ _ (.int _)⟩
  · cases e
theorem powOk_c {i j : Int} (h : powOk i j = true) : CPow i j := by
  unfold powOk at h
  simp only [Bool.and_eq_true, decide_eq_true_eq] at h
  exact ⟨h.1.1, h.1.2, h.2⟩
/-- each operator, by data -/
def opOf : Bop → Operator
  | .add => .Add | .sub => .Sub | .mul => .Mult | .fdiv => .FloorDiv | .mod => .Mod | .pow => .Pow | .shl => .LShift | .shr => .RShift | .band => .BitAnd | .bor => .BitOr
theorem op_all {X : Cx} (o : Bop) : ∃ r, OpR X (binaryOp (opOf o)) r ∧ Val2 X.K r (binD o) := by
  cases o with
  | add => exact ⟨_, op_addAll, val_add⟩
  | sub => exact ⟨_, op_sub, val_int0⟩
  | mul => exact ⟨_, op_mulAll, val_mul⟩
  | fdiv => exact ⟨_, op_fdivN, val_int fun i j h => by simpa [CDivN, Bool.and_eq_true] using h⟩
  | mod => exact ⟨_, op_modN, val_int fun i j h => by simpa using h⟩
  | pow => exact ⟨_, op_pow, val_int fun i j h => powOk_c h⟩
  | shl => exact ⟨_, op_shl, val_int fun i j h => powOk_c h⟩
  | shr => exact ⟨_, op_shr, val_int fun i j h => by simpa using h⟩
  | band => exact ⟨_, op_and, val_int0⟩
  | bor => exact ⟨_, op_or, val_int0⟩
theorem pe_binop {X : Cx} {a b : Expr} {ra rb : REv} {q qa qb : Bool} {pos : Pos} {m : Nat} (o : Bop) (hq : q = true → qa = true ∧ qb = true) (ha : PE X a (tR X.K ra qa)) (hb : PE X b (tR X.K rb qb)) :
    PE X (.BinOp a (opOf o) b pos) (tR X.K (binEv ra rb qb (binD o) m) q) := by
  obtain ⟨r, h1, h2⟩ := op_all (X := X) o
  exact pe_bin2 h1 h2 hq ha hb
end
end RV

set_option maxRecDepth 100000
/-! Ev5: comparisons by data. -/
namespace RV
open PySem L2 PySem.Spec PyProof.Rows
section
variable {K : PySem.W.Frag} {H : Hp}
mutual
theorem im_dp : ∀ (d : D) (v : V), Im K H d v → PyData.canLay0 d = true → Dp K H v d
  | .none, v, h, _ => by simp only [Im] at h; subst h; exact .non
  | .bool b, v, h, _ => by simp only [Im] at h; subst h; exact .bl b
  | .int i, v, h, _ => by simp only [Im] at h; subst h; exact .int i
  | .str x, v, h, _ => by simp only [Im] at h; subst h; exact .str x
  | .tuple ds, v, h, c => by
    simp only [Im] at h
    obtain ⟨a, xs, rfl, q, r⟩ := h
    exact .tup q.1 (im_dps ds xs r (by simpa only [PyData.canLay0] using c))
  | .list ds, v, h, c => by
    simp only [Im] at h
    obtain ⟨a, xs, rfl, q, r⟩ := h
    exact .lst q.sq (im_dps ds xs r (by simpa only [PyData.canLay0] using c))
  | .dict _, v, h, c => by simp only [PyData.canLay0] at c; cases c
theorem im_dps : ∀ (ds : List D) (xs : List V), ImA K H ds xs → PyData.canLayAll0 ds = true → DpAll K H xs ds
  | [], xs, h, _ => by simp only [ImA] at h; subst h; exact .nil
  | d :: ds, xs, h, c => by
    simp only [ImA] at h
    obtain ⟨v, r, rfl, q, z⟩ := h
    rw [PyData.canLayAll0, Bool.and_eq_true] at c
    exact .cons (im_dp d v q c.1) (im_dps ds r z c.2)
end
theorem dps_of : ∀ {ds : List D} {xs : List V}, ds.length = xs.length → (∀ (i : Nat) e x, ds[i]? = some e → xs[i]? = some x → Dp K H x e) → DpAll K H xs ds
  | [], [], _, _ => .nil
  | [], _ :: _, l, _ => by cases l
  | _ :: _, [], l, _ => by cases l
  | d :: ds, x :: xs, l, h => .cons (h 0 d x rfl rfl) (dps_of (by simpa using l) fun i e y h1 h2 => h (i + 1) e y (by simpa using h1) (by simpa using h2))
theorem canLay_at : ∀ {ds : List D} {i : Nat} {e : D}, PyData.canLayAll0 ds = true → ds[i]? = some e → PyData.canLay0 e = true
  | [], _, _, _, h => by simp at h
  | d :: ds, 0, e, c, h => by
    rw [PyData.canLayAll0, Bool.and_eq_true] at c
    simp at h; subst h; exact c.1
  | d :: ds, i + 1, e, c, h => by
    rw [PyData.canLayAll0, Bool.and_eq_true] at c
    exact canLay_at c.2 (by simpa using h)
theorem own1_dp : ∀ {m : Nat} {d : D} {v : V} {F : Addr → Prop}, Own1 K H m d v F → PyData.canLay0 d = true → Dp K H v d
  | 0, d, v, F, h, c => by unfold Own1 at h; exact im_dp d v h c
  | m + 1, d, v, F, h, c => by
    unfold Own1 at h
    rcases h with ⟨f, q⟩ | ⟨a, xs, ds, χ, e1, e2, fa, ha, l, q⟩ | ⟨a, u, xs, kvs, χ, e1, e2, _⟩
    · exact im_dp d v q c
    · subst e1 e2
      rw [PyData.canLay0] at c
      exact .lst (.inl (.inl ha)) (dps_of l fun i e x h1 h2 => own1_dp (q i e x h1 h2) (canLay_at c h1))
    · subst e2; rw [PyData.canLay0] at c; cases c
theorem own_dp {z : Bool} {m : Nat} {d : D} {v : V} {F : Addr → Prop} (h : Own K H z m d v F) (c : PyData.canLay0 d = true) : Dp K H v d := by
  cases m with
  | zero => exact im_dp d v h c
  | succ m =>
    unfold Own at h
    rcases h with ⟨f, q⟩ | ⟨a, xs, ds, χ, e1, e2, fa, ha, l, q⟩ | ⟨a, u, xs, kvs, χ, e1, e2, _⟩ | ⟨_, _, a, ns, e1, e2, q⟩
    · exact im_dp d v q c
    · subst e1 e2
      rw [PyData.canLay0] at c
      exact .lst (.inl ha.rd) (dps_of l fun i e x h1 h2 => own1_dp (q i e x h1 h2) (canLay_at c h1))
    · subst e2; rw [PyData.canLay0] at c; cases c
    · subst e1 e2
      rw [PyData.canLay0] at c
      exact .lst q.sq (im_dps _ _ (im_ints ns) c)
theorem eqOk_lay {d : D} (h : eqOk d = true) : PyData.canLay0 d = true := SeqAt.canLay_of_shaped h
theorem val_eq : Val2 K (rEqD K) (b2 (cmpD .eq)) := by
  intro H x y z1 z2 m1 m2 d1 d2 F1 F2 d Q o1 o2 e k
  simp only [b2, cmpD] at e
  split at e
  · rename_i hz
    cases e
    rw [Bool.and_eq_true] at hz
    exact ⟨d1, d2, own_dp o1 (eqOk_lay hz.1), own_dp o2 (eqOk_lay hz.2), hz.1, hz.2, k _ _ (.bool _)⟩
  · cases e
theorem val_ne : Val2 K (rNeD K) (b2 (cmpD .ne)) := by
  intro H x y z1 z2 m1 m2 d1 d2 F1 F2 d Q o1 o2 e k
  simp only [b2, cmpD] at e
  split at e
  · rename_i hz
    cases e
    rw [Bool.and_eq_true] at hz
    exact ⟨d1, d2, own_dp o1 (eqOk_lay hz.1), own_dp o2 (eqOk_lay hz.2), hz.1, hz.2, k _ _ (.bool _)⟩
  · cases e
/-- order: ints, tuples -/
def rOrd (K : PySem.W.Frag) (o : Cop) : R2 := fun x y H Q => ∃ d1 d2 b, Dp K H x d1 ∧ Dp K H y d2 ∧ PyData.canLay0 d1 = true ∧ PyData.canLay0 d2 = true ∧ ltD o d1 d2 = some b ∧ Q (.bl b) H
def copOf : Cop → CmpOp
  | .eq => .Eq | .ne => .NotEq | .lt => .Lt | .le => .LtE | .gt => .Gt | .ge => .GtE | .isN => .Is | .notN => .IsNot | .isin => .In | .notin => .NotIn
theorem dp_int {v : V} {i : Int} (h : Dp K H v (.int i)) : v = .int i := by cases h; rfl
theorem ord_b {c : Bool} {b b' : Bool} {p : Bool} (h : (if p = true then some b else none) = some b') : p = true ∧ b = b' := by
  split at h
  · cases h; exact ⟨by assumption, rfl⟩
  · cases h
theorem op_ord {X : Cx} (hu : X.A.units + 64 < cLine) (o : Cop) (ho : o = .lt ∨ o = .le ∨ o = .gt ∨ o = .ge) : OpR X (compareOp (copOf o)) (rOrd X.K o) := by
  intro pins s σ H x y v u Q I rx ry ⟨d1, d2, b, p1, p2, c1, c2, e, q⟩
  unfold ltD at e
  split at e
  · rw [dp_int p1] at rx
    rw [dp_int p2] at ry
    obtain ⟨t, rfl⟩ := rx
    obtain ⟨t', rfl⟩ := ry
    rcases ho with rfl | rfl | rfl | rfl <;> (dsimp only at e; cases e)
    · exact lt_int ⟨.bl _, H, I, rfl, q⟩
    · exact le_int ⟨.bl _, H, I, rfl, q⟩
    · exact gt_int ⟨.bl _, H, I, rfl, q⟩
    · exact ge_int ⟨.bl _, H, I, rfl, q⟩
  · rename_i a1 a2
    obtain ⟨as, r1⟩ := Dp.reads I _ _ _ p1 rx
    obtain ⟨bs, r2⟩ := Dp.reads I _ _ _ p2 ry
    split at e
    · rename_i hz
      rw [Bool.and_eq_true, decide_eq_true_eq] at hz
      have nn : (PyData.tuple a1) ≠ .none := by intro z; cases z
      have hd : X.A.units + min (PyData.tuple a1).depth (PyData.tuple a2).depth < cLine := by
        have := Nat.min_le_left (PyData.tuple a1).depth (PyData.tuple a2).depth
        omega
      rcases ho with rfl | rfl | rfl | rfl <;> (dsimp only at e; cases e)
      · exact W.lt_data r1 r2 hz.1 nn hd ⟨.bl _, H, I, rfl, q⟩
      · exact W.le_data r1 r2 hz.1 nn hd ⟨.bl _, H, I, rfl, q⟩
      · exact W.gt_data r1 r2 hz.1 nn hd ⟨.bl _, H, I, rfl, q⟩
      · exact W.ge_data r1 r2 hz.1 nn hd ⟨.bl _, H, I, rfl, q⟩
    · cases e
  · cases e

/-! ### dicts -/
/-- the key of a datum -/
theorem key_of_d {d : D} {v : V} (h : keyOk d = true) (i : Im K H d v) : ∃ k : Key, d = keyD k ∧ v = kV k := by
  cases d with
  | int n => simp only [Im] at i; exact ⟨.inl n, rfl, i⟩
  | str x => simp only [Im] at i; exact ⟨.inr x, rfl, i⟩
  | _ => cases h
theorem beqKey_keyD (a b : Key) : D.beqKey (keyD a) (keyD b) = decide (a = b) := by
  cases a <;> cases b <;> simp [keyD, D.beqKey]
/-- look-ups, side by side -/
theorem dget_rel {P : Nat → D → V → Prop} (k : Key) : ∀ {kds : List (D × D)} {kvs : List (Key × V)}, kds.map (·.1) = kvs.map (fun p => keyD p.1) →
    (∀ (i : Nat) e x, kds[i]? = some e → (kvs.map (·.2))[i]? = some x → P i e.2 x) →
    (valV kvs k = none ∧ dget kds (keyD k) = none) ∨ (∃ i v d, valV kvs k = some v ∧ dget kds (keyD k) = some d ∧ P i d v ∧ ∃ a, kds[i]? = some (a, d) ∧ (kvs.map (·.2))[i]? = some v ∧ ∀ y, dput kds (keyD k) y = kds.set i (a, y))
  | [], [], _, _ => .inl ⟨rfl, rfl⟩
  | [], _ :: _, e, _ => by cases e
  | _ :: _, [], e, _ => by cases e
  | p :: kds, q :: kvs, e, h => by
    simp only [List.map_cons, List.cons.injEq] at e
    obtain ⟨e1, e2⟩ := e
    obtain ⟨a, d⟩ := p
    have e1 : a = keyD q.1 := e1
    subst e1
    by_cases hk : q.1 = k
    · refine .inr ⟨0, q.2, d, valV_pos hk, ?_, h 0 _ _ rfl rfl, _, rfl, rfl, fun y => ?_⟩
      · rw [dget, beqKey_keyD, decide_eq_true hk, if_pos rfl]
      · rw [dput, beqKey_keyD, decide_eq_true hk, if_pos rfl]
        rfl
    · rw [valV_neg hk, dget, beqKey_keyD, decide_eq_false hk, if_neg (by decide)]
      rcases dget_rel (P := fun i => P (i + 1)) k e2 fun i e x h1 h2 => h (i + 1) e x h1 h2 with h | ⟨i, v, d', h1, h2, h3, a, h4, h5, h6⟩
      · exact .inl h
      · refine .inr ⟨i + 1, v, d', h1, h2, h3, a, h4, h5, fun y => ?_⟩
        rw [dput, beqKey_keyD, decide_eq_false hk, if_neg (by decide), h6]
        rfl
/-- a dict's root -/
theorem own_dict {z : Bool} {m : Nat} {kds : List (D × D)} {v : V} {F : Addr → Prop} (h : Own K H z m (.dict kds) v F) :
    ∃ a u xs, v = .ref a ∧ Rd H a u ∧ DctIs K H a u (kds.map (·.1)) xs ∧ kds.length = xs.length ∧ (kidsIm m (.dict kds) = true → ImA K H (kds.map (·.2)) xs) := by
  cases m with
  | zero =>
    unfold Own at h
    simp only [Im] at h
    obtain ⟨a, o, u, xs, e, q, r, i⟩ := h
    have i := ImK.iff.mp i
    exact ⟨a, u, xs, e, .inr ⟨o, q⟩, r, by rw [← i.len, List.length_map], fun _ => i⟩
  | succ m =>
    unfold Own at h
    rcases h with ⟨f, _⟩ | ⟨a, xs, ds', χ, e1, e2, _⟩ | ⟨a, u, xs, kvs, χ, e1, e2, fa, ha, du, q⟩ | ⟨_, hm, a, ns, e1, e2, _⟩
    · cases f
    · cases e2
    · cases e2
      have l : kds.length = xs.length := by rw [← du.len, List.length_map]
      refine ⟨a, u, xs, e1, ha.rd, du, l, fun k => ImA.iff.mpr ⟨by rw [List.length_map]; exact l, fun i e x h1 h2 => ?_⟩⟩
      rw [List.getElem?_map] at h1
      cases hk : kds[i]? with
      | none => rw [hk] at h1; cases h1
      | some kv =>
        rw [hk] at h1
        cases h1
        have q1 := q i kv x hk h2
        unfold kidsIm kidsFlat at k
        rw [Bool.or_eq_true, decide_eq_true_iff] at k
        rcases k with k | k
        · have : m = 0 := by omega
          subst this
          exact q1
        · exact Own1.im_flat (List.all_eq_true.mp k kv (List.mem_of_getElem? hk)) q1
    · cases e2
/-! ### dicts whose keys are tuples of ints -/
/-- the tuple dict at a: none of its entries, or these -/
def TDAt (K : PySem.W.Frag) (H : Hp) (a : Addr) (xs : List (List Int × Addr × Value)) : Prop :=
  (xs = [] ∧ Rd H a (.dK [])) ∨ ∃ ob, Rd H a (TdO a ob) ∧ (a == sysModules) = false ∧ xs ≠ [] ∧ TObj ob xs ∧ ∀ x ∈ xs, TuA K H x.2.1 (x.1.map V.int)
section
variable {X : Cx} {pins : List (Addr × Obj)} {σ : L2.St} {H : Hp} {s : Shared} {a b : Addr} {xs : List (List Int × Addr × Value)} {ks : List Int}
theorem items_ints {P : Program} {w : World} : ∀ {ks : List Int} {us : List Value}, Vals (ks.map V.int) us → ItemsAre (intKind P w) ks us
  | [], _, .nil => .nil
  | k :: ks, _, .cons r t => by
    obtain ⟨tk, rfl⟩ := r
    exact .cons (intKind_is P w k tk) (items_ints t)
theorem tkey_of (I : Inv X pins σ H s) (h : SqT X.K H b (ks.map V.int)) : (tupleKind (intKind X.prog X.w)).is s.heap ks b := by
  obtain ⟨its, rv, ⟨o, ho, hc, n, hd⟩, _⟩ := I.tuple h
  exact ⟨o, its.toArray, n, ho, hc, hd, by simpa using items_ints rv⟩
theorem td_of (I : Inv X pins σ H s) (h : TDAt X.K H a xs) : s.heap.DictOfH (tupleKind (intKind X.prog X.w)) a xs ∧ (a == sysModules) = false ∧ xs.length ≤ sizeLine := by
  rcases h with ⟨rfl, r⟩ | ⟨ob, r, hs, _, hx, hk⟩
  · obtain ⟨_, hd, vs, kv, o, es, ep, e1, e2, e3, _, pr, _⟩ := dk_rd I.hok r
    cases kv
    cases hes : es.toList with
    | cons _ _ => rw [hes] at pr; cases pr
    | nil => exact ⟨⟨o, es, ep, e1, e2, e3, hes, by simp, .nil⟩, hd, Nat.zero_le _⟩
  · have ok : ObjOk X.prog X.w H s.heap a (TdO a ob) := r.ok I.hok
    obtain ⟨hg, _⟩ := ok
    obtain ⟨es, ep, e1, e2⟩ := hx.dt
    exact ⟨⟨ob, es, ep, hg, hx.ex, e1, e2, fun x h => tkey_of I (hk x h).1, hx.nd⟩, hs, hx.sz⟩
end
theorem asInts_eq : ∀ {ds : List D} {ns : List Int}, asInts ds = some ns → ds = ns.map PyData.int
  | [], ns, h => by cases h; rfl
  | d :: ds, ns, h => by
    unfold asInts at h
    split at h
    · rename_i hq; cases hq
    · rename_i hq
      cases hq
      simp only [Option.map_eq_some_iff] at h
      obtain ⟨r, h1, rfl⟩ := h
      rw [asInts_eq h1]; rfl
    · cases h
theorem tkey_some {d : D} {ks : List Int} (h : tkey d = some ks) : d = .tuple (ks.map .int) := by
  cases d with
  | tuple ds => rw [asInts_eq h]
  | _ => cases h
theorem beq_tkey (a b : List Int) : D.beqKey (.tuple (a.map .int)) (.tuple (b.map .int)) = decide (a = b) := by
  have e : ∀ l : List Int, asInts (l.map PyData.int) = some l := by
    intro l
    induction l with
    | nil => rfl
    | cons x l ih => simp [asInts, ih]
  simp [D.beqKey, e]
/-- look-ups, side by side -/
theorem tget_rel {P : Nat → D → Value → Prop} (k : List Int) : ∀ {kds : List (D × D)} {xs : List (List Int × Addr × Value)}, kds.map (·.1) = xs.map (fun x => PyData.tuple (x.1.map .int)) →
    (∀ (i : Nat) e x, kds[i]? = some e → xs[i]? = some x → P i e.2 x.2.2) →
    (atKey xs k = none ∧ dget kds (.tuple (k.map .int)) = none) ∨ (∃ i p d, atKey xs k = some p ∧ dget kds (.tuple (k.map .int)) = some d ∧ P i d p.2 ∧ xs[i]? = some (k, p) ∧ kds[i]? = some (.tuple (k.map .int), d) ∧ ∀ y, dput kds (.tuple (k.map .int)) y = kds.set i (.tuple (k.map .int), y))
  | [], [], _, _ => .inl ⟨rfl, rfl⟩
  | [], _ :: _, e, _ => by cases e
  | _ :: _, [], e, _ => by cases e
  | p :: kds, q :: xs, e, h => by
    simp only [List.map_cons, List.cons.injEq] at e
    obtain ⟨e1, e2⟩ := e
    obtain ⟨a, d⟩ := p
    obtain ⟨qk, qp⟩ := q
    have e1 : a = PyData.tuple (qk.map .int) := e1
    subst e1
    by_cases hk : qk = k
    · subst hk
      refine .inr ⟨0, qp, d, by simp [atKey], ?_, h 0 _ _ rfl rfl, rfl, rfl, fun y => ?_⟩
      · rw [dget, beq_tkey, decide_eq_true rfl, if_pos rfl]
      · rw [dput, beq_tkey, decide_eq_true rfl, if_pos rfl]
        rfl
    · have ea : atKey ((qk, qp) :: xs) k = atKey xs k := by simp [atKey, hk]
      rw [ea, dget, beq_tkey, decide_eq_false hk, if_neg (by decide)]
      rcases tget_rel (P := fun i => P (i + 1)) k e2 fun i e x h1 h2 => h (i + 1) e x h1 h2 with h | ⟨i, v, d', h1, h2, h3, h4, h5, h6⟩
      · exact .inl h
      · refine .inr ⟨i + 1, v, d', h1, h2, h3, h4, h5, fun y => ?_⟩
        rw [dput, beq_tkey, decide_eq_false hk, if_neg (by decide), h6]
        rfl
/-- keys of one kind only -/
theorem du_K {H : Hp} {a : Addr} {u : HO} {kds : List (D × D)} {vs : List V} (du : DctIs K H a u (kds.map (·.1)) vs) (h : kds.all (fun kv => keyOk kv.1) = true) : ∃ kvs : List (Key × V), u = .dK kvs ∧ kds.map (·.1) = kvs.map (fun p => keyD p.1) ∧ vs = kvs.map (·.2) := by
  rcases du with du | ⟨ob, xs, _, _, ne, _, e, _⟩
  · exact du
  · cases xs with
    | nil => exact absurd rfl ne
    | cons x xs =>
      cases kds with
      | nil => cases e
      | cons kd kds =>
        simp only [List.map_cons, List.cons.injEq] at e
        have := List.all_eq_true.mp h kd (by simp)
        rw [e.1] at this
        cases this
theorem du_T {H : Hp} {a : Addr} {u : HO} {kds : List (D × D)} {vs : List V} (du : DctIs K H a u (kds.map (·.1)) vs) (r : Rd H a u) (h : keysT kds = true) : ∃ xs, TDAt K H a xs ∧ kds.map (·.1) = xs.map (fun x => PyData.tuple (x.1.map .int)) ∧ Vals vs (xs.map (·.2.2)) := by
  rcases du with ⟨kvs, rfl, e, rfl⟩ | ⟨ob, xs, rfl, h1, h2, h3, h4, h5, h6⟩
  · cases kvs with
    | nil => exact ⟨[], .inl ⟨rfl, r⟩, e, .nil⟩
    | cons kv kvs =>
      cases kds with
      | nil => cases e
      | cons kd kds =>
        simp only [List.map_cons, List.cons.injEq] at e
        have := List.all_eq_true.mp h kd (by simp)
        rw [e.1] at this
        cases hk : kv.1 with
        | inl i => rw [hk] at this; cases this
        | inr i => rw [hk] at this; cases this
  · exact ⟨xs, .inr ⟨ob, r, h1, h2, h3, h6⟩, h4, h5⟩
theorem own_tupI {K : PySem.W.Frag} {H : Hp} {z : Bool} {m : Nat} {d : D} {v : V} {F : Addr → Prop} {ks : List Int} (h : Own K H z m d v F) (hk : tkey d = some ks) : ∃ b, v = .ref b ∧ TuA K H b (ks.map V.int) := by
  rw [tkey_some hk] at h
  have h := Own.im_flat rfl h
  unfold Im at h
  obtain ⟨b, xs, e, q, im⟩ := h
  have : xs = ks.map V.int := by
    have key : ∀ {l : List Int} {ys : List V}, ImA K H (l.map PyData.int) ys → ys = l.map V.int := by
      intro l
      induction l with
      | nil => intro ys h; unfold ImA at h; exact h
      | cons x l ih =>
        intro ys h
        rw [List.map_cons] at h
        unfold ImA at h
        obtain ⟨v, r, e, i, t⟩ := h
        simp only [Im] at i
        rw [e, i, ih t]
        rfl
    exact key im
  subst this
  exact ⟨b, e, q⟩
/-! ### in -/
def rInT (K : PySem.W.Frag) (neg : Bool) : R2 := fun x y H Q => ∃ a b xs ks, x = .ref b ∧ y = .ref a ∧ TDAt K H a xs ∧ SqT K H b (ks.map V.int) ∧ Q (.bl (neg ^^ (atKey xs ks).isSome)) H
theorem op_inT {X : Cx} (hu : X.A.units + 66 < cLine) : OpR X (compareOp .In) (rInT X.K false) := by
  intro pins s σ H x y v u Q I rx ry ⟨a, b, xs, ks, e1, e2, t, sq, q⟩
  subst e1 e2
  cases rx
  cases ry
  obtain ⟨dd, hd, _⟩ := td_of I t
  exact wpAny_in_heap (tupleKind_room_in1 (by omega)) (tkey_of I sq) hd dd ⟨.bl _, H, I.tok _, by simp [L2.RelV], q⟩
theorem op_notinT {X : Cx} (hu : X.A.units + 66 < cLine) : OpR X (compareOp .NotIn) (rInT X.K true) := by
  intro pins s σ H x y v u Q I rx ry ⟨a, b, xs, ks, e1, e2, t, sq, q⟩
  subst e1 e2
  cases rx
  cases ry
  obtain ⟨dd, hd, _⟩ := td_of I t
  exact wpAny_notIn_heap (tupleKind_room_in1 (by omega)) (tkey_of I sq) hd dd ⟨.bl _, H, I.tok _, by simp [L2.RelV], q⟩
def rInAll0 (K : PySem.W.Frag) (neg : Bool) : R2 := fun x y H Q =>
  (∃ d ds, Dp K H x d ∧ (Dp K H y (.list ds) ∨ Dp K H y (.tuple ds)) ∧ PyData.canLay0 d = true ∧ PyData.canLayAll0 ds = true ∧ d.depth ≤ 64 ∧ Q (.bl (neg ^^ (ds.any fun z => PyData.eqv z d))) H) ∨
  ((∃ a o, y = .ref a ∧ DGet H a x o ∧ Q (.bl (neg ^^ o.isSome)) H) ∨
   (∃ i j, x = .str i ∧ y = .str j ∧ Q (.bl (neg ^^ (!(Builtin.Str.occurrences j i 0 j.length 1).isEmpty))) H))
theorem op_inAll0 {X : Cx} (hu : X.A.units + 66 < cLine) : OpR X (compareOp .In) (rInAll0 X.K false) := by
  refine OpR.or ?_ (OpR.or ?_ ?_)
  · intro pins s σ H x y v u Q I rx ry ⟨d, ds, p1, p2, c1, c2, dd, q⟩
    obtain ⟨as, r1⟩ := Dp.reads I _ _ _ p1 rx
    have hd : X.A.units + 1 + min (PyData.depthAll ds) d.depth < cLine := by
      have := Nat.min_le_right (PyData.depthAll ds) d.depth
      omega
    rcases p2 with p2 | p2
    · obtain ⟨bs, r2⟩ := Dp.reads I _ _ _ p2 ry
      exact SeqAt.in_list_reads r2 r1 c2 c1 hd ⟨.bl _, H, I, by simp [L2.RelV], q⟩
    · obtain ⟨bs, r2⟩ := Dp.reads I _ _ _ p2 ry
      exact SeqAt.in_tuple_reads r2 r1 c2 c1 hd ⟨.bl _, H, I, by simp [L2.RelV], q⟩
  · intro pins s σ H x y v u Q I rx ry ⟨a, o, e, g, q⟩
    subst e
    cases ry
    exact d_in (by omega) I g rx fun s2 I2 => ⟨.bl _, H, I2, by simp [L2.RelV], q⟩
  · intro pins s σ H x y v u Q I rx ry ⟨i, j, e1, e2, q⟩
    exact op_in_str pins s σ H x y v u Q I rx ry ⟨i, j, e1, e2, by simpa using q⟩
theorem op_notinAll0 {X : Cx} (hu : X.A.units + 66 < cLine) : OpR X (compareOp .NotIn) (rInAll0 X.K true) := by
  refine OpR.or ?_ (OpR.or ?_ ?_)
  · intro pins s σ H x y v u Q I rx ry ⟨d, ds, p1, p2, c1, c2, dd, q⟩
    obtain ⟨as, r1⟩ := Dp.reads I _ _ _ p1 rx
    have hd : X.A.units + 1 + min (PyData.depthAll ds) d.depth < cLine := by
      have := Nat.min_le_right (PyData.depthAll ds) d.depth
      omega
    rcases p2 with p2 | p2
    · obtain ⟨bs, r2⟩ := Dp.reads I _ _ _ p2 ry
      exact SeqAt.notIn_list_reads r2 r1 c2 c1 hd ⟨.bl _, H, I, by simp [L2.RelV], q⟩
    · obtain ⟨bs, r2⟩ := Dp.reads I _ _ _ p2 ry
      exact SeqAt.notIn_tuple_reads r2 r1 c2 c1 hd ⟨.bl _, H, I, by simp [L2.RelV], q⟩
  · intro pins s σ H x y v u Q I rx ry ⟨a, o, e, g, q⟩
    subst e
    cases ry
    exact d_notIn (by omega) I g rx fun s2 I2 => ⟨.bl _, H, I2, by simp [L2.RelV], q⟩
  · intro pins s σ H x y v u Q I rx ry ⟨i, j, e1, e2, q⟩
    exact op_notin_str pins s σ H x y v u Q I rx ry ⟨i, j, e1, e2, by simpa using q⟩
def rInAll (K : PySem.W.Frag) (neg : Bool) : R2 := fun x y H Q => rInAll0 K neg x y H Q ∨ rInT K neg x y H Q
theorem op_inAll {X : Cx} (hu : X.A.units + 66 < cLine) : OpR X (compareOp .In) (rInAll X.K false) := (op_inAll0 hu).or (op_inT hu)
theorem op_notinAll {X : Cx} (hu : X.A.units + 66 < cLine) : OpR X (compareOp .NotIn) (rInAll X.K true) := (op_notinAll0 hu).or (op_notinT hu)
theorem val_in (neg : Bool) : Val2 K (rInAll K neg) (b2 fun x y => (inD x y).map (neg ^^ ·)) := by
  intro H x y z1 z2 m1 m2 d1 d2 F1 F2 d Q o1 o2 e k
  simp only [b2, Option.map_map, Option.map_eq_some_iff, Function.comp] at e
  obtain ⟨c, e, rfl⟩ := e
  unfold inD at e
  split at e
  · split at e
    · rename_i hz
      cases e
      rw [Bool.and_eq_true] at hz
      have c2 := eqOk_lay hz.2
      exact .inl (.inl ⟨_, _, own_dp o1 (eqOk_lay hz.1), .inl (own_dp o2 c2), eqOk_lay hz.1, by rw [PyData.canLay0] at c2; exact c2, SeqAt.depth_of_shaped hz.1, k _ _ (.bool _)⟩)
    · cases e
  · split at e
    · rename_i hz
      cases e
      rw [Bool.and_eq_true] at hz
      have c2 := eqOk_lay hz.2
      exact .inl (.inl ⟨_, _, own_dp o1 (eqOk_lay hz.1), .inr (own_dp o2 c2), eqOk_lay hz.1, by rw [PyData.canLay0] at c2; exact c2, SeqAt.depth_of_shaped hz.1, k _ _ (.bool _)⟩)
    · cases e
  · rename_i kds
    split at e
    · rename_i hz
      cases e
      rw [Bool.and_eq_true] at hz
      obtain ⟨a, u, xs, rfl, r, du, l, _⟩ := own_dict o2
      obtain ⟨kk, rfl, rfl⟩ : ∃ kk : Key, d1 = keyD kk ∧ x = kV kk := by
        cases d1 with
        | int n => exact ⟨.inl n, rfl, own_int o1⟩
        | str n => exact ⟨.inr n, rfl, own_str o1⟩
        | _ => cases hz.1
      obtain ⟨kvs, rfl, ek, rfl⟩ := du_K du hz.2
      refine .inl (.inr (.inl ⟨a, valV kvs kk, rfl, .inl ⟨kvs, kk, r, rfl, rfl⟩, ?_⟩))
      have : (valV kvs kk).isSome = (dget kds (keyD kk)).isSome := by
        rcases dget_rel (P := fun _ _ _ => True) kk ek (fun _ _ _ _ _ => trivial) with ⟨h1, h2⟩ | ⟨i, v, d', h1, h2, _⟩
        · rw [h1, h2]; rfl
        · rw [h1, h2]; rfl
      rw [this]
      exact k _ _ (.bool _)
    · split at e
      · rename_i hz
        cases e
        rw [Bool.and_eq_true] at hz
        obtain ⟨ks, hk⟩ := Option.isSome_iff_exists.mp hz.1
        obtain ⟨b, rfl, tb⟩ := own_tupI o1 hk
        obtain ⟨a, u, xs, rfl, r, du, l, _⟩ := own_dict o2
        obtain ⟨ts, td, et, _⟩ := du_T du r hz.2
        refine .inr ⟨a, b, ts, ks, rfl, rfl, td, tb.1, ?_⟩
        have : (atKey ts ks).isSome = (dget kds d1).isSome := by
          rw [tkey_some hk]
          rcases tget_rel (P := fun _ _ _ => True) ks et (fun _ _ _ _ _ => trivial) with ⟨h1, h2⟩ | ⟨i, v, d', h1, h2, _⟩
          · rw [h1, h2]; rfl
          · rw [h1, h2]; rfl
        rw [this]
        exact k _ _ (.bool _)
      · cases e
  · split at e
    · cases e
      rw [own_str o1, own_str o2]
      exact .inl (.inr (.inr ⟨_, _, rfl, rfl, k _ _ (.bool _)⟩))
    · cases e
  · cases e
def rIsN : R2 := fun x y H Q => y = .non ∧ Q (.bl (decide (x = .non))) H
theorem non_iff {H : Hp} {z : Bool} {m : Nat} {d : D} {v : V} {F : Addr → Prop} (h : Own K H z m d v F) : isNone d = decide (v = .non) := by
  rcases own_any h with ⟨i, rfl, rfl⟩ | ⟨i, rfl, rfl⟩ | ⟨i, rfl, rfl⟩ | ⟨rfl, rfl⟩ | ⟨a, xs, ds, rfl, rfl, _⟩ | ⟨a, xs, ds, rfl, rfl, _⟩ | ⟨a, ds, rfl, rfl⟩ <;> simp [isNone]
theorem val_isN : Val2 K (fun x y H Q => y = .non ∧ Q (.bl (decide (x = .non))) H) (fun x y => match y.2 with | .none => (cmpD .isN x.2 y.2).map .bool | _ => none) := by
  intro H x y z1 z2 m1 m2 d1 d2 F1 F2 d Q o1 o2 e k
  dsimp only at e
  split at e
  · simp only [cmpD, Option.map_some, Option.some.injEq] at e
    subst e
    refine ⟨own_none o2, ?_⟩
    rw [← non_iff o1]
    exact k _ _ (.bool _)
  · cases e
theorem val_notN : Val2 K (fun x y H Q => y = .non ∧ Q (.bl (!decide (x = .non))) H) (fun x y => match y.2 with | .none => (cmpD .notN x.2 y.2).map .bool | _ => none) := by
  intro H x y z1 z2 m1 m2 d1 d2 F1 F2 d Q o1 o2 e k
  dsimp only at e
  split at e
  · simp only [cmpD, Option.map_some, Option.some.injEq] at e
    subst e
    refine ⟨own_none o2, ?_⟩
    rw [← non_iff o1]
    exact k _ _ (.bool _)
  · cases e
theorem ltD_lay {o : Cop} {x y : D} {b : Bool} (h : ltD o x y = some b) (c : ∀ xs ys, x = .tuple xs → y = .tuple ys → PyData.canLay0 x = true ∧ PyData.canLay0 y = true) : PyData.canLay0 x = true ∧ PyData.canLay0 y = true := by
  unfold ltD at h
  split at h
  · exact ⟨rfl, rfl⟩
  · exact c _ _ rfl rfl
  · cases h
theorem val_ord (o : Cop) : Val2 K (rOrd K o) (b2 fun x y => if PyData.canLay0 x && PyData.canLay0 y then ltD o x y else none) := by
  intro H x y z1 z2 m1 m2 d1 d2 F1 F2 d Q o1 o2 e k
  simp only [b2, Option.map_eq_some_iff] at e
  obtain ⟨c, e, rfl⟩ := e
  split at e
  · rename_i hz
    rw [Bool.and_eq_true] at hz
    exact ⟨d1, d2, c, own_dp o1 hz.1, own_dp o2 hz.2, hz.1, hz.2, e, k _ _ (.bool _)⟩
  · cases e
/-- each comparison, by data -/
theorem cop_all {X : Cx} (hu : X.A.units + 66 < cLine) (o : Cop) (h : o ≠ .isN ∧ o ≠ .notN) : ∃ r, OpR X (compareOp (copOf o)) r ∧ Val2 X.K r (b2 (cmpD o)) := by
  cases o with
  | eq => exact ⟨_, op_eqD (by omega), val_eq⟩
  | ne => exact ⟨_, op_neD (by omega), val_ne⟩
  | lt => exact ⟨_, op_ord (by omega) .lt (.inl rfl), val_ord .lt⟩
  | le => exact ⟨_, op_ord (by omega) .le (.inr (.inl rfl)), val_ord .le⟩
  | gt => exact ⟨_, op_ord (by omega) .gt (.inr (.inr (.inl rfl))), val_ord .gt⟩
  | ge => exact ⟨_, op_ord (by omega) .ge (.inr (.inr (.inr rfl))), val_ord .ge⟩
  | isN => exact absurd rfl h.1
  | notN => exact absurd rfl h.2
  | isin =>
    refine ⟨_, op_inAll hu, ?_⟩
    have : (b2 (cmpD .isin)) = (b2 fun x y => (inD x y).map (false ^^ ·)) := by
      funext x y
      simp [b2, cmpD]
    rw [this]
    exact val_in false
  | notin =>
    refine ⟨_, op_notinAll hu, ?_⟩
    have : (b2 (cmpD .notin)) = (b2 fun x y => (inD x y).map (true ^^ ·)) := by
      funext x y
      simp [b2, cmpD]
    rw [this]
    exact val_in true
end
end RV

set_option maxRecDepth 100000
/-! Ev6: tests; and, or, not; chains; displays; indices, slices. -/
namespace RV
open PySem L2 PySem.Spec PyProof.Rows
/-- the reading of a test -/
def tT (K : PySem.W.Frag) (r : RTe) (q : Bool) : TT := fun σ H Q => ∃ S0 H0 ω a T b a', W K S0 H0 ω a σ T H ∧ r a = some (b, a') ∧
  ∀ H' ω', W K S0 H0 ω' a' σ T H' → (q = true → Same H H' ∧ a' = a) → Q b H'
theorem bTest_eq {d : D} {b : Bool} (h : bTest d = some b) : d = .bool b := by
  cases d <;> simp only [bTest] at h <;> first | (cases h; rfl) | cases h
theorem tst_split {r : REv} {a : A} {p : Bool × A} (h : tst r a = some p) : ∃ o m, r a = some (o, p.2) ∧ res p.2 o = some (m, .bool p.1) := by
  unfold tst at h
  simp only [Option.bind_eq_some_iff, Option.map_eq_some_iff] at h
  obtain ⟨q, e1, u, e2, b, e3, e4⟩ := h
  subst e4
  obtain ⟨m, d⟩ := u
  have := bTest_eq e3
  dsimp only at this
  subst this
  exact ⟨q.1, m, e1, e2⟩
section
variable {X : Cx} {e a b c : Expr} {r ra rb rc : REv} {q qa qb qc : Bool} {pos : Pos} {rt ru : RTe}
/-- a value that is a truth value, as a test: the reading -/
theorem tst_tR {σ : L2.St} {H : Hp} {Q : Bool → Hp → Prop} (h : tT X.K (tst r) q σ H Q) : tR X.K r q σ H (fun x H1 => ∃ k, x = .bl k ∧ Q k H1) := by
  obtain ⟨S0, H0, ω, a, T, k, a', w, e, kk⟩ := h
  obtain ⟨o, m, e1, e2⟩ := tst_split e
  refine ⟨S0, H0, ω, a, T, o, a', w, e1, fun v H' ω' w' ov qq => ?_⟩
  obtain ⟨z1, F1, w1⟩ := opd_own (T2 := []) (by rw [List.append_nil]; exact w') ov e2
  exact ⟨k, own_bool w1, kk H' ω' w'.drop qq⟩
theorem pt_of_val (h : PE X e (tR X.K r q)) (he : ∀ whole, isTrue e X.env whole = (do let v ← whole; standAt e.pos; holding [v] (truthy v))) : PT X e (tT X.K (tst r) q) :=
  pt_imp (pt_val h he) fun _ _ _ h => tst_tR h
/-- a truth value is handed on -/
theorem bV_tR {m : Nat} {σ : L2.St} {H : Hp} {Q : VK} {r : REv} (h : tR X.K (bV r m) q σ H Q) : tT X.K (tst r) q σ H (fun k H1 => Q (.bl k) H1) := by
  obtain ⟨S0, H0, ω, a, T, o, a', w, e, kk⟩ := h
  unfold bV at e
  simp only [Option.map_eq_some_iff] at e
  obtain ⟨p, e, e2⟩ := e
  cases e2
  exact ⟨S0, H0, ω, a, T, p.1, p.2, w, e, fun H' ω' w' qq => kk _ H' ω' (w'.pushIm (im_bool _) (.inl rfl)) trivial qq⟩
theorem tV_tR {m : Nat} {σ : L2.St} {H : Hp} {Q : VK} (h : tR X.K (tV rt m) q σ H Q) : tT X.K rt q σ H (fun k H1 => Q (.bl k) H1) := by
  obtain ⟨S0, H0, ω, a, T, o, a', w, e, kk⟩ := h
  unfold tV at e
  simp only [Option.map_eq_some_iff] at e
  obtain ⟨p, e, e2⟩ := e
  cases e2
  exact ⟨S0, H0, ω, a, T, p.1, p.2, w, e, fun H' ω' w' qq => kk _ H' ω' (w'.pushIm (im_bool _) (.inl rfl)) trivial qq⟩
theorem tst_tV {m : Nat} : tst (tV rt m) = rt := by
  funext a
  unfold tst tV
  cases rt a with
  | none => rfl
  | some p => simp [res, bTest]

/-! ### not, and, or -/
theorem nTe_tT {σ : L2.St} {H : Hp} {Q : Bool → Hp → Prop} (h : tT X.K (nTe rt) false σ H Q) : tT X.K rt qa σ H (fun k H1 => Q (!k) H1) := by
  obtain ⟨S0, H0, ω, a, T, k, a', w, e, kk⟩ := h
  unfold nTe at e
  simp only [Option.map_eq_some_iff] at e
  obtain ⟨p, e, e2⟩ := e
  cases e2
  exact ⟨S0, H0, ω, a, T, p.1, p.2, w, e, fun H' ω' w' qq => kk H' ω' w' fun z => by cases z⟩
theorem aTe_tT {σ : L2.St} {H : Hp} {Q : Bool → Hp → Prop} (h : tT X.K (aTe rt ru) false σ H Q) : tT X.K rt qa σ H (fun k H1 => if k = true then tT X.K ru qb σ H1 Q else Q false H1) := by
  obtain ⟨S0, H0, ω, a, T, k, a', w, e, kk⟩ := h
  unfold aTe at e
  simp only [Option.bind_eq_some_iff] at e
  obtain ⟨p, e, e2⟩ := e
  refine ⟨S0, H0, ω, a, T, p.1, p.2, w, e, fun H' ω' w' qq => ?_⟩
  split at e2
  · rename_i hp
    rw [hp, if_pos rfl]
    exact ⟨S0, H0, ω', p.2, T, k, a', w', e2, fun H2 ω2 w2 _ => kk H2 ω2 w2 fun z => by cases z⟩
  · rename_i hp
    cases e2
    rw [if_neg hp]
    exact kk H' ω' w' fun z => by cases z
theorem oTe_tT {σ : L2.St} {H : Hp} {Q : Bool → Hp → Prop} (h : tT X.K (oTe rt ru) false σ H Q) : tT X.K rt qa σ H (fun k H1 => if k = true then Q true H1 else tT X.K ru qb σ H1 Q) := by
  obtain ⟨S0, H0, ω, a, T, k, a', w, e, kk⟩ := h
  unfold oTe at e
  simp only [Option.bind_eq_some_iff] at e
  obtain ⟨p, e, e2⟩ := e
  refine ⟨S0, H0, ω, a, T, p.1, p.2, w, e, fun H' ω' w' qq => ?_⟩
  split at e2
  · rename_i hp
    cases e2
    rw [hp, if_pos rfl]
    exact kk H' ω' w' fun z => by cases z
  · rename_i hp
    rw [if_neg hp]
    exact ⟨S0, H0, ω', p.2, T, k, a', w', e2, fun H2 ω2 w2 _ => kk H2 ω2 w2 fun z => by cases z⟩
theorem pt_notE (h : PT X a (tT X.K rt qa)) : PT X (.UnaryOp .Not a pos) (tT X.K (nTe rt) false) := pt_imp (pt_not h) fun _ _ _ h => nTe_tT h
theorem pw_one {op : BoolOp} (h : PT X a (tT X.K rt qa)) : PW X (.BoolOp op [a] pos) (tT X.K rt qa) := by
  cases op with
  | And => exact pw_and1 h
  | Or => exact pw_or1 h
theorem pw_imp {t t' : TT} (h : PW X e t) (i : ∀ σ H Q, t' σ H Q → t σ H Q) : PW X e t' :=
  ⟨fun wh pins s σ H Q I hw => h.run wh pins s σ H Q I (i _ _ _ hw)⟩
theorem pw_andE {rest : List Expr} (h : PT X a (tT X.K rt qa)) (h2 : PW X (.BoolOp .And (b :: rest) pos) (tT X.K ru qb)) : PW X (.BoolOp .And (a :: b :: rest) pos) (tT X.K (aTe rt ru) false) :=
  pw_imp (pw_and h h2) fun _ _ _ h => aTe_tT h
theorem pw_orE {rest : List Expr} (h : PT X a (tT X.K rt qa)) (h2 : PW X (.BoolOp .Or (b :: rest) pos) (tT X.K ru qb)) : PW X (.BoolOp .Or (a :: b :: rest) pos) (tT X.K (oTe rt ru) false) :=
  pw_imp (pw_or h h2) fun _ _ _ h => oTe_tT h
/-- as values -/
theorem pe_notE {m : Nat} (h : PE X a (tR X.K ra qa)) : PE X (.UnaryOp .Not a pos) (tR X.K (tV (nTe (tst ra)) m) false) :=
  pe_imp (pe_not h) fun _ _ _ h => tst_tR (nTe_tT (tV_tR h))
theorem pe_oneE {op : BoolOp} (h : PE X a (tR X.K ra qa)) : PE X (.BoolOp op [a] pos) (tR X.K ra qa) := pe_one h
theorem pe_andE {m : Nat} {rest : List Expr} (h : PE X a (tR X.K ra qa)) (h2 : PE X (.BoolOp .And (b :: rest) pos) (tR X.K rb qb)) : PE X (.BoolOp .And (a :: b :: rest) pos) (tR X.K (tV (aTe (tst ra) (tst rb)) m) false) :=
  pe_imp (pe_and h h2) fun σ H Q h => by
    obtain ⟨S0, H0, ω, s, T, o, s', w, e, k⟩ := tst_tR (aTe_tT (qa := qa) (qb := qb) (tV_tR h))
    refine ⟨S0, H0, ω, s, T, o, s', w, e, fun v H' ω' w' o' q' => ?_⟩
    obtain ⟨c, e1, h1⟩ := k v H' ω' w' o' q'
    refine ⟨c, e1, ?_⟩
    cases c with
    | false => exact h1
    | true =>
      rw [if_pos rfl] at h1 ⊢
      obtain ⟨S0, H0, ω, s, T, o, s', w, e, k⟩ := tst_tR h1
      refine ⟨S0, H0, ω, s, T, o, s', w, e, fun v H' ω' w' o' q' => ?_⟩
      obtain ⟨c, e1, h1⟩ := k v H' ω' w' o' q'
      subst e1
      exact h1
theorem pe_orE {m : Nat} {rest : List Expr} (h : PE X a (tR X.K ra qa)) (h2 : PE X (.BoolOp .Or (b :: rest) pos) (tR X.K rb qb)) : PE X (.BoolOp .Or (a :: b :: rest) pos) (tR X.K (tV (oTe (tst ra) (tst rb)) m) false) :=
  pe_imp (pe_or h h2) fun σ H Q h => by
    obtain ⟨S0, H0, ω, s, T, o, s', w, e, k⟩ := tst_tR (oTe_tT (qa := qa) (qb := qb) (tV_tR h))
    refine ⟨S0, H0, ω, s, T, o, s', w, e, fun v H' ω' w' o' q' => ?_⟩
    obtain ⟨c, e1, h1⟩ := k v H' ω' w' o' q'
    refine ⟨c, e1, ?_⟩
    cases c with
    | true => exact h1
    | false =>
      rw [if_neg Bool.false_ne_true] at h1 ⊢
      obtain ⟨S0, H0, ω, s, T, o, s', w, e, k⟩ := tst_tR h1
      refine ⟨S0, H0, ω, s, T, o, s', w, e, fun v H' ω' w' o' q' => ?_⟩
      obtain ⟨c, e1, h1⟩ := k v H' ω' w' o' q'
      subst e1
      exact h1
theorem pe_ifE (hc : PT X c (tT X.K rt qc)) (ha : PE X a (tR X.K ra qa)) (hb : PE X b (tR X.K rb qb)) : PE X (.IfExp c a b pos) (tR X.K (iEv rt ra rb) false) :=
  pe_imp (pe_ifExp hc ha hb) fun σ H Q ⟨S0, H0, ω, s, T, o, s', w, e, k⟩ => by
    unfold iEv at e
    simp only [Option.bind_eq_some_iff] at e
    obtain ⟨p, e, e2⟩ := e
    refine ⟨S0, H0, ω, s, T, p.1, p.2, w, e, fun H' ω' w' qq => ?_⟩
    split at e2
    · rename_i hp
      rw [hp, if_pos rfl]
      exact ⟨S0, H0, ω', p.2, T, o, s', w', e2, fun v H2 ω2 w2 o2 _ => k v H2 ω2 w2 o2 fun z => by cases z⟩
    · rename_i hp
      rw [if_neg hp]
      exact ⟨S0, H0, ω', p.2, T, o, s', w', e2, fun v H2 ω2 w2 o2 _ => k v H2 ω2 w2 o2 fun z => by cases z⟩

/-! ### comparisons -/
theorem cTe_bin {f : D → D → Option Bool} {m : Nat} : tV (cTe ra rb qb f) m = binEv ra rb qb (b2 f) m := by
  funext s
  unfold tV cTe binEv
  cases ra s with
  | none => rfl
  | some p =>
    simp only [Option.bind_some]
    cases rb p.2 with
    | none => rfl
    | some q =>
      simp only [Option.bind_some]
      split
      · rfl
      · cases res q.2 p.1 with
        | none => rfl
        | some u =>
          cases res q.2 q.1 with
          | none => rfl
          | some v =>
            simp only [Option.bind_some, b2]
            cases f u.2 v.2 <;> simp [okRes, flat]
theorem val2_isN {K : PySem.W.Frag} : Val2 K (fun x y H Q => y = .non ∧ Q (.bl (decide (x = .non))) H) (fun x y => match y.2 with | .none => (cmpD .isN x.2 y.2).map .bool | _ => none) := val_isN
theorem pe_cmpE {m : Nat} (hu : X.A.units + 66 < cLine) (o : Cop) (h : o ≠ .isN ∧ o ≠ .notN) (hm : behindInMarks (copOf o) b = false) (ha : PE X a (tR X.K ra qa)) (hb : PE X b (tR X.K rb qb)) (hq : q = true → qa = true ∧ qb = true) :
    PE X (.Compare a [copOf o] [b] pos) (tR X.K (tV (cTe ra rb qb (cmpD o)) m) q) := by
  obtain ⟨r, h1, h2⟩ := cop_all (X := X) hu o h
  rw [cTe_bin]
  exact pe_cmp2 h1 h2 hq hm ha hb
theorem cTe_split {f : D → D → Option Bool} {s : A} {c : Bool × A} (e : cTe ra rb qb f s = some c) : ∃ p u v, ra s = some p ∧ ∃ o, rb p.2 = some (o, c.2) ∧ (p.1.deep = false ∨ qb = true) ∧ res c.2 p.1 = some u ∧ res c.2 o = some v ∧ f u.2 v.2 = some c.1 := by
  unfold cTe at e
  simp only [Option.bind_eq_some_iff] at e
  obtain ⟨p, e1, p2, e2, e⟩ := e
  split at e
  · cases e
  rename_i hd
  simp only [Option.bind_eq_some_iff, Option.map_eq_some_iff] at e
  obtain ⟨u, eu, v, ev, b, eb, e⟩ := e
  subst e
  exact ⟨p, u, v, e1, p2.1, e2, deep_or hd, eu, ev, eb⟩
theorem made_bl {K : PySem.W.Frag} {H H' : Hp} {b : Bool} {v : V} (h : Made K H (.bool b) v H') : v = .bl b ∧ Same H H' := by
  cases h with
  | flat _ i s => simp only [Im] at i; exact ⟨i, s⟩
theorem pt_of_cmp {op : CmpOp} {t : R2} {f : D → D → Option Bool} (ho : OpR X (compareOp op) t) (hv : Val2 X.K t (b2 f)) (hm : behindInMarks op b = false) (ha : PE X a (tR X.K ra qa)) (hb : PE X b (tR X.K rb qb)) (hq : q = true → qa = true ∧ qb = true) :
    PT X (.Compare a [op] [b] pos) (tT X.K (cTe ra rb qb f) q) := by
  refine pt_imp (pt_cmpR ho ha hb hm) fun σ H Q ⟨S0, H0, ω, s, T, c, s', w, e, k⟩ => ?_
  obtain ⟨p, u, v, e1, o, e2, hd, eu, ev, ef⟩ := cTe_split (c := (c, s')) e
  refine two_run (qa := qa) hv w e1 e2 hd eu ev (d := .bool c) (by unfold b2; rw [ef]; rfl) fun H2 ω2 v' H' w3 mk hs => ?_
  obtain ⟨rfl, sm⟩ := made_bl mk
  refine ⟨c, rfl, k H' ω2 (w3.grow sm) fun hq' => ?_⟩
  obtain ⟨h1, h2⟩ := hq hq'
  obtain ⟨s1, e1⟩ := hs h1 h2
  exact ⟨s1.trans sm, e1⟩
theorem pt_cmpE (hu : X.A.units + 66 < cLine) (o : Cop) (h : o ≠ .isN ∧ o ≠ .notN) (hm : behindInMarks (copOf o) b = false) (ha : PE X a (tR X.K ra qa)) (hb : PE X b (tR X.K rb qb)) (hq : q = true → qa = true ∧ qb = true) :
    PT X (.Compare a [copOf o] [b] pos) (tT X.K (cTe ra rb qb (cmpD o)) q) := by
  obtain ⟨r, h1, h2⟩ := cop_all (X := X) hu o h
  exact pt_of_cmp h1 h2 hm ha hb hq
theorem nTest_tR {neg : Bool} {o : Cop} {σ : L2.St} {H : Hp} {Q : Bool → Hp → Prop} (ho : (o = .isN ∧ neg = false) ∨ (o = .notN ∧ neg = true)) (hq : q = true → qa = true) (h : tT X.K (nTest ra o) q σ H Q) : tR X.K ra qa σ H (fun x H1 => Q (neg ^^ decide (x = .non)) H1) := by
  obtain ⟨S0, H0, ω, a, T, k, a', w, e, kk⟩ := h
  unfold nTest at e
  simp only [Option.bind_eq_some_iff, Option.map_eq_some_iff] at e
  obtain ⟨p, e1, u, eu, b, eb, e⟩ := e
  cases e
  refine ⟨S0, H0, ω, a, T, p.1, p.2, w, e1, fun v H' ω' w' ov qq => ?_⟩
  obtain ⟨z1, F1, w1⟩ := opd_own (T2 := []) (by rw [List.append_nil]; exact w') ov eu
  have := non_iff w1
  have hb : (neg ^^ decide (v = .non)) = k := by
    rw [← this]
    rcases ho with ⟨rfl, rfl⟩ | ⟨rfl, rfl⟩ <;> simp only [cmpD, Option.some.injEq] at eb <;> rw [← eb] <;> simp
  rw [hb]
  exact kk H' ω' w'.drop fun hq' => qq (hq hq')
theorem pe_isNE {m : Nat} {j : Nat} {p2 : Pos} (ha : PE X a (tR X.K ra qa)) : PE X (.Compare a [.Is] [.Constant .none j p2] pos) (tR X.K (tV (nTest ra .isN) m) qa) :=
  pe_imp (pe_cmp (pc_isN ha)) fun σ H Q h => by
    have := nTest_tR (neg := false) (.inl ⟨rfl, rfl⟩) id (tV_tR h)
    simpa [tIsN] using this
theorem pe_notNE {m : Nat} {j : Nat} {p2 : Pos} (ha : PE X a (tR X.K ra qa)) : PE X (.Compare a [.IsNot] [.Constant .none j p2] pos) (tR X.K (tV (nTest ra .notN) m) qa) :=
  pe_imp (pe_cmp (pc_notN ha)) fun σ H Q h => by
    have := nTest_tR (neg := true) (.inr ⟨rfl, rfl⟩) id (tV_tR h)
    simpa [tNotN] using this
theorem tr_mono {σ : L2.St} {H : Hp} {Q Q' : VK} (h : tR X.K r q σ H Q) (k : ∀ v H', Q v H' → Q' v H') : tR X.K r q σ H Q' := by
  obtain ⟨S0, H0, ω, s, T, o, s', w, e, kk⟩ := h
  exact ⟨S0, H0, ω, s, T, o, s', w, e, fun v H' ω' w' o' q' => k _ _ (kk v H' ω' w' o' q')⟩
theorem pt_isNE {j : Nat} {p2 : Pos} (ha : PE X a (tR X.K ra qa)) : PT X (.Compare a [.Is] [.Constant .none j p2] pos) (tT X.K (nTest ra .isN) qa) :=
  pt_imp (pt_cmp (pc_isN ha)) fun σ H Q h => by
    refine tr_mono (nTest_tR (neg := false) (.inl ⟨rfl, rfl⟩) id h) fun v H' q => ⟨_, rfl, ?_⟩
    simpa using q
theorem pt_notNE {j : Nat} {p2 : Pos} (ha : PE X a (tR X.K ra qa)) : PT X (.Compare a [.IsNot] [.Constant .none j p2] pos) (tT X.K (nTest ra .notN) qa) :=
  pt_imp (pt_cmp (pc_notN ha)) fun σ H Q h => by
    refine tr_mono (nTest_tR (neg := true) (.inr ⟨rfl, rfl⟩) id h) fun v H' q => ⟨_, rfl, ?_⟩
    simpa using q
end
end RV

set_option maxRecDepth 100000
/-! Ev7: chains; names; displays; indices and slices. -/
namespace RV
open PySem L2 PySem.Spec PyProof.Rows
section
variable {X : Cx} {e a b c : Expr} {r ra rb rc : REv} {q qa qb qc : Bool} {pos : Pos} {rt ru : RTe}
/-! ### a op b op c -/
theorem opv_any {K : PySem.W.Frag} {σ : L2.St} {s s' : A} {H H' : Hp} {o : Opd} {v : V} (h : OpV K σ s H o v) (d : o.deep = false) : OpV K σ s' H' o v := opv_keep (H' := H') h (.inl d)
theorem chain_run {t t' : R2} {f g : D → D → Option Bool} {σ : L2.St} {H : Hp} {Q : VK} (hv : Val2 X.K t (b2 f)) (hv' : Val2 X.K t' (b2 g)) (h : tT X.K (chTe ra rb rc f g) false σ H (fun k H' => Q (.bl k) H')) :
    tChain t t' (tR X.K ra qa) (tR X.K rb qb) (tR X.K rc qc) σ H Q := by
  obtain ⟨S0, H0, ω, s, T, k, s', w, e, kk⟩ := h
  unfold chTe at e
  simp only [Option.bind_eq_some_iff] at e
  obtain ⟨p, e1, p2, e2, e⟩ := e
  split at e
  · cases e
  rename_i hd
  rw [Bool.not_eq_true, Bool.or_eq_false_iff] at hd
  simp only [Option.bind_eq_some_iff] at e
  obtain ⟨u, eu, v, ev, b, eb, e⟩ := e
  refine ⟨S0, H0, ω, s, T, p.1, p.2, w, e1, fun x H1 ω1 w1 o1 _ => ⟨S0, H0, ω1, p.2, _, p2.1, p2.2, w1, e2, fun y H2 ω2 w2 o2 _ => ?_⟩⟩
  obtain ⟨z1, F1, w1'⟩ := opd_own (T2 := push p2.1 y) w2 (opv_any o1 hd.1) eu
  obtain ⟨z2, F2, w2'⟩ := opd_own (T2 := []) (by rw [List.append_nil]; exact w2) o2 ev
  refine hv H2 x y z1 z2 _ _ _ _ F1 F2 (.bool b) _ w1' w2' (by unfold b2; rw [eb]; rfl) fun v' H3 mk => ?_
  obtain ⟨rfl, sm⟩ := made_bl mk
  refine ⟨b, rfl, ?_⟩
  have w3 := w2.grow sm
  split at e
  · rename_i hb
    rw [if_pos hb]
    simp only [Option.bind_eq_some_iff, Option.map_eq_some_iff] at e
    obtain ⟨p3, e3, v2, ev2, t3, et, c, ec, e⟩ := e
    cases e
    refine ⟨S0, H0, ω2, p2.2, _, p3.1, p3.2, w3, e3, fun z H4 ω4 w4 o4 _ => ?_⟩
    obtain ⟨z3, F3, w5⟩ := opd_own (o := p2.1) (v := y) (T := T ++ push p.1 x) (T2 := push p3.1 z) w4 (opv_any o2 hd.2) ev2
    obtain ⟨z4, F4, w6⟩ := opd_own (T2 := []) (by rw [List.append_nil]; exact w4) o4 et
    refine hv' H4 y z z3 z4 _ _ _ _ F3 F4 (.bool k) _ w5 w6 (by unfold b2; rw [ec]; rfl) fun v' H5 mk => ?_
    obtain ⟨rfl, sm⟩ := made_bl mk
    refine kk H5 ω4 ?_ fun z => by cases z
    have := w4.grow sm
    rw [List.append_assoc, List.append_assoc] at this
    exact this.drop
  · rename_i hb
    cases e
    rw [if_neg hb]
    refine kk H3 ω2 ?_ fun z => by cases z
    rw [List.append_assoc] at w3
    exact w3.drop
theorem tV_tR2 {m : Nat} {σ : L2.St} {H : Hp} {Q : VK} (h : tR X.K (tV rt m) q σ H Q) : tT X.K rt q σ H (fun k H1 => Q (.bl k) H1) := tV_tR h
theorem pe_chainE {m : Nat} (hu : X.A.units + 66 < cLine) (o o2 : Cop) (h : o ≠ .isN ∧ o ≠ .notN) (h2 : o2 ≠ .isN ∧ o2 ≠ .notN) (hm : lastMarks [copOf o, copOf o2] [b, c] = false)
    (ha : PE X a (tR X.K ra qa)) (hb : PE X b (tR X.K rb qb)) (hc : PE X c (tR X.K rc qc)) : PE X (.Compare a [copOf o, copOf o2] [b, c] pos) (tR X.K (tV (chTe ra rb rc (cmpD o) (cmpD o2)) m) false) := by
  obtain ⟨r, h3, h4⟩ := cop_all (X := X) hu o h
  obtain ⟨r', h5, h6⟩ := cop_all (X := X) hu o2 h2
  refine pe_imp (pe_chain h3 h5 ha hb hc hm) fun σ H Q h => ?_
  exact chain_run (qa := qa) (qb := qb) (qc := qc) h4 h6 (tV_tR h)
theorem tt_mono {σ : L2.St} {H : Hp} {Q Q' : Bool → Hp → Prop} (h : tT X.K rt q σ H Q) (k : ∀ b H', Q b H' → Q' b H') : tT X.K rt q σ H Q' := by
  obtain ⟨S0, H0, ω, s, T, o, s', w, e, kk⟩ := h
  exact ⟨S0, H0, ω, s, T, o, s', w, e, fun H' ω' w' q' => k _ _ (kk H' ω' w' q')⟩
theorem pt_chainE (hu : X.A.units + 66 < cLine) (o o2 : Cop) (h : o ≠ .isN ∧ o ≠ .notN) (h2 : o2 ≠ .isN ∧ o2 ≠ .notN) (hm : lastMarks [copOf o, copOf o2] [b, c] = false)
    (ha : PE X a (tR X.K ra qa)) (hb : PE X b (tR X.K rb qb)) (hc : PE X c (tR X.K rc qc)) : PT X (.Compare a [copOf o, copOf o2] [b, c] pos) (tT X.K (chTe ra rb rc (cmpD o) (cmpD o2)) false) := by
  obtain ⟨r, h3, h4⟩ := cop_all (X := X) hu o h
  obtain ⟨r', h5, h6⟩ := cop_all (X := X) hu o2 h2
  refine pt_imp (pt_chain h3 h5 ha hb hc hm) fun σ H Q h => ?_
  exact chain_run (qa := qa) (qb := qb) (qc := qc) h4 h6 (tt_mono h fun b H' hq => ⟨b, rfl, hq⟩)

/-! ### names -/
def brq : Wt → Bool
  | .br => true
  | _ => false
theorem pe_varE {i : Nat} {x : Str} {w : Wt} (h : PE X (.Name x pos) (tVar i)) : PE X (.Name x pos) (tR X.K (varEv i w) (brq w)) := by
  refine pe_imp (pe_gz h) fun σ H Q ⟨S0, H0, ω, s, T, o, s', wd, e, k⟩ => ?_
  unfold varEv at e
  split at e
  · rename_i sl hs
    obtain ⟨v, hv, own⟩ := wd.slot i sl hs
    refine ⟨v, hv, ?_⟩
    cases w with
    | br =>
      cases e
      exact .done (k v H ω (by simpa [push] using wd) hv fun _ => ⟨.refl H, rfl⟩)
    | tk m =>
      dsimp only at e
      split at e
      · rename_i f
        cases e
        exact .done (k v H ω (wd.pushIm (own.im_flat f) (.inl f)) trivial fun z => by cases z)
      · split at e
        · rename_i m0
          split at e
          · rename_i s0
            cases e
            refine .done (k v H ω (wd.pushIm ?_ (.inr rfl)) trivial fun z => by cases z)
            rw [s0] at own
            exact own
          · split at e
            · cases e
            · rename_i lk
              cases e
              exact (wd.share hs (by simpa using lk) hv).mono fun H' w' => k v H' ω w' trivial fun z => by cases z
        · split at e
          · rename_i hm
            cases e
            simp only [Bool.and_eq_true, decide_eq_true_eq, Bool.not_eq_true'] at hm
            have w' := wd.move hs hm.2 hv
            rw [hm.1] at w'
            exact .done (k v H _ w' trivial fun z => by cases z)
          · cases e
  · cases e
end
end RV

set_option maxRecDepth 100000
/-! Ev8: constants, argument lists, displays, indices, slices. -/
namespace RV
open PySem L2 PySem.Spec PyProof.Rows
section
variable {X : Cx} {e a b c : Expr} {es : List Expr} {r ra rb rc : REv} {q qa qb qc : Bool} {pos : Pos}

/-! ### argument lists -/
def pushs : List Opd → List V → List Tm
  | o :: os, v :: vs => push o v ++ pushs os vs
  | _, _ => []
def OpVs (K : PySem.W.Frag) (σ : L2.St) (a : A) (H : Hp) : List Opd → List V → Prop
  | [], vs => vs = []
  | o :: os, vs => ∃ v r, vs = v :: r ∧ OpV K σ a H o v ∧ OpVs K σ a H os r
def tAs (K : PySem.W.Frag) (r : RAs) (q : Bool) : TA := fun σ H Q => ∃ S0 H0 ω a T os a', W K S0 H0 ω a σ T H ∧ r a = some (os, a') ∧
  ∀ vs H' ω', W K S0 H0 ω' a' σ (T ++ pushs os vs) H' → OpVs K σ a' H' os vs → (q = true → Same H H' ∧ a' = a) → Q vs H'
theorem pa_nilE : PA X [] (tAs X.K nilAs q) := pa_imp pa_nil fun σ H Q ⟨S0, H0, ω, a, T, os, a', w, e, k⟩ => by
  cases e
  exact k [] H ω (by simpa [pushs] using w) rfl fun _ => ⟨.refl H, rfl⟩
theorem pa_consE {rs : RAs} {qs : Bool} (hq : q = true → qa = true ∧ qs = true) (ha : PE X e (tR X.K ra qa)) (hr : PA X es (tAs X.K rs qs)) (hs : starEach (e :: es) X.env = (false, eval e X.env) :: starEach es X.env) : PA X (e :: es) (tAs X.K (consAs ra rs qs) q) :=
  pa_imp (pa_cons ha hr hs) fun σ H Q ⟨S0, H0, ω, a, T, os, a', w, ee, k⟩ => by
    unfold consAs at ee
    simp only [Option.bind_eq_some_iff] at ee
    obtain ⟨p, e1, p2, e2, ee⟩ := ee
    split at ee
    · cases ee
    rename_i hd
    cases ee
    refine ⟨S0, H0, ω, a, T, p.1, p.2, w, e1, fun x H1 ω1 w1 o1 q1 => ⟨S0, H0, ω1, p.2, _, p2.1, p2.2, w1, e2, fun vs H2 ω2 w2 o2 q2 => ?_⟩⟩
    rw [List.append_assoc] at w2
    refine k (x :: vs) H2 ω2 w2 ⟨x, vs, rfl, opv_keep o1 ((deep_or hd).imp id fun h => q2 h), o2⟩ fun hq' => ?_
    obtain ⟨h1, h2⟩ := hq hq'
    obtain ⟨s1, e1⟩ := q1 h1
    obtain ⟨s2, e2⟩ := q2 h2
    exact ⟨s1.trans s2, e2.trans e1⟩

/-! ### values at one mode -/
theorem pushs_vals {m : Nat} : ∀ {os : List Opd} {vs : List V} {ds : List D}, valsOf m os = some ds → vs.length = os.length → (pushs os vs).map (·.v) = vs ∧ (pushs os vs).map (·.d) = ds ∧ ∀ t ∈ pushs os vs, t.m = m
  | [], vs, ds, h, l => by
    cases h
    cases vs with
    | nil => simp [pushs]
    | cons _ _ => cases l
  | o :: os, [], ds, h, l => by cases l
  | o :: os, v :: vs, ds, h, l => by
    cases o with
    | val k d =>
      simp only [valsOf] at h
      split at h
      · rename_i hk
        simp only [Option.map_eq_some_iff] at h
        obtain ⟨ds', h1, h2⟩ := h
        subst h2
        obtain ⟨e1, e2, e3⟩ := pushs_vals (vs := vs) h1 (by simpa using l)
        refine ⟨by simp [pushs, push, e1], by simp [pushs, push, e2], fun t ht => ?_⟩
        simp only [pushs, push, List.cons_append, List.nil_append, List.mem_cons] at ht
        rcases ht with rfl | ht
        · exact hk
        · exact e3 t ht
      · cases h
    | ref i => cases h
    | sub i x => cases h
theorem opvs_len {K : PySem.W.Frag} {σ : L2.St} {s : A} {H : Hp} : ∀ {os : List Opd} {vs : List V}, OpVs K σ s H os vs → vs.length = os.length
  | [], vs, h => by cases h; rfl
  | o :: os, vs, h => by
    obtain ⟨v, r, rfl, _, h⟩ := h
    simp [opvs_len h]
theorem valsOf_len {m : Nat} : ∀ {os : List Opd} {ds : List D}, valsOf m os = some ds → ds.length = os.length
  | [], ds, h => by cases h; rfl
  | .val k d :: os, ds, h => by
    simp only [valsOf] at h
    split at h
    · simp only [Option.map_eq_some_iff] at h
      obtain ⟨ds', h1, rfl⟩ := h
      simp [valsOf_len h1]
    · cases h
  | .ref _ :: _, _, h => by cases h
  | .sub _ _ :: _, _, h => by cases h
/-- held values at mode 0 stand for good -/
theorem tms_im {K : PySem.W.Frag} {S0 : Bk} {H0 H : Hp} {ω : Addr → Option Hd} {s : A} {σ : L2.St} : ∀ {ts T : List Tm}, W K S0 H0 ω s σ (T ++ ts) H → (∀ t ∈ ts, t.m = 0) → ImA K H (ts.map (·.d)) (ts.map (·.v))
  | [], T, w, h => .nil
  | t :: ts, T, w, h => by
    have w1 : W K S0 H0 ω s σ ((T ++ [t]) ++ ts) H := by rw [List.append_assoc]; exact w
    have q := w1.drop.last
    rw [h t (by simp)] at q
    exact .cons q (tms_im w1 fun t ht => h t (by simp [ht]))

/-! ### displays -/
def tTupN (t : TA) : TE := fun σ H Q => t σ H fun xs H1 => xs.length ≤ sizeLine ∧ NewT Q H1 xs
theorem pe_tupN {t : TA} {x1} (h : PA X es t) : PE X (.Tuple es x1 pos) (tTupN t) := by
  refine ⟨fun pins s σ H Q I hq => ?_⟩
  refine wpAny_Tuple_spliced (thn (h.run pos pins s σ H _ I hq) fun us s1 ⟨xs, H1, I1, r, z, q⟩ => ⟨by rw [← r.length]; exact z, ?_⟩)
  exact ep_newT I1 r z q
theorem pe_tupE {rs : RAs} {qs : Bool} {m : Nat} {x1} (hq : q = true → qs = true) (h : PA X es (tAs X.K rs qs)) : PE X (.Tuple es x1 pos) (tR X.K (tupEv rs m) q) :=
  pe_imp (pe_tupN h) fun σ H Q ⟨S0, H0, ω, a, T, o, a', w, ee, k⟩ => by
    unfold tupEv at ee
    simp only [Option.bind_eq_some_iff] at ee
    obtain ⟨p, e1, ds, e2, ee⟩ := ee
    split at ee
    · rename_i hf
      cases ee
      refine ⟨S0, H0, ω, a, T, p.1, p.2, w, e1, fun vs H1 ω1 w1 o1 q1 => ?_⟩
      have hl := opvs_len o1
      obtain ⟨ev, ed, em⟩ := pushs_vals e2 hl
      have im := tms_im w1 em
      rw [ev, ed] at im
      refine ⟨by rw [hl, ← valsOf_len e2]; exact of_decide_eq_true hf, fun p o hp ho => ?_⟩
      have sm : Same H1 (upd H1 p (.frz o (.tup vs))) := same_new hp
      refine k _ _ ω1 ((w1.drop.grow sm).pushIm (im_tup (.new ho) (ImA.pst (.of_same sm) _ _ im)) (.inl rfl)) trivial fun hq' => ?_
      obtain ⟨s1, e1⟩ := q1 (hq hq')
      exact ⟨s1.trans sm, e1⟩
    · cases ee
theorem pe_lstE {rs : RAs} {qs : Bool} {m : Nat} (hq : q = true → qs = true) (h : PA X es (tAs X.K rs qs)) : PE X (.List es pos) (tR X.K (lstEv rs m) q) :=
  pe_imp (pe_gz (pe_lst h)) fun σ H Q ⟨S0, H0, ω, a, T, o, a', w, ee, k⟩ => by
    unfold lstEv at ee
    simp only [Option.bind_eq_some_iff] at ee
    obtain ⟨p, e1, ds, e2, ee⟩ := ee
    split at ee
    · rename_i hf
      cases ee
      refine ⟨S0, H0, ω, a, T, p.1, p.2, w, e1, fun vs H1 ω1 w1 o1 q1 => ?_⟩
      have hl := opvs_len o1
      obtain ⟨ev, ed, em⟩ := pushs_vals e2 hl
      refine ⟨by rw [hl, ← valsOf_len e2]; exact of_decide_eq_true hf, fun p hp => ?_⟩
      by_cases hm : m - 1 = 0
      · rw [hm] at em
        have im := tms_im w1 em
        rw [ev, ed] at im
        refine (w1.drop.made (m := m) (.list hp im) ?_).mono fun H2 ⟨ω2, w2, sm⟩ => k _ _ ω2 w2 trivial fun hq' => ?_
        · unfold okRes
          simp only [Bool.or_eq_true, Bool.and_eq_true, decide_eq_true_eq]
          by_cases h0 : m = 0
          · exact .inl (.inr h0)
          · exact .inr ⟨trivial, .inl (by omega)⟩
        · obtain ⟨s1, e1⟩ := q1 (hq hq')
          exact ⟨s1.trans sm, e1⟩
      · have w2 := w1.newList hp em (ds := ds)
        rw [ev, ed, show m - 1 + 1 = m by omega] at w2
        refine .done (k _ _ _ w2 trivial fun hq' => ?_)
        obtain ⟨s1, e1⟩ := q1 (hq hq')
        exact ⟨s1.trans (same_new hp), e1⟩
    · cases ee
theorem pe_dnewE {m : Nat} : PE X (.Dict [] [] pos) (tR X.K (fun a => some (.val m (.dict []), a)) q) :=
  pe_imp (pe_gz pe_dnewK) fun σ H Q ⟨S0, H0, ω, a, T, o, a', w, ee, k⟩ => by
    cases ee
    intro p hp
    refine (w.made (m := m) (.dict (kvs := []) hp (.inl ⟨[], rfl, rfl, rfl⟩) .nil) ?_).mono fun H2 ⟨ω2, w2, sm⟩ => k _ _ ω2 w2 trivial fun _ => ⟨sm, rfl⟩
    unfold okRes
    simp [kidsFlat]
/-! ### constants -/
theorem pe_intE {i : Int} {j m} : PE X (.Constant (.int i) j pos) (tR X.K (fun a => some (.val m (.int i), a)) q) := made_const rfl (fun _ => im_int i) pe_int fun _ => rfl
theorem pe_blE {i : Bool} {j m} : PE X (.Constant (.bool i) j pos) (tR X.K (fun a => some (.val m (.bool i), a)) q) := made_const rfl (fun _ => im_bool i) pe_bl fun _ => rfl
theorem pe_nonE {j m} : PE X (.Constant .none j pos) (tR X.K (fun a => some (.val m .none, a)) q) := made_const rfl (fun _ => im_none) pe_non fun _ => rfl
theorem pe_strE {i : Str} {j m} : PE X (.Constant (.str i) j pos) (tR X.K (fun a => some (.val m (.str i), a)) q) := made_const rfl (fun _ => im_str i) pe_str fun _ => rfl
theorem pe_gloE {x : Str} {v : V} {u : Value} {d : D} {m} (f : flat d = true) (im : ∀ H, Im X.K H d v) (hg : Gl X x) (hm : X.mg x = some u) (r : RelV v u) (hd : (x == ("__debug__" : Str)) = false) :
    PE X (.Name x pos) (tR X.K (fun a => if flat d then some (.val m d, a) else none) q) := made_const f im (pe_glob hg hm r hd) fun _ => by rw [if_pos f]

/-! ### -a -/
theorem val_neg {K : PySem.W.Frag} : Val1 K (rU fun i => .int (-i)) negD := by
  intro H x z1 m1 d1 F1 d Q o1 e k
  unfold negD at e
  dsimp only at e
  split at e
  · cases e
    rw [own_int o1]
    exact ⟨_, rfl, k _ _ (.int _)⟩
  · cases e
theorem pe_negE {m : Nat} (hq : q = true → qa = true) (ha : PE X a (tR X.K ra qa)) : PE X (.UnaryOp .USub a pos) (tR X.K (oneEv ra negD m) q) :=
  pe_imp (pe_gz (pe_un un_neg ha)) fun σ H Q h => one_tR val_neg hq h

/-! ### a[k] -/
theorem own_kids {K : PySem.W.Frag} {H : Hp} {z : Bool} {m : Nat} {ds : List D} {v : V} {F : Addr → Prop} (h : Own K H z m (.list ds) v F) :
    ∃ a xs, v = .ref a ∧ SqL K H a xs ∧ (Rd H a (.lst xs) ∨ ds.all flat = true) ∧ ds.length = xs.length ∧ ∀ (i : Nat) e x, ds[i]? = some e → xs[i]? = some x → ∃ F', Own1 K H (m - 1) e x F' ∧ ∀ b, F' b → F b := by
  cases m with
  | zero =>
    unfold Own at h
    simp only [Im] at h
    obtain ⟨a, xs, e, q, r⟩ := h
    exact ⟨a, xs, e, q.sq, .inl q.rd, r.len, fun i e x h1 h2 => ⟨fun _ => False, (ImA.iff.mp r).2 i e x h1 h2, fun _ z => z.elim⟩⟩
  | succ m =>
    unfold Own at h
    rcases h with ⟨f, _⟩ | ⟨a, xs, ds', χ, e1, e2, _, ha, l, q⟩ | ⟨a, u, xs, kvs, χ, e1, e2, _⟩ | ⟨_, hm, a, ns, e1, e2, q⟩
    · cases f
    · cases e2
      exact ⟨a, xs, e1, .inl ha.rd, .inl ha.rd, l, fun i e x h1 h2 => ⟨_, q i e x h1 h2, fun b hb => hb.1⟩⟩
    · cases e2
    · cases e2
      refine ⟨a, _, e1, q.sq, .inr (by rw [List.all_map]; exact List.all_eq_true.mpr fun x _ => rfl), by simp, fun i e x h1 h2 => ⟨fun _ => False, ?_, fun _ z => z.elim⟩⟩
      rw [List.getElem?_map] at h1 h2
      cases hn : ns[i]? with
      | none => rw [hn] at h1; cases h1
      | some n =>
        rw [hn] at h1 h2
        cases h1; cases h2
        exact Own1.of_flat rfl (im_int n)
theorem own_kidsD {K : PySem.W.Frag} {H : Hp} {z : Bool} {m : Nat} {kds : List (D × D)} {v : V} {F : Addr → Prop} (h : Own K H z m (.dict kds) v F) :
    ∃ a u xs, v = .ref a ∧ Rd H a u ∧ DctIs K H a u (kds.map (·.1)) xs ∧ kds.length = xs.length ∧ ∀ (i : Nat) e x, kds[i]? = some e → xs[i]? = some x → ∃ F', Own1 K H (m - 1) e.2 x F' ∧ ∀ b, F' b → F b := by
  cases m with
  | zero =>
    obtain ⟨a, u, xs, e, r, du, l, im⟩ := own_dict h
    refine ⟨a, u, xs, e, r, du, l, fun i e x h1 h2 => ⟨fun _ => False, ?_, fun _ z => z.elim⟩⟩
    exact (ImA.iff.mp (im rfl)).2 i e.2 x (by rw [List.getElem?_map, h1]; rfl) h2
  | succ m =>
    unfold Own at h
    rcases h with ⟨f, _⟩ | ⟨a, xs, ds', χ, e1, e2, _⟩ | ⟨a, u, xs, kvs, χ, e1, e2, fa, ha, du, q⟩ | ⟨_, hm, a, ns, e1, e2, _⟩
    · cases f
    · cases e2
    · cases e2
      exact ⟨a, u, xs, e1, ha.rd, du, by rw [← du.len, List.length_map], fun i e x h1 h2 => ⟨_, q i e x h1 h2, fun b hb => hb.1⟩⟩
    · cases e2
theorem atI_of {α β : Type} {ds : List α} {xs : List β} {i : Int} {d : α} (l : ds.length = xs.length) (h : atI ds i = some d) : ∃ (j : Nat) (x : β), ds[j]? = some d ∧ xs[j]? = some x ∧ atI xs i = some x ∧ ixN ds.length i = some j := by
  unfold atI at h ⊢
  rw [← l]
  cases hn : ixN ds.length i with
  | none => rw [hn] at h; cases h
  | some j =>
    rw [hn] at h
    have h : ds[j]? = some d := h
    have hj : j < xs.length := by rw [← l]; exact (List.getElem?_eq_some_iff.mp h).1
    exact ⟨j, xs[j], h, List.getElem?_eq_getElem hj, List.getElem?_eq_getElem hj, rfl⟩
def rIxD : R2 := fun x y H Q => ∃ a v, x = .ref a ∧ DGet H a y (some v) ∧ Q v H
theorem ix_d (hu : X.A.units + 1 < cLine) : IxR X rIxD := by
  intro value slice pins s σ H x y v u Q I rx ry h hs
  obtain ⟨a, w, rfl, g, q⟩ := h
  cases rx
  exact tail_any (dict_typeIs I g) PySem.F.slot_dict_getitem.lookup (d_getItem hu I g ry fun w' s3 I3 rw' => ⟨w, H, I3, rw', q⟩) hs
def rIxT (K : PySem.W.Frag) : R2 := fun x y H Q => ∃ a b xs ks p v, x = .ref a ∧ y = .ref b ∧ TDAt K H a xs ∧ SqT K H b (ks.map V.int) ∧ atKey xs ks = some p ∧ L2.RelV v p.2 ∧ Q v H
theorem ix_t (hu : X.A.units + 1 < cLine) : IxR X (rIxT X.K) := by
  intro value slice pins s σ H x y v u Q I rx ry h hs
  obtain ⟨a, b, xs, ks, p, w, rfl, rfl, t, sq, hp, rw_, q⟩ := h
  cases rx
  cases ry
  obtain ⟨dd, hd, _⟩ := td_of I t
  exact tail_any dd.typeIs PySem.F.slot_dict_getitem.lookup (wpAny_getItem_heap (tupleKind_room_in1 hu) (tkey_of I sq) dd hp ⟨w, H, I.tok _, rw_, q⟩) hs
theorem vals_get : ∀ {vs : List V} {us : List Value} {i : Nat} {u : Value}, Vals vs us → us[i]? = some u → ∃ v, vs[i]? = some v ∧ L2.RelV v u
  | [], _, i, u, .nil, h => by simp at h
  | v :: vs, _, 0, u, .cons r _, h => by simp at h; subst h; exact ⟨v, rfl, r⟩
  | v :: vs, _, i + 1, u, .cons _ t, h => by
    obtain ⟨w, h1, h2⟩ := vals_get t (by simpa using h)
    exact ⟨w, by simpa using h1, h2⟩
def rIxAll (K : PySem.W.Frag) : R2 := fun x y H Q => rIx K x y H Q ∨ (rIxD x y H Q ∨ rIxT K x y H Q)
theorem ix_all (hu : X.A.units + 1 < cLine) : IxR X (rIxAll X.K) := ix_seq.or ((ix_d hu).or (ix_t hu))
theorem own_idx {K : PySem.W.Frag} {H : Hp} {z z2 : Bool} {m m2 : Nat} {d kd x : D} {v kv : V} {F F2 : Addr → Prop} (h : Own K H z m d v F) (hk : Own K H z2 m2 kd kv F2) (e : idxD d kd = some x) :
    ∃ w F', (∀ Q : VK, Q w H → rIxAll K v kv H Q) ∧ (flat d = true → Im K H x w) ∧ (flat d = false → Own1 K H (m - 1) x w F' ∧ (∀ b, F' b → F b) ∧ (flat x = true ∨ kidV H v kd = some w)) := by
  unfold idxD at e
  split at e
  · rename_i ds i
    obtain ⟨a, xs, rfl, q, rd, l, kids⟩ := own_kids h
    rw [own_int hk]
    obtain ⟨j, y, h1, h2, h3, _⟩ := atI_of l e
    obtain ⟨F', o, f⟩ := kids j _ y h1 h2
    refine ⟨y, F', fun Q hQ => .inl (.inl ⟨a, xs, _, y, rfl, rfl, q, h3, hQ⟩), fun z => (by cases z), fun _ => ⟨o, f, ?_⟩⟩
    rcases rd with rd | rd
    · exact .inr (by rw [kidV_lst rd]; exact h3)
    · exact .inl (List.all_eq_true.mp rd _ (List.mem_of_getElem? h1))
  · obtain ⟨a, xs, rfl, q, im⟩ := own_tup h
    rw [own_int hk]
    obtain ⟨j, y, h1, h2, h3, _⟩ := atI_of im.len e
    exact ⟨y, fun _ => False, fun Q hQ => .inl (.inr (.inl ⟨a, xs, _, y, rfl, rfl, q.1, h3, hQ⟩)), fun _ => (ImA.iff.mp im).2 j _ y h1 h2, fun z => by cases z⟩
  · split at e
    · rename_i hf
      rw [own_int hk, own_str h]
      simp only [Option.map_eq_some_iff] at e
      obtain ⟨c, h1, rfl⟩ := e
      exact ⟨.str ⟨#[c]⟩, fun _ => False, fun Q hQ => .inl (.inr (.inr ⟨_, _, c, rfl, rfl, of_decide_eq_true hf, h1, hQ⟩)), fun _ => im_str _, fun z => by cases z⟩
    · cases e
  · split at e
    · rename_i kds hz
      rw [Bool.and_eq_true] at hz
      obtain ⟨a, u, xs, rfl, r, du, l, kids⟩ := own_kidsD h
      obtain ⟨kk, rfl, rfl⟩ : ∃ kk : Key, kd = keyD kk ∧ kv = kV kk := by
        cases kd with
        | int n => exact ⟨.inl n, rfl, own_int hk⟩
        | str n => exact ⟨.inr n, rfl, own_str hk⟩
        | _ => cases hz.1
      obtain ⟨kvs, rfl, ek, rfl⟩ := du_K du hz.2
      rcases dget_rel (P := fun _ _ _ => True) kk ek (fun _ _ _ _ _ => trivial) with ⟨h1, h2⟩ | ⟨i, v, d', h1, h2, _, ka, h3, h4, _⟩
      · rw [h2] at e; cases e
      · rw [h2] at e; cases e
        obtain ⟨F', o, f⟩ := kids i _ v h3 h4
        exact ⟨v, F', fun Q hQ => .inr (.inl ⟨a, v, rfl, .inl ⟨kvs, kk, r, rfl, h1.symm⟩, hQ⟩), fun z => (by cases z), fun _ => ⟨o, f, .inr (by rw [kidV_dK r]; exact h1)⟩⟩
    · split at e
      · rename_i hz
        rw [Bool.and_eq_true] at hz
        obtain ⟨ks, hks⟩ := Option.isSome_iff_exists.mp hz.1
        obtain ⟨b, rfl, tb⟩ := own_tupI hk hks
        obtain ⟨a, u, xs, rfl, r, du, l, kids⟩ := own_kidsD h
        obtain ⟨ts, td, et, vt⟩ := du_T du r hz.2
        rw [Option.filter_eq_some_iff] at e
        obtain ⟨e, fx⟩ := e
        rw [tkey_some hks] at e
        rcases tget_rel (P := fun _ _ _ => True) ks et (fun _ _ _ _ _ => trivial) with ⟨h1, h2⟩ | ⟨i, p, d', h1, h2, _, h3, h4, _⟩
        · rw [h2] at e; cases e
        · rw [h2] at e; cases e
          obtain ⟨v, hv, rv⟩ := vals_get (i := i) (u := p.2) vt (by rw [List.getElem?_map, h3]; rfl)
          obtain ⟨F', o, f⟩ := kids i _ v h4 hv
          exact ⟨v, F', fun Q hQ => .inr (.inr ⟨a, b, ts, ks, p, v, rfl, rfl, td, tb.1, h1, rv, hQ⟩), fun z => (by cases z), fun _ => ⟨o, f, .inl fx⟩⟩
      · cases e
  · cases e
theorem pe_idxE {w : Wt} (hu : X.A.units + 1 < cLine) (hs : PlainIx b) (hq : q = true → qa = true ∧ qb = true) (ha : PE X a (tR X.K ra qa)) (hb : PE X b (tR X.K rb qb)) : PE X (.Subscript a b pos) (tR X.K (idxEv ra rb qb w) q) :=
  pe_imp (pe_ix (ix_all hu) ha hb hs) fun σ H Q ⟨S0, H0, ω, s, T, o, s', w0, e, k⟩ => by
    unfold idxEv at e
    simp only [Option.bind_eq_some_iff] at e
    obtain ⟨p, ep, p2, eq2, e⟩ := e
    split at e
    · cases e
    rename_i hd
    unfold idxStep at e
    simp only [Option.bind_eq_some_iff] at e
    obtain ⟨u, eu, kd, ekd, d, ed, e⟩ := e
    refine ⟨S0, H0, ω, s, T, p.1, p.2, w0, ep, fun x H1 ω1 w1 o1 q1 => ⟨S0, H0, ω1, p.2, _, p2.1, p2.2, w1, eq2, fun y H2 ω2 w2 o2 q2 => ?_⟩⟩
    have o1' : OpV X.K σ p2.2 H2 p.1 x := opv_keep o1 ((deep_or hd).imp id fun h => q2 h)
    obtain ⟨z2, F2, w2'⟩ := opd_own (T2 := []) (by rw [List.append_nil]; exact w2) o2 ekd
    have qq : q = true → Same H H2 ∧ p2.2 = s := fun hq' => by
      obtain ⟨h1, h2⟩ := hq hq'
      obtain ⟨s1, e1⟩ := q1 h1
      obtain ⟨s2, e2⟩ := q2 h2
      exact ⟨s1.trans s2, e2.trans e1⟩
    have w3 : W X.K S0 H0 ω2 p2.2 σ T H2 := by rw [List.append_assoc] at w2; exact w2.drop
    have fin : ∀ v : V, Im X.K H2 d v → okRes false w.m d = true → (Opd.val w.m d, p2.2) = (o, s') → Q v H2 := fun v im hk e => by
      cases e
      refine k v H2 ω2 (w3.pushIm im ?_) trivial qq
      rcases okRes_cases hk with f | f | ⟨f, _⟩
      · exact .inl f
      · exact .inr f
      · cases f
    split at e
    · rename_i hc
      split at e
      · rename_i hk
        obtain ⟨z1, F1, w1'⟩ := opd_own (T2 := push p2.1 y) w2 o1' eu
        obtain ⟨v, F', hR, h1, h2⟩ := own_idx w1' w2' ed
        refine hR _ (fin v ?_ hk (Option.some.inj e))
        cases hf : flat u.2 with
        | true => exact h1 hf
        | false =>
          rw [hf] at hc
          simp only [Bool.or_eq_true, decide_eq_true_eq, Bool.or_false] at hc
          rcases hc with hc | hc
          · exact Own1.im_flat hc (h2 hf).1
          · have := (h2 hf).1
            rw [show u.1 - 1 = 0 by omega] at this
            exact this
      · cases e
    · rename_i hc
      split at e
      · rename_i i hp hw
        cases e
        obtain ⟨sl, es, hm, hd'⟩ := res_ref (hp ▸ eu)
        have hσ : σ[i]? = some (some x) := by rw [hp] at o1; exact o1
        obtain ⟨v0, hv0, own⟩ := w3.slot i sl es
        rw [hσ] at hv0
        cases hv0
        rw [hd'] at ed
        obtain ⟨v, F', hR, h1, h2⟩ := own_idx own w2' ed
        refine hR _ ?_
        have hf : flat sl.d = false := by
          cases hf : flat sl.d with
          | false => rfl
          | true => rw [hd', hf] at hc; simp at hc
        obtain ⟨o', f', kv⟩ := h2 hf
        refine k v H2 ω2 (by simpa [push] using w3) ⟨sl, d, F', es, ed, o', fun b hb => (w3.dom b _ (f' b hb)).1, x, hσ, kv.resolve_left fun z => ?_⟩ qq
        rw [z] at hc
        simp at hc
      · cases e
end
end RV

set_option maxRecDepth 100000
/-! Ev9: slices. -/
namespace RV
open PySem L2 PySem.Spec PyProof.Rows
section
variable {prog : Program} {w : World} {A : Around} {E : Value → Shared → Prop} {s : Shared}
theorem applied_rev {sl : Addr} {t : Tok} {n : Nat} {Q : Int × Int × Nat → Shared → Prop} (hs : s.heap.IsSliceOf sl .none .none (.int (-1) t)) (h : Q ((n : Int) - 1, -1, n) s) :
    wpAny (model prog w) A (Builtin.Slice.sliceApplied (.ref sl) (pure (n : Int))) Q E s := by
  obtain ⟨os, hos, hcs, hds⟩ := id hs
  unfold Builtin.Slice.sliceApplied Builtin.Slice.sliceFields
  refine wpAny_bind (wpAny_bind (wpAny_field hos hds (x := .none) rfl (wpAny_bind (wpAny_field hos hds (x := .none) rfl (wpAny_bind (wpAny_field hos hds (x := .int (-1) t) rfl (wpAny_pure ?_)))))))
  refine wpAny_bind (HT.slicePart_ (.int (-1) t) ?_)
  show wpAny _ _ (if ((-1 : Int) == 0) = true then _ else _) _ _ s
  rw [if_neg (by decide)]
  refine wpAny_bind (slicePart_none (wpAny_bind (slicePart_none (wpAny_bind (wpAny_pure ?_)))))
  show wpAny _ _ (pure ((n : Int) - 1, (-1 : Int), Builtin.Slice.slicePlaces ((n : Int) - 1) (-1) (-1))) _ _ s
  have e : Builtin.Slice.slicePlaces ((n : Int) - 1) (-1) (-1) = n := by
    unfold Builtin.Slice.slicePlaces
    rw [if_neg (by decide)]
    split
    · simp only [Int.neg_neg, Int.ediv_one]
      omega
    · omega
  rw [e]
  exact wpAny_pure h
theorem fm_congr {α β : Type} {f g : α → Option β} : ∀ {l : List α}, (∀ x ∈ l, f x = g x) → l.filterMap f = l.filterMap g
  | [], _ => rfl
  | a :: r, h => by
    rw [List.filterMap_cons, List.filterMap_cons, h a (by simp), fm_congr fun x hx => h x (by simp [hx])]
theorem rev_items (xs : Array Value) : ((List.range xs.size).filterMap fun (k : Nat) => xs[((xs.size : Int) - 1 + (k : Int) * (-1)).toNat]?).toArray = xs.toList.reverse.toArray := by
  congr 1
  have e : (List.range xs.size).filterMap (fun (k : Nat) => xs[((xs.size : Int) - 1 + (k : Int) * (-1)).toNat]?) = (List.range xs.size).filterMap (fun (k : Nat) => xs.toList.reverse[k]?) := by
    apply fm_congr
    intro k hk
    rw [List.mem_range] at hk
    rw [List.getElem?_reverse (by simpa using hk), Array.length_toList]
    have : ((xs.size : Int) - 1 + (k : Int) * (-1)).toNat = xs.size - 1 - k := by omega
    rw [this, Array.getElem?_toList]
  rw [e]
  have h2 : ∀ (l : List Value), (List.range l.length).filterMap (fun (k : Nat) => l[k]?) = l := by
    intro l
    induction l with
    | nil => rfl
    | cons a r ih =>
      rw [List.length_cons, List.range_succ_eq_map, List.filterMap_cons]
      simp only [List.getElem?_cons_zero, List.filterMap_map]
      congr 1
  have := h2 xs.toList.reverse
  rw [List.length_reverse, Array.length_toList] at this
  rw [this]
theorem getItem_tuple_back {t sl : Addr} {items : Array Value} {tk : Tok} {Q : Value → Shared → Prop} (ht : IsTup s.heap t items) (hs : s.heap.IsSliceOf sl .none .none (.int (-1) tk))
    (h : Q (.ref s.heap.objs.size) { s with heap := s.heap.push { cls := .type "tuple", data := .seq items.toList.reverse.toArray } })
    (hsz : items.size ≤ sizeLine) : wpAny (model prog w) A (getItem (.ref t) (.ref sl)) Q E s := by
  have htake : sizeOk (.seq items.toList.reverse.toArray) := by
    show items.toList.reverse.toArray.size ≤ sizeLine
    rw [List.size_toArray, List.length_reverse, Array.length_toList]
    exact hsz
  obtain ⟨os, hos, hcs, hds⟩ := id hs
  have hTs : s.TypeIs (.ref sl) "slice" := ⟨os, hos, hcs⟩
  unfold getItem
  try with_reducible refine wpAny_holding ?_
  first | refine wpAny_bind (wpAny_pure ?_) | skip
  refine wpAny_bind (wpAny_sequenceKey ht.typeIs (by decide) ?_)
  refine wpAny_bind (wpAny_callSpecial?_slot (name := Str.ofString "__getitem__") ht.typeIs PyProof.Rows.slot_tuple_getitem
    (wpAny_call_entry PyProof.Rows.slot_tuple_getitem ht.typeIs entry_tuple_getitem ?_ (args_tuple_getitem _ _)))
  show wpAny _ _ (Builtin.Tuple.tupleItemsOf (.ref t) >>= _) _ _ s
  refine wpAny_bind (tupleItemsOf_ ht ?_)
  refine wpAny_bind (wpAny_typeOf hTs ?_)
  rw [if_pos (by decide)]
  refine wpAny_bind (applied_rev hs ?_)
  have hno : ¬ ((((items.size : Int) - 1 == 0) && (-1 : Int) == 1 && items.size == items.size) = true) := by simp
  show wpAny _ _ (if (((items.size : Int) - 1 == 0) && (-1 : Int) == 1 && items.size == items.size) = true then _ else _) _ _ s
  rw [if_neg hno, rev_items]
  first
    | exact wpAny_bind (m := Builtin.Tuple.tupleExact _) (wpAny_newObj_type (wpAny_pure ⟨_, rfl, wpAny_pure h⟩) htake)
    | exact wpAny_bind (m := Builtin.Tuple.tupleExact _) (wpAny_newObj_type (wpAny_bind (wpAny_pure (wpAny_pure ⟨_, rfl, wpAny_pure h⟩))) htake)
    | exact wpAny_bind (wpAny_bind (m := Builtin.Tuple.tupleExact _) (wpAny_newObj_type (wpAny_pure (wpAny_pure ⟨_, rfl, wpAny_pure h⟩)) htake))
    | exact wpAny_bind (wpAny_bind (m := Builtin.Tuple.tupleExact _) (wpAny_newObj_type (wpAny_pure ⟨_, rfl, wpAny_pure h⟩) htake))
end
section
variable {X : Cx} {e a b c : Expr} {es : List Expr} {r ra rb rc : REv} {q qa qb qc : Bool} {pos : Pos}
/-- x[::-1] -/
def rRevA (K : PySem.W.Frag) : V → Hp → VK → Prop := fun x H Q => (∃ a xs, x = .ref a ∧ SqL K H a xs ∧ ∀ p, H p = none → Q (.ref p) (upd H p (.lst xs.reverse))) ∨ (∃ a xs, x = .ref a ∧ SqT K H a xs ∧ NewT Q H xs.reverse)
def tRevA (K : PySem.W.Frag) (te : TE) : TE := fun σ H Q => te σ H fun x H1 => rRevA K x H1 Q
theorem pe_revA {te : TE} {k : Nat} {p1 p2 p3 pos : Pos} (he : PE X e te) : PE X (.Subscript e (.Slice none none (some (.UnaryOp .USub (.Constant (.int 1) k p1) p2)) p3) pos) (tRevA X.K te) := by
  refine ⟨fun pins s σ H Q I h => ?_⟩
  refine Subscript_ (thn (he.run pins s σ H _ I h) fun v s1 ⟨x, H1, I1, r1, q1⟩ => ?_)
  have hst : PO X (some (.UnaryOp .USub (.Constant (.int 1) k p1) p2)) (tPart (tUn (rU fun i => .int (-i)) (tC (.int 1)))) := po_some (pe_un un_neg pe_int)
  refine wpAny_Slice (thn (po_none.run pins s1 σ H1 (fun o H2 => o = none ∧ H2 = H1) I1 ⟨rfl, rfl⟩) fun vl s2 ⟨l, H2, I2, pl, el, e2⟩ => ?_)
  subst el e2
  refine thn (po_none.run pins s2 σ H2 (fun o H3 => o = none ∧ H3 = H2) I2 ⟨rfl, rfl⟩) fun vu s3 ⟨u, H3, I3, pu, eu, e3⟩ => ?_
  subst eu e3
  refine thn (hst.run pins s3 σ H3 (fun o H4 => o = some (-1) ∧ H4 = H3) I3 ⟨1, rfl, -1, rfl, rfl, rfl⟩) fun vs s4 ⟨o, H4, I4, ps, eo, e4⟩ => ?_
  subst eo e4
  have I5 : Inv X pins σ H4 { s4 with heap := s4.heap.push { cls := .type "slice", data := .fields #[vl, vu, vs] } } := I4.kept (t' := s4.toks) fun b ob q => Heap.get?_push_of_some _ q
  rcases q1 with ⟨a, xs, ex, hx, q⟩ | ⟨a, xs, ex, hx, q⟩
  · subst ex
    cases r1
    obtain ⟨its, r, ht, hz⟩ := I5.list hx
    have hlen := r.length
    show wpAny (model X.prog X.w) X.A (subscriptTail e (.Slice none none (some (.UnaryOp .USub (.Constant (.int 1) k p1) p2)) p3) (.ref a) (.ref s4.heap.objs.size)) (EP X pins σ Q) X.xe { s4 with heap := s4.heap.push { cls := .type "slice", data := .fields #[vl, vu, vs] } }
    refine tail_any (ops := [.ref a, .ref s4.heap.objs.size]) ht.isList.typeIs (PySem.slot_list_getitem.lookup) ?_ (by with_unfolding_all rfl)
    refine wpAny_getItem_list_slice ht.isList (Heap.IsSliceOf.new _ vl vu vs) pl pu ps (by decide) ?_ (by rw [List.size_toArray]; omega)
    rw [PySem.W.krv_pick]
    refine ⟨.ref _, _, I5.laid (t' := s4.toks) (o := .lst xs.reverse) (fun b ob q => Heap.get?_push_of_some _ q) (Nat.le_refl _) ?_, rfl, q _ (I5.hok.fresh (Nat.le_refl _))⟩
    exact ⟨by rw [List.length_reverse]; exact hz, _, 0, r.reverse, Heap.get?_push_size _ rfl⟩
  · subst ex
    cases r1
    obtain ⟨its, r, ht, hz⟩ := I5.tuple hx
    have hlen := r.length
    cases pl
    cases pu
    cases ps with
    | int i tk =>
    show wpAny (model X.prog X.w) X.A (subscriptTail e (.Slice none none (some (.UnaryOp .USub (.Constant (.int 1) k p1) p2)) p3) (.ref a) (.ref s4.heap.objs.size)) (EP X pins σ Q) X.xe { s4 with heap := s4.heap.push { cls := .type "slice", data := .fields #[.none, .none, .int (-1) tk] } }
    refine tail_any (ops := [.ref a, .ref s4.heap.objs.size]) ht.typeIs (PyProof.Rows.slot_tuple_getitem.lookup) ?_ (by with_unfolding_all rfl)
    refine getItem_tuple_back ht (Heap.IsSliceOf.new _ .none .none (.int (-1) tk)) ?_ (by rw [List.size_toArray]; omega)
    exact ep_newT I5 r.reverse (by rw [List.length_reverse]; exact hz) q
theorem ImA.rev {K : PySem.W.Frag} {H : Hp} {ds : List D} {xs : List V} (h : ImA K H ds xs) : ImA K H ds.reverse xs.reverse := by
  induction ds generalizing xs with
  | nil => unfold ImA at h; subst h; exact .nil
  | cons d ds ih =>
    unfold ImA at h
    obtain ⟨v, r, rfl, q, z⟩ := h
    rw [List.reverse_cons, List.reverse_cons]
    exact (ih z).append (.cons q .nil)
theorem val_rev {K : PySem.W.Frag} : Val1 K (rRevA K) revD := by
  intro H x z1 m1 d1 F1 d Q o1 e k
  unfold revD at e
  dsimp only at e
  split at e
  · split at e
    · rename_i hk
      cases e
      obtain ⟨a, xs, rfl, q, im⟩ := kids_im o1 hk
      exact .inl ⟨a, xs, rfl, q, fun p hp => k _ _ (.list hp im.rev)⟩
    · cases e
  · cases e
    obtain ⟨a, xs, rfl, q, im⟩ := own_tup o1
    exact .inr ⟨a, xs, rfl, q.1, fun p o hp ho => k _ _ (.tup hp ho im.rev)⟩
  · cases e
theorem pe_revE {m k : Nat} {p1 p2 p3 : Pos} (hq : q = true → qa = true) (ha : PE X a (tR X.K ra qa)) : PE X (.Subscript a (.Slice none none (some (.UnaryOp .USub (.Constant (.int 1) k p1) p2)) p3) pos) (tR X.K (oneEv ra revD m) q) :=
  pe_imp (pe_gz (pe_revA ha)) fun σ H Q h => one_tR val_rev hq h

/-! ### x[lo:hi] -/
def tPO (K : PySem.W.Frag) (r : RO) : TO := fun σ H Q => ∃ S0 H0 ω a T o a', W K S0 H0 ω a σ T H ∧ r a = some (o, a') ∧ ∀ H' ω', W K S0 H0 ω' a' σ T H' → Q o H'
theorem po_imp {o : Option Expr} {t t' : TO} (h : PO X o t) (i : ∀ σ H Q, t' σ H Q → t σ H Q) : PO X o t' :=
  ⟨fun pins s σ H Q I hw => h.run pins s σ H Q I (i _ _ _ hw)⟩
theorem po_noneE : PO X none (tPO X.K fun a => some (none, a)) := po_imp po_none fun σ H Q ⟨S0, H0, ω, a, T, o, a', w, e, k⟩ => by
  cases e
  exact k H ω w
theorem po_someE (h : PE X e (tR X.K r qa)) : PO X (some e) (tPO X.K (partEv r)) := po_imp (po_some h) fun σ H Q ⟨S0, H0, ω, a, T, o, a', w, ee, k⟩ => by
  unfold partEv at ee
  simp only [Option.bind_eq_some_iff] at ee
  obtain ⟨p, e1, ee⟩ := ee
  split at ee
  · rename_i m i hp
    cases ee
    refine ⟨S0, H0, ω, a, T, p.1, p.2, w, e1, fun v H' ω' w' ov _ => ?_⟩
    rw [hp] at w'
    have := w'.last.im_flat rfl
    simp only [Im] at this
    exact ⟨i, this, k H' ω' w'.drop⟩
  · cases ee
/-- t[lo:hi]: the whole of it is t itself -/
def rSlN (K : PySem.W.Frag) : V → Option Int → Option Int → Hp → VK → Prop := fun x lo hi H Q => ∃ a xs, x = .ref a ∧ SqT K H a xs ∧
  (HT.sIx xs.length 0 lo = 0 ∧ HT.sIx xs.length xs.length hi = xs.length → Q (.ref a) H) ∧ (¬ (HT.sIx xs.length 0 lo = 0 ∧ HT.sIx xs.length xs.length hi = xs.length) → NewT Q H (cutV xs lo hi))
theorem sl_tupN : SlR X (rSlN X.K) := by
  intro pins s σ H x v vl vu lo hi sl Q I rx hs pl pu h
  obtain ⟨a, xs, rfl, hx, q1, q2⟩ := h
  cases rx
  obtain ⟨its, r, ht, hz⟩ := I.tuple hx
  have hlen : its.toArray.size = xs.length := by rw [List.size_toArray]; exact r.length.symm
  refine ⟨"tuple", _, PyProof.Rows.slot_tuple_getitem.lookup, ht.typeIs, ?_⟩
  by_cases hw : HT.sIx xs.length 0 lo = 0 ∧ HT.sIx xs.length xs.length hi = xs.length
  · exact L2.getItem_tuple_whole ht hs pl pu (by rw [hlen]; exact hw) ⟨.ref a, H, I, rfl, q1 hw⟩
  · refine HT.getItem_tuple_cut ht hs pl pu (by rw [hlen]; exact hw) ?_ (by rw [hlen]; exact hz)
    rw [hlen]
    exact ep_newT I ((r.drop (HT.sIx xs.length 0 lo)).take (HT.sIx xs.length xs.length hi - HT.sIx xs.length 0 lo)) (Nat.le_trans (cutV_length xs lo hi) hz) (q2 hw)
def rSlAll (K : PySem.W.Frag) : V → Option Int → Option Int → Hp → VK → Prop := fun x lo hi H Q => rSlL K x lo hi H Q ∨ rSlN K x lo hi H Q
theorem ImA.cut {K : PySem.W.Frag} {H : Hp} {ds : List D} {xs : List V} (h : ImA K H ds xs) (i k : Nat) : ImA K H ((ds.drop i).take k) ((xs.drop i).take k) := by
  rw [ImA.iff] at h ⊢
  refine ⟨by simp [h.1], fun j e x h1 h2 => ?_⟩
  rw [List.getElem?_take] at h1 h2
  split at h1
  · rename_i hj
    rw [if_pos hj] at h2
    rw [List.getElem?_drop] at h1 h2
    exact h.2 _ e x h1 h2
  · cases h1
theorem cut_whole {ds : List D} {lo hi : Option Int} (h : HT.sIx ds.length 0 lo = 0 ∧ HT.sIx ds.length ds.length hi = ds.length) : cutD ds lo hi = ds := by
  unfold cutD
  rw [h.1, h.2]
  simp
theorem pe_slcE {m : Nat} {lo hi : Option Expr} {rl rh : RO} {p2 : Pos} (ha : PE X a (tR X.K ra qa)) (hl : PO X lo (tPO X.K rl)) (hh : PO X hi (tPO X.K rh)) : PE X (.Subscript a (.Slice lo hi none p2) pos) (tR X.K (slcEv ra rl rh m) false) :=
  pe_imp (pe_gz (pe_slice (sl_list.or sl_tupN) ha hl hh)) fun σ H Q ⟨S0, H0, ω, s, T, o, s', w, e, k⟩ => by
    unfold slcEv at e
    simp only [Option.bind_eq_some_iff] at e
    obtain ⟨p, ep, l, el, h, eh, e⟩ := e
    split at e
    · cases e
    rename_i hd
    rw [Bool.not_eq_true] at hd
    simp only [Option.bind_eq_some_iff] at e
    obtain ⟨u, eu, d, ed, e⟩ := e
    split at e
    · rename_i hk
      cases e
      refine ⟨S0, H0, ω, s, T, p.1, p.2, w, ep, fun x H1 ω1 w1 o1 _ => ⟨S0, H0, ω1, p.2, _, l.1, l.2, w1, el, fun H2 ω2 w2 => ⟨S0, H0, ω2, l.2, _, h.1, h.2, w2, eh, fun H3 ω3 w3 => ?_⟩⟩⟩
      have o3 : OpV X.K σ h.2 H3 p.1 x := opv_any o1 hd
      obtain ⟨z1, F1, w4⟩ := opd_own (T2 := []) (by rw [List.append_nil]; exact w3) o3 eu
      have fin : ∀ v H', Made X.K H3 d v H' → Gz (Q v) H' := fun v H' mk => (w3.drop.made mk hk).mono fun H4 ⟨ω4, w5, s⟩ => k v H4 ω4 w5 trivial fun z => by cases z
      unfold slcD at ed
      split at ed
      · rename_i ds hds
        split at ed
        · rename_i hki
          cases ed
          rw [hds] at hki w4
          obtain ⟨a, xs, rfl, q, im⟩ := kids_im w4 hki
          refine .inl ⟨a, xs, rfl, q, fun p hp => fin _ _ (.list hp ?_)⟩
          unfold cutD cutV
          rw [im.len]
          exact im.cut _ _
        · cases ed
      · rename_i ds hds
        cases ed
        rw [hds] at w4
        obtain ⟨a, xs, rfl, q, im⟩ := own_tup w4
        refine .inr ⟨a, xs, rfl, q.1, fun hw => ?_, fun _ p o hp ho => fin _ _ (.tup hp ho ?_)⟩
        · rw [← im.len] at hw
          rw [cut_whole hw] at fin
          exact fin _ _ (.im rfl (im_tup q im))
        · unfold cutD cutV
          rw [im.len]
          exact im.cut _ _
      · cases ed
    · cases e
end
end RV

set_option maxRecDepth 100000
/-! Ev10: built-in functions. -/
namespace RV
open PySem L2 PySem.Spec PyProof.Rows
section
variable {X : Cx} {pins : List (Addr × Obj)} {σ : L2.St} {H : Hp} {s : Shared}
/-! ### data in the heap -/
theorem kv_keys {vs : List (Key × Value)} {es : List DictEntry} (p : Pairs (mixKind X.prog X.w) es vs) : ∀ {kvs : List (Key × V)}, KV kvs vs →
    ReadsAll s.heap (es.map (·.key)) (kvs.map fun q => keyD q.1) [] ∧ Vals (kvs.map (·.2)) (es.map (·.val)) := by
  induction p with
  | nil => intro kvs r; cases r; exact ⟨.nil, .nil⟩
  | cons h1 h2 h3 ih =>
    intro kvs r
    cases r with
    | cons e t =>
      rename_i k1 v1 r1 a1 b1 c1
      obtain ⟨q, q2⟩ := ih t
      obtain ⟨e1, e2⟩ := e
      have hk : keyIs b1.1 k1.key = true := by rw [e1]; exact h1
      refine ⟨?_, .cons (by show L2.RelV b1.2 k1.val; rw [h2]; exact e2) q2⟩
      rcases keyIs_shape hk with ⟨i, t, h4, h5⟩ | ⟨x, t, h4, h5⟩
      · exact .cons (as := []) (by show Reads s.heap k1.key (keyD b1.1) []; rw [h5, h4]; exact Reads.int i t) q
      · exact .cons (as := []) (by show Reads s.heap k1.key (keyD b1.1) []; rw [h5, h4]; exact Reads.str x t) q
def Tr (H : Hp) (as : List Addr) : Prop := ∀ b ∈ as, H b ≠ none
theorem Tr.nil : Tr H [] := fun b h => by simp at h
theorem Tr.app {as bs : List Addr} (h : Tr H as) (k : Tr H bs) : Tr H (as ++ bs) := fun b q => by
  rcases List.mem_append.mp q with q | q
  · exact h b q
  · exact k b q
theorem Tr.cons {a : Addr} {as : List Addr} (h : H a ≠ none) (k : Tr H as) : Tr H (a :: as) := fun b q => by
  rcases List.mem_cons.mp q with q | q
  · subst q; exact h
  · exact k b q
theorem rd_tr {a : Addr} {u : HO} (h : Rd H a u) : H a ≠ none := by
  rcases h with h | ⟨o, h⟩ <;> rw [h] <;> simp
theorem ints_read {h : Heap} : ∀ {ks : List Int} {us : List Value}, Vals (ks.map V.int) us → ReadsAll h us (ks.map PyData.int) []
  | [], _, .nil => .nil
  | k :: ks, _, .cons r t => by
    obtain ⟨tk, rfl⟩ := r
    exact .cons (as := []) (Reads.int k tk) (ints_read t)
theorem tkeys_read (I : Inv X pins σ H s) : ∀ (ts : List (List Int × Addr × Value)), (∀ x ∈ ts, TuA X.K H x.2.1 (x.1.map V.int)) → ReadsAll s.heap ((ts.map tEnt).map (·.key)) (ts.map fun x => PyData.tuple (x.1.map .int)) []
  | [], _ => .nil
  | x :: ts, h => by
    obtain ⟨its, rv, ⟨o, ho, hc, n, hd⟩, _⟩ := I.tuple (h x (by simp)).1
    have h1 : Reads s.heap (.ref x.2.1) (.tuple (x.1.map .int)) [] := Reads.tuple ho hc hd (by simpa using ints_read rv)
    exact .cons (as := []) h1 (tkeys_read I ts fun y hy => h y (by simp [hy]))
/-- a dict, its values told -/
theorem dict_reads (I : Inv X pins σ H s) {a : Addr} {u : HO} {kds : List (D × D)} {xs : List V} (r : Rd H a u) (du : DctIs X.K H a u (kds.map (·.1)) xs)
    (kids : ∀ us, Vals xs us → ∃ as, ReadsAll s.heap us (kds.map (·.2)) as ∧ Tr H as) : ∃ as, Reads s.heap (.ref a) (.dict kds) as ∧ Tr H as := by
  rcases du with ⟨kvs, rfl, ek, rfl⟩ | ⟨ob, ts, rfl, hs, ne, hx, ek, vt, hk⟩
  rotate_left
  · obtain ⟨hg, _⟩ : ObjOk X.prog X.w H s.heap a (TdO a ob) := r.ok I.hok
    obtain ⟨es, ep, e1, e2⟩ := hx.dt
    obtain ⟨as, q3, t⟩ := kids _ vt
    have q1 := tkeys_read I ts hk
    rw [← ek] at q1
    have ev : es.toList.map (·.val) = ts.map (·.2.2) := by rw [e2, List.map_map]; rfl
    exact ⟨_, Reads.dict hg hx.ex.1 e1 (by rw [e2]; exact q1) (by rw [ev]; exact q3), .app (.cons (rd_tr r) .nil) t⟩
  obtain ⟨_, _, vs, kv, o, es, ep, e1, e2, e3, _, pr, _⟩ := dk_rd I.hok r
  obtain ⟨q1, q2⟩ := kv_keys (X := X) (s := s) pr kv
  obtain ⟨as, q3, t⟩ := kids _ q2
  rw [← ek] at q1
  exact ⟨_, Reads.dict e1 e2.1 e3 q1 q3, .app (.cons (rd_tr r) .nil) t⟩
theorem lst_reads (I : Inv X pins σ H s) {a : Addr} {ds : List D} {xs : List V} (r : Rd H a (.lst xs)) (kids : ∀ us, Vals xs us → ∃ as, ReadsAll s.heap us ds as ∧ Tr H as) : ∃ as, Reads s.heap (.ref a) (.list ds) as ∧ Tr H as := by
  obtain ⟨us, n, rv, _, _, e⟩ := rd_lst I r
  obtain ⟨as, q, t⟩ := kids us rv
  exact ⟨_, Reads.list e rfl rfl (by simpa using q), .cons (rd_tr r) t⟩
mutual
theorem im_reads (I : Inv X pins σ H s) : ∀ (d : D) (v : V) (u : Value), Im X.K H d v → L2.RelV v u → ∃ as, Reads s.heap u d as ∧ Tr H as
  | .none, v, u, h, r => by simp only [Im] at h; subst h; cases r; exact ⟨_, Reads.none, .nil⟩
  | .bool b, v, u, h, r => by simp only [Im] at h; subst h; cases r; exact ⟨_, Reads.bool b, .nil⟩
  | .int i, v, u, h, r => by simp only [Im] at h; subst h; obtain ⟨t, rfl⟩ := r; exact ⟨_, Reads.int i t, .nil⟩
  | .str x, v, u, h, r => by simp only [Im] at h; subst h; obtain ⟨t, rfl⟩ := r; exact ⟨_, Reads.str x t, .nil⟩
  | .tuple ds, v, u, h, r => by
    simp only [Im] at h
    obtain ⟨a, xs, rfl, q, im⟩ := h
    cases r
    obtain ⟨its, rv, ⟨o, ho, hc, n, hd⟩, _⟩ := I.tuple q.1
    obtain ⟨as, hr, t⟩ := ima_reads I ds xs its im rv
    exact ⟨_, Reads.tuple ho hc hd (by simpa using hr), t⟩
  | .list ds, v, u, h, r => by
    simp only [Im] at h
    obtain ⟨a, xs, rfl, q, im⟩ := h
    cases r
    exact lst_reads I q.rd fun us rv => ima_reads I ds xs us im rv
  | .dict kds, v, u, h, r => by
    simp only [Im] at h
    obtain ⟨a, o, w, xs, rfl, q, du, im⟩ := h
    cases r
    exact dict_reads I (.inr ⟨o, q⟩) du fun us rv => imk_reads I kds xs us im rv
theorem ima_reads (I : Inv X pins σ H s) : ∀ (ds : List D) (vs : List V) (us : List Value), ImA X.K H ds vs → Vals vs us → ∃ as, ReadsAll s.heap us ds as ∧ Tr H as
  | [], vs, us, h, r => by simp only [ImA] at h; subst h; cases r; exact ⟨_, ReadsAll.nil, .nil⟩
  | d :: ds, vs, us, h, r => by
    simp only [ImA] at h
    obtain ⟨v, w, rfl, q, z⟩ := h
    cases r with
    | cons r1 r2 =>
      obtain ⟨as, h1, t1⟩ := im_reads I d v _ q r1
      obtain ⟨bs, h2, t2⟩ := ima_reads I ds w _ z r2
      exact ⟨_, ReadsAll.cons h1 h2, t1.app t2⟩
theorem imk_reads (I : Inv X pins σ H s) : ∀ (ds : List (D × D)) (vs : List V) (us : List Value), ImK X.K H ds vs → Vals vs us → ∃ as, ReadsAll s.heap us (ds.map (·.2)) as ∧ Tr H as
  | [], vs, us, h, r => by simp only [ImK] at h; subst h; cases r; exact ⟨_, ReadsAll.nil, .nil⟩
  | (k, d) :: ds, vs, us, h, r => by
    simp only [ImK] at h
    obtain ⟨v, w, rfl, q, z⟩ := h
    cases r with
    | cons r1 r2 =>
      obtain ⟨as, h1, t1⟩ := im_reads I d v _ q r1
      obtain ⟨bs, h2, t2⟩ := imk_reads I ds w _ z r2
      exact ⟨_, ReadsAll.cons h1 h2, t1.app t2⟩
end
theorem kids_reads (I : Inv X pins σ H s) : ∀ {ds : List D} {xs : List V}, ds.length = xs.length → (∀ (i : Nat) e x, ds[i]? = some e → xs[i]? = some x → ∀ u, L2.RelV x u → ∃ as, Reads s.heap u e as ∧ Tr H as) →
    ∀ us, Vals xs us → ∃ as, ReadsAll s.heap us ds as ∧ Tr H as
  | [], [], _, _, us, r => by cases r; exact ⟨_, ReadsAll.nil, .nil⟩
  | [], _ :: _, l, _, _, _ => by cases l
  | _ :: _, [], l, _, _, _ => by cases l
  | d :: ds, x :: xs, l, h, us, r => by
    cases r with
    | cons r1 r2 =>
      obtain ⟨as, h1, t1⟩ := h 0 d x rfl rfl _ r1
      obtain ⟨bs, h2, t2⟩ := kids_reads I (by simpa using l) (fun i e y h1 h2 => h (i + 1) e y (by simpa using h1) (by simpa using h2)) _ r2
      exact ⟨_, ReadsAll.cons h1 h2, t1.app t2⟩
theorem own1_reads (I : Inv X pins σ H s) : ∀ {m : Nat} {d : D} {v : V} {F : Addr → Prop}, Own1 X.K H m d v F → ∀ u, L2.RelV v u → ∃ as, Reads s.heap u d as ∧ Tr H as
  | 0, d, v, F, h, u, r => by unfold Own1 at h; exact im_reads I d v u h r
  | m + 1, d, v, F, h, u, r => by
    unfold Own1 at h
    rcases h with ⟨f, q⟩ | ⟨a, xs, ds, χ, e1, e2, fa, ha, l, q⟩ | ⟨a, w, xs, kvs, χ, e1, e2, fa, ha, du, q⟩
    · exact im_reads I d v u q r
    · subst e1 e2
      cases r
      exact lst_reads I (.inl ha) (kids_reads I l fun i e x h1 h2 => own1_reads I (q i e x h1 h2))
    · subst e1 e2
      cases r
      refine dict_reads I (.inl ha) du (kids_reads I (by rw [List.length_map, ← du.len, List.length_map]) fun i e x h1 h2 => ?_)
      rw [List.getElem?_map] at h1
      cases hk : kvs[i]? with
      | none => rw [hk] at h1; cases h1
      | some kv =>
        rw [hk] at h1
        cases h1
        exact own1_reads I (q i kv x hk h2)
theorem canLay_ints : ∀ ns : List Int, PyData.canLayAll0 (ns.map PyData.int) = true
  | [] => rfl
  | n :: r => by rw [List.map_cons, PyData.canLayAll0, canLay_ints r]; rfl
theorem own_reads (I : Inv X pins σ H s) {z : Bool} {m : Nat} {d : D} {v : V} {F : Addr → Prop} (h : Own X.K H z m d v F) {u : Value} (r : L2.RelV v u) :
    ∃ as, Reads s.heap u d as ∧ (m ≠ 99 → Tr H as) := by
  cases m with
  | zero =>
    obtain ⟨as, h1, h2⟩ := im_reads I d v u h r
    exact ⟨as, h1, fun _ => h2⟩
  | succ m =>
    unfold Own at h
    rcases h with ⟨f, q⟩ | ⟨a, xs, ds, χ, e1, e2, fa, ha, l, q⟩ | ⟨a, w, xs, kvs, χ, e1, e2, fa, ha, du, q⟩ | ⟨_, hm, a, ns, e1, e2, q⟩
    · obtain ⟨as, h1, h2⟩ := im_reads I d v u q r
      exact ⟨as, h1, fun _ => h2⟩
    · subst e1 e2
      cases r
      obtain ⟨as, h1, h2⟩ := lst_reads I ha.rd (kids_reads I l fun i e x h1 h2 => own1_reads I (q i e x h1 h2))
      exact ⟨as, h1, fun _ => h2⟩
    · subst e1 e2
      cases r
      obtain ⟨as, h1, h2⟩ := dict_reads I ha.rd du (kids_reads I (by rw [List.length_map, ← du.len, List.length_map]) fun i e x h1 h2 => by
        rw [List.getElem?_map] at h1
        cases hk : kvs[i]? with
        | none => rw [hk] at h1; cases h1
        | some kv =>
          rw [hk] at h1
          cases h1
          exact own1_reads I (q i kv x hk h2))
      exact ⟨as, h1, fun _ => h2⟩
    · subst e1 e2
      obtain ⟨as, h1⟩ := Dp.reads I _ _ _ (.lst q.sq (im_dps _ _ (im_ints ns) (canLay_ints ns))) r
      exact ⟨as, h1, fun n => absurd (by omega) n⟩
end
end RV

set_option maxRecDepth 100000
/-! Ev11: built-in functions, by data. -/
namespace RV
open PySem L2 PySem.Spec PyProof.Rows
section
variable {K : PySem.W.Frag} {H : Hp}
def OwnAll (K : PySem.W.Frag) (H : Hp) : List V → List (Nat × D) → Prop
  | [], us => us = []
  | v :: vs, us => ∃ u r, us = u :: r ∧ (∃ z F, Own K H z u.1 u.2 v F) ∧ OwnAll K H vs r
theorem opvs_own {S0 : Bk} {H0 : Hp} {ω : Addr → Option Hd} {s : A} {σ : L2.St} : ∀ {os : List Opd} {vs : List V} {T : List Tm} {us : List (Nat × D)}, W K S0 H0 ω s σ (T ++ pushs os vs) H → OpVs K σ s H os vs → resAll s os = some us → OwnAll K H vs us
  | [], vs, T, us, w, o, r => by
    cases o
    cases r
    rfl
  | o :: os, vs, T, us, w, ov, r => by
    obtain ⟨v, vr, rfl, o1, o2⟩ := ov
    simp only [resAll, Option.bind_eq_some_iff, Option.map_eq_some_iff] at r
    obtain ⟨x, e1, xs, e2, rfl⟩ := r
    have w' : W K S0 H0 ω s σ ((T ++ push o v) ++ pushs os vr) H := by rw [List.append_assoc]; exact w
    exact ⟨x, xs, rfl, opd_own w' o1 e1, opvs_own w' o2 e2⟩
theorem own_one {vs : List V} {u : Nat × D} (h : OwnAll K H vs [u]) : ∃ v, vs = [v] ∧ ∃ z F, Own K H z u.1 u.2 v F := by
  cases vs with
  | nil => cases h
  | cons v r =>
    obtain ⟨u', r', e, o, h⟩ := h
    cases e
    cases r with
    | nil => exact ⟨v, rfl, o⟩
    | cons _ _ => obtain ⟨_, _, e, _⟩ := h; cases e
theorem own_two {vs : List V} {u w : Nat × D} (h : OwnAll K H vs [u, w]) : ∃ v x, vs = [v, x] ∧ (∃ z F, Own K H z u.1 u.2 v F) ∧ ∃ z F, Own K H z w.1 w.2 x F := by
  cases vs with
  | nil => cases h
  | cons v r =>
    obtain ⟨u', r', e, o, h⟩ := h
    cases e
    obtain ⟨x, rfl, o2⟩ := own_one h
    exact ⟨v, x, rfl, o, o2⟩
def ValN (K : PySem.W.Frag) (r : List V → Hp → VK → Prop) (f : List (Nat × D) → Option D) : Prop :=
  ∀ (H : Hp) (vs : List V) (us : List (Nat × D)) (d : D) (Q : VK), OwnAll K H vs us → f us = some d → (∀ v H', Made K H d v H' → Q v H') → r vs H Q
end
section
variable {X : Cx} {q qs : Bool}
theorem call_tR {rs : RAs} {t : List V → Hp → VK → Prop} {f : List (Nat × D) → Option D} {m : Nat} {σ : L2.St} {H : Hp} {Q : VK} (hv : ValN X.K t f) (hq : q = true → qs = true)
    (h : tR X.K (callEv rs f m) q σ H Q) : tCB t (tAs X.K rs qs) σ H (fun v H' => Gz (Q v) H') := by
  obtain ⟨S0, H0, ω, a, T, o, a', w, e, k⟩ := h
  unfold callEv at e
  simp only [Option.bind_eq_some_iff] at e
  obtain ⟨p, ep, us, eu, d, ed, e⟩ := e
  split at e
  · rename_i hk
    cases e
    refine ⟨S0, H0, ω, a, T, p.1, p.2, w, ep, fun vs H1 ω1 w1 o1 q1 => ?_⟩
    refine hv H1 vs us d _ (opvs_own w1 o1 eu) ed fun v' H' mk => ?_
    refine (w1.drop.made mk hk).mono fun H3 ⟨ω3, w4, s⟩ => k v' H3 ω3 w4 trivial fun hq' => ?_
    obtain ⟨s1, e1⟩ := q1 (hq hq')
    exact ⟨s1.trans s, e1⟩
  · cases e

/-! ### the functions -/
def rLenAll (K : PySem.W.Frag) : List V → Hp → VK → Prop := fun vs H Q => (∃ x n, vs = [x] ∧ LenV K x H n ∧ Q (.int n) H) ∨ ((∃ a kvs, vs = [V.ref a] ∧ Rd H a (.dK kvs) ∧ Q (.int kvs.length) H) ∨ ∃ a ts, vs = [V.ref a] ∧ TDAt K H a ts ∧ Q (.int ts.length) H)
theorem cr_lenAll : CallR X (.builtin "len") (rLenAll X.K) := call_len.or (CallR.or (fun pins s σ H xs us Q I r h => by
  obtain ⟨a, kvs, rfl, ha, q⟩ := h
  obtain ⟨u, rfl, ru⟩ := vals1 r
  cases ru
  exact d_len I ha fun t s' I' => ⟨.int kvs.length, H, I', ⟨t, rfl⟩, q⟩) fun pins s σ H xs us Q I r h => by
  obtain ⟨a, ts, rfl, ha, q⟩ := h
  obtain ⟨u, rfl, ru⟩ := vals1 r
  cases ru
  obtain ⟨dd, hd, hz⟩ := td_of I ha
  exact call_len_dictH hd dd (by rw [sizeLine_eq] at hz; omega) ⟨.int ((ts.length : Nat) : Int), H, I.tok _, ⟨_, rfl⟩, q⟩)
theorem vn_len {K : PySem.W.Frag} : ValN K (rLenAll K) lenD := by
  intro H vs us d Q o e k
  unfold lenD at e
  split at e
  · obtain ⟨v, rfl, z, F, o1⟩ := own_one o
    cases e
    obtain ⟨a, xs, rfl, q, l⟩ := own_list o1
    exact .inl ⟨_, _, rfl, .inl ⟨xs, q, l⟩, k _ _ (.int _)⟩
  · obtain ⟨v, rfl, z, F, o1⟩ := own_one o
    cases e
    obtain ⟨a, xs, rfl, q, im⟩ := own_tup o1
    exact .inl ⟨_, _, rfl, .inr ⟨xs, q.1, im.len⟩, k _ _ (.int _)⟩
  · obtain ⟨v, rfl, z, F, o1⟩ := own_one o
    cases e
    obtain ⟨a, u, xs, rfl, r, du, l, _⟩ := own_dict o1
    rcases du with ⟨kvs, rfl, e1, e2⟩ | ⟨ob, ts, rfl, hs, ne, hx, ek, vt, hk⟩
    · have hl := congrArg List.length e1
      simp only [List.length_map] at hl
      refine .inr (.inl ⟨a, kvs, rfl, r, ?_⟩)
      rw [← hl]
      exact k _ _ (.int _)
    · have hl := congrArg List.length ek
      simp only [List.length_map] at hl
      refine .inr (.inr ⟨a, ts, rfl, .inr ⟨ob, r, hs, ne, hx, hk⟩, ?_⟩)
      rw [← hl]
      exact k _ _ (.int _)
  · obtain ⟨v, rfl, z, F, o1⟩ := own_one o
    split at e
    · rename_i hz
      cases e
      rw [own_str o1]
      exact .inl ⟨_, _, rfl, ⟨of_decide_eq_true hz, rfl⟩, k _ _ (.int _)⟩
    · cases e
  · cases e
theorem vn_abs {K : PySem.W.Frag} : ValN K (fun xs H Q => ∃ i, xs = [.int i] ∧ Q (.int (if i < 0 then -i else i)) H) absD := by
  intro H vs us d Q o e k
  unfold absD at e
  split at e
  · obtain ⟨v, rfl, z, F, o1⟩ := own_one o
    cases e
    rw [own_int o1]
    exact ⟨_, rfl, k _ _ (.int _)⟩
  · cases e
theorem vn_int {K : PySem.W.Frag} : ValN K (fun xs H Q => (∃ i, xs = [.int i] ∧ Q (.int i) H) ∨ ∃ k, xs = [.bl k] ∧ Q (.int (if k then 1 else 0)) H) intDs := by
  intro H vs us d Q o e k
  unfold intDs at e
  split at e
  · obtain ⟨v, rfl, z, F, o1⟩ := own_one o
    cases e
    rw [own_int o1]
    exact .inl ⟨_, rfl, k _ _ (.int _)⟩
  · obtain ⟨v, rfl, z, F, o1⟩ := own_one o
    cases e
    rw [own_bool o1]
    exact .inr ⟨_, rfl, k _ _ (.int _)⟩
  · cases e
theorem vn_bool {K : PySem.W.Frag} : ValN K (fun xs H Q => (∃ i, xs = [.int i] ∧ Q (.bl (i != 0)) H) ∨ ∃ k, xs = [.bl k] ∧ Q (.bl k) H) boolD := by
  intro H vs us d Q o e k
  unfold boolD at e
  split at e
  · obtain ⟨v, rfl, z, F, o1⟩ := own_one o
    cases e
    rw [own_int o1]
    exact .inl ⟨_, rfl, k _ _ (.bool _)⟩
  · obtain ⟨v, rfl, z, F, o1⟩ := own_one o
    cases e
    rw [own_bool o1]
    exact .inr ⟨_, rfl, k _ _ (.bool _)⟩
  · cases e
theorem vn_str {K : PySem.W.Frag} : ValN K (fun xs H Q => ∃ i : Int, xs = [.int i] ∧ i.natAbs.log2 < 1920 ∧ Q (.str (toString i)) H) strD := by
  intro H vs us d Q o e k
  unfold strD at e
  split at e
  · obtain ⟨v, rfl, z, F, o1⟩ := own_one o
    split at e
    · rename_i hz
      cases e
      rw [own_int o1]
      exact ⟨_, rfl, of_decide_eq_true hz, k _ _ (.str _)⟩
    · cases e
  · cases e
/-! lists of ints, of truth values -/
theorem asBools_eq : ∀ {ds : List D} {ns : List Bool}, asBools ds = some ns → ds = ns.map PyData.bool
  | [], ns, h => by cases h; rfl
  | d :: ds, ns, h => by
    unfold asBools at h
    split at h
    · rename_i hq; cases hq
    · rename_i hq
      cases hq
      simp only [Option.map_eq_some_iff] at h
      obtain ⟨r, h1, rfl⟩ := h
      rw [asBools_eq h1]; rfl
    · cases h
theorem ima_ints {K : PySem.W.Frag} {H : Hp} : ∀ {ns : List Int} {xs : List V}, ImA K H (ns.map PyData.int) xs → xs = ns.map V.int
  | [], xs, h => by simpa [ImA] using h
  | n :: r, xs, h => by
    simp only [List.map_cons, ImA, Im] at h
    obtain ⟨v, w, rfl, rfl, h⟩ := h
    rw [ima_ints h]; rfl
theorem ima_bools {K : PySem.W.Frag} {H : Hp} : ∀ {ns : List Bool} {xs : List V}, ImA K H (ns.map PyData.bool) xs → xs = ns.map V.bl
  | [], xs, h => by simpa [ImA] using h
  | n :: r, xs, h => by
    simp only [List.map_cons, ImA, Im] at h
    obtain ⟨v, w, rfl, rfl, h⟩ := h
    rw [ima_bools h]; rfl
theorem flat_ints (ns : List Int) : (ns.map PyData.int).all flat = true := by
  rw [List.all_map]; exact List.all_eq_true.mpr fun x _ => rfl
theorem flat_bools (ns : List Bool) : (ns.map PyData.bool).all flat = true := by
  rw [List.all_map]; exact List.all_eq_true.mpr fun x _ => rfl
theorem own_ints {K : PySem.W.Frag} {H : Hp} {z : Bool} {m : Nat} {ns : List Int} {v : V} {F : Addr → Prop} (h : Own K H z m (.list (ns.map PyData.int)) v F) : ∃ a, v = .ref a ∧ SqL K H a (ns.map V.int) := by
  obtain ⟨a, xs, rfl, q, im⟩ := kids_im h (by show (decide (m ≤ 1) || (ns.map PyData.int).all flat) = true; rw [flat_ints, Bool.or_true])
  rw [ima_ints im] at q
  exact ⟨a, rfl, q⟩
theorem own_bools {K : PySem.W.Frag} {H : Hp} {z : Bool} {m : Nat} {ns : List Bool} {v : V} {F : Addr → Prop} (h : Own K H z m (.list (ns.map PyData.bool)) v F) : ∃ a, v = .ref a ∧ SqL K H a (ns.map V.bl) := by
  obtain ⟨a, xs, rfl, q, im⟩ := kids_im h (by show (decide (m ≤ 1) || (ns.map PyData.bool).all flat) = true; rw [flat_bools, Bool.or_true])
  rw [ima_bools im] at q
  exact ⟨a, rfl, q⟩
def rSumAll (K : PySem.W.Frag) : List V → Hp → VK → Prop := fun vs H Q => rSum K vs H Q ∨ ∃ (a : Addr) (ns : List Int), vs = [V.ref a] ∧ SqT K H a (ns.map V.int) ∧ Q (.int ns.sum) H
theorem cr_sumAll (hc : X.calm = true) : CallR X (.builtin "sum") (rSumAll X.K) := (cr_sum hc).or fun pins s σ H xs us Q I r h => by
  obtain ⟨a, ns, rfl, hq, q⟩ := h
  obtain ⟨its, rv, hl, _⟩ := I.tuple hq
  rw [Vals.ref1 r]
  have hi := rv.ints
  obtain ⟨xs, hx⟩ := hi.allInts.items
  have hn : numsOf its.toArray.toList = ns := by rw [show its.toArray.toList = its from rfl, hi.numsOf]
  rw [hx] at hl hn
  rw [nums_intItems] at hn
  refine PySem.W.ktm_sumG (I.ok.hd hc) hl fun h' tk t' hk => ?_
  have e : preSum (numAt xs) xs.size = ns.sum := by rw [preSum_eq, List.take_of_length_le (by simp), hn]
  rw [e]
  exact ⟨.int _, H, I.kept hk, ⟨_, rfl⟩, q⟩
theorem vn_sum {K : PySem.W.Frag} : ValN K (rSumAll K) sumD := by
  intro H vs us d Q o e k
  unfold sumD at e
  split at e
  · obtain ⟨v, rfl, z, F, o1⟩ := own_one o
    simp only [Option.map_eq_some_iff] at e
    obtain ⟨ns, h, rfl⟩ := e
    rw [asInts_eq h] at o1
    obtain ⟨a, rfl, q⟩ := own_ints o1
    exact .inl ⟨a, ns, rfl, q, k _ _ (.int _)⟩
  · obtain ⟨v, rfl, z, F, o1⟩ := own_one o
    simp only [Option.map_eq_some_iff] at e
    obtain ⟨ns, h, rfl⟩ := e
    rw [asInts_eq h] at o1
    obtain ⟨a, xs, rfl, q, im⟩ := own_tup o1
    have := ima_ints im
    subst this
    exact .inr ⟨a, ns, rfl, q.1, k _ _ (.int _)⟩
  · cases e
theorem vn_all {K : PySem.W.Frag} : ValN K (rAll K) allD := by
  intro H vs us d Q o e k
  unfold allD at e
  split at e
  · obtain ⟨v, rfl, z, F, o1⟩ := own_one o
    simp only [Option.map_eq_some_iff] at e
    obtain ⟨ns, h, rfl⟩ := e
    rw [asBools_eq h] at o1
    obtain ⟨a, rfl, q⟩ := own_bools o1
    exact ⟨a, ns, rfl, q, k _ _ (.bool _)⟩
  · cases e
theorem vn_any {K : PySem.W.Frag} : ValN K (rAny K) anyD := by
  intro H vs us d Q o e k
  unfold anyD at e
  split at e
  · obtain ⟨v, rfl, z, F, o1⟩ := own_one o
    simp only [Option.map_eq_some_iff] at e
    obtain ⟨ns, h, rfl⟩ := e
    rw [asBools_eq h] at o1
    obtain ⟨a, rfl, q⟩ := own_bools o1
    exact ⟨a, ns, rfl, q, k _ _ (.bool _)⟩
  · cases e
/-! tuple(..), list(..) -/
def rTupleAll (K : PySem.W.Frag) : List V → Hp → VK → Prop := fun xs H Q => ∃ p ys, xs = [.ref p] ∧ ((SqL K H p ys ∧ NewT Q H ys) ∨ (SqT K H p ys ∧ Q (.ref p) H))
theorem cr_tupleAll : CallR X (.type "tuple") (rTupleAll X.K) := by
  intro pins s σ H xs us Q I r h
  obtain ⟨p, ys, rfl, h⟩ := h
  obtain ⟨u, rfl, rx⟩ := vals1 r
  cases rx
  rcases h with ⟨hq, q⟩ | ⟨hq, q⟩
  · obtain ⟨its, r', pl, hz⟩ := I.list hq
    have hlen := r'.length
    refine call_tuple_list pl.isList (fun h' kp => ?_) (by simp only [List.size_toArray] <;> omega)
    have I1 : Inv X pins σ H { s with heap := h' } := I.kept (t' := s.toks) kp
    exact ep_newT (s := { s with heap := h' }) I1 r' hz q
  · obtain ⟨its, r', pl, hz⟩ := I.tuple hq
    exact call_tuple_same pl ⟨.ref p, H, I, rfl, q⟩
theorem vn_tuple {K : PySem.W.Frag} : ValN K (rTupleAll K) tupleD := by
  intro H vs us d Q o e k
  unfold tupleD at e
  split at e
  · obtain ⟨v, rfl, z, F, o1⟩ := own_one o
    split at e
    · rename_i hz
      cases e
      obtain ⟨a, xs, rfl, q, im⟩ := kids_im o1 hz
      exact ⟨a, xs, rfl, .inl ⟨q, fun l o hl ho => k _ _ (.tup hl ho im)⟩⟩
    · cases e
  · obtain ⟨v, rfl, z, F, o1⟩ := own_one o
    cases e
    obtain ⟨a, xs, rfl, q, im⟩ := own_tup o1
    exact ⟨a, xs, rfl, .inr ⟨q.1, k _ _ (.im rfl (im_tup q im))⟩⟩
  · cases e
def rListAll (K : PySem.W.Frag) : List V → Hp → VK → Prop := fun xs H Q => (∃ p ys, xs = [.ref p] ∧ (SqL K H p ys ∨ SqT K H p ys) ∧ ∀ l, H l = none → Q (.ref l) (upd H l (.lst ys))) ∨
  ((∃ (a : Addr) (kvs : List (Key × V)), xs = [.ref a] ∧ Rd H a (.dK kvs) ∧ ∀ p, H p = none → Q (.ref p) (upd H p (.lst (kvs.map fun kv => kV kv.1)))) ∨
   ∃ a ts, xs = [.ref a] ∧ TDAt K H a ts ∧ ∀ p, H p = none → Q (.ref p) (upd H p (.lst (ts.map fun x => V.ref x.2.1))))
/-- a dict's keys, collected -/
theorem tkeys_at {P : Program} {w : World} {h : Heap} {a : Addr} {ts : List (List Int × Addr × Value)} {o : Obj} {es : Array DictEntry} (he : es.toList = ts.map (entryOfKey (tupleKind (intKind P w)))) {acc : Array Value} (hl : acc.size = es.size)
    (it : ∀ (i : Nat) (v : Value), acc[i]? = some v → ∃ en : DictEntry, es[i]? = some en ∧ v = en.key) : acc.toList = ts.map fun x => Value.ref x.2.1 := by
  have hs : es.size = ts.length := by rw [← Array.length_toList, he, List.length_map]
  refine List.ext_getElem? fun i => ?_
  rw [List.getElem?_map, Array.getElem?_toList]
  cases hv : acc[i]? with
  | none =>
    have : ts.length ≤ i := by
      have := Array.getElem?_eq_none_iff.mp hv
      omega
    rw [List.getElem?_eq_none this]
    rfl
  | some v =>
    obtain ⟨en, h1, h2⟩ := it i v hv
    have h3 : es.toList[i]? = some en := by rw [Array.getElem?_toList]; exact h1
    rw [he, List.getElem?_map] at h3
    cases ht : ts[i]? with
    | none => rw [ht] at h3; cases h3
    | some x => rw [ht] at h3; cases h3; rw [h2]; rfl
theorem vals_keys : ∀ ts : List (List Int × Addr × Value), Vals (ts.map fun x => V.ref x.2.1) (ts.map fun x => Value.ref x.2.1)
  | [] => .nil
  | x :: ts => .cons rfl (vals_keys ts)
theorem cr_listT (hc : X.calm = true) : CallR X (.type "list") (fun xs H Q => ∃ a ts, xs = [.ref a] ∧ TDAt X.K H a ts ∧ ∀ p, H p = none → Q (.ref p) (upd H p (.lst (ts.map fun x => V.ref x.2.1)))) := by
  intro pins s σ H xs us Q I r h
  obtain ⟨a, ts, rfl, t, q⟩ := h
  obtain ⟨u, rfl, ru⟩ := vals1 r
  cases ru
  obtain ⟨⟨o, es, ep, ho, hx, hdt, he, _, _⟩, hs, hz⟩ := td_of I t
  have l1 : es.size = ts.length := by rw [← Array.length_toList, he, List.length_map]
  refine PySem.W.kdl_call (kdl_raw hs hx hdt) (I.ok.hd hc) ho (by omega) fun h' tk acc c kp e it => ?_
  have ea := tkeys_at (h := h') (a := a) (o := o) he it.1 fun i v hv => it.2 i v hv
  refine ⟨.ref s.heap.objs.size, _, I.laid (t' := tk) (o := .lst (ts.map fun x => V.ref x.2.1)) kp (Nat.le_refl _) ?_, rfl, q _ (I.hok.fresh (Nat.le_refl _))⟩
  exact ⟨by rw [List.length_map]; exact hz, acc.toList, c, by rw [ea]; exact vals_keys ts, by rw [Array.toArray_toList]; exact e⟩
theorem cr_listAll (hc : X.calm = true) : CallR X (.type "list") (rListAll X.K) := call_list_of.or ((call_listD hc).or (cr_listT hc))
theorem im_tkeys {K : PySem.W.Frag} {H : Hp} : ∀ (ts : List (List Int × Addr × Value)), (∀ x ∈ ts, TuA K H x.2.1 (x.1.map V.int)) → ImA K H (ts.map fun x => PyData.tuple (x.1.map .int)) (ts.map fun x => V.ref x.2.1)
  | [], _ => .nil
  | x :: ts, h => .cons (im_tup (h x (by simp)) (im_ints _)) (im_tkeys ts fun y hy => h y (by simp [hy]))
theorem im_key {K : PySem.W.Frag} {H : Hp} (k : Key) : Im K H (keyD k) (kV k) := by
  cases k with
  | inl i => exact im_int i
  | inr x => exact im_str x
theorem ima_keys {K : PySem.W.Frag} {H : Hp} : ∀ (kvs : List (Key × V)), ImA K H (kvs.map fun p => keyD p.1) (kvs.map fun kv => kV kv.1)
  | [] => .nil
  | p :: r => .cons (im_key _) (ima_keys r)
theorem vn_list {K : PySem.W.Frag} : ValN K (rListAll K) listD := by
  intro H vs us d Q o e k
  unfold listD at e
  split at e
  · obtain ⟨v, rfl, z, F, o1⟩ := own_one o
    split at e
    · rename_i hz
      cases e
      obtain ⟨a, xs, rfl, q, im⟩ := kids_im o1 hz
      exact .inl ⟨a, xs, rfl, .inl q, fun l hl => k _ _ (.list hl im)⟩
    · cases e
  · obtain ⟨v, rfl, z, F, o1⟩ := own_one o
    cases e
    obtain ⟨a, xs, rfl, q, im⟩ := own_tup o1
    exact .inl ⟨a, xs, rfl, .inr q.1, fun l hl => k _ _ (.list hl im)⟩
  · obtain ⟨v, rfl, z, F, o1⟩ := own_one o
    cases e
    obtain ⟨a, u, xs, rfl, r, du, l, _⟩ := own_dict o1
    rcases du with ⟨kvs, rfl, e1, e2⟩ | ⟨ob, ts, rfl, hs, ne, hx, ek, vt, hk⟩
    · refine .inr (.inl ⟨a, kvs, rfl, r, fun p hp => ?_⟩)
      rw [e1] at k
      exact k _ _ (.list hp (ima_keys kvs))
    · refine .inr (.inr ⟨a, ts, rfl, .inr ⟨ob, r, hs, ne, hx, hk⟩, fun p hp => ?_⟩)
      rw [ek] at k
      exact k _ _ (.list hp (im_tkeys ts hk))
  · cases e
/-! max, min -/
def rMaxAll (K : PySem.W.Frag) : List V → Hp → VK → Prop := fun xs H Q => (∃ i j, xs = [.int i, .int j] ∧ Q (.int (if j > i then j else i)) H) ∨ (rMax K xs H Q ∨ (∃ (a : Addr) (n : Int) (ns : List Int), xs = [.ref a] ∧ SqT K H a (V.int n :: ns.map V.int) ∧ Q (.int (ns.foldl max n)) H))
def rMinAll (K : PySem.W.Frag) : List V → Hp → VK → Prop := fun xs H Q => (∃ i j, xs = [.int i, .int j] ∧ Q (.int (if j < i then j else i)) H) ∨ (rMin K xs H Q ∨ (∃ (a : Addr) (n : Int) (ns : List Int), xs = [.ref a] ∧ SqT K H a (V.int n :: ns.map V.int) ∧ Q (.int (ns.foldl min n)) H))
theorem alike_intL (ns : List Int) : PySem.W.AlikeAll (ns.map PyData.int) := ⟨fun x hx y hy => by
    obtain ⟨i, _, rfl⟩ := List.mem_map.mp hx
    obtain ⟨j, _, rfl⟩ := List.mem_map.mp hy
    rfl, fun x hx e => by
    obtain ⟨i, _, rfl⟩ := List.mem_map.mp hx
    cases e⟩
theorem cr_maxAll (hc : X.calm = true) (hu : X.A.units + 64 < cLine) : CallR X (.builtin "max") (rMaxAll X.K) := (call_max2 hc).or ((cr_max hc).or fun pins s σ H xs us Q I r h => by
  obtain ⟨a, n, ns, rfl, hq, q⟩ := h
  obtain ⟨u, rfl, ru⟩ := vals1 r
  cases ru
  obtain ⟨its, rv, ht, hz⟩ := I.tuple hq
  obtain ⟨as, rd⟩ := Dp.readsAll I (PyData.int n :: ns.map PyData.int) _ its (im_dps (K := X.K) _ _ (im_ints (n :: ns)) (canLay_ints (n :: ns))) rv
  refine PySem.W.max_tuple_data (I.ok.hd hc) ht (by simpa using rd) (alike_intL (n :: ns)) (by rw [show PyData.depthAll (PyData.int n :: ns.map PyData.int) = 0 from PySem.W.depth_ints (n :: ns)]; omega) fun i v h' tk bs hv rr kp => ?_
  rw [PySem.W.maxD_ints] at rr
  cases rr with
  | int _ t => exact ⟨.int (ns.foldl max n), H, I.kept kp, ⟨t, rfl⟩, q⟩)
theorem cr_minAll (hc : X.calm = true) (hu : X.A.units + 64 < cLine) : CallR X (.builtin "min") (rMinAll X.K) := (call_min2 hc).or ((cr_min hc).or fun pins s σ H xs us Q I r h => by
  obtain ⟨a, n, ns, rfl, hq, q⟩ := h
  obtain ⟨u, rfl, ru⟩ := vals1 r
  cases ru
  obtain ⟨its, rv, ht, hz⟩ := I.tuple hq
  obtain ⟨as, rd⟩ := Dp.readsAll I (PyData.int n :: ns.map PyData.int) _ its (im_dps (K := X.K) _ _ (im_ints (n :: ns)) (canLay_ints (n :: ns))) rv
  refine PySem.W.min_tuple_data (I.ok.hd hc) ht (by simpa using rd) (alike_intL (n :: ns)) (by rw [show PyData.depthAll (PyData.int n :: ns.map PyData.int) = 0 from PySem.W.depth_ints (n :: ns)]; omega) fun i v h' tk bs hv rr kp => ?_
  rw [PySem.W.minD_ints] at rr
  cases rr with
  | int _ t => exact ⟨.int (ns.foldl min n), H, I.kept kp, ⟨t, rfl⟩, q⟩)
theorem fold_max : ∀ (ns : List Int) (n : Int), (ns.foldl (fun m y => if m < y then y else m) n) = ns.foldl max n
  | [], n => rfl
  | y :: r, n => by
    rw [List.foldl_cons, List.foldl_cons, fold_max r]
    congr 1
    rw [Int.max_def]
    split <;> split <;> omega
theorem fold_min : ∀ (ns : List Int) (n : Int), (ns.foldl (fun m y => if y < m then y else m) n) = ns.foldl min n
  | [], n => rfl
  | y :: r, n => by
    rw [List.foldl_cons, List.foldl_cons, fold_min r]
    congr 1
    rw [Int.min_def]
    split <;> split <;> omega
theorem max_mem : ∀ (ns : List Int) (n : Int), ns.foldl max n ∈ n :: ns ∧ ∀ y ∈ n :: ns, y ≤ ns.foldl max n
  | [], n => by simp
  | y :: r, n => by
    obtain ⟨h1, h2⟩ := max_mem r (max n y)
    rw [List.foldl_cons]
    have h3 := h2 (max n y) (by simp)
    refine ⟨?_, fun z hz => ?_⟩
    · rcases List.mem_cons.mp h1 with h | h
      · rw [h]
        rcases Int.le_total n y with q | q
        · rw [Int.max_eq_right q]; simp
        · rw [Int.max_eq_left q]; simp
      · simp [h]
    · rcases List.mem_cons.mp hz with h | h
      · subst h; have := Int.le_max_left z y; omega
      · rcases List.mem_cons.mp h with h | h
        · subst h; have := Int.le_max_right n z; omega
        · exact h2 z (by simp [h])
theorem min_mem : ∀ (ns : List Int) (n : Int), ns.foldl min n ∈ n :: ns ∧ ∀ y ∈ n :: ns, ns.foldl min n ≤ y
  | [], n => by simp
  | y :: r, n => by
    obtain ⟨h1, h2⟩ := min_mem r (min n y)
    rw [List.foldl_cons]
    have h3 := h2 (min n y) (by simp)
    refine ⟨?_, fun z hz => ?_⟩
    · rcases List.mem_cons.mp h1 with h | h
      · rw [h]
        rcases Int.le_total n y with q | q
        · rw [Int.min_eq_left q]; simp
        · rw [Int.min_eq_right q]; simp
      · simp [h]
    · rcases List.mem_cons.mp hz with h | h
      · subst h; have := Int.min_le_left z y; omega
      · rcases List.mem_cons.mp h with h | h
        · subst h; have := Int.min_le_right n z; omega
        · exact h2 z (by simp [h])
theorem vn_max {K : PySem.W.Frag} : ValN K (rMaxAll K) maxDs := by
  intro H vs us d Q o e k
  unfold maxDs at e
  split at e
  · obtain ⟨v, x, rfl, ⟨z, F, o1⟩, ⟨z2, F2, o2⟩⟩ := own_two o
    cases e
    rw [own_int o1, own_int o2]
    exact .inl ⟨_, _, rfl, k _ _ (.int _)⟩
  · obtain ⟨v, rfl, z, F, o1⟩ := own_one o
    simp only [Option.map_eq_some_iff, Option.bind_eq_some_iff] at e
    obtain ⟨m, ⟨ns, h, hm⟩, rfl⟩ := e
    rw [asInts_eq h] at o1
    obtain ⟨a, rfl, q⟩ := own_ints o1
    cases ns with
    | nil => cases hm
    | cons n r =>
      simp only [maxI, Option.some.injEq] at hm
      rw [fold_max] at hm
      obtain ⟨h1, h2⟩ := max_mem r n
      rw [hm] at h1 h2
      refine .inr (.inl ⟨a, n :: r, rfl, q, by simp, fun m' g1 g2 => ?_⟩)
      have : m' = m := Int.le_antisymm (h2 m' g1) (g2 m h1)
      rw [this]
      exact k _ _ (.int _)
  · obtain ⟨v, rfl, z, F, o1⟩ := own_one o
    simp only [Option.map_eq_some_iff, Option.bind_eq_some_iff] at e
    obtain ⟨m, ⟨ns, h, hm⟩, rfl⟩ := e
    rw [asInts_eq h] at o1
    obtain ⟨a, xs, rfl, q, im⟩ := own_tup o1
    rw [ima_ints im] at q
    cases ns with
    | nil => cases hm
    | cons n r =>
      simp only [maxI, Option.some.injEq] at hm
      rw [fold_max] at hm
      refine .inr (.inr ⟨a, n, r, rfl, q.1, ?_⟩)
      rw [hm]
      exact k _ _ (.int _)
  · cases e
theorem vn_min {K : PySem.W.Frag} : ValN K (rMinAll K) minDs := by
  intro H vs us d Q o e k
  unfold minDs at e
  split at e
  · obtain ⟨v, x, rfl, ⟨z, F, o1⟩, ⟨z2, F2, o2⟩⟩ := own_two o
    cases e
    rw [own_int o1, own_int o2]
    exact .inl ⟨_, _, rfl, k _ _ (.int _)⟩
  · obtain ⟨v, rfl, z, F, o1⟩ := own_one o
    simp only [Option.map_eq_some_iff, Option.bind_eq_some_iff] at e
    obtain ⟨m, ⟨ns, h, hm⟩, rfl⟩ := e
    rw [asInts_eq h] at o1
    obtain ⟨a, rfl, q⟩ := own_ints o1
    cases ns with
    | nil => cases hm
    | cons n r =>
      simp only [minI, Option.some.injEq] at hm
      rw [fold_min] at hm
      obtain ⟨h1, h2⟩ := min_mem r n
      rw [hm] at h1 h2
      refine .inr (.inl ⟨a, n :: r, rfl, q, by simp, fun m' g1 g2 => ?_⟩)
      have : m' = m := Int.le_antisymm (g2 m h1) (h2 m' g1)
      rw [this]
      exact k _ _ (.int _)
  · obtain ⟨v, rfl, z, F, o1⟩ := own_one o
    simp only [Option.map_eq_some_iff, Option.bind_eq_some_iff] at e
    obtain ⟨m, ⟨ns, h, hm⟩, rfl⟩ := e
    rw [asInts_eq h] at o1
    obtain ⟨a, xs, rfl, q, im⟩ := own_tup o1
    rw [ima_ints im] at q
    cases ns with
    | nil => cases hm
    | cons n r =>
      simp only [minI, Option.some.injEq] at hm
      rw [fold_min] at hm
      refine .inr (.inr ⟨a, n, r, rfl, q.1, ?_⟩)
      rw [hm]
      exact k _ _ (.int _)
  · cases e
end
end RV

set_option maxRecDepth 100000
/-! Ev12: sorted, repr, isinstance. -/
namespace RV
open PySem L2 PySem.Spec PyProof.Rows
section
variable {X : Cx} {pins : List (Addr × Obj)} {σ : L2.St} {H : Hp} {s : Shared}
/-! ### sorted -/
def rSortedD (K : PySem.W.Frag) : List V → Hp → VK → Prop := fun vs H Q => ∃ (a : Addr) (ds : List D) (xs : List V), vs = [V.ref a] ∧ Rd H a (.lst xs) ∧ ImA K H ds xs ∧ PySem.W.AllAlike ds ∧ PySem.W.Sortable ds ∧ (∀ d ∈ ds, d.depth ≤ 60) ∧
  ∀ (xs' : List V) (p : Addr), ImA K H (ds.mergeSort fun a b => !PySem.W.dataLt b a) xs' → H p = none → Q (.ref p) (upd H p (.lst xs'))
theorem zip_each : ∀ {ds : List D} {xs : List V} {us : List Value}, ds.length = xs.length → Vals xs us → PySem.W.EachIs (fun (u : Value) (b : D × V) => L2.RelV b.2 u) us (ds.zip xs)
  | [], [], us, _, r => by cases r; exact .nil
  | [], _ :: _, _, l, _ => by cases l
  | _ :: _, [], _, l, _ => by cases l
  | d :: ds, x :: xs, us, l, r => by
    cases r with
    | cons r1 r2 => exact .cons r1 (zip_each (by simpa using l) r2)
theorem each_vals : ∀ {us : List Value} {bs : List (D × V)}, PySem.W.EachIs (fun (u : Value) (b : D × V) => L2.RelV b.2 u) us bs → Vals (bs.map (·.2)) us
  | [], [], .nil => .nil
  | u :: us, b :: bs, .cons h t => .cons h (each_vals t)
theorem each_mem {R : Value → D × V → Prop} {R' : Value → D × V → Prop} : ∀ {us : List Value} {bs : List (D × V)}, PySem.W.EachIs R us bs → (∀ u b, b ∈ bs → R u b → R' u b) → PySem.W.EachIs R' us bs
  | [], [], .nil, _ => .nil
  | u :: us, b :: bs, .cons h t, k => .cons (k u b (by simp) h) (each_mem t fun u b hb => k u b (by simp [hb]))
theorem ima_zip {K : PySem.W.Frag} {H : Hp} : ∀ {ds : List D} {xs : List V}, ImA K H ds xs → ∀ b ∈ ds.zip xs, Im K H b.1 b.2
  | [], xs, h, b, hb => by simp at hb
  | d :: ds, xs, h, b, hb => by
    unfold ImA at h
    obtain ⟨v, r, rfl, q, z⟩ := h
    rw [List.zip_cons_cons, List.mem_cons] at hb
    rcases hb with rfl | hb
    · exact q
    · exact ima_zip z b hb
theorem ima_of {K : PySem.W.Frag} {H : Hp} : ∀ {bs : List (D × V)}, (∀ b ∈ bs, Im K H b.1 b.2) → ImA K H (bs.map (·.1)) (bs.map (·.2))
  | [], _ => .nil
  | b :: bs, h => .cons (h b (by simp)) (ima_of fun c hc => h c (by simp [hc]))
theorem zip_fst : ∀ {ds : List D} {xs : List V}, ds.length = xs.length → (ds.zip xs).map (·.1) = ds ∧ (ds.zip xs).map (·.2) = xs
  | [], [], _ => ⟨rfl, rfl⟩
  | [], _ :: _, l => by cases l
  | _ :: _, [], l => by cases l
  | d :: ds, x :: xs, l => by
    obtain ⟨h1, h2⟩ := zip_fst (ds := ds) (xs := xs) (by simpa using l)
    simp [h1, h2]
theorem cr_sortedD (hu : X.A.units + 64 < cLine) : CallR X (.builtin "sorted") (rSortedD X.K) := by
  intro pins s σ H vs us Q I r h
  obtain ⟨a, ds, xs, rfl, hq, im, hal, hk, hd, q⟩ := h
  obtain ⟨u, rfl, ru⟩ := vals1 r
  cases ru
  obtain ⟨its, n, rv, _, hz, e⟩ := rd_lst I hq
  have e1 := zip_each im.len rv
  have hfst := (zip_fst im.len).1
  have er : PySem.W.EachIs (fun (u : Value) (b : D × V) => ∃ as, Reads s.heap u b.1 as) its (ds.zip xs) := each_mem e1 fun u b hb hr => by
    obtain ⟨as, h, _⟩ := im_reads I b.1 b.2 u (ima_zip im b hb) hr
    exact ⟨as, h⟩
  refine PySem.W.sorted_data (enc := fun b : D × V => b.1) (bs := ds.zip xs) ⟨_, e, rfl, n, rfl⟩ e1 er (by rw [hfst]; exact hal) (by rw [hfst]; exact hk) (by rw [← List.length_map (f := (·.1)), hfst, im.len]; exact hz) (fun b hb => ?_) fun out hl ho => ?_
  · have := hd b.1 (by rw [← hfst]; exact List.mem_map_of_mem hb)
    omega
  · have em : ((ds.zip xs).mergeSort (PySem.W.dataLe false fun b : D × V => b.1)).map (·.1) = ds.mergeSort fun a b => !PySem.W.dataLt b a := by
      rw [List.map_mergeSort (s := fun a b => !PySem.W.dataLt b a) (fun a _ b _ => by rw [PySem.W.dataLe_eq]; rfl), hfst]
    have im2 : ImA X.K H (((ds.zip xs).mergeSort (PySem.W.dataLe false fun b : D × V => b.1)).map (·.1)) (((ds.zip xs).mergeSort (PySem.W.dataLe false fun b : D × V => b.1)).map (·.2)) :=
      ima_of fun b hb => ima_zip im b ((List.mergeSort_perm _ _).mem_iff.mp hb)
    rw [em] at im2
    obtain ⟨ep, he'⟩ := PyProof.Rows.sortedAll_at s.heap its out.toArray
    refine ⟨.ref _, upd H (s.heap.objs.size + 1) (.lst _), I.laid (t' := s.toks) (fun _ _ => PyProof.Rows.sortedAll_old) (Nat.le_succ _) ⟨?_, out, ep, each_vals ho, he'⟩, rfl, q _ _ im2 (I.hok.fresh (Nat.le_succ _))⟩
    rw [← im2.len, List.length_mergeSort, im.len]
    exact hz
/-! ### sorted(d): the keys of a dict -/
def KeysAt (K : PySem.W.Frag) (H : Hp) (a : Addr) (ds : List D) : Prop := (∃ kvs : List (Key × V), Rd H a (.dK kvs) ∧ ds = kvs.map fun p => keyD p.1) ∨ ∃ ts, TDAt K H a ts ∧ ds = ts.map fun x => PyData.tuple (x.1.map .int)
theorem pairs_keys {P : Program} {w : World} {es : List DictEntry} {vs : List (Key × Value)} (p : Pairs (mixKind P w) es vs) : Vals (vs.map fun q => kV q.1) (es.map (·.key)) := by
  induction p with
  | nil => exact .nil
  | cons h1 h2 h3 ih => exact .cons (keyIs_rel h1) ih
theorem keys_raw (I : Inv X pins σ H s) {a : Addr} {ds : List D} (h : KeysAt X.K H a ds) : ∃ o es ep ys, s.heap.get? a = some o ∧ o.ExactDict ∧ o.data = .dict es ep ∧ (a == sysModules) = false ∧ es.size ≤ sizeLine ∧ Vals ys (es.toList.map (·.key)) ∧ ImA X.K H ds ys := by
  rcases h with ⟨kvs, r, rfl⟩ | ⟨ts, t, rfl⟩
  · obtain ⟨z, hs, vs, kv, o, es, ep, e1, e2, e3, _, pr, _⟩ := dk_rd I.hok r
    have hv := pairs_keys pr
    have hk : vs.map (fun q => kV q.1) = kvs.map fun q => kV q.1 := by
      have := kv.keys
      have e : ∀ l : List (Key × Value), l.map (fun q => kV q.1) = (l.map (·.1)).map kV := fun l => by rw [List.map_map]; rfl
      have e' : ∀ l : List (Key × V), l.map (fun q => kV q.1) = (l.map (·.1)).map kV := fun l => by rw [List.map_map]; rfl
      rw [e, e', this]
    rw [hk] at hv
    refine ⟨o, es, ep, _, e1, e2, e3, hs, ?_, hv, ima_keys kvs⟩
    have := hv.length
    simp at this
    omega
  · obtain ⟨⟨o, es, ep, ho, hx, hdt, he, _, _⟩, hs, hz⟩ := td_of I t
    have hk : es.toList.map (·.key) = ts.map fun x => Value.ref x.2.1 := by rw [he, List.map_map]; rfl
    refine ⟨o, es, ep, ts.map (fun x => V.ref x.2.1), ho, hx, hdt, hs, ?_, by rw [hk]; exact vals_keys ts, ?_⟩
    · rw [← Array.length_toList, he, List.length_map]; exact hz
    · rcases t with ⟨rfl, _⟩ | ⟨ob, _, _, _, _, hk⟩
      · exact .nil
      · exact im_tkeys ts hk
def rSortedK (K : PySem.W.Frag) : List V → Hp → VK → Prop := fun xs H Q => ∃ (a : Addr) (ds : List D), xs = [V.ref a] ∧ KeysAt K H a ds ∧ PySem.W.AllAlike ds ∧ PySem.W.Sortable ds ∧ (∀ d ∈ ds, d.depth ≤ 60) ∧
  ∀ (xs' : List V) (p : Addr), ImA K H (ds.mergeSort fun a b => !PySem.W.dataLt b a) xs' → H p = none → Q (.ref p) (upd H p (.lst xs'))
theorem cr_sortedK (hc : X.calm = true) (hu : X.A.units + 64 < cLine) : CallR X (.builtin "sorted") (rSortedK X.K) := by
  intro pins s σ H vs us Q I r h
  obtain ⟨a, ds, rfl, hk, hal, hsr, hd, q⟩ := h
  obtain ⟨u, rfl, ru⟩ := vals1 r
  cases ru
  obtain ⟨o, es, ep, ys, ho, hx, hdt, hs, hz, vk, im⟩ := keys_raw I hk
  refine Calls.call_function_entry PyProof.Rows.kind_sorted PyProof.Rows.plain_sorted PyProof.Rows.entry_sorted (PyProof.Rows.args_sorted1 _) ?_
  unfold Builtin.«sorted»
  refine wpAny_bind (m := checkCount "sorted" 1 1 _) (wpAny_pure ?_)
  apply wpAny_bind
  refine PySem.W.kdu_collect (A := X.A.in1) (kdl_raw hs hx hdt) (I.ok.hd hc) ho hz fun h1 tk acc kp it => ?_
  have ea : acc.toList = es.toList.map (·.key) := by
    refine List.ext_getElem? fun i => ?_
    rw [List.getElem?_map, Array.getElem?_toList, Array.getElem?_toList]
    cases hv : acc[i]? with
    | none =>
      have h2 := Array.getElem?_eq_none_iff.mp hv
      have h3 : es.size ≤ i := by have := it.1; omega
      rw [Array.getElem?_eq_none h3]
      rfl
    | some v =>
      obtain ⟨en, h2, h3⟩ := it.2 i v hv
      rw [h2, h3]
      rfl
  have rv : Vals ys acc.toList := by rw [ea]; exact vk
  have hfst := (zip_fst im.len).1
  have e1 := zip_each im.len rv
  have I1 : Inv X pins σ H { s with heap := h1, toks := tk } := I.kept kp
  have er : PySem.W.EachIs (fun (u : Value) (b : D × V) => ∃ as, Reads h1 u b.1 as) acc.toList (ds.zip ys) := each_mem e1 fun u b hb hr => by
    obtain ⟨as, h, _⟩ := im_reads I1 b.1 b.2 u (ima_zip im b hb) hr
    exact ⟨as, h⟩
  have hlen : acc.toList.length = ds.length := by rw [← rv.length, im.len]
  have hacc : acc.toList.length ≤ sizeLine := by rw [Array.length_toList, it.1]; exact hz
  refine wpAny_bind (wpAny_newList ?_ hacc)
  have hoL : (h1.push (seqObj "list" acc.toList.toArray 0)).get? h1.objs.size = some (seqObj "list" acc.toList.toArray 0) := Heap.get?_push_size _ rfl
  change wpAny _ _ _ _ _ { s with heap := h1.push (seqObj "list" acc.toList.toArray 0), toks := tk }
  have er2 : PySem.W.EachIs (fun (u : Value) (b : D × V) => ∃ as, Reads (PySem.W.sortingHeap (h1.push (seqObj "list" acc.toList.toArray 0)) h1.objs.size acc.toList) u b.1 as) acc.toList (ds.zip ys) := er.mono fun _ _ ⟨as, r⟩ =>
    ⟨as, PyProof.Rows.Reads.keeps (fun b o e => PySem.W.sortingHeap_old (Nat.ne_of_lt (Heap.lt_size e)) (Heap.get?_push_of_some _ e)) r⟩
  have S := PySem.W.SortsAt.data (prog := X.prog) (w := X.w) (A := X.A.in1.in1) (s := { s with heap := PySem.W.sortingHeap (h1.push (seqObj "list" acc.toList.toArray 0)) h1.objs.size acc.toList, toks := tk }) (PySem.W.each_map (R := fun v d => ∃ as, Reads _ v d as) (fun b : D × V => b.1) er2) (by rw [hfst]; exact hal) (by rw [hfst]; exact hsr) (fun d hd2 => by
    rw [hfst] at hd2
    have := hd d hd2
    show X.A.units + 1 + 1 + d.depth < cLine
    omega)
  refine wpAny_bind (wpAny_holding (wpAny_call_entry PyProof.Rows.slot_list_sort ⟨_, hoL, rfl⟩ PyProof.Rows.entry_list_sort (PySem.W.list_sort_vals (s := { s with heap := h1.push (seqObj "list" acc.toList.toArray 0), toks := tk }) hoL S hacc ⟨_, rfl, ?_⟩) (PyProof.Rows.args_list_sort _)))
  have eo := PySem.W.sortVals_data (enc := fun b : D × V => b.1) false e1 er2 (by rw [hfst]; exact hal)
  have em : ((ds.zip ys).mergeSort (PySem.W.dataLe false fun b : D × V => b.1)).map (·.1) = ds.mergeSort fun a b => !PySem.W.dataLt b a := by
    rw [List.map_mergeSort (s := fun a b => !PySem.W.dataLt b a) (fun a _ b _ => by rw [PySem.W.dataLe_eq]; rfl), hfst]
  have im2 : ImA X.K H (((ds.zip ys).mergeSort (PySem.W.dataLe false fun b : D × V => b.1)).map (·.1)) (((ds.zip ys).mergeSort (PySem.W.dataLe false fun b : D × V => b.1)).map (·.2)) :=
    ima_of fun b hb => ima_zip im b ((List.mergeSort_perm _ _).mem_iff.mp hb)
  rw [em] at im2
  obtain ⟨e', he'⟩ := PyProof.Rows.sortedHeap_at (out := (PySem.W.sortVals _ false acc.toList acc.toList).toArray) hoL
  apply wpAny_pure
  refine ⟨_, rfl, .ref h1.objs.size, upd H h1.objs.size (.lst _), I1.laid (t' := tk) (fun b u e => ?_) (Nat.le_refl _) ⟨?_, _, e', each_vals eo, by simpa using he'⟩, rfl, q _ _ im2 (I1.hok.fresh (Nat.le_refl _))⟩
  · have hb : b < h1.objs.size := Heap.lt_size e
    rw [PyProof.Rows.sortedHeap_old (Nat.ne_of_lt hb) (by rw [size_push']; exact Nat.lt_succ_of_lt hb)]
    exact Heap.get?_push_of_some _ e
  · rw [← im2.len, List.length_mergeSort, ← hlen]
    exact hacc
theorem tupsOk_mem : ∀ {ds : List D}, tupsOk ds = true → ∀ d ∈ ds, (∃ x r, d = .tuple (x :: r)) ∧ d.depth ≤ 60
  | [], _, d, hd => by simp at hd
  | e :: ds, h, d, hd => by
    unfold tupsOk at h
    simp only [Bool.and_eq_true, decide_eq_true_eq] at h
    rcases List.mem_cons.mp hd with rfl | hd
    · refine ⟨?_, h.1.2⟩
      have h1 := h.1.1
      split at h1
      · exact ⟨_, _, rfl⟩
      · cases h1
    · exact tupsOk_mem h.2 d hd
theorem sort_keys {kvs : List (D × D)} (h : sortOk (kvs.map (·.1)) = true) {K : PySem.W.Frag} {H : Hp} {a : Addr} {u : HO} {xs : List V} (r : Rd H a u) (du : DctIs K H a u (kvs.map (·.1)) xs) : KeysAt K H a (kvs.map (·.1)) := by
  rcases du with ⟨ks, rfl, e, _⟩ | ⟨ob, ts, rfl, h1, h2, h3, h4, h5, h6⟩
  · exact .inl ⟨ks, r, e⟩
  · exact .inr ⟨ts, .inr ⟨ob, r, h1, h2, h3, h6⟩, h4⟩
theorem sortOk_facts {ds : List D} (ho : sortOk ds = true) : PySem.W.AllAlike ds ∧ PySem.W.Sortable ds ∧ ∀ d ∈ ds, d.depth ≤ 60 := by
  unfold sortOk at ho
  rw [Bool.or_eq_true] at ho
  rcases ho with ho | ho
  · obtain ⟨ns, hn⟩ := Option.isSome_iff_exists.mp ho
    have := asInts_eq hn
    subst this
    refine ⟨fun d hd d' hd' => (alike_intL ns).1 d hd d' hd', .inr fun d hd => ?_, fun d hd => ?_⟩
    · obtain ⟨i, _, rfl⟩ := List.mem_map.mp hd
      exact ⟨fun z => (by cases z), fun xs z => (by cases z)⟩
    · obtain ⟨i, _, rfl⟩ := List.mem_map.mp hd
      exact Nat.zero_le _
  · rw [Bool.and_eq_true] at ho
    refine ⟨fun d hd d' hd' => ?_, .inl fun d hd => (tupsOk_mem ho.1 d hd).1, fun d hd => (tupsOk_mem ho.1 d hd).2⟩
    exact List.all_eq_true.mp (List.all_eq_true.mp ho.2 d hd) d' hd'
def rSortedAll (K : PySem.W.Frag) : List V → Hp → VK → Prop := fun vs H Q => rSortedD K vs H Q ∨ rSortedK K vs H Q
theorem cr_sortedAll (hc : X.calm = true) (hu : X.A.units + 64 < cLine) : CallR X (.builtin "sorted") (rSortedAll X.K) := (cr_sortedD hu).or (cr_sortedK hc hu)
theorem vn_sorted {K : PySem.W.Frag} : ValN K (rSortedAll K) sortedD := by
  intro H vs us d Q o e k
  unfold sortedD at e
  split at e
  · rename_i m ds
    obtain ⟨v, rfl, z, F, o1⟩ := own_one o
    split at e
    · rename_i hz
      simp only [Bool.and_eq_true, own99, decide_eq_true_eq] at hz
      simp only [Option.map_eq_some_iff, sortD] at e
      obtain ⟨es, h, rfl⟩ := e
      split at h
      · rename_i ho
        cases h
        obtain ⟨a, xs, rfl, q, im⟩ := kids_rd o1 hz.1 hz.2
        have := sortOk_facts ho
        exact .inl ⟨a, ds, xs, rfl, q, im, this.1, this.2.1, this.2.2, fun xs' p im2 hp => k _ _ (.list hp im2)⟩
      · cases h
    · cases e
  · rename_i m kvs
    obtain ⟨v, rfl, z, F, o1⟩ := own_one o
    simp only [Option.map_eq_some_iff, sortD] at e
    obtain ⟨es, h, rfl⟩ := e
    split at h
    · rename_i ho
      cases h
      obtain ⟨a, u, xs, rfl, r, du, l, _⟩ := own_dict o1
      have := sortOk_facts ho
      exact .inr ⟨a, _, rfl, sort_keys ho r du, this.1, this.2.1, this.2.2, fun xs' p im2 hp => k _ _ (.list hp im2)⟩
    · cases h
  · cases e
/-! ### repr -/
def rRepr (K : PySem.W.Frag) : List V → Hp → VK → Prop := fun vs H Q => ∃ (x : V) (z : Bool) (m : Nat) (d : D) (F : Addr → Prop), vs = [x] ∧ Own K H z m d x F ∧ showOk d = true ∧ (own99 m = true ∨ d.hasDict = false) ∧ Q (.str d.shown) H
theorem cr_repr (hu : X.A.units + 64 < cLine) (hg : X.A.guards = some []) (hS : ∃ o, X.base.get? sysModules = some o) : CallR X (.builtin "repr") (rRepr X.K) := by
  intro pins s σ H vs us Q I r h
  obtain ⟨x, z, m, d, F, rfl, o, hs, hm, q⟩ := h
  obtain ⟨u, rfl, ru⟩ := vals1 r
  unfold showOk at hs
  simp only [Bool.and_eq_true, decide_eq_true_eq, fitL] at hs
  obtain ⟨⟨h1, h2⟩, h3⟩ := hs
  obtain ⟨as, rd, tr⟩ := own_reads I o ru
  have big : ∀ {a : Addr}, u = .ref a → wpAny (model X.prog X.w) X.A (call (.builtin "repr") [u]) (EP X pins σ Q) X.xe s := fun {a} e => by
    subst e
    refine repr_of_reads' rd h1 (fun hd => ?_) hg (by omega) (fun _ _ e => e) (fun h' u tk kp => ⟨.str d.shown, H, I.kept kp, ⟨u, rfl⟩, q⟩) h3
    rcases hm with hm | hm
    · have tr := tr (by simpa [own99] using hm)
      intro hb
      obtain ⟨ob, e⟩ := hS
      exact tr _ hb (I.bs _ _ e).2
    · rw [hm] at hd; cases hd
  cases rd with
  | none => exact PySem.P.repr_of_none ⟨.str _, H, I.tok _, ⟨_, rfl⟩, q⟩
  | bool b => exact PySem.P.repr_of_bool ⟨.str _, H, I.tok _, ⟨_, rfl⟩, q⟩
  | int i t => exact PySem.P.repr_of_int (by simpa [PyData.showable] using h1) ⟨.str _, H, I.tok _, ⟨_, rfl⟩, q⟩
  | str y t => exact PySem.P.repr_of_str ⟨.str _, H, I.tok _, ⟨_, rfl⟩, q⟩ h3
  | list _ _ _ _ => exact big rfl
  | tuple _ _ _ _ => exact big rfl
  | dict _ _ _ _ _ => exact big rfl
theorem vn_repr {K : PySem.W.Frag} : ValN K (rRepr K) reprD := by
  intro H vs us d Q o e k
  unfold reprD at e
  split at e
  · obtain ⟨v, rfl, z, F, o1⟩ := own_one o
    split at e
    · rename_i hz
      cases e
      rw [Bool.and_eq_true, Bool.or_eq_true, Bool.not_eq_true'] at hz
      exact ⟨v, z, _, _, F, rfl, o1, hz.1, hz.2, k _ _ (.str _)⟩
    · cases e
  · cases e
end
end RV

set_option maxRecDepth 100000
/-! Ev13: changes of a slot's object. -/
namespace RV
open PySem L2 PySem.Spec PyProof.Rows
variable {K : PySem.W.Frag} {S0 : Bk} {H0 H H' : Hp} {ω : Addr → Option Hd} {a : A} {σ : L2.St} {T ts : List Tm}
/-- the held values from n on go to slot i -/
def toSl (ω : Addr → Option Hd) (n i : Nat) : Addr → Option Hd := fun b => match ω b with
  | some (.tm j) => if n ≤ j then some (.sl i) else some (.tm j)
  | x => x
theorem toSl_sl {n i k : Nat} {b : Addr} (h : ω b = some (.sl k)) : toSl ω n i b = some (.sl k) := by unfold toSl; rw [h]
theorem toSl_tm {n i j : Nat} {b : Addr} (h : ω b = some (.tm j)) (l : j < n) : toSl ω n i b = some (.tm j) := by unfold toSl; rw [h]; exact if_neg (by omega)
theorem toSl_mv {n i j : Nat} {b : Addr} (h : ω b = some (.tm j)) (l : n ≤ j) : toSl ω n i b = some (.sl i) := by unfold toSl; rw [h]; exact if_pos l
theorem toSl_some {n i : Nat} {b : Addr} {x : Hd} (h : toSl ω n i b = some x) : ∃ y, ω b = some y := by
  unfold toSl at h
  split at h
  · exact ⟨_, by assumption⟩
  · exact ⟨x, h⟩
theorem W.slotUpd (w : W K S0 H0 ω a σ (T ++ ts) H) {i : Nat} {s s' : Sl} {v : V} {p : Addr} {u : HO} (e : a[i]? = some (some s)) (hv : σ[i]? = some (some v)) (hp : ω p = some (.sl i)) (hu : H p = some u) (mu : Mut (some u)) (hs : (H' p).isSome = true)
    (keep : ∀ b, b ≠ p → H' b = H b) (lk : s'.lk = false) (own : Own K H' false s'.m s'.d v (fun b => ω b = some (.sl i) ∨ ∃ j, T.length ≤ j ∧ ω b = some (.tm j))) :
    W K S0 H0 (toSl ω T.length i) (a.set i (some s')) σ T H' := by
  have ps : Pst H H' := ⟨fun b xs h => by
    rw [keep b fun z => ?_]; exact h
    subst z; rw [hu] at h; cases h; exact mu, fun b o x h => by
    rw [keep b fun z => ?_]; exact h
    subst z; rw [hu] at h; cases h; exact mu⟩
  refine ⟨fun b x h => ?_, fun b o h n => ?_, w.pst.trans ps, fun j t h => ?_, fun j t h => ?_, fun j t v' e1 e2 e3 => by
    by_cases hj : i = j
    · subst hj
      rw [List.getElem?_set_self (List.getElem?_eq_some_iff.mp e).1] at e1
      cases e1
      rw [lk] at e2
      cases e2
    · rw [List.getElem?_set_ne hj] at e1
      exact w.lck j t v' e1 e2 e3, by rw [List.length_set]; exact w.len⟩
  · obtain ⟨y, hy⟩ := toSl_some h
    refine ⟨?_, (w.dom b y hy).2⟩
    by_cases hb : b = p
    · subst hb; exact hs
    · rw [keep b hb]; exact (w.dom b y hy).1
  · have h1 := w.old b o h n
    rw [keep b fun z => ?_]; exact h1
    subst z
    rcases (w.dom b _ hp).2 with q | q
    · exact n q
    · rw [q] at h; cases h
  · by_cases hj : i = j
    · subst hj
      rw [List.getElem?_set_self (List.getElem?_eq_some_iff.mp e).1] at h
      cases h
      rw [lk]
      refine ⟨v, hv, own.mv (.refl _) (fun b z => ?_) fun _ _ => rfl⟩
      rcases z with z | ⟨j, l, z⟩
      · exact toSl_sl z
      · exact toSl_mv z l
    · rw [List.getElem?_set_ne hj] at h
      obtain ⟨v', e1, q⟩ := w.slot j t h
      refine ⟨v', e1, q.mv ps (fun b z => toSl_sl z) fun b z => keep b fun hb => ?_⟩
      subst hb
      have z : ω b = some (.sl j) := z
      rw [hp] at z
      cases z
      exact hj rfl
  · have hj : j < T.length := (List.getElem?_eq_some_iff.mp h).1
    refine (w.tmp j t (by rw [List.getElem?_append_left hj]; exact h)).mv ps (fun b z => toSl_tm z hj) fun b z => keep b fun hb => ?_
    subst hb
    have z : ω b = some (.tm j) := z
    rw [hp] at z
    cases z
/-- kids, one of them put anew -/
theorem kids_put {m k : Nat} {ds ds' : List D} {xs xs' : List V} {F G : Addr → Prop} {p : Addr} {χ : Addr → Nat} {d' : D} {x' : V} (ps : Pst H H') (kids : ∀ (i : Nat) e x, ds[i]? = some e → xs[i]? = some x → Own1 K H m e x (fun b => F b ∧ b ≠ p ∧ χ b = i))
    (new : Own1 K H m d' x' G) (dj : ∀ b, G b → ¬ F b) (gp : ∀ b, G b → b ≠ p) (keep : ∀ b, b ≠ p → H' b = H b)
    (other : ∀ (i : Nat) e x, i ≠ k → ds'[i]? = some e → xs'[i]? = some x → ds[i]? = some e ∧ xs[i]? = some x) (hit : ∀ e x, ds'[k]? = some e → xs'[k]? = some x → e = d' ∧ x = x') :
    ∃ χ' : Addr → Nat, ∀ (i : Nat) e x, ds'[i]? = some e → xs'[i]? = some x → Own1 K H' m e x (fun b => (F b ∨ G b) ∧ b ≠ p ∧ χ' b = i) := by
  classical
  refine ⟨fun b => if G b then k else χ b, fun i e x h1 h2 => ?_⟩
  by_cases hi : i = k
  · subst hi
    obtain ⟨rfl, rfl⟩ := hit e x h1 h2
    exact new.mv ps (fun b hb => ⟨.inr hb, gp b hb, if_pos hb⟩) fun b hb => keep b (gp b hb)
  · obtain ⟨h3, h4⟩ := other i e x hi h1 h2
    exact (kids i e x h3 h4).mv ps (fun b hb => ⟨.inl hb.1, hb.2.1, (if_neg fun g => dj b g hb.1).trans hb.2.2⟩) fun b hb => keep b hb.2.1
/-- a value that may be put among kids at mode m -/
theorem putV_own {m am : Nat} {d : D} {v : V} {F : Addr → Prop} (h : Own K H false am d v F) (k : putV m (am, d) = true) : Own1 K H m d v F := by
  unfold putV at k
  rw [Bool.or_eq_true, decide_eq_true_iff] at k
  rcases k with k | k
  · exact Own1.of_flat k (h.im_flat k)
  · have k : am = m := k
    subst k
    exact own_false.mp h
/-- the root of an unlocked list, of an unlocked dict -/
theorem own_rootL {m : Nat} {ds : List D} {v : V} {F : Addr → Prop} (h : Own K H false (m + 1) (.list ds) v F) :
    ∃ p xs, ∃ χ : Addr → Nat, v = .ref p ∧ F p ∧ H p = some (.lst xs) ∧ ds.length = xs.length ∧ ∀ (i : Nat) e x, ds[i]? = some e → xs[i]? = some x → Own1 K H m e x (fun b => F b ∧ b ≠ p ∧ χ b = i) := by
  unfold Own at h
  rcases h with ⟨f, _⟩ | ⟨p, xs, ds', χ, e1, e2, fa, ha, l, q⟩ | ⟨p, u, xs, kvs, χ, e1, e2, _⟩ | ⟨z, _⟩
  · cases f
  · cases e2
    exact ⟨p, xs, χ, e1, fa, ha, l, q⟩
  · cases e2
  · cases z
theorem own_rootD {m : Nat} {kds : List (D × D)} {v : V} {F : Addr → Prop} (h : Own K H false (m + 1) (.dict kds) v F) :
    ∃ p u xs, ∃ χ : Addr → Nat, v = .ref p ∧ F p ∧ H p = some u ∧ DctIs K H p u (kds.map (·.1)) xs ∧ ∀ (i : Nat) e x, kds[i]? = some e → xs[i]? = some x → Own1 K H m e.2 x (fun b => F b ∧ b ≠ p ∧ χ b = i) := by
  unfold Own at h
  rcases h with ⟨f, _⟩ | ⟨p, xs, ds', χ, e1, e2, _⟩ | ⟨p, u, xs, kvs, χ, e1, e2, fa, ha, du, q⟩ | ⟨z, _⟩
  · cases f
  · cases e2
  · cases e2
    exact ⟨p, u, xs, χ, e1, fa, ha, du, q⟩
  · cases z
theorem own_ofL {m : Nat} {ds : List D} {p : Addr} {xs : List V} {F : Addr → Prop} {χ : Addr → Nat} (fa : F p) (ha : H p = some (.lst xs)) (l : ds.length = xs.length) (q : ∀ (i : Nat) e x, ds[i]? = some e → xs[i]? = some x → Own1 K H m e x (fun b => F b ∧ b ≠ p ∧ χ b = i)) :
    Own1 K H (m + 1) (.list ds) (.ref p) F := by
  unfold Own1
  exact .inr (.inl ⟨p, xs, ds, χ, rfl, rfl, fa, ha, l, q⟩)
theorem own_ofD {m : Nat} {kds : List (D × D)} {p : Addr} {u : HO} {xs : List V} {F : Addr → Prop} {χ : Addr → Nat} (fa : F p) (ha : H p = some u) (du : DctIs K H p u (kds.map (·.1)) xs)
    (q : ∀ (i : Nat) e x, kds[i]? = some e → xs[i]? = some x → Own1 K H m e.2 x (fun b => F b ∧ b ≠ p ∧ χ b = i)) : Own1 K H (m + 1) (.dict kds) (.ref p) F := by
  unfold Own1
  exact .inr (.inr ⟨p, u, xs, kds, χ, rfl, rfl, fa, ha, du, q⟩)
/-- new contents that nobody owns -/
theorem own_fresh {m : Nat} {ds : List D} {p : Addr} {xs : List V} {F : Addr → Prop} {u : HO} (fa : F p) (hu : H p = some u) (mu : Mut (some u)) (im : ImA K H ds xs) (k : m = 0 ∨ ds.all flat = true) : Own1 K (upd H p (.lst xs)) (m + 1) (.list ds) (.ref p) F :=
  own_ofL (χ := fun _ => 0) fa upd_same im.len (kids_own (G := fun i b => F b ∧ b ≠ p ∧ (fun _ => 0) b = i) (ImA.pst (.chg hu mu) _ _ im) k)
theorem kidsIm_cases {m : Nat} {ds : List D} (h : kidsIm (m + 1) (.list ds) = true) : m = 0 ∨ ds.all flat = true := by
  have h : (decide (m + 1 ≤ 1) || ds.all flat) = true := h
  rw [Bool.or_eq_true, decide_eq_true_iff] at h
  rcases h with h | h
  · exact .inl (by omega)
  · exact .inr h
/-- xs.append(v) -/
theorem own_append {m am : Nat} {ds : List D} {d : D} {v x : V} {F G : Addr → Prop} (h : Own K H false (m + 1) (.list ds) v F) (hx : Own K H false am d x G) (k : putV m (am, d) = true) (dj : ∀ b, G b → ¬ F b) :
    ∃ p xs, v = .ref p ∧ F p ∧ H p = some (.lst xs) ∧ ds.length = xs.length ∧ Own1 K (upd H p (.lst (xs ++ [x]))) (m + 1) (.list (ds ++ [d])) (.ref p) (fun b => F b ∨ G b) := by
  obtain ⟨p, xs, χ, rfl, fa, ha, l, q⟩ := own_rootL h
  have gp : ∀ b, G b → b ≠ p := fun b g z => dj b g (z ▸ fa)
  obtain ⟨χ', q'⟩ := kids_put (k := ds.length) (ds' := ds ++ [d]) (xs' := xs ++ [x]) (H' := upd H p (.lst (xs ++ [x]))) (.chg ha trivial) q (putV_own hx k) dj gp (fun b hb => upd_ne hb) (fun i e y hi h1 h2 => by
    have h3 : i < (ds ++ [d]).length := (List.getElem?_eq_some_iff.mp h1).1
    rw [List.length_append, List.length_singleton] at h3
    rw [List.getElem?_append_left (by omega)] at h1
    rw [List.getElem?_append_left (by omega)] at h2
    exact ⟨h1, h2⟩) (fun e y h1 h2 => by
    rw [List.getElem?_append_right (Nat.le_refl _), Nat.sub_self] at h1
    rw [l, List.getElem?_append_right (Nat.le_refl _), Nat.sub_self] at h2
    cases h1; cases h2
    exact ⟨rfl, rfl⟩)
  exact ⟨p, xs, rfl, fa, ha, l, own_ofL (.inl fa) upd_same (by simp [l]) q'⟩
/-- xs[j] = v -/
theorem own_setAt {m am j : Nat} {ds : List D} {d : D} {v x : V} {F G : Addr → Prop} (h : Own K H false (m + 1) (.list ds) v F) (hx : Own K H false am d x G) (k : putV m (am, d) = true) (dj : ∀ b, G b → ¬ F b) (hj : j < ds.length) :
    ∃ p xs, v = .ref p ∧ F p ∧ H p = some (.lst xs) ∧ ds.length = xs.length ∧ Own1 K (upd H p (.lst (xs.set j x))) (m + 1) (.list (ds.set j d)) (.ref p) (fun b => F b ∨ G b) := by
  obtain ⟨p, xs, χ, rfl, fa, ha, l, q⟩ := own_rootL h
  have gp : ∀ b, G b → b ≠ p := fun b g z => dj b g (z ▸ fa)
  obtain ⟨χ', q'⟩ := kids_put (k := j) (ds' := ds.set j d) (xs' := xs.set j x) (H' := upd H p (.lst (xs.set j x))) (.chg ha trivial) q (putV_own hx k) dj gp (fun b hb => upd_ne hb) (fun i e y hi h1 h2 => by
    rw [List.getElem?_set_ne (Ne.symm hi)] at h1 h2
    exact ⟨h1, h2⟩) (fun e y h1 h2 => by
    rw [List.getElem?_set_self hj] at h1
    rw [List.getElem?_set_self (by omega)] at h2
    cases h1; cases h2
    exact ⟨rfl, rfl⟩)
  exact ⟨p, xs, rfl, fa, ha, l, own_ofL (.inl fa) upd_same (by simp [l]) q'⟩
/-! ### d[k] = v -/
theorem putK_hit {q : Key × V} {r : List (Key × V)} {k : Key} {x : V} (e : q.1 = k) (nd : ((q :: r).map (·.1)).Nodup) : putK (q :: r) k x = (q.1, x) :: r := by
  unfold putK
  rw [if_pos (by rw [List.any_cons, decide_eq_true e, Bool.true_or]), List.map_cons, if_pos e]
  congr 1
  rw [List.map_cons, List.nodup_cons] at nd
  have : ∀ p ∈ r, (if p.1 = k then (p.1, x) else p) = p := fun p hp => if_neg fun z => nd.1 (by rw [e, ← z]; exact List.mem_map_of_mem hp)
  rw [List.map_congr_left this]
  simp
theorem putK_miss {q : Key × V} {r : List (Key × V)} {k : Key} {x : V} (e : ¬ q.1 = k) : putK (q :: r) k x = q :: putK r k x := by
  unfold putK
  rw [List.any_cons, decide_eq_false e, Bool.false_or]
  split
  · rw [List.map_cons, if_neg e]
  · rfl
theorem dput_rel (k : Key) (d : D) (x : V) : ∀ {kds : List (D × D)} {kvs : List (Key × V)}, kds.map (·.1) = kvs.map (fun p => keyD p.1) → (kvs.map (·.1)).Nodup →
    (dput kds (keyD k) d).map (·.1) = (putK kvs k x).map (fun p => keyD p.1) ∧ ∃ c, (∀ (i : Nat) e y, i ≠ c → (dput kds (keyD k) d)[i]? = some e → ((putK kvs k x).map (·.2))[i]? = some y → kds[i]? = some e ∧ (kvs.map (·.2))[i]? = some y) ∧
      (∀ e y, (dput kds (keyD k) d)[c]? = some e → ((putK kvs k x).map (·.2))[c]? = some y → e.2 = d ∧ y = x)
  | [], [], _, _ => by
    refine ⟨rfl, 0, fun i e y hi h1 h2 => ?_, fun e y h1 h2 => ?_⟩
    · have : i = 0 := by
        have := (List.getElem?_eq_some_iff.mp h1).1
        simp [dput] at this
        exact this
      exact absurd this hi
    · simp [dput] at h1
      simp [putK] at h2
      exact ⟨by rw [← h1], h2.symm⟩
  | [], _ :: _, e, _ => by cases e
  | _ :: _, [], e, _ => by cases e
  | p :: kds, q :: kvs, e, nd => by
    simp only [List.map_cons, List.cons.injEq] at e
    obtain ⟨e1, e2⟩ := e
    obtain ⟨a, d0⟩ := p
    have e1 : a = keyD q.1 := e1
    subst e1
    by_cases hk : q.1 = k
    · rw [putK_hit hk nd]
      have : dput ((keyD q.1, d0) :: kds) (keyD k) d = (keyD q.1, d) :: kds := by
        rw [dput, beqKey_keyD, decide_eq_true hk, if_pos rfl]
      rw [this]
      refine ⟨by simp [e2], 0, fun i e y hi h1 h2 => ?_, fun e y h1 h2 => ?_⟩
      · cases i with
        | zero => exact absurd rfl hi
        | succ i => exact ⟨by simpa using h1, by simpa using h2⟩
      · simp at h1 h2
        exact ⟨by rw [← h1], h2.symm⟩
    · rw [putK_miss hk]
      have : dput ((keyD q.1, d0) :: kds) (keyD k) d = (keyD q.1, d0) :: dput kds (keyD k) d := by
        rw [dput, beqKey_keyD, decide_eq_false hk, if_neg (by decide)]
      rw [this]
      rw [List.map_cons, List.nodup_cons] at nd
      obtain ⟨h1, c, h2, h3⟩ := dput_rel k d x e2 nd.2
      refine ⟨by simp [h1], c + 1, fun i e y hi g1 g2 => ?_, fun e y g1 g2 => ?_⟩
      · cases i with
        | zero => exact ⟨by simpa using g1, by simpa using g2⟩
        | succ i =>
          obtain ⟨g3, g4⟩ := h2 i e y (by omega) (by simpa using g1) (by simpa using g2)
          exact ⟨by simpa using g3, by simpa using g4⟩
      · exact h3 e y (by simpa using g1) (by simpa using g2)
theorem own_dput {m am : Nat} {kds : List (D × D)} {k : Key} {d : D} {v x : V} {F G : Addr → Prop} (h : Own K H false (m + 1) (.dict kds) v F) (hks : kds.all (fun kv => keyOk kv.1) = true) (hx : Own K H false am d x G) (kk : putV m (am, d) = true) (dj : ∀ b, G b → ¬ F b) :
    ∃ p kvs, v = .ref p ∧ F p ∧ H p = some (.dK kvs) ∧ kvs.length = kds.length ∧ ((kvs.map (·.1)).Nodup → Own1 K (upd H p (.dK (putK kvs k x))) (m + 1) (.dict (dput kds (keyD k) d)) (.ref p) (fun b => F b ∨ G b)) := by
  obtain ⟨p, u, xs, χ, rfl, fa, ha, du, q⟩ := own_rootD h
  obtain ⟨kvs, rfl, ek, rfl⟩ := du_K du hks
  have gp : ∀ b, G b → b ≠ p := fun b g z => dj b g (z ▸ fa)
  refine ⟨p, kvs, rfl, fa, ha, ?_, fun nd => ?_⟩
  · have := congrArg List.length ek
    simpa using this.symm
  · obtain ⟨h1, c, h2, h3⟩ := dput_rel k d x ek nd
    obtain ⟨χ', q'⟩ := kids_put (k := c) (ds := kds.map (·.2)) (ds' := (dput kds (keyD k) d).map (·.2)) (xs' := (putK kvs k x).map (·.2)) (H' := upd H p (.dK (putK kvs k x))) (.chg ha trivial) (fun i e y g1 g2 => by
        rw [List.getElem?_map] at g1
        cases hk : kds[i]? with
        | none => rw [hk] at g1; cases g1
        | some kv => rw [hk] at g1; cases g1; exact q i kv y hk g2) (putV_own hx kk) dj gp (fun b hb => upd_ne hb) (fun i e y hi g1 g2 => by
        rw [List.getElem?_map] at g1
        cases hk : (dput kds (keyD k) d)[i]? with
        | none => rw [hk] at g1; cases g1
        | some kv =>
          rw [hk] at g1; cases g1
          obtain ⟨g3, g4⟩ := h2 i kv y hi hk g2
          exact ⟨by rw [List.getElem?_map, g3]; rfl, g4⟩) (fun e y g1 g2 => by
        rw [List.getElem?_map] at g1
        cases hk : (dput kds (keyD k) d)[c]? with
        | none => rw [hk] at g1; cases g1
        | some kv =>
          rw [hk] at g1; cases g1
          exact h3 kv y hk g2)
    exact own_ofD (.inl fa) upd_same (.inl ⟨_, rfl, h1, rfl⟩) fun i e y g1 g2 => q' i e.2 y (by rw [List.getElem?_map, g1]; rfl) g2
theorem dput_new : ∀ {kds : List (D × D)} {k v : D}, dget kds k = none → dput kds k v = kds ++ [(k, v)]
  | [], k, v, _ => rfl
  | (a, w) :: r, k, v, h => by
    unfold dget at h
    split at h
    · cases h
    · rename_i hb
      unfold dput
      rw [if_neg hb, dput_new h]
      rfl
/-- the tuple dict that the slot owns -/
def TDOwn (K : PySem.W.Frag) (H : Hp) (a : Addr) (xs : List (List Int × Addr × Value)) : Prop :=
  (xs = [] ∧ H a = some (.dK [])) ∨ ∃ ob, H a = some (TdO a ob) ∧ (a == sysModules) = false ∧ xs ≠ [] ∧ TObj ob xs ∧ ∀ x ∈ xs, TuA K H x.2.1 (x.1.map V.int)
theorem TDOwn.at {a : Addr} {xs : List (List Int × Addr × Value)} (h : TDOwn K H a xs) : TDAt K H a xs := by
  rcases h with ⟨h1, h2⟩ | ⟨ob, h1, h2⟩
  · exact .inl ⟨h1, .inl h2⟩
  · exact .inr ⟨ob, .inl h1, h2⟩
theorem TDOwn.mut {a : Addr} {xs : List (List Int × Addr × Value)} (h : TDOwn K H a xs) : ∃ u, H a = some u ∧ Mut (some u) := by
  rcases h with ⟨_, h2⟩ | ⟨ob, h1, _⟩
  · exact ⟨_, h2, trivial⟩
  · exact ⟨_, h1, trivial⟩
theorem du_T2 {a : Addr} {u : HO} {kds : List (D × D)} {vs : List V} (du : DctIs K H a u (kds.map (·.1)) vs) (r : H a = some u) (h : keysT kds = true) : ∃ xs, TDOwn K H a xs ∧ kds.map (·.1) = xs.map (fun x => PyData.tuple (x.1.map .int)) ∧ Vals vs (xs.map (·.2.2)) := by
  rcases du with ⟨kvs, rfl, e, rfl⟩ | ⟨ob, xs, rfl, h1, h2, h3, h4, h5, h6⟩
  · cases kvs with
    | nil => exact ⟨[], .inl ⟨rfl, r⟩, e, .nil⟩
    | cons kv kvs =>
      cases kds with
      | nil => cases e
      | cons kd kds =>
        simp only [List.map_cons, List.cons.injEq] at e
        have := List.all_eq_true.mp h kd (by simp)
        rw [e.1] at this
        cases hk : kv.1 with
        | inl i => rw [hk] at this; cases this
        | inr i => rw [hk] at this; cases this
  · exact ⟨xs, .inr ⟨ob, r, h1, h2, h3, h6⟩, h4, h5⟩
theorem vals_set : ∀ {vs : List V} {us : List Value} (i : Nat) {v : V} {u : Value}, Vals vs us → L2.RelV v u → Vals (vs.set i v) (us.set i u)
  | [], _, i, v, u, .nil, _ => .nil
  | w :: vs, _, 0, v, u, .cons _ t, h => .cons h t
  | w :: vs, _, i + 1, v, u, .cons r t, h => .cons r (vals_set i t h)
theorem vals_app : ∀ {vs vs2 : List V} {us us2 : List Value}, Vals vs us → Vals vs2 us2 → Vals (vs ++ vs2) (us ++ us2)
  | [], _, _, _, .nil, h => h
  | _ :: _, _, _, _, .cons r t, h => .cons r (vals_app t h)
theorem putAt_set {ks : List Int} {val : Value} : ∀ {ts : List (List Int × Addr × Value)} {i : Nat} {p : Addr × Value}, (ts.map (·.1)).Nodup → ts[i]? = some (ks, p) → ts.map (putAt ks val) = ts.set i (ks, p.1, val)
  | [], i, p, _, h => by simp at h
  | x :: ts, 0, p, nd, h => by
    simp at h
    subst h
    rw [List.map_cons, List.nodup_cons] at nd
    rw [List.map_cons, map_putAt_of_not_mem _ _ _ nd.1]
    simp [putAt]
  | x :: ts, i + 1, p, nd, h => by
    rw [List.map_cons, List.nodup_cons] at nd
    have h2 : ts[i]? = some (ks, p) := by simpa using h
    have ne : x.1 ≠ ks := fun e => nd.1 (by rw [e]; exact List.mem_map.mpr ⟨_, List.mem_of_getElem? h2, rfl⟩)
    rw [List.map_cons, putAt_set nd.2 h2]
    simp [putAt, ne]
theorem own_dputT {m am : Nat} {kds : List (D × D)} {ks : List Int} {d : D} {v x : V} {b : Addr} {F G : Addr → Prop} (h : Own K H false (m + 1) (.dict kds) v F) (hT : keysT kds = true) (hx : Own K H false am d x G) (kk : putV m (am, d) = true) (dj : ∀ b, G b → ¬ F b) (tb : TuA K H b (ks.map V.int)) :
    ∃ p ts, v = .ref p ∧ F p ∧ TDOwn K H p ts ∧ ts.length = kds.length ∧ ∀ ob' val, (p == sysModules) = false → L2.RelV x val → TObj ob' (storedH ts ks b val) → Own1 K (upd H p (TdO p ob')) (m + 1) (.dict (dput kds (.tuple (ks.map .int)) d)) (.ref p) (fun b => F b ∨ G b) := by
  obtain ⟨p, u, vs, χ, rfl, fa, ha, du, q⟩ := own_rootD h
  obtain ⟨ts, td, et, vt⟩ := du_T2 du ha hT
  have gp : ∀ b, G b → b ≠ p := fun b g z => dj b g (z ▸ fa)
  have hl := congrArg List.length et
  simp only [List.length_map] at hl
  refine ⟨p, ts, rfl, fa, td, hl.symm, fun ob' val hs rv hx' => ?_⟩
  have ps : Pst H (upd H p (TdO p ob')) := .chg ha du.mut
  have keys : ∀ y ∈ ts, TuA K (upd H p (TdO p ob')) y.2.1 (y.1.map V.int) := fun y hy => by
    rcases td with ⟨rfl, _⟩ | ⟨ob, _, _, _, _, hk⟩
    · cases hy
    · exact (hk y hy).pst ps
  have q0 : ∀ (i : Nat) e y, (kds.map (·.2))[i]? = some e → vs[i]? = some y → Own1 K H m e y (fun b => F b ∧ b ≠ p ∧ χ b = i) := fun i e y g1 g2 => by
    rw [List.getElem?_map] at g1
    cases hk : kds[i]? with
    | none => rw [hk] at g1; cases g1
    | some kv => rw [hk] at g1; cases g1; exact q i kv y hk g2
  have lv : vs.length = kds.length := by
    have := vt.length
    simp at this
    omega
  rcases tget_rel (P := fun _ _ _ => True) ks et (fun _ _ _ _ _ => trivial) with ⟨h1, h2⟩ | ⟨i, pp, d', h1, h2, _, h3, h4, h5⟩
  · rw [storedH_new h1] at hx'
    rw [dput_new h2]
    obtain ⟨χ', q'⟩ := kids_put (k := kds.length) (ds := kds.map (·.2)) (ds' := (kds ++ [(PyData.tuple (ks.map PyData.int), d)]).map (·.2)) (xs' := vs ++ [x]) (H' := upd H p (TdO p ob')) ps q0 (putV_own hx kk) dj gp (fun b hb => upd_ne hb)
      (fun i e y hi g1 g2 => by
        rw [List.map_append] at g1
        by_cases hlt : i < kds.length
        · rw [List.getElem?_append_left (by simpa using hlt)] at g1
          rw [List.getElem?_append_left (by omega)] at g2
          exact ⟨g1, g2⟩
        · rw [List.getElem?_eq_none (by simp; omega)] at g1
          cases g1)
      (fun e y g1 g2 => by
        rw [List.map_append, List.getElem?_append_right (by simp)] at g1
        rw [List.getElem?_append_right (by omega)] at g2
        simp [lv] at g1 g2
        exact ⟨g1.symm, g2.symm⟩)
    refine own_ofD (.inl fa) upd_same (.inr ⟨ob', _, rfl, hs, by simp, hx', ?_, ?_, ?_⟩) fun i e y g1 g2 => q' i e.2 y (by rw [List.getElem?_map, g1]; rfl) g2
    · rw [List.map_append, et, List.map_append]; rfl
    · rw [List.map_append]
      exact vals_app vt (.cons rv .nil)
    · intro y hy
      rcases List.mem_append.mp hy with hy | hy
      · exact keys y hy
      · simp at hy; subst hy; exact tb.pst ps
  · rw [storedH_old h1] at hx'
    have nd : (ts.map (·.1)).Nodup := by
      rcases td with ⟨rfl, _⟩ | ⟨ob, _, _, _, hx0, _⟩
      · exact .nil
      · exact hx0.nd
    rw [putAt_set nd h3] at hx'
    rw [h5]
    have il : i < kds.length := (List.getElem?_eq_some_iff.mp h4).1
    obtain ⟨χ', q'⟩ := kids_put (k := i) (ds := kds.map (·.2)) (ds' := (kds.set i (PyData.tuple (ks.map PyData.int), d)).map (·.2)) (xs' := vs.set i x) (H' := upd H p (TdO p ob')) ps q0 (putV_own hx kk) dj gp (fun b hb => upd_ne hb)
      (fun j e y hi g1 g2 => by
        rw [List.map_set, List.getElem?_set_ne (Ne.symm hi)] at g1
        rw [List.getElem?_set_ne (Ne.symm hi)] at g2
        exact ⟨g1, g2⟩)
      (fun e y g1 g2 => by
        rw [List.map_set, List.getElem?_set_self (by simpa using il)] at g1
        rw [List.getElem?_set_self (by omega)] at g2
        cases g1; cases g2
        exact ⟨rfl, rfl⟩)
    refine own_ofD (.inl fa) upd_same (.inr ⟨ob', _, rfl, hs, ?_, hx', ?_, ?_, ?_⟩) fun j e y g1 g2 => q' j e.2 y (by rw [List.getElem?_map, g1]; rfl) g2
    · intro z
      have := congrArg List.length z
      simp at this
      subst this
      simp at h3
    · rw [List.map_set, et, List.map_set]
    · rw [List.map_set]
      exact vals_set i vt rv
    · intro y hy
      rcases List.mem_or_eq_of_mem_set hy with hy | hy
      · exact keys y hy
      · subst hy
        have := keys _ (List.mem_of_getElem? h3)
        exact this
/-! ### a kid is changed -/
/-- the kid at c, an object of its own, has changed -/
theorem own_subL {m c : Nat} {ds : List D} {x x' : D} {y : V} {xs : List V} {p qa : Addr} {u : HO} {F : Addr → Prop} {χ : Addr → Nat} (fa : F p) (ha : H p = some (.lst xs)) (l : ds.length = xs.length)
    (q : ∀ (i : Nat) e x, ds[i]? = some e → xs[i]? = some x → Own1 K H m e x (fun b => F b ∧ b ≠ p ∧ χ b = i)) (hc : ds[c]? = some x) (hx : xs[c]? = some y) (fq : F qa ∧ qa ≠ p ∧ χ qa = c) (hq : H qa = some u) (mu : Mut (some u))
    (keep : ∀ b, b ≠ qa → H' b = H b) (new : Own1 K H' m x' y (fun b => F b ∧ b ≠ p ∧ χ b = c)) : Own1 K H' (m + 1) (.list (ds.set c x')) (.ref p) F := by
  have ps : Pst H H' := ⟨fun b xs h => by
    rw [keep b fun z => ?_]; exact h
    subst z; rw [hq] at h; cases h; exact mu, fun b o x h => by
    rw [keep b fun z => ?_]; exact h
    subst z; rw [hq] at h; cases h; exact mu⟩
  refine own_ofL (χ := χ) fa ((keep p (Ne.symm fq.2.1)).trans ha) (by simp [l]) fun i e x h1 h2 => ?_
  by_cases hi : i = c
  · subst hi
    rw [List.getElem?_set_self (List.getElem?_eq_some_iff.mp hc).1] at h1
    rw [hx] at h2
    cases h1; cases h2
    exact new
  · rw [List.getElem?_set_ne (Ne.symm hi)] at h1
    exact (q i e x h1 h2).mv ps (fun _ z => z) fun b hb => keep b fun z => hi (by subst z; rw [← hb.2.2, fq.2.2])
theorem dput_at {kds : List (D × D)} {k : D} {x y : D} : ∀ {kds : List (D × D)}, dget kds k = some x → ∃ c a, kds[c]? = some (a, x) ∧ dput kds k y = kds.set c (a, y)
  | [], h => by cases h
  | (a, w) :: r, h => by
    unfold dget at h
    unfold dput
    split at h
    · rename_i hb
      cases h
      exact ⟨0, a, rfl, by rw [if_pos hb]; rfl⟩
    · rename_i hb
      obtain ⟨c, a', h1, h2⟩ := dput_at (kds := r) h
      exact ⟨c + 1, a', by simpa using h1, by rw [if_neg hb, h2]; rfl⟩
theorem own_subD {m c : Nat} {kds : List (D × D)} {kd x x' : D} {y : V} {xs : List V} {p qa : Addr} {u uu : HO} {F : Addr → Prop} {χ : Addr → Nat} (fa : F p) (ha : H p = some uu) (du : DctIs K H p uu (kds.map (·.1)) xs)
    (q : ∀ (i : Nat) e x, kds[i]? = some e → xs[i]? = some x → Own1 K H m e.2 x (fun b => F b ∧ b ≠ p ∧ χ b = i)) (hc : kds[c]? = some (kd, x)) (hx : xs[c]? = some y) (fq : F qa ∧ qa ≠ p ∧ χ qa = c) (hq : H qa = some u) (mu : Mut (some u))
    (keep : ∀ b, b ≠ qa → H' b = H b) (new : Own1 K H' m x' y (fun b => F b ∧ b ≠ p ∧ χ b = c)) : Own1 K H' (m + 1) (.dict (kds.set c (kd, x'))) (.ref p) F := by
  have ps : Pst H H' := ⟨fun b xs h => by
    rw [keep b fun z => ?_]; exact h
    subst z; rw [hq] at h; cases h; exact mu, fun b o x h => by
    rw [keep b fun z => ?_]; exact h
    subst z; rw [hq] at h; cases h; exact mu⟩
  refine own_ofD (χ := χ) fa ((keep p (Ne.symm fq.2.1)).trans ha) (xs := xs) ?_ fun i e x h1 h2 => ?_
  · rw [List.map_set]
    have : (kds.map (·.1)).set c kd = kds.map (·.1) := by
      have hh : (kds.map (·.1))[c]? = some kd := by rw [List.getElem?_map, hc]; rfl
      obtain ⟨hl, he⟩ := List.getElem?_eq_some_iff.mp hh
      rw [← he]
      exact List.set_getElem_self ..
    rw [this]
    exact du.pst ps
  · by_cases hi : i = c
    · subst hi
      rw [List.getElem?_set_self (List.getElem?_eq_some_iff.mp hc).1] at h1
      rw [hx] at h2
      cases h1; cases h2
      exact new
    · rw [List.getElem?_set_ne (Ne.symm hi)] at h1
      exact (q i e x h1 h2).mv ps (fun _ z => z) fun b hb => keep b fun z => hi (by subst z; rw [← hb.2.2, fq.2.2])
/-- the kid at a key, what it owns, how a changed one is put back -/
theorem own_kidAt {m : Nat} {d kd x x' d2 : D} {v : V} {F : Addr → Prop} (h : Own K H false (m + 1) d v F) (fx : flat x = false) (f : flat d = false) (e : idxD d kd = some x) (st : stoD d kd x' = some d2) :
    ∃ y R, Own1 K H m x y R ∧ (∀ b, R b → F b) ∧ kidV H v kd = some y ∧
      ∀ (H' : Hp) (qa : Addr) (u : HO), R qa → H qa = some u → Mut (some u) → (∀ b, b ≠ qa → H' b = H b) → Own1 K H' m x' y R → Own1 K H' (m + 1) d2 v F := by
  unfold idxD at e
  split at e
  · rename_i ds i
    obtain ⟨p, xs, χ, rfl, fa, ha, l, q⟩ := own_rootL h
    obtain ⟨j, y, h1, h2, h3, hn⟩ := atI_of l e
    simp only [stoD, hn, Option.map_some, Option.some.injEq] at st
    subst st
    exact ⟨y, fun b => F b ∧ b ≠ p ∧ χ b = j, q j x y h1 h2, fun b hb => hb.1, (by rw [kidV_lst (.inl ha)]; exact h3), fun H' qa u hr hu mu keep new => own_subL fa ha l q h1 h2 hr hu mu keep new⟩
  · cases f
  · cases f
  · split at e
    · rename_i kds hz
      rw [Bool.and_eq_true] at hz
      obtain ⟨p, u, xs, χ, rfl, fa, ha, du, q⟩ := own_rootD h
      obtain ⟨kk, rfl⟩ : ∃ kk : Key, kd = keyD kk := by
        cases kd with
        | int n => exact ⟨.inl n, rfl⟩
        | str n => exact ⟨.inr n, rfl⟩
        | _ => cases hz.1
      obtain ⟨kvs, rfl, ek, rfl⟩ := du_K (id du) hz.2
      rcases dget_rel (P := fun _ _ _ => True) kk ek (fun _ _ _ _ _ => trivial) with ⟨h1, h2⟩ | ⟨i, y, d', h1, h2, _, ka, h3, h4, h5⟩
      · rw [h2] at e; cases e
      · rw [h2] at e; cases e
        simp only [stoD] at st
        split at st
        · cases st
          rw [h5]
          exact ⟨y, fun b => F b ∧ b ≠ p ∧ χ b = i, q i _ y h3 h4, fun b hb => hb.1, (by rw [kidV_dK (.inl ha)]; exact h1), fun H' qa u hr hu mu keep new => own_subD fa ha du q h3 h4 hr hu mu keep new⟩
        · split at st
          · rename_i hz2
            simp only [Bool.and_eq_true] at hz2
            cases kk <;> cases hz2.1.1
          · cases st
    · split at e
      · rw [Option.filter_eq_some_iff] at e
        rw [e.2] at fx
        cases fx
      · cases e
  · cases e
end RV

set_option maxRecDepth 100000
/-! Ev14: methods that change their object. -/
namespace RV
open PySem L2 PySem.Spec PyProof.Rows
def MuRule (K : PySem.W.Frag) (f : Mu) (r : V → List V → Hp → VK → Prop) : Prop :=
  ∀ (H : Hp) (m am : Nat) (x : D) (v : V) (F G : Addr → Prop) (vs : List V) (us : List (Nat × D)) (d x' : D) (Q : VK), Own K H false (m + 1) x v F → isLst x = true →
    (isApp f = true → ∃ y dd, vs = [y] ∧ us = [(am, dd)] ∧ Own K H false am dd y G) → (isApp f = false → OwnAll K H vs us) → (∀ b, G b → ¬ F b) → putOk f m us = true → (isApp f = true ∨ kidsIm (m + 1) x = true) → muD f x us = some (d, x') →
    (∀ p u y H', v = .ref p → F p → H p = some u → Mut (some u) → (∀ b, b ≠ p → H' b = H b) → (H' p).isSome = true → Own1 K H' (m + 1) x' v (fun b => F b ∨ G b) → (flat d = true ∨ m = 0 → Im K H' d y) → Q y H') → r v vs H Q
section
variable {K : PySem.W.Frag} {H : Hp}
theorem lst_of {x : D} (h : isLst x = true) : ∃ ds, x = .list ds := by
  cases x <;> first | exact ⟨_, rfl⟩ | cases h
/-- an unlocked list whose kids are nobody's -/
theorem own_rootIm {m : Nat} {ds : List D} {v : V} {F : Addr → Prop} (h : Own K H false (m + 1) (.list ds) v F) (k : kidsIm (m + 1) (.list ds) = true) :
    ∃ p xs, v = .ref p ∧ F p ∧ H p = some (.lst xs) ∧ ImA K H ds xs := by
  obtain ⟨p, xs, χ, rfl, fa, ha, l, q⟩ := own_rootL h
  refine ⟨p, xs, rfl, fa, ha, ImA.iff.mpr ⟨l, fun i e x h1 h2 => ?_⟩⟩
  have q1 := q i e x h1 h2
  rcases kidsIm_cases k with k | k
  · subst k; exact q1
  · exact Own1.im_flat (List.all_eq_true.mp k e (List.mem_of_getElem? h1)) q1
theorem mu_append : MuRule K .append rAppend := by
  intro H m am x v F G vs us d x' Q o l ha hb dj pk ki e k
  obtain ⟨ds, rfl⟩ := lst_of l
  obtain ⟨y, dd, rfl, rfl, oy⟩ := ha rfl
  change appendD (.list ds) [(am, dd)] = some (d, x') at e
  simp only [appendD] at e
  split at e
  · rename_i hz
    cases e
    have pk : putV m (am, dd) = true := by simpa [putOk] using pk
    obtain ⟨p, xs, rfl, fa, hp, hl, own⟩ := own_append o oy pk dj
    refine ⟨p, xs, y, rfl, rfl, hp, by rw [← hl]; exact of_decide_eq_true hz, ?_⟩
    exact k p _ .non _ rfl fa hp trivial (fun b hb => upd_ne hb) (by rw [upd_same]; rfl) own fun _ => im_none
  · cases e
/-- extend, the other one tracked or locked -/
def rExtR : V → List V → Hp → VK → Prop := fun x vs H Q => ∃ l b xs zs, x = .ref l ∧ vs = [.ref b] ∧ H l = some (.lst xs) ∧ Rd H b (.lst zs) ∧ xs.length + zs.length ≤ sizeLine ∧ Q .non (upd H l (.lst (xs ++ zs)))
theorem mt_extR {X : Cx} : MtR X "list.extend" rExtR := by
  intro pins s σ H x vs v us Q I rx rv h
  obtain ⟨l, b, xs, zs, rfl, rfl, hH, hB, hz, q⟩ := h
  cases rx
  obtain ⟨u, rfl, ru⟩ := rv.one
  cases ru
  obtain ⟨z, its, n, r, hl, e⟩ := I.lstM hH
  obtain ⟨its2, n2, r2, hl2, z2, e2⟩ := rd_lst I hB
  have hsz : its.toArray.size + its2.toArray.size ≤ sizeLine := by rw [List.size_toArray, List.size_toArray]; omega
  have hlong : ¬ (!its.toArray.isEmpty && Builtin.List.listTooLong (its.toArray.size + its2.toArray.size)) = true := by
    rw [notLongL hsz, Bool.and_false]
    exact Bool.false_ne_true
  refine call_meets PySem.F.slot_list_extend ⟨_, e, rfl⟩ PySem.F.entry_list_extend (PySem.F.args_list_extend_2 _ _)
    (AutoSeq1.list_extend_list_list_0 l its.toArray n b its2.toArray n2 hlong (by rw [List.size_toArray]; omega) (by omega)) ⟨e, e2, ?_⟩
  refine ⟨.non, _, I.lset (its' := its ++ its2) hH e (by simp) (r.append r2) ?_, rfl, q⟩
  rw [List.length_append]
  omega
theorem mu_extend : MuRule K .extend rExtR := by
  intro H m am x v F G vs us d x' Q o l ha hb dj pk ki e k
  obtain ⟨ds, rfl⟩ := lst_of l
  change extendD (.list ds) us = some (d, x') at e
  unfold extendD at e
  split at e
  · rename_i ds0 m1 es hd
    cases hd
    obtain ⟨y, rfl, z, F1, o1⟩ := own_one (hb rfl)
    split at e
    · rename_i hz
      cases e
      simp only [Bool.and_eq_true, own99, decide_eq_true_eq, fitL] at hz
      obtain ⟨p, xs, rfl, fa, hp, im⟩ := own_rootIm o (ki.resolve_left (by simp [isApp]))
      obtain ⟨b, zs, rfl, rb, im2⟩ := kids_rd o1 hz.1.1 hz.1.2
      refine ⟨p, b, xs, zs, rfl, rfl, hp, rb, by rw [← im.len, ← im2.len]; exact hz.2, ?_⟩
      refine k p _ .non _ rfl fa hp trivial (fun b hb => upd_ne hb) (by rw [upd_same]; rfl) (own_fresh (.inl fa) hp trivial (im.append im2) ?_) fun _ => im_none
      rcases kidsIm_cases (ki.resolve_left (by simp [isApp])) with kk | kk
      · exact .inl kk
      · have pk : (decide (m = 0) || [(m1, PyData.list es)].all fun x => match seqOf x.2 with
          | some ds => ds.all flat
          | none => true) = true := pk
        simp only [List.all_cons, List.all_nil, Bool.and_true, seqOf, Bool.or_eq_true, decide_eq_true_eq] at pk
        rcases pk with pk | pk
        · exact .inl pk
        · exact .inr (by rw [List.all_append, kk, pk]; rfl)
    · cases e
  · cases e
theorem ImA.dropLast {ds : List D} {xs : List V} (h : ImA K H ds xs) : ImA K H ds.dropLast xs.dropLast := by
  rw [List.dropLast_eq_take, List.dropLast_eq_take, h.len]
  simpa using h.cut 0 (xs.length - 1)
theorem ImA.erase {ds : List D} {xs : List V} (h : ImA K H ds xs) (j : Nat) : ImA K H (ds.eraseIdx j) (xs.eraseIdx j) := by
  rw [List.eraseIdx_eq_take_drop_succ, List.eraseIdx_eq_take_drop_succ]
  refine .append (by simpa using h.cut 0 j) ?_
  have := h.cut (j + 1) (max ds.length xs.length)
  rw [List.take_of_length_le (by simp; omega), List.take_of_length_le (by simp; omega)] at this
  exact this
theorem flat_sub {ds es : List D} (h : ds.all flat = true) (s : ∀ d ∈ es, d ∈ ds) : es.all flat = true := List.all_eq_true.mpr fun d hd => List.all_eq_true.mp h d (s d hd)
theorem mu_pop : MuRule K .pop rPop := by
  intro H m am x v F G vs us d x' Q o l ha hb dj pk ki e k
  obtain ⟨ds, rfl⟩ := lst_of l
  change popD (.list ds) us = some (d, x') at e
  unfold popD at e
  split at e
  · rename_i ds0 hd
    cases hd
    have hv : vs = [] := by
      have := hb rfl
      cases vs with
      | nil => rfl
      | cons _ _ => obtain ⟨_, _, e, _⟩ := this; cases e
    subst hv
    split at e
    · rename_i y hy
      cases e
      have kk := ki.resolve_left (by simp [isApp])
      obtain ⟨p, xs, rfl, fa, hp, im⟩ := own_rootIm o kk
      obtain ⟨w, hw, iw⟩ := im.get hy
      rw [im.len] at hw
      refine ⟨p, xs, w, rfl, rfl, hp, hw, ?_⟩
      refine k p _ w _ rfl fa hp trivial (fun b hb => upd_ne hb) (by rw [upd_same]; rfl) (own_fresh (.inl fa) hp trivial im.dropLast ?_) fun _ => Im.pst (.chg hp trivial) _ _ iw
      rcases kidsIm_cases kk with q | q
      · exact .inl q
      · exact .inr (flat_sub q fun d hd => (List.dropLast_sublist ds).subset hd)
    · cases e
  · cases e
theorem mu_popAt : MuRule K .popAt rPopAt := by
  intro H m am x v F G vs us d x' Q o l ha hb dj pk ki e k
  obtain ⟨ds, rfl⟩ := lst_of l
  change popAtD (.list ds) us = some (d, x') at e
  unfold popAtD at e
  split at e
  · rename_i ds0 m1 i hd
    cases hd
    obtain ⟨y, rfl, z, F1, o1⟩ := own_one (hb rfl)
    rw [own_int o1]
    split at e
    · rename_i j hj
      split at e
      · rename_i hfit
        simp only [Option.map_eq_some_iff] at e
        obtain ⟨y, hy, e⟩ := e
        cases e
        have kk := ki.resolve_left (by simp [isApp])
        obtain ⟨p, xs, rfl, fa, hp, im⟩ := own_rootIm o kk
        obtain ⟨w, hw, iw⟩ := im.get hy
        have hz : ds.length ≤ sizeLine := of_decide_eq_true hfit
        rw [im.len] at hj hz
        obtain ⟨h1, h2, h3, h4⟩ := ixN_seq hj
        have := line63
        refine ⟨p, xs, _, j, w, rfl, rfl, hp, by omega, by omega, h1, hw, ?_⟩
        refine k p _ w _ rfl fa hp trivial (fun b hb => upd_ne hb) (by rw [upd_same]; rfl) (own_fresh (.inl fa) hp trivial (im.erase j) ?_) fun _ => Im.pst (.chg hp trivial) _ _ iw
        rcases kidsIm_cases kk with q | q
        · exact .inl q
        · exact .inr (flat_sub q fun d hd => List.mem_of_mem_eraseIdx hd)
      · cases e
    · cases e
  · cases e
theorem mu_insert : MuRule K .insert (fun x vs H Q => ∃ (l : Addr) (xs : List V) (i : Int) (y : V), x = .ref l ∧ vs = [.int i, y] ∧ H l = some (.lst xs) ∧ xs.length < sizeLine ∧ 0 ≤ i ∧ i < 2 ^ 63 ∧
    Q .non (upd H l (.lst (xs.take i.toNat ++ [y] ++ xs.drop i.toNat)))) := by
  intro H m am x v F G vs us d x' Q o l ha hb dj pk ki e k
  obtain ⟨ds, rfl⟩ := lst_of l
  change insertD (.list ds) us = some (d, x') at e
  unfold insertD at e
  split at e
  · rename_i ds0 m1 i m2 y hd
    cases hd
    obtain ⟨vi, vy, rfl, ⟨z1, F1, o1⟩, ⟨z2, F2, o2⟩⟩ := own_two (hb rfl)
    rw [own_int o1]
    split at e
    · rename_i hz
      cases e
      simp only [Bool.and_eq_true, decide_eq_true_eq] at hz
      have kk := ki.resolve_left (by simp [isApp])
      obtain ⟨p, xs, rfl, fa, hp, im⟩ := own_rootIm o kk
      have pk : putOk0 m [(m1, PyData.int i), (m2, y)] = true := pk
      simp only [putOk0, List.all_cons, List.all_nil, Bool.and_true, Bool.or_eq_true, Bool.and_eq_true, decide_eq_true_eq] at pk
      have pk := pk.2
      have iy : Im K H y vy := by
        rcases pk with pk | ⟨pk, _⟩
        · exact o2.im_flat pk
        · have o2 : Own K H z2 m2 y vy F2 := o2
          rw [pk] at o2
          exact o2
      have imn : ImA K H (ds.take i.toNat ++ [y] ++ ds.drop i.toNat) (xs.take i.toNat ++ [vy] ++ xs.drop i.toNat) := by
        refine .append (.append (by simpa using im.cut 0 i.toNat) (.cons iy .nil)) ?_
        have := im.cut i.toNat (max ds.length xs.length)
        rw [List.take_of_length_le (by simp; omega), List.take_of_length_le (by simp; omega)] at this
        exact this
      refine ⟨p, xs, i, vy, rfl, rfl, hp, by rw [← im.len]; exact hz.2, hz.1.1, hz.1.2, ?_⟩
      refine k p _ .non _ rfl fa hp trivial (fun b hb => upd_ne hb) (by rw [upd_same]; rfl) (own_fresh (.inl fa) hp trivial imn ?_) fun _ => im_none
      rcases kidsIm_cases kk with q | q
      · exact .inl q
      · rcases pk with pk | ⟨_, pk⟩
        · refine .inr ?_
          rw [List.all_append, List.all_append, flat_sub q (fun d hd => List.mem_of_mem_take hd), flat_sub q (fun d hd => List.mem_of_mem_drop hd)]
          simp [pk]
        · exact .inl pk
    · cases e
  · cases e
end
end RV

set_option maxRecDepth 100000
/-! Ev15: the calls of methods. -/
namespace RV
open PySem L2 PySem.Spec PyProof.Rows
section
variable {K : PySem.W.Frag} {S0 : Bk} {H0 H : Hp} {ω : Addr → Option Hd} {a a' : A} {σ : L2.St} {T : List Tm}
theorem mu_fin {f : Mu} {r : V → List V → Hp → VK → Prop} {am i : Nat} {w : Wt} {os : List Opd} {vs : List V} {o : Opd} {v : V} {Q : VK} (hr : MuRule K f r) (wd : W K S0 H0 ω a σ (T ++ pushs os vs) H) (ov : OpVs K σ a H os vs) (hv : σ[i]? = some (some v))
    (e : muStep f am i w os a = some (o, a')) (k : ∀ v' H' ω', W K S0 H0 ω' a' σ (T ++ push o v') H' → OpV K σ a' H' o v' → Q v' H') : r v vs H Q := by
  unfold muStep at e
  split at e
  · rename_i s hs
    split at e
    · cases e
    rename_i hc
    simp only [Bool.or_eq_true, Bool.not_eq_true', decide_eq_true_eq, not_or, Bool.not_eq_false, Bool.not_eq_true] at hc
    obtain ⟨⟨h1, h2⟩, h3⟩ := hc
    simp only [Option.bind_eq_some_iff] at e
    obtain ⟨us, eu, e⟩ := e
    split at e
    · cases e
    rename_i hp
    simp only [Bool.not_eq_true', Bool.not_eq_false] at hp
    simp only [Option.bind_eq_some_iff] at e
    obtain ⟨r1, er, e⟩ := e
    split at e
    · rename_i hf
      cases e
      obtain ⟨m, hm⟩ : ∃ m, s.m = m + 1 := ⟨s.m - 1, by omega⟩
      obtain ⟨v', hv', own⟩ := wd.slot i s hs
      rw [hv] at hv'
      cases hv'
      rw [h1, hm] at own
      rw [hm] at hp
      have isl : isLst s.d = true := by
        cases hd : s.d with
        | list ds => rfl
        | _ => rw [hd] at er; cases f <;> cases er
      refine hr H m am s.d v _ (fun b => ∃ j, T.length ≤ j ∧ ω b = some (.tm j)) vs us r1.1 r1.2 Q own isl (fun hap => ?_) (fun hap => ?_) (fun b ⟨j, _, g⟩ z => by rw [g] at z; cases z) hp (by rw [← hm]; simpa using h3) er fun p u y H' ep fp hu mu keep hs' own' im => ?_
      · cases f with
        | append =>
          simp only [muArgs, Option.map_eq_some_iff] at eu
          obtain ⟨ds, hds, rfl⟩ := eu
          cases os with
          | nil => cases hds; cases hd : s.d <;> rw [hd] at er <;> cases er
          | cons o1 os =>
            cases o1 with
            | val k d =>
              simp only [valsOf] at hds
              split at hds
              · rename_i hk
                simp only [Option.map_eq_some_iff] at hds
                obtain ⟨ds', h4, rfl⟩ := hds
                cases os with
                | nil =>
                  cases h4
                  obtain ⟨y, yr, rfl, _, hyr⟩ := ov
                  cases hyr
                  refine ⟨y, d, rfl, rfl, ?_⟩
                  have := wd.last
                  subst hk
                  exact this.mv (.refl H) (fun b z => ⟨T.length, Nat.le_refl _, z⟩) fun _ _ => rfl
                | cons o2 os =>
                  have := valsOf_len h4
                  cases ds' with
                  | nil => simp at this
                  | cons _ _ => cases hd : s.d <;> rw [hd] at er <;> cases er
              · cases hds
            | ref _ => cases hds
            | sub _ _ => cases hds
        | _ => cases hap
      · have : resAll a os = some us := by
          cases f with
          | append => cases hap
          | _ => exact eu
        exact opvs_own wd ov this
      · subst ep
        have w2 := wd.slotUpd (s' := ⟨s.m, false, r1.2⟩) hs hv fp hu mu hs' keep rfl (by
          show Own K H' false s.m r1.2 (.ref p) _
          rw [hm]
          exact own_false.mpr own')
        refine k y H' _ (w2.pushIm (im ?_) ?_) trivial
        · simp only [Bool.or_eq_true, Bool.and_eq_true, decide_eq_true_eq] at hf
          rcases hf with hf | hf
          · exact .inl hf
          · exact .inr (by omega)
        · simp only [Bool.or_eq_true, Bool.and_eq_true, decide_eq_true_eq] at hf
          rcases hf with hf | hf
          · exact .inl hf
          · exact .inr hf.2
    · cases e
  · cases e
end
section
variable {X : Cx} {q qs qk : Bool}
theorem lstAt_own {K : PySem.W.Frag} {S0 : Bk} {H0 H : Hp} {ω : Addr → Option Hd} {a : A} {σ : L2.St} {T : List Tm} {i : Nat} (w : W K S0 H0 ω a σ T H) (h : lstAt a i = true) : ∃ v, σ[i]? = some (some v) ∧ tyV K "list" v H := by
  unfold lstAt at h
  split at h
  · rename_i s hs
    obtain ⟨ds, hd⟩ := lst_of h
    obtain ⟨v, hv, own⟩ := w.slot i s hs
    rw [hd] at own
    obtain ⟨p, xs, rfl, q, _⟩ := own_list own
    exact ⟨_, hv, .inl ⟨rfl, xs, q⟩⟩
  · cases h
theorem mu_tR {f : Mu} {r : V → List V → Hp → VK → Prop} {rs : RAs} {am i : Nat} {w : Wt} {σ : L2.St} {H : Hp} {Q : VK} (hr : MuRule X.K f r) (h : tR X.K (muEv rs f am i w) false σ H Q) : tBM X.K "list" r (tVar i) (tAs X.K rs qs) σ H Q := by
  obtain ⟨S0, H0, ω, a, T, o, a', wd, e, k⟩ := h
  unfold muEv at e
  split at e
  · cases e
  rename_i hl
  simp only [Bool.not_eq_true', Bool.not_eq_false] at hl
  simp only [Option.bind_eq_some_iff] at e
  obtain ⟨p, e1, e⟩ := e
  obtain ⟨v, hv, ty⟩ := lstAt_own wd hl
  exact ⟨v, hv, ty, S0, H0, ω, a, T, p.1, p.2, wd, e1, fun vs H1 ω1 w1 o1 _ => mu_fin hr w1 o1 hv e fun v' H' ω' w' o' => k v' H' ω' w' o' fun z => by cases z⟩
theorem mu_tR0 {f : Mu} {r : V → List V → Hp → VK → Prop} {am i : Nat} {w : Wt} {σ : L2.St} {H : Hp} {Q : VK} (hr : MuRule X.K f r) (h : tR X.K (muEv nilAs f am i w) false σ H Q) : tBM0 X.K "list" r (tVar i) σ H Q := by
  obtain ⟨S0, H0, ω, a, T, o, a', wd, e, k⟩ := h
  unfold muEv at e
  split at e
  · cases e
  rename_i hl
  simp only [Bool.not_eq_true', Bool.not_eq_false] at hl
  simp only [Option.bind_eq_some_iff] at e
  obtain ⟨p, e1, e⟩ := e
  cases e1
  obtain ⟨v, hv, ty⟩ := lstAt_own wd hl
  exact ⟨v, hv, ty, mu_fin (os := []) (vs := []) (T := T) hr (by simpa [pushs] using wd) rfl hv e fun v' H' ω' w' o' => k v' H' ω' w' o' fun z => by cases z⟩
theorem mu2_fin {f : Mu} {r : V → List V → Hp → VK → Prop} {K : PySem.W.Frag} {S0 : Bk} {H0 H : Hp} {ω : Addr → Option Hd} {a a' : A} {σ : L2.St} {T : List Tm} {i : Nat} {kd : D} {w : Wt} {os : List Opd} {vs : List V} {o : Opd} {v vi : V} {Q : VK} (hr : MuRule K f r)
    (wd : W K S0 H0 ω a σ (T ++ pushs os vs) H) (ov : OpVs K σ a H os vs) (hv : σ[i]? = some (some vi)) (kv : kidV H vi kd = some v)
    (e : muStep2 f i kd w os a = some (o, a')) (k : ∀ v' H' ω', W K S0 H0 ω' a' σ (T ++ push o v') H' → OpV K σ a' H' o v' → Q v' H') : r v vs H Q := by
  unfold muStep2 at e
  split at e
  · rename_i s hs
    split at e
    · cases e
    rename_i hc
    simp only [Bool.or_eq_true, decide_eq_true_eq, not_or, Bool.not_eq_true] at hc
    simp only [Option.bind_eq_some_iff] at e
    obtain ⟨x, ex, e⟩ := e
    split at e
    · cases e
    rename_i hl
    simp only [Bool.or_eq_true, Bool.not_eq_true', not_or, Bool.not_eq_false] at hl
    simp only [Option.bind_eq_some_iff] at e
    obtain ⟨us, eu, e⟩ := e
    split at e
    · cases e
    rename_i hp
    simp only [Bool.or_eq_true, Bool.not_eq_true', not_or, Bool.not_eq_false] at hp
    simp only [Option.bind_eq_some_iff] at e
    obtain ⟨r1, er, d2, ed, e⟩ := e
    split at e
    · rename_i hf
      cases e
      obtain ⟨m, hm⟩ : ∃ m, s.m = m + 2 := ⟨s.m - 2, by omega⟩
      obtain ⟨v', hv', own⟩ := wd.slot i s hs
      rw [hv] at hv'
      cases hv'
      rw [hc.1, hm] at own
      rw [hm] at hp hl
      have fl : flat s.d = false := by
        cases hd : s.d with
        | list _ => rfl
        | dict _ => rfl
        | _ =>
          rw [hd] at ed
          cases ed
      obtain ⟨y, R, oy, rf, ky, back⟩ := own_kidAt own (by obtain ⟨es, rfl⟩ := lst_of hl.1; rfl) fl ex ed
      rw [kv] at ky
      cases ky
      have oa := opvs_own wd ov eu
      have one : isApp f = true → ∃ y u, vs = [y] ∧ us = [u] := fun hap => by
        cases f with
        | append =>
          obtain ⟨es, rfl⟩ := lst_of hl.1
          cases us with
          | nil => cases er
          | cons u us =>
            cases us with
            | nil =>
              obtain ⟨y, rfl, _⟩ := own_one oa
              exact ⟨y, u, rfl, rfl⟩
            | cons _ _ => cases er
        | _ => cases hap
      refine hr H m ((us.headD (0, .none)).1) x v R (fun _ => False) vs us r1.1 r1.2 Q (own_false.mpr oy) hl.1 (fun hap => ?_) (fun _ => oa) (fun b z => z.elim) hp.1 (.inr hl.2) er fun p u y H' ep fp hu mu keep hs' own' im => ?_
      · obtain ⟨y, u, rfl, rfl⟩ := one hap
        obtain ⟨y', e1, z1, F1, o1⟩ := own_one oa
        cases e1
        refine ⟨y, u.2, rfl, rfl, ?_⟩
        have hp2 := hp.2
        simp only [putOk0, List.all_cons, List.all_nil, Bool.and_true, Bool.or_eq_true, Bool.and_eq_true, decide_eq_true_eq] at hp2
        rcases hp2 with q | q
        · exact Own.of_flat q (o1.im_flat q)
        · show Own K H false u.1 u.2 y _
          rw [q.1] at o1 ⊢
          exact o1
      · subst ep
        have w2 := wd.slotUpd (s' := ⟨s.m, false, d2⟩) hs hv (rf _ fp) hu mu hs' keep rfl (by
          show Own K H' false s.m d2 vi _
          rw [hm]
          exact own_false.mpr ((back H' p u fp hu mu keep (own'.mv (.refl H') (fun b z => z.resolve_right id) fun _ _ => rfl)).mv (.refl H') (fun b z => .inl z) fun _ _ => rfl))
        refine k y H' _ (w2.pushIm (im ?_) ?_) trivial
        · simp only [Bool.or_eq_true, Bool.and_eq_true, decide_eq_true_eq] at hf
          rcases hf with hf | hf
          · exact .inl hf
          · exact .inr (by omega)
        · simp only [Bool.or_eq_true, Bool.and_eq_true, decide_eq_true_eq] at hf
          rcases hf with hf | hf
          · exact .inl hf
          · exact .inr hf.2
    · cases e
  · cases e
theorem muSub_pre {rk : REv} {rs : RAs} {f : Mu} {i : Nat} {w : Wt} {σ : L2.St} {H : Hp} {Q : VK} {R : V → Hp → Prop} (h : tR X.K (muSubEv rk qk rs qs f i w) false σ H Q)
    (fin : ∀ S0 H0 a T j kd vi v H1 ω1 (p : List Opd × A) o a', W X.K S0 H0 ω1 a σ T H1 → rs a = some p → qs = true → σ[j]? = some (some vi) → kidV H1 vi kd = some v → tyV X.K "list" v H1 → muStep2 f j kd w p.1 p.2 = some (o, a') →
      (∀ v' H' ω', W X.K S0 H0 ω' a' σ (T ++ push o v') H' → OpV X.K σ a' H' o v' → Q v' H') → R v H1) : tR X.K (idxEv (varEv i .br) rk qk .br) false σ H R := by
  obtain ⟨S0, H0, ω, a, T, o, a', wd, e, k⟩ := h
  unfold muSubEv at e
  simp only [Option.bind_eq_some_iff] at e
  obtain ⟨c, e1, e⟩ := e
  split at e
  · rename_i j kd hc
    simp only [Option.bind_eq_some_iff] at e
    obtain ⟨u, eu, e⟩ := e
    split at e
    · cases e
    rename_i hl
    simp only [Bool.not_eq_true', Bool.not_eq_false] at hl
    simp only [Option.bind_eq_some_iff] at e
    obtain ⟨p, e2, e⟩ := e
    split at e
    · cases e
    rename_i hq
    simp only [Bool.not_eq_true', Bool.not_eq_false] at hq
    refine ⟨S0, H0, ω, a, T, c.1, c.2, wd, e1, fun v H1 ω1 w1 o1 _ => ?_⟩
    rw [hc] at w1 o1
    obtain ⟨s1, x1, F1, es1, ex1, own1, fdom, vi, hvi, kv⟩ := id o1
    have ty : tyV X.K "list" v H1 := by
      have hx : u.2 = x1 := by
        simp only [res, es1, ex1, Option.map_some, Option.some.injEq] at eu
        rw [← eu]
      rw [hx] at hl
      obtain ⟨ds, rfl⟩ := lst_of hl
      obtain ⟨p, xs, rfl, q, _⟩ := own_list (own_false.mpr own1)
      exact .inl ⟨rfl, xs, q⟩
    exact fin S0 H0 c.2 T j kd vi v H1 ω1 p o a' (by simpa [push] using w1) e2 hq hvi kv ty e fun v' H' ω' w' o' => k v' H' ω' w' o' fun z => by cases z
  · cases e
theorem muSub_tR {f : Mu} {r : V → List V → Hp → VK → Prop} {rk : REv} {rs : RAs} {i : Nat} {w : Wt} {σ : L2.St} {H : Hp} {Q : VK} (hr : MuRule X.K f r) (h : tR X.K (muSubEv rk qk rs qs f i w) false σ H Q) :
    tBM X.K "list" r (tR X.K (idxEv (varEv i .br) rk qk .br) false) (tAs X.K rs qs) σ H Q :=
  muSub_pre h fun S0 H0 a T j kd vi v H1 ω1 p o a' w1 e2 hq hvi kv ty e k => ⟨ty, S0, H0, ω1, a, T, p.1, p.2, w1, e2, fun vs H2 ω2 w2 o2 q2 => by
    obtain ⟨sm, ea⟩ := q2 hq
    exact mu2_fin hr w2 o2 hvi (kidV_same sm kv) e k⟩
theorem muSub_tR0 {f : Mu} {r : V → List V → Hp → VK → Prop} {rk : REv} {i : Nat} {w : Wt} {σ : L2.St} {H : Hp} {Q : VK} (hr : MuRule X.K f r) (h : tR X.K (muSubEv rk qk nilAs qs f i w) false σ H Q) :
    tBM0 X.K "list" r (tR X.K (idxEv (varEv i .br) rk qk .br) false) σ H Q :=
  muSub_pre h fun S0 H0 a T j kd vi v H1 ω1 p o a' w1 e2 hq hvi kv ty e k => ⟨ty, by
    cases e2
    exact mu2_fin (os := []) (vs := []) (T := T) hr (by simpa [pushs] using w1) rfl hvi kv e k⟩
end

/-! ### methods that change nothing -/
section
variable {X : Cx}
def sqD (t : Bool) (ds : List D) : D := if t then .tuple ds else .list ds
/-- l.index(x), t.index(x) -/
def rIdx (K : PySem.W.Frag) (t : Bool) : V → List V → Hp → VK → Prop := fun x xs H Q => ∃ (a : Addr) (y : V) (d : D) (ds : List D) (j : Nat), x = V.ref a ∧ xs = [y] ∧ Dp K H (V.ref a) (sqD t ds) ∧ Dp K H y d ∧
  SeqAt.shaped (sqD t ds) = true ∧ SeqAt.shaped d = true ∧ firstAt ds d = some j ∧ Q (.int (j : Nat)) H
def rCnt (K : PySem.W.Frag) (t : Bool) : V → List V → Hp → VK → Prop := fun x xs H Q => ∃ (a : Addr) (y : V) (d : D) (ds : List D), x = V.ref a ∧ xs = [y] ∧ Dp K H (V.ref a) (sqD t ds) ∧ Dp K H y d ∧
  SeqAt.shaped (sqD t ds) = true ∧ SeqAt.shaped d = true ∧ Q (.int (ds.countP fun z => PyData.eqv z d : Nat)) H
theorem first_at {ds : List D} {d : D} {j : Nat} (h : firstAt ds d = some j) : ∃ z, ds[j]? = some z ∧ PyData.eqv z d = true ∧ ∀ (m : Nat) (z' : D), m < j → ds[m]? = some z' → PyData.eqv z' d = false := by
  obtain ⟨h1, h2, h3⟩ := List.findIdx?_eq_some_iff_getElem.mp h
  refine ⟨ds[j], List.getElem?_eq_getElem h1, h2, fun m z' hm e => ?_⟩
  have := h3 m hm
  rw [List.getElem?_eq_getElem (by omega)] at e
  cases e
  simpa using this
theorem mt_lidx (hu : X.A.units + 65 < cLine) : MtR X "list.index" (rIdx X.K false) := by
  intro pins s σ H x xs v us Q I rx rxs h
  obtain ⟨a, y, d, ds, j, rfl, rfl, hl, hy, sl, sd, hj, q⟩ := h
  obtain ⟨z, h1, h2, h3⟩ := first_at hj
  exact mt_indexD hu pins s σ H _ _ v us Q I rx rxs ⟨a, y, d, ds, j, z, rfl, rfl, hl, hy, sl, sd, h1, h2, h3, q⟩
theorem mt_tidx (hu : X.A.units + 65 < cLine) : MtR X "tuple.index" (rIdx X.K true) := by
  intro pins s σ H x xs v us Q I rx rxs h
  obtain ⟨a, y, d, ds, j, rfl, rfl, hl, hy, sl, sd, hj, q⟩ := h
  obtain ⟨z, hz, hzj, hno⟩ := first_at hj
  cases rx
  obtain ⟨uy, rfl, ry⟩ := vals1 rxs
  obtain ⟨bs, r1⟩ := Dp.reads I d y uy hy ry
  have sl2 : SeqAt.shaped (.tuple ds) = true := sl
  have hxs : PyData.canLayAll0 ds = true := SeqAt.canLay_of_shaped sl2
  have hroom : X.A.units + 1 + min (PyData.depthAll ds) d.depth < cLine := room_in_shaped sd hu
  have hl2 : Dp X.K H (V.ref a) (.tuple ds) := hl
  cases hl2 with
  | tup hs ha =>
    obtain ⟨its, rv, ⟨⟨cls, dd, data, sls⟩, ho, hc, n, hdt⟩, hlen⟩ := I.tuple hs
    simp only at hc hdt
    subst hc hdt
    obtain ⟨as, h4⟩ := Dp.readsAll I ds _ its ha rv
    have hn : its.length = ds.length := SeqAt.ReadsAll.length ds its as h4
    have hmap : its.map (SeqAt.readOf s.heap) = ds := SeqAt.readsAll_map ds its as hxs h4
    obtain ⟨hjd, _⟩ := List.getElem?_eq_some_iff.mp hz
    have hj : j < its.toArray.size := by simp; omega
    have at_ : ∀ (m : Nat) (hm : m < its.toArray.size) (z' : PyData), ds[m]? = some z' → SeqAt.readOf s.heap its.toArray[m] = z' := by
      intro m hm z' hz'
      have hml : m < its.length := by simpa using hm
      rw [← hmap, List.getElem?_map, List.getElem?_eq_getElem hml] at hz'
      have e1 : SeqAt.readOf s.heap its[m] = z' := Option.some.inj (show some (SeqAt.readOf s.heap its[m]) = some z' from hz')
      simpa using e1
    refine call_meets PySem.F.slot_tuple_index ⟨_, ho, rfl⟩ PySem.F.entry_tuple_index (PySem.F.args_tuple_index_2 _ _)
      (TI.tuple_indexAt a its.toArray n dd sls uy (fun u => PyData.eqv (SeqAt.readOf s.heap u) d) j hj ?_ ?_) ⟨ho, SeqAt.items_eqAt (vs := its.toArray) (show ReadsAll s.heap its.toArray.toList ds as from h4) r1 hxs (SeqAt.canLay_of_shaped sd) hroom, ?_⟩
    · show PyData.eqv (SeqAt.readOf s.heap its.toArray[j]) d = true
      rw [at_ j hj z hz]
      exact hzj
    · intro m hm hmj
      have hmd : m < ds.length := by omega
      have hz' : ds[m]? = some ds[m] := List.getElem?_eq_getElem hmd
      show PyData.eqv (SeqAt.readOf s.heap its.toArray[m]) d = false
      rw [at_ m hm _ hz']
      exact hno m _ hmj hz'
    · exact ⟨.int (j : Nat), H, I.tok _, ⟨_, rfl⟩, q⟩
theorem countP_reads {s : Shared} {its : List Value} {ds : List D} {as : List Addr} {d : D} (hxs : PyData.canLayAll0 ds = true) (h4 : ReadsAll s.heap its ds as) : its.countP (fun u => PyData.eqv (SeqAt.readOf s.heap u) d) = ds.countP fun z => PyData.eqv z d := by
  have hmap : its.map (SeqAt.readOf s.heap) = ds := SeqAt.readsAll_map ds its as hxs h4
  rw [← hmap, List.countP_map]
  rfl
theorem mt_lcnt (hu : X.A.units + 65 < cLine) : MtR X "list.count" (rCnt X.K false) := by
  intro pins s σ H x xs v us Q I rx rxs h
  obtain ⟨a, y, d, ds, rfl, rfl, hl, hy, sl, sd, q⟩ := h
  cases rx
  obtain ⟨uy, rfl, ry⟩ := vals1 rxs
  obtain ⟨bs, r1⟩ := Dp.reads I d y uy hy ry
  have sl2 : SeqAt.shaped (.list ds) = true := sl
  have hxs : PyData.canLayAll0 ds = true := SeqAt.canLay_of_shaped sl2
  have hroom : X.A.units + 1 + min (PyData.depthAll ds) d.depth < cLine := room_in_shaped sd hu
  have hl2 : Dp X.K H (V.ref a) (.list ds) := hl
  cases hl2 with
  | lst hs ha =>
    obtain ⟨its, rv, ⟨⟨cls, dd, data, sls⟩, n, ho, hc, hdn, hdt⟩, hlen⟩ := I.list hs
    simp only at hc hdt
    subst hc hdt
    obtain ⟨as, h4⟩ := Dp.readsAll I ds _ its ha rv
    refine call_meets PySem.F.slot_list_count ⟨_, ho, rfl⟩ PySem.F.entry_list_count (PySem.F.args_list_count_2 _ _)
      (SeqAt.list_countAt a its.toArray n dd sls uy (fun u => PyData.eqv (SeqAt.readOf s.heap u) d)) ⟨ho, SeqAt.items_eqAt (vs := its.toArray) (show ReadsAll s.heap its.toArray.toList ds as from h4) r1 hxs (SeqAt.canLay_of_shaped sd) hroom, ?_⟩
    rw [show its.toArray.toList = its from rfl, countP_reads hxs h4]
    exact ⟨.int _, H, I.tok _, ⟨_, rfl⟩, q⟩
theorem mt_tcnt (hu : X.A.units + 65 < cLine) : MtR X "tuple.count" (rCnt X.K true) := by
  intro pins s σ H x xs v us Q I rx rxs h
  obtain ⟨a, y, d, ds, rfl, rfl, hl, hy, sl, sd, q⟩ := h
  cases rx
  obtain ⟨uy, rfl, ry⟩ := vals1 rxs
  obtain ⟨bs, r1⟩ := Dp.reads I d y uy hy ry
  have sl2 : SeqAt.shaped (.tuple ds) = true := sl
  have hxs : PyData.canLayAll0 ds = true := SeqAt.canLay_of_shaped sl2
  have hroom : X.A.units + 1 + min (PyData.depthAll ds) d.depth < cLine := room_in_shaped sd hu
  have hl2 : Dp X.K H (V.ref a) (.tuple ds) := hl
  cases hl2 with
  | tup hs ha =>
    obtain ⟨its, rv, ⟨⟨cls, dd, data, sls⟩, ho, hc, n, hdt⟩, hlen⟩ := I.tuple hs
    simp only at hc hdt
    subst hc hdt
    obtain ⟨as, h4⟩ := Dp.readsAll I ds _ its ha rv
    refine call_meets PySem.F.slot_tuple_count ⟨_, ho, rfl⟩ PySem.F.entry_tuple_count (PySem.F.args_tuple_count_2 _ _)
      (SeqAt.tuple_countAt a its.toArray n dd sls uy (fun u => PyData.eqv (SeqAt.readOf s.heap u) d)) ⟨ho, SeqAt.items_eqAt (vs := its.toArray) (show ReadsAll s.heap its.toArray.toList ds as from h4) r1 hxs (SeqAt.canLay_of_shaped sd) hroom, ?_⟩
    rw [show its.toArray.toList = its from rfl, countP_reads hxs h4]
    exact ⟨.int _, H, I.tok _, ⟨_, rfl⟩, q⟩
/-- the value bears the method -/
def MFact (X : Cx) (name : Str) (r : V → List V → Hp → VK → Prop) (x : V) (H : Hp) : Prop := ∃ T id, PlainAttrs T ∧ Slot T name id ∧ typeOf (.builtin id) = pure (.type "method_descriptor") ∧ MtR X id r ∧
  ∀ (pins : List (Addr × Obj)) (σ : L2.St) (s : Shared) (v : Value), Inv X pins σ H s → L2.RelV x v → s.TypeIs v T ∧ ∀ a, v = .ref a → ∃ ob, s.heap.get? a = some ob ∧ ob.dict = none
def tMX (X : Cx) (name : Str) (to : TE) (t : TA) : TE := fun σ H Q => to σ H fun x H1 => ∃ r, MFact X name r x H1 ∧ t σ H1 fun xs H2 => r x xs H2 Q
theorem pe_mX {o e : Expr} {es : List Expr} {to : TE} {t : TA} {name : Str} {apos cpos : Pos} (ho : PE X o to) (ha : PA X (e :: es) t)
    (hbase : attributeBase o name X.env (eval o X.env) = eval o X.env)
    (hfew : ((backTo cpos (starEach (e :: es) X.env)).all (fun x => !x.1) && (backToKw cpos (keywordEach [] X.env)).all (fun x => x.1.isSome)
      && decide ((e :: es).length + ([] : List Keyword).length + (if ([] : List Keyword).isEmpty then 0 else 1) < 30)) = true)
    (hline : (apos.endLine == cpos.line) = true) (hs : starEach (e :: es) X.env = (false, eval e X.env) :: starEach es X.env) (hplain : (backTo cpos (starEach es X.env)).any (·.1) = false) :
    PE X (.Call (.Attribute o name apos) (e :: es) [] cpos) (tMX X name to t) := by
  refine ⟨fun pins s σ H Q I h => ?_⟩
  refine wpAny_Call_method_late hbase hfew hline rfl (thn (ho.run pins s σ H _ I h) fun v s1 ⟨x, H1, I1, r1, r, ⟨T, id, pa, slot, hty, hm, ht⟩, q1⟩ => ?_)
  obtain ⟨h1, h2⟩ := ht _ _ _ _ I1 r1
  refine ⟨T, id, pa, slot, hty, h1, h2, ?_⟩
  have hA := ha.run cpos pins s1 σ H1 _ I1 q1
  rw [hs] at hA ⊢
  refine Calls.callWith_builtin (by show (false || (backTo cpos (starEach es X.env)).any (·.1)) = false; rw [hplain] <;> rfl) (Calls.evalArgs_plain ?_)
  exact thn hA fun us s2 ⟨vs, H2, I2, r2, q2⟩ => hm pins s2 σ H2 x vs v us Q I2 r1 r2 q2
theorem mfact_list {name : Str} {id : String} {r : V → List V → Hp → VK → Prop} {H : Hp} {z : Bool} {m : Nat} {ds : List D} {x : V} {F : Addr → Prop} (slot : Slot "list" name id) (hty : typeOf (.builtin id) = pure (.type "method_descriptor")) (hm : MtR X id r)
    (o : Own X.K H z m (.list ds) x F) : MFact X name r x H := ⟨"list", id, PySem.F.plainAttrs_list, slot, hty, hm, fun pins σ s v I rv => by
  obtain ⟨a, xs, rfl, q, _⟩ := own_list o
  exact tyV_is I rv (.inl ⟨rfl, xs, q⟩)⟩
theorem mfact_tup {name : Str} {id : String} {r : V → List V → Hp → VK → Prop} {H : Hp} {z : Bool} {m : Nat} {ds : List D} {x : V} {F : Addr → Prop} (slot : Slot "tuple" name id) (hty : typeOf (.builtin id) = pure (.type "method_descriptor")) (hm : MtR X id r)
    (o : Own X.K H z m (.tuple ds) x F) : MFact X name r x H := ⟨"tuple", id, PySem.F.plainAttrs_tuple, slot, hty, hm, fun pins σ s v I rv => by
  obtain ⟨a, xs, rfl, ⟨q, nd⟩, _⟩ := own_tup o
  cases rv
  obtain ⟨its, _, pl, _⟩ := I.tuple q
  refine ⟨let ⟨o, ho, hc, _⟩ := pl; ⟨o, ho, hc⟩, fun b e => ?_⟩
  cases e
  rcases nd with ⟨o, u, h, hd⟩ | ⟨o, h, hd⟩
  · exact ⟨o, (I.hok _ _ h).1, hd⟩
  · exact ⟨o, I.kIn _ _ h, hd⟩⟩
/-- a method by data -/
def MeRule (X : Cx) (name : Str) (f : Nat × D → Nat × D → Option D) : Prop := ∀ u v d, f u v = some d → ∃ r : V → List V → Hp → VK → Prop,
  (∀ (H : Hp) (x : V) (z : Bool) (m : Nat) (d0 : D) (F : Addr → Prop), Own X.K H z m d0 x F → seqK d0 = seqK u.2 → MFact X name r x H) ∧
  ∀ (H : Hp) (x y : V) (z1 z2 : Bool) (F1 F2 : Addr → Prop) (Q : VK), Own X.K H z1 u.1 u.2 x F1 → Own X.K H z2 v.1 v.2 y F2 → (∀ v' H', Made X.K H d v' H' → Q v' H') → r x [y] H Q
theorem seqK_list {d : D} {ds : List D} (h : seqK d = seqK (.list ds)) : ∃ es, d = .list es := by
  cases d <;> first | exact ⟨_, rfl⟩ | cases h
theorem seqK_tup {d : D} {ds : List D} (h : seqK d = seqK (.tuple ds)) : ∃ es, d = .tuple es := by
  cases d <;> first | exact ⟨_, rfl⟩ | cases h
def meNm : Me → Option Str
  | .index => some "index"
  | .count => some "count"
  | _ => none
theorem me_rule (hu : X.A.units + 65 < cLine) {f : Me} {name : Str} (hn : meNm f = some name) : MeRule X name (meD f) := by
  intro u v d e
  obtain ⟨m, ud⟩ := u
  obtain ⟨m2, vd⟩ := v
  unfold meD at e
  dsimp only at e
  have lay : ∀ {d : D}, eqOk d = true → PyData.canLay0 d = true := eqOk_lay
  split at e
  · rename_i ds
    cases hn
    split at e
    · rename_i hk
      simp only [Bool.and_eq_true] at hk
      obtain ⟨⟨k1, k2⟩, _⟩ := hk
      unfold indexD at e
      simp only [Option.map_eq_some_iff] at e
      obtain ⟨j, hj, rfl⟩ := e
      refine ⟨rIdx X.K false, fun H x z m d0 F o hs => ?_, fun H x y z1 z2 F1 F2 Q o1 o2 k => ?_⟩
      · obtain ⟨es, rfl⟩ := seqK_list hs
        exact mfact_list PySem.F.slot_list_index PySem.F.type_list_index (mt_lidx hu) o
      · obtain ⟨a, xs, rfl, _, _⟩ := own_list o1
        exact ⟨a, y, vd, ds, j, rfl, rfl, own_dp o1 (lay k2), own_dp o2 (lay k1), k2, k1, hj, k _ _ (.int _)⟩
    · cases e
  · rename_i ds
    cases hn
    split at e
    · rename_i hk
      simp only [Bool.and_eq_true] at hk
      obtain ⟨⟨k1, k2⟩, _⟩ := hk
      unfold indexD at e
      simp only [Option.map_eq_some_iff] at e
      obtain ⟨j, hj, rfl⟩ := e
      refine ⟨rIdx X.K true, fun H x z m d0 F o hs => ?_, fun H x y z1 z2 F1 F2 Q o1 o2 k => ?_⟩
      · obtain ⟨es, rfl⟩ := seqK_tup hs
        exact mfact_tup PySem.F.slot_tuple_index PySem.F.type_tuple_index (mt_tidx hu) o
      · obtain ⟨a, xs, rfl, _, _⟩ := own_tup o1
        exact ⟨a, y, vd, ds, j, rfl, rfl, own_dp o1 (lay k2), own_dp o2 (lay k1), k2, k1, hj, k _ _ (.int _)⟩
    · cases e
  · rename_i ds
    cases hn
    split at e
    · rename_i hk
      simp only [Bool.and_eq_true] at hk
      obtain ⟨⟨k1, k2⟩, _⟩ := hk
      cases e
      refine ⟨rCnt X.K false, fun H x z m d0 F o hs => ?_, fun H x y z1 z2 F1 F2 Q o1 o2 k => ?_⟩
      · obtain ⟨es, rfl⟩ := seqK_list hs
        exact mfact_list PySem.F.slot_list_count PySem.F.type_list_count (mt_lcnt hu) o
      · obtain ⟨a, xs, rfl, _, _⟩ := own_list o1
        exact ⟨a, y, vd, ds, rfl, rfl, own_dp o1 (lay k2), own_dp o2 (lay k1), k2, k1, k _ _ (.int _)⟩
    · cases e
  · rename_i ds
    cases hn
    split at e
    · rename_i hk
      simp only [Bool.and_eq_true] at hk
      obtain ⟨⟨k1, k2⟩, _⟩ := hk
      cases e
      refine ⟨rCnt X.K true, fun H x z m d0 F o hs => ?_, fun H x y z1 z2 F1 F2 Q o1 o2 k => ?_⟩
      · obtain ⟨es, rfl⟩ := seqK_tup hs
        exact mfact_tup PySem.F.slot_tuple_count PySem.F.type_tuple_count (mt_tcnt hu) o
      · obtain ⟨a, xs, rfl, _, _⟩ := own_tup o1
        exact ⟨a, y, vd, ds, rfl, rfl, own_dp o1 (lay k2), own_dp o2 (lay k1), k2, k1, k _ _ (.int _)⟩
    · cases e
  · cases e
theorem me_tR {ra rb : REv} {q qa qb : Bool} {f : Nat × D → Nat × D → Option D} {name : Str} {m : Nat} {σ : L2.St} {H : Hp} {Q : VK} (hv : MeRule X name f) (hq : q = true → qa = true ∧ qb = true)
    (h : tR X.K (meEv ra rb qb f m) q σ H Q) : tMX X name (tR X.K ra qa) (tCons (tR X.K rb qb) tNil) σ H (fun v H' => Gz (Q v) H') := by
  obtain ⟨S0, H0, ω, a, T, o, a', w, e, k⟩ := h
  unfold meEv at e
  simp only [Option.bind_eq_some_iff] at e
  obtain ⟨p, ep, u0, eu0, p2, eq2, e⟩ := e
  split at e
  · cases e
  rename_i hd
  simp only [Option.bind_eq_some_iff] at e
  obtain ⟨u, eu, e⟩ := e
  split at e
  · rename_i hs
    simp only [Option.bind_eq_some_iff] at e
    obtain ⟨v, ev, d, ed, e⟩ := e
    split at e
    · rename_i hk
      cases e
      obtain ⟨r, r1, r2⟩ := hv u v d ed
      refine ⟨S0, H0, ω, a, T, p.1, p.2, w, ep, fun x H1 ω1 w1 o1 q1 => ⟨r, ?_, S0, H0, ω1, p.2, _, p2.1, p2.2, w1, eq2, fun y H2 ω2 w2 o2 q2 => ?_⟩⟩
      · obtain ⟨z1, F1, w1'⟩ := opd_own (T2 := []) (by rw [List.append_nil]; exact w1) o1 eu0
        exact r1 _ _ _ _ _ _ w1' (of_decide_eq_true hs)
      · have o1' : OpV X.K σ p2.2 H2 p.1 x := opv_keep o1 ((deep_or hd).imp id fun h => q2 h)
        obtain ⟨z1, F1, w1'⟩ := opd_own (T2 := push p2.1 y) w2 o1' eu
        obtain ⟨z2, F2, w2'⟩ := opd_own (T2 := []) (by rw [List.append_nil]; exact w2) o2 ev
        refine r2 H2 x y z1 z2 F1 F2 _ w1' w2' fun v' H' mk => ?_
        rw [List.append_assoc] at w2
        refine (w2.drop.made mk hk).mono fun H3 ⟨ω3, w4, s⟩ => k v' H3 ω3 w4 trivial fun hq' => ?_
        obtain ⟨h1, h2⟩ := hq hq'
        obtain ⟨s1, e1⟩ := q1 h1
        obtain ⟨s2, e2⟩ := q2 h2
        exact ⟨(s1.trans s2).trans s, e2.trans e1⟩
    · cases e
  · cases e
theorem pe_meE {a b : Expr} {ra rb : REv} {q qa qb : Bool} {f : Me} {name : Str} {m : Nat} {apos cpos : Pos} (hu : X.A.units + 65 < cLine) (hn : meNm f = some name) (hq : q = true → qa = true ∧ qb = true) (ha : PE X a (tR X.K ra qa)) (hb : PE X b (tR X.K rb qb))
    (hbase : attributeBase a name X.env (eval a X.env) = eval a X.env) (hline : (apos.endLine == cpos.line) = true)
    (hs : starEach [b] X.env = (false, eval b X.env) :: starEach [] X.env) : PE X (.Call (.Attribute a name apos) [b] [] cpos) (tR X.K (meEv ra rb qb (meD f) m) q) :=
  pe_imp (pe_gz (pe_mX ha (pa_cons hb pa_nil hs) hbase (by rw [hs]; rfl) hline hs rfl)) fun _ _ _ h => me_tR (me_rule hu hn) hq h
end
end RV

set_option maxRecDepth 100000
/-! Ev16: iterators over lists and tuples; enumerate, zip of them. -/
namespace RV
open PySem L2 PySem.Spec PyProof.Rows
section
/-- a list or (t) a tuple -/
def SqX (K : PySem.W.Frag) (H : Hp) (t : Bool) (a : Addr) (xs : List V) : Prop := if t then SqT K H a xs else SqL K H a xs
def ItAt (h : Heap) (t : Bool) (it a : Addr) (i : Nat) : Prop := if t then h.IsTupleIter it a i else h.IsListIter it a i
def SeqH (h : Heap) (t : Bool) (a : Addr) (its : Array Value) : Prop := if t then h.IsTuple a its else h.IsList a its
def itObj (t : Bool) (a : Addr) : Obj := { cls := .type (if t then "tuple_iterator" else "list_iterator"), data := .fields #[.ref a, .int 0 0] }
theorem ItAt.obj {h : Heap} {t : Bool} {it a : Addr} {i : Nat} (x : ItAt h t it a i) : ∃ o, h.get? it = some o ∧ ∀ v, o.data ≠ .cell v := by
  cases t with
  | false => obtain ⟨o, ho, hc, hd⟩ := x; exact ⟨o, ho, fun v q => by rw [hd] at q; cases q⟩
  | true => obtain ⟨o, ho, hc, hd⟩ := x; exact ⟨o, ho, fun v q => by rw [hd] at q; cases q⟩
theorem ItAt.keeps {h h' : Heap} {t : Bool} {it a : Addr} {i : Nat} (x : ItAt h t it a i) (k : ∀ o, h.get? it = some o → h'.get? it = some o) : ItAt h' t it a i := by
  cases t with
  | false => exact Heap.IsListIter.at x k
  | true => exact Heap.IsTupleIter.at x k
theorem itAt_new {h : Heap} {t : Bool} {it a : Addr} (e : h.get? it = some (itObj t a)) : ItAt h t it a 0 := by
  cases t with
  | false => exact ⟨_, e, rfl, rfl⟩
  | true => exact ⟨_, e, rfl, rfl⟩
theorem draws_x {prog : Program} {w : World} {A : Around} (hh : A.handled = none) (t : Bool) (it a : Addr) (hne : a ≠ it) (its : Array Value) :
    Draws prog w A it [it, a] its.size (fun i v => its[i]? = some v) (fun i h => ItAt h t it a i ∧ SeqH h t a its) := by
  cases t with
  | false => exact Draws.list hh it a hne its
  | true => exact Draws.tuple hh it a hne its
theorem begins_x (t : Bool) (a : Addr) (its : Array Value) : Begins (.ref a) (itObj t a) fun h => SeqH h t a its := by
  cases t with
  | false => exact begins_list a its
  | true => exact begins_tuple a its
variable {X : Cx} {pins : List (Addr × Obj)} {σ : L2.St} {H : Hp} {s : Shared}
theorem sqx_at (I : Inv X pins σ H s) {t : Bool} {a : Addr} {xs : List V} (h : SqX X.K H t a xs) : ∃ its : List Value, Vals xs its ∧ SeqH s.heap t a its.toArray ∧ a < s.heap.objs.size ∧ xs.length ≤ sizeLine := by
  cases t with
  | false =>
    obtain ⟨its, r, p, z⟩ := I.list h
    exact ⟨its, r, p.isList, p.lt, z⟩
  | true =>
    obtain ⟨its, r, p, z⟩ := I.tuple h
    obtain ⟨o, ho, _⟩ := id p
    exact ⟨its, r, p, Heap.lt_size ho, z⟩
theorem sqx_inj (I : Inv X pins σ H s) {t : Bool} {a : Addr} {xs ys : List V} (h : SqX X.K H t a xs) (k : SqX X.K H t a ys) : xs = ys := by
  cases t with
  | false => exact I.list_inj h k
  | true => exact I.tuple_inj h k
/-! ### enumerate -/
set_option maxHeartbeats 1000000 in
theorem enum_made1 {val : Value} {ob : Obj} {Hs : Heap → Prop} (bg : Begins val ob Hs) :
    Meets (Builtin.«enumerate.__new__» ⟨[.type "enumerate", val], []⟩) (fun _ R s => Hs s.heap ∧
      R (.ok (.ret (.ref (s.heap.push ob).objs.size))) { s with heap := (s.heap.push ob).push { cls := .type "enumerate", data := .fields #[.none, .bool false, .ref s.heap.objs.size, rawInt 0, .none, .none] } }) :=
  .of_wp fun pr wo Ar Rs sh hy => by
    obtain ⟨hp0, g0, d0, tk0, os0⟩ := sh
    obtain ⟨hh, hr⟩ := hy
    have hsub := sub_enumerate
    have go : ∀ {Ax : Around} {Ex : Value → Shared → Prop} {Qx : Value → Shared → Prop}, Qx (.ref hp0.objs.size) ⟨hp0.push ob, g0, d0, tk0, os0⟩ → wpAny (model pr wo) Ax (pyIter val) Qx Ex ⟨hp0, g0, d0, tk0, os0⟩ :=
      fun qx => bg.iter pr wo _ _ ⟨hp0, g0, d0, tk0, os0⟩ _ hh qx
    wp_walk using go
    refine wpAny_stack_any fun stk => wpAny_pure ?_
    split
    · rename_i cl _ _ _ _ _
      cases (cl == Value.type "enumerate")
      · wp_walk using go
        exact ⟨_, rfl, hr⟩
      · wp_walk using go
        exact ⟨_, rfl, hr⟩
    · wp_walk using go
      exact ⟨_, rfl, hr⟩
theorem enum_begins1 {prog : Program} {w : World} {A : Around} {E : Value → Shared → Prop} {s : Shared} {val : Value} {ob : Obj} {Hs : Heap → Prop} {Q : Value → Shared → Prop} (bg : Begins val ob Hs) (hh : Hs s.heap)
    (fin : ∀ hn, IsEnum hn (s.heap.objs.size + 1) s.heap.objs.size 0 .none → hn.get? s.heap.objs.size = some ob → (∀ b o, s.heap.get? b = some o → hn.get? b = some o) → Q (.ref (s.heap.objs.size + 1)) { s with heap := hn }) :
    wpAny (model prog w) A (call (.type "enumerate") [val]) Q E s := by
  refine callType_new F.called_enumerate (by decide) (F.typeCall_enumerate_1 _) (F.newCall_enumerate_1 _) (fun oj => F.args_object_init_2 oj _) F.entry_enumerate_new (enum_made1 bg) ⟨hh, ?_⟩
  have sz : (s.heap.push ob).objs.size = s.heap.objs.size + 1 := Heap.size_push ..
  show _ ∧ _
  rw [sz]
  have ie : IsEnum ((s.heap.push ob).push { cls := .type "enumerate", data := .fields #[.none, .bool false, .ref s.heap.objs.size, rawInt 0, .none, .none] }) (s.heap.objs.size + 1) s.heap.objs.size 0 .none := by
    have q := Heap.get?_push_size (s.heap.push ob) (o := { cls := .type "enumerate", data := .fields #[.none, .bool false, .ref s.heap.objs.size, rawInt 0, .none, .none] }) rfl
    rw [sz] at q
    exact q
  exact ⟨⟨_, ie, rfl⟩, fin _ ie (Heap.get?_push_of_some _ (Heap.get?_push_size _ bg.free)) fun b o x => Heap.get?_push_of_some _ (Heap.get?_push_of_some _ x)⟩
/-- enumerate of what stands at a -/
def IteX (K : PySem.W.Frag) (t : Bool) (a : Addr) : L2.It :=
  ⟨fun i H => ∃ (xs : List V) (x : V), SqX K H t a xs ∧ xs[i]? = some x, fun i H v H' => ∃ T x o, v = .ref T ∧ H T = none ∧ o.dict = none ∧ H' = upd H T (.frz o (.tup [.int (i : Nat), x])) ∧ ∀ xs, SqX K H t a xs → xs[i]? = some x, fun i H => ∃ xs : List V, SqX K H t a xs ∧ xs.length = i⟩
theorem turn_enumX {P : Program} {w : World} {K : PySem.W.Frag} {elts : List Expr} {kk : Nat} {tpos : Pos} (t : Bool) (a e it : Addr) (hae : a ≠ e) (hai : a ≠ it) (hne : e ≠ it) :
    Turn P w K (.Tuple elts kk tpos) (IteX K t a) [e, it] e (fun i h => (∃ old, IsEnum h e it ((i : Nat) : Int) old) ∧ ItAt h t it a i) where
  mem := by simp
  obj := fun i h st b hb => by
    obtain ⟨⟨old, he⟩, hi⟩ := st
    rcases List.mem_cons.mp hb with z | z
    · rw [z]; exact ⟨_, he, fun v q => nomatch q⟩
    · rw [List.mem_singleton.mp z]; exact hi.obj
  keep := fun i h h' st k => let ⟨⟨old, he⟩, hi⟩ := st; ⟨⟨old, k e (by simp) _ he⟩, hi.keeps fun o q => k it (by simp) o q⟩
  item := by
    intro X hP hw hK hc i pins s σ H E I hf st hg
    subst hP hw hK
    obtain ⟨⟨old, he⟩, hit⟩ := st
    obtain ⟨xs, x, hq, hx⟩ := hg
    obtain ⟨its, rv, p, _, hz⟩ := sqx_at I hq
    obtain ⟨u, hu, ru⟩ := rv.get hx
    have hel : e < s.heap.objs.size := Heap.lt_size he
    have hil : it < s.heap.objs.size := by obtain ⟨o, ho, _⟩ := hit.obj; exact Heap.lt_size ho
    have hi : i < its.toArray.size := by
      have := (List.getElem?_eq_some_iff.mp hu).1
      simpa using this
    refine wpAny_pyNext_enum_itemD (draws_x (A := X.A.in1) (I.ok.hd hc) t it a hai its.toArray) he ⟨hit, p⟩ hi hne (by simp; exact ⟨hne, Ne.symm hae⟩) fun y h' tk hy ho st' hT hsz hk => ?_
    have ey : y = u := by
      have hy : its.toArray[i]? = some y := hy
      rw [List.getElem?_toArray, hu] at hy
      exact (Option.some.inj hy).symm
    subst ey
    refine ⟨_, rfl, wpAny_letOwnedTupleGo_enum (s := { s with heap := h', toks := tk + 1 }) ho fun h'' he' sb => ?_⟩
    have hT2 : h''.get? s.heap.objs.size = some { cls := .type "tuple", data := .seq #[.int i tk, y] } := (sb.2 _ (Nat.ne_of_gt hel)).trans hT
    have nw : ObjOk X.prog X.w (upd H s.heap.objs.size (.frz { cls := .type "tuple", data := .seq #[.int i tk, y] } (.tup [.int (i : Nat), x]))) h'' s.heap.objs.size (.frz { cls := .type "tuple", data := .seq #[.int i tk, y] } (.tup [.int (i : Nat), x])) :=
      ⟨hT2, by show 2 ≤ sizeLine; decide, [.int i tk, y], .cons ⟨_, rfl⟩ (.cons ru .nil), ⟨_, hT2, rfl, _, rfl⟩⟩
    have I1 : Inv X pins σ (upd H s.heap.objs.size (.frz { cls := .type "tuple", data := .seq #[.int i tk, y] } (.tup [.int (i : Nat), x]))) { s with heap := h'', toks := tk + 1 } :=
      I.turnedNew (ch := [e, it]) (fun b ob hb q => (sb.2 b (fun z => hb (by simp [z]))).trans (hk b ob (fun z => hb (by simp [z])) (fun z => hb (by simp [z])) q)) hf (Nat.le_refl _) nw
    refine ⟨.ref s.heap.objs.size, _, I1, rfl, ⟨_, x, _, rfl, I.hok.fresh (Nat.le_refl _), rfl, rfl, fun ys hy => by rw [sqx_inj I hy hq]; exact hx⟩, ⟨⟨y, ?_⟩, st'.1.keeps fun o q => (sb.2 it (Ne.symm hne)).trans q⟩, fun b hb => ?_⟩
    · have e1 : ((i + 1 : Nat) : Int) = (i : Int) + 1 := by omega
      rw [e1]; exact he'
    · have hb' : b < s.heap.objs.size := by
        rcases List.mem_cons.mp hb with z | z
        · rw [z]; exact hel
        · rw [List.mem_singleton.mp z]; exact hil
      rw [upd_ne (Nat.ne_of_lt hb')]
      exact (hf b hb).1
  done := by
    intro X hP hw hK hc i pins s σ H E I hf st hg
    subst hP hw hK
    obtain ⟨⟨old, he⟩, hit⟩ := st
    obtain ⟨xs, hq, hx⟩ := hg
    obtain ⟨its, rv, p, _, hz⟩ := sqx_at I hq
    obtain ⟨f0, f1, f2, f3, f4, f5⟩ := hf it (by simp)
    have hl := rv.length
    have hn : its.toArray.size = i := by simp; omega
    exact wpAny_pyNext_enum_endD (draws_x (A := X.A.in1) (I.ok.hd hc) t it a hai its.toArray) he (by rw [hn]; exact ⟨hit, p⟩) fun h' eb => ⟨rfl, I.turned (t' := s.toks) (fun b o hb q => eb b o hb q) f0 f1 f3 f4 f5⟩
  self := fun A i s Q E st h => let ⟨⟨_, he⟩, _⟩ := st; wpAny_pyIter_enum he h
end
end RV

set_option maxRecDepth 100000
/-! Ev17: zip; what iterators go through. -/
namespace RV
open PySem L2 PySem.Spec PyProof.Rows
section
variable {X : Cx} {pins : List (Addr × Obj)} {σ : L2.St} {H : Hp} {s : Shared} {tg e e2 e3 : Expr}
/-! ### a list, a tuple -/
def ItqX (K : PySem.W.Frag) (t : Bool) (a : Addr) : L2.It := if t then Itt K a else Itl K a
def iSeqX (K : PySem.W.Frag) (tl : TE) : TI := fun σ H R => tl σ H fun x H1 => ∃ t a xs, x = .ref a ∧ SqX K H1 t a xs ∧ R (ItqX K t a) H1
theorem fresh_fp (I : Inv X pins σ H s) {b : Addr} (h : s.heap.objs.size ≤ b) : FpOk X pins H b := I.fpOk h (I.hok.fresh h)
theorem pi_seqX {tl : TE} (hl : PE X e tl) : PI X tg e (iSeqX X.K tl) := by
  refine ⟨fun pins s σ H R I h => thn (hl.run pins s σ H _ I h) fun v s1 ⟨x, H1, I1, r1, t, a, xs, ex, hq, q⟩ => ?_⟩
  subst ex
  cases r1
  obtain ⟨its, rv, p, _, hz⟩ := sqx_at I1 hq
  have kp : Inv X pins σ H1 { s1 with heap := s1.heap.push (itObj t a) } := I1.kept (t' := s1.toks) fun b o e => Heap.get?_push_of_some _ e
  refine (begins_x t a its.toArray).iter _ _ _ _ _ _ p ?_
  cases t with
  | false =>
    refine ⟨s1.heap.objs.size, [s1.heap.objs.size], _, _, H1, rfl, kp, turn_list a _, ⟨_, Heap.get?_push_size _ rfl, rfl, rfl⟩, fun b hb => ?_, q⟩
    rw [List.mem_singleton.mp hb]
    exact fresh_fp I1 (Nat.le_refl _)
  | true =>
    refine ⟨s1.heap.objs.size, [s1.heap.objs.size], _, _, H1, rfl, kp, turn_tuple a _, ⟨_, Heap.get?_push_size _ rfl, rfl, rfl⟩, fun b hb => ?_, q⟩
    rw [List.mem_singleton.mp hb]
    exact fresh_fp I1 (Nat.le_refl _)
/-! ### enumerate -/
def iEnumX (K : PySem.W.Frag) (ta : TA) : TI := fun σ H R => ta σ H fun vs H1 => ∃ t a xs, vs = [.ref a] ∧ SqX K H1 t a xs ∧ R (IteX K t a) H1
theorem pi_enumX {ta : TA} {p pos tpos : Pos} {elts : List Expr} {kk : Nat} (hg : Gl X "enumerate") (hm : X.mg "enumerate" = none) (ha : PA X [e] ta) (hs : starEach [e] X.env = [(false, eval e X.env)]) :
    PI X (.Tuple elts kk tpos) (.Call (.Name "enumerate" p) [e] [] pos) (iEnumX X.K ta) := by
  refine ⟨fun pins s σ H R I h => ?_⟩
  refine Call_ (ld_blt I hg hm boot_enumerate (PyProof.Rows.callWith_type1 (thn (ha.run pos pins s σ H _ I h) fun us s1 ⟨vs, H1, I1, r1, t, a, xs, ex, hq, q⟩ => ?_) hs rfl))
  subst ex
  cases r1 with
  | cons r rr =>
    cases rr
    cases r
    obtain ⟨its, rv, p', hl, hz⟩ := sqx_at I1 hq
    refine enum_begins1 (begins_x t a its.toArray) p' fun h' he hit hk => wpAny_pyIter_enum he ?_
    refine ⟨s1.heap.objs.size + 1, [s1.heap.objs.size + 1, s1.heap.objs.size], _, _, H1, rfl, I1.kept (t' := s1.toks) hk, turn_enumX t a (s1.heap.objs.size + 1) s1.heap.objs.size (Nat.ne_of_lt (Nat.lt_succ_of_lt hl)) (Nat.ne_of_lt hl) (Nat.succ_ne_self _), ⟨⟨.none, he⟩, itAt_new hit⟩, fun b hb => ?_, q⟩
    rcases List.mem_cons.mp hb with z | z
    · rw [z]; exact fresh_fp I1 (Nat.le_add_right _ _)
    · rw [List.mem_singleton.mp z]; exact fresh_fp I1 (Nat.le_refl _)
/-! ### zip of two -/
def ItzX (K : PySem.W.Frag) (t : Bool) (a : Addr) (t2 : Bool) (b : Addr) : L2.It :=
  ⟨fun i H => ∃ (xs ys : List V) (x y : V), SqX K H t a xs ∧ SqX K H t2 b ys ∧ xs[i]? = some x ∧ ys[i]? = some y,
    fun i H v H' => ∃ T x y o, v = .ref T ∧ H T = none ∧ o.dict = none ∧ H' = upd H T (.frz o (.tup [x, y])) ∧ (∀ xs, SqX K H t a xs → xs[i]? = some x) ∧ ∀ ys, SqX K H t2 b ys → ys[i]? = some y,
    fun i H => ∃ xs ys : List V, SqX K H t a xs ∧ SqX K H t2 b ys ∧ i ≤ xs.length ∧ i ≤ ys.length ∧ (i = xs.length ∨ i = ys.length)⟩
theorem turn_zipX {P : Program} {w : World} {K : PySem.W.Frag} {elts : List Expr} {kk : Nat} {tpos : Pos} {t t2 : Bool} {a b z TI TO i1 i2 : Addr} (S : ZipSep2 z TI TO i1 i2 [i1, a] [i2, b]) (h1 : a ≠ i1) (h2 : b ≠ i2) :
    Turn P w K (.Tuple elts kk tpos) (ItzX K t a t2 b) [z, TI, TO, i1, i2] z (fun i h => IsZip h z TI TO .none ∧ IsTupOf2 h TI (.ref i1) (.ref i2) ∧ (∃ x y, IsTupOf2 h TO x y) ∧ ItAt h t i1 a i ∧ ItAt h t2 i2 b i) where
  mem := by simp
  obj := fun i h st c hc => by
    obtain ⟨hz, hTI, ⟨x, y, hTO⟩, o1, o2⟩ := st
    have e' : c = z ∨ c = TI ∨ c = TO ∨ c = i1 ∨ c = i2 := by simpa using hc
    rcases e' with q | q | q | q | q
    · rw [q]; exact ⟨_, hz, fun v q => nomatch q⟩
    · rw [q]; exact ⟨_, hTI, fun v q => nomatch q⟩
    · rw [q]; exact ⟨_, hTO, fun v q => nomatch q⟩
    · rw [q]; exact o1.obj
    · rw [q]; exact o2.obj
  keep := fun i h h' st k => by
    obtain ⟨hz, hTI, ⟨x, y, hTO⟩, o1, o2⟩ := st
    exact ⟨k z (by simp) _ hz, k TI (by simp) _ hTI, ⟨x, y, k TO (by simp) _ hTO⟩, o1.keeps fun o q => k i1 (by simp) o q, o2.keeps fun o q => k i2 (by simp) o q⟩
  item := by
    intro X hP hw hK hc i pins s σ H E I hf st hg
    subst hP hw hK
    obtain ⟨hz, hTI, ⟨x0, y0, hTO⟩, o1, o2⟩ := st
    obtain ⟨xs, ys, x, y, hqx, hqy, hx, hy⟩ := hg
    obtain ⟨its, rv, p, _, _⟩ := sqx_at I hqx
    obtain ⟨its2, rv2, p2, _, _⟩ := sqx_at I hqy
    obtain ⟨u, hu, ru⟩ := rv.get hx
    obtain ⟨u2, hu2, ru2⟩ := rv2.get hy
    have hzl : z < s.heap.objs.size := Heap.lt_size hz
    have g1 : i < its.toArray.size := by simpa using (List.getElem?_eq_some_iff.mp hu).1
    have g2 : i < its2.toArray.size := by simpa using (List.getElem?_eq_some_iff.mp hu2).1
    refine wpAny_pyNext_zipD2_item S (draws_x (A := X.A.in1) (I.ok.hd hc) t i1 a h1 its.toArray) (draws_x (A := X.A.in1) (I.ok.hd hc) t2 i2 b h2 its2.toArray) hz hTI hTO ⟨o1, p⟩ ⟨o2, p2⟩ g1 g2 fun w1 w2 h' tk y1 y2 z' TO' s1' s2' hT hsz hk => ?_
    have ew1 : w1 = u := by
      have y1 : its.toArray[i]? = some w1 := y1
      rw [List.getElem?_toArray, hu] at y1
      exact (Option.some.inj y1).symm
    have ew2 : w2 = u2 := by
      have y2 : its2.toArray[i]? = some w2 := y2
      rw [List.getElem?_toArray, hu2] at y2
      exact (Option.some.inj y2).symm
    subst ew1 ew2
    refine ⟨_, rfl, wpAny_letOwnedTupleGo_zip (s := { s with heap := h', toks := tk }) z' fun h'' z'' sb => ?_⟩
    have hT2 : h''.get? s.heap.objs.size = some { cls := .type "tuple", data := .seq #[w1, w2] } := (sb.2 _ (Nat.ne_of_gt hzl)).trans hT
    have nw : ObjOk X.prog X.w (upd H s.heap.objs.size (.frz { cls := .type "tuple", data := .seq #[w1, w2] } (.tup [x, y]))) h'' s.heap.objs.size (.frz { cls := .type "tuple", data := .seq #[w1, w2] } (.tup [x, y])) :=
      ⟨hT2, by show 2 ≤ sizeLine; decide, [w1, w2], .cons ru (.cons ru2 .nil), ⟨_, hT2, rfl, _, rfl⟩⟩
    have I1 : Inv X pins σ (upd H s.heap.objs.size (.frz { cls := .type "tuple", data := .seq #[w1, w2] } (.tup [x, y]))) { s with heap := h'', toks := tk } :=
      I.turnedNew (t' := tk) (ch := [z, TI, TO, i1, i2]) (fun c o hb q => (sb.2 c (fun q' => hb (by simp [q']))).trans (hk c o (fun q' => hb (by simp [q'])) (fun q' => hb (by simp [q'])) (fun q' => hb (by simp [q'])) (fun q' => hb (by simp [q'])) q)) hf (Nat.le_refl _) nw
    refine ⟨.ref s.heap.objs.size, _, I1, rfl, ⟨_, x, y, _, rfl, I.hok.fresh (Nat.le_refl _), rfl, rfl, fun l hl => by rw [sqx_inj I hl hqx]; exact hx, fun l hl => by rw [sqx_inj I hl hqy]; exact hy⟩, ⟨z'', ?_, ⟨w1, w2, ?_⟩, ?_, ?_⟩, fun c hcm => ?_⟩
    · exact (sb.2 _ S.TIz).trans (hk _ _ S.TIz S.TITO S.TIi1 S.TIi2 hTI)
    · exact (sb.2 _ S.TOz).trans TO'
    · exact s1'.1.keeps fun o q => (sb.2 _ (fun q' => S.zf1 (by rw [← q']; simp))).trans q
    · exact s2'.1.keeps fun o q => (sb.2 _ (fun q' => S.zf2 (by rw [← q']; simp))).trans q
    · have hlt : c < s.heap.objs.size := by
        have e' : c = z ∨ c = TI ∨ c = TO ∨ c = i1 ∨ c = i2 := by simpa using hcm
        rcases e' with q | q | q | q | q
        · rw [q]; exact hzl
        · rw [q]; exact Heap.lt_size hTI
        · rw [q]; exact Heap.lt_size hTO
        · rw [q]; obtain ⟨_, e1, _⟩ := o1.obj; exact Heap.lt_size e1
        · rw [q]; obtain ⟨_, e2, _⟩ := o2.obj; exact Heap.lt_size e2
      rw [upd_ne (Nat.ne_of_lt hlt)]
      exact (hf c hcm).1
  done := by
    intro X hP hw hK hc i pins s σ H E I hf st hg
    subst hP hw hK
    obtain ⟨hz, hTI, ⟨x0, y0, hTO⟩, o1, o2⟩ := st
    obtain ⟨xs, ys, hqx, hqy, b1, b2, hend⟩ := hg
    obtain ⟨its, rv, p, _, _⟩ := sqx_at I hqx
    obtain ⟨its2, rv2, p2, _, _⟩ := sqx_at I hqy
    have l1 : its.toArray.size = xs.length := by rw [List.size_toArray, rv.length]
    have l2 : its2.toArray.size = ys.length := by rw [List.size_toArray, rv2.length]
    exact wpAny_pyNext_zipD2_end S (draws_x (A := X.A.in1) (I.ok.hd hc) t i1 a h1 its.toArray) (draws_x (A := X.A.in1) (I.ok.hd hc) t2 i2 b h2 its2.toArray) hz hTI hTO ⟨o1, p⟩ ⟨o2, p2⟩ (by omega) (by omega) (by omega) fun h' tk hk => ⟨rfl, I.turnedL (t' := tk) (ch := [z, TI, TO, i1, i2]) (fun c o hb q =>
      hk c o (fun q' => hb (by simp [q'])) (fun q' => hb (by simp [q'])) (fun q' => hb (by simp [q'])) (fun q' => hb (by simp [q'])) q) hf⟩
  self := fun A i s Q E st h => wpAny_pyIter_zip st.1 h
def iZipX (K : PySem.W.Frag) (ta : TA) : TI := fun σ H R => ta σ H fun vs H1 => ∃ t a xs t2 b ys, vs = [.ref a, .ref b] ∧ SqX K H1 t a xs ∧ SqX K H1 t2 b ys ∧ R (ItzX K t a t2 b) H1
theorem pi_zipX {ta : TA} {p pos tpos : Pos} {elts : List Expr} {kk : Nat} (hg : Gl X "zip") (hm : X.mg "zip" = none) (ha : PA X [e, e2] ta)
    (hs : starEach [e, e2] X.env = (false, eval e X.env) :: starEach [e2] X.env) (hpl : (backTo pos (starEach [e2] X.env)).any (·.1) = false) :
    PI X (.Tuple elts kk tpos) (.Call (.Name "zip" p) [e, e2] [] pos) (iZipX X.K ta) := by
  refine ⟨fun pins s σ H R I h => ?_⟩
  refine Call_ (ld_blt I hg hm PyProof.Rows.boot_zip (PyProof.Rows.callWith_type1 (thn (ha.run pos pins s σ H _ I h) fun us s1 ⟨vs, H1, I1, r1, t, a, xs, t2, b, ys, ex, hqx, hqy, q⟩ => ?_) hs hpl))
  subst ex
  obtain ⟨u1, u2, rfl, r1', r2'⟩ := vals2 r1
  cases r1'
  cases r2'
  obtain ⟨its, rv, p1, la, _⟩ := sqx_at I1 hqx
  obtain ⟨its2, rv2, p2, lb, _⟩ := sqx_at I1 hqy
  refine zip_begins2 (begins_x t a its.toArray) (begins_x t2 b its2.toArray) p1 p2 fun h' hz hTI hTO h1 h2 hsz hk => wpAny_pyIter_zip hz ?_
  refine ⟨s1.heap.objs.size + 4, [s1.heap.objs.size + 4, s1.heap.objs.size + 2, s1.heap.objs.size + 3, s1.heap.objs.size, s1.heap.objs.size + 1], _, _, H1, rfl, I1.kept (t' := s1.toks) hk,
    turn_zipX (t := t) (t2 := t2) (a := a) (b := b) (PySem.zip_sep2 (fp1 := [a]) (fp2 := [b]) (fun c hc => by rw [List.mem_singleton.mp hc]; exact la) (fun c hc => by rw [List.mem_singleton.mp hc]; exact lb)) (Nat.ne_of_lt la) (Nat.ne_of_lt (Nat.lt_succ_of_lt lb)), ⟨hz, hTI, ⟨_, _, hTO⟩, itAt_new h1, itAt_new h2⟩, fun c hcm => ?_, q⟩
  have e' : c = s1.heap.objs.size + 4 ∨ c = s1.heap.objs.size + 2 ∨ c = s1.heap.objs.size + 3 ∨ c = s1.heap.objs.size ∨ c = s1.heap.objs.size + 1 := by simpa using hcm
  have hle : s1.heap.objs.size ≤ c := by
    rcases e' with z | z | z | z | z
    · rw [z]; exact Nat.le_add_right _ _
    · rw [z]; exact Nat.le_add_right _ _
    · rw [z]; exact Nat.le_add_right _ _
    · rw [z]; exact Nat.le_refl _
    · rw [z]; exact Nat.le_add_right _ _
  exact fresh_fp I1 hle
/-! ### zip of three -/
def ItzY (K : PySem.W.Frag) (t : Bool) (a : Addr) (t2 : Bool) (b : Addr) (t3 : Bool) (d : Addr) : L2.It :=
  ⟨fun i H => ∃ (xs ys zs : List V) (x y z : V), SqX K H t a xs ∧ SqX K H t2 b ys ∧ SqX K H t3 d zs ∧ xs[i]? = some x ∧ ys[i]? = some y ∧ zs[i]? = some z,
    fun i H v H' => ∃ T x y z o, v = .ref T ∧ H T = none ∧ o.dict = none ∧ H' = upd H T (.frz o (.tup [x, y, z])) ∧ (∀ xs, SqX K H t a xs → xs[i]? = some x) ∧ (∀ ys, SqX K H t2 b ys → ys[i]? = some y) ∧ ∀ zs, SqX K H t3 d zs → zs[i]? = some z,
    fun i H => ∃ xs ys zs : List V, SqX K H t a xs ∧ SqX K H t2 b ys ∧ SqX K H t3 d zs ∧ i ≤ xs.length ∧ i ≤ ys.length ∧ i ≤ zs.length ∧ (i = xs.length ∨ i = ys.length ∨ i = zs.length)⟩
theorem turn_zipY {P : Program} {w : World} {K : PySem.W.Frag} {elts : List Expr} {kk : Nat} {tpos : Pos} {t t2 t3 : Bool} {a b d z TI TO i1 i2 i3 : Addr} (S : ZipSep3 z TI TO i1 i2 i3 [i1, a] [i2, b] [i3, d]) (h1 : a ≠ i1) (h2 : b ≠ i2) (h3 : d ≠ i3) :
    Turn P w K (.Tuple elts kk tpos) (ItzY K t a t2 b t3 d) [z, TI, TO, i1, i2, i3] z (fun i h => IsZip h z TI TO .none ∧ IsTupOf3 h TI (.ref i1) (.ref i2) (.ref i3) ∧ (∃ x y u, IsTupOf3 h TO x y u) ∧ ItAt h t i1 a i ∧ ItAt h t2 i2 b i ∧ ItAt h t3 i3 d i) where
  mem := by simp
  obj := fun i h st c hc => by
    obtain ⟨hz, hTI, ⟨x, y, u, hTO⟩, o1, o2, o3⟩ := st
    have e' : c = z ∨ c = TI ∨ c = TO ∨ c = i1 ∨ c = i2 ∨ c = i3 := by simpa using hc
    rcases e' with q | q | q | q | q | q
    · rw [q]; exact ⟨_, hz, fun v q => nomatch q⟩
    · rw [q]; exact ⟨_, hTI, fun v q => nomatch q⟩
    · rw [q]; exact ⟨_, hTO, fun v q => nomatch q⟩
    · rw [q]; exact o1.obj
    · rw [q]; exact o2.obj
    · rw [q]; exact o3.obj
  keep := fun i h h' st k => by
    obtain ⟨hz, hTI, ⟨x, y, u, hTO⟩, o1, o2, o3⟩ := st
    exact ⟨k z (by simp) _ hz, k TI (by simp) _ hTI, ⟨x, y, u, k TO (by simp) _ hTO⟩, o1.keeps fun o q => k i1 (by simp) o q, o2.keeps fun o q => k i2 (by simp) o q, o3.keeps fun o q => k i3 (by simp) o q⟩
  item := by
    intro X hP hw hK hc i pins s σ H E I hf st hg
    subst hP hw hK
    obtain ⟨hz, hTI, ⟨x0, y0, z0, hTO⟩, o1, o2, o3⟩ := st
    obtain ⟨xs, ys, zs, x, y, u0, hqx, hqy, hqz, hx, hy, hu0⟩ := hg
    obtain ⟨its, rv, p, _, _⟩ := sqx_at I hqx
    obtain ⟨its2, rv2, p2, _, _⟩ := sqx_at I hqy
    obtain ⟨its3, rv3, p3, _, _⟩ := sqx_at I hqz
    obtain ⟨u, hu, ru⟩ := rv.get hx
    obtain ⟨u2, hu2, ru2⟩ := rv2.get hy
    obtain ⟨u3, hu3, ru3⟩ := rv3.get hu0
    have hzl : z < s.heap.objs.size := Heap.lt_size hz
    have g1 : i < its.toArray.size := by simpa using (List.getElem?_eq_some_iff.mp hu).1
    have g2 : i < its2.toArray.size := by simpa using (List.getElem?_eq_some_iff.mp hu2).1
    have g3 : i < its3.toArray.size := by simpa using (List.getElem?_eq_some_iff.mp hu3).1
    refine wpAny_pyNext_zipD3_item S (draws_x (A := X.A.in1) (I.ok.hd hc) t i1 a h1 its.toArray) (draws_x (A := X.A.in1) (I.ok.hd hc) t2 i2 b h2 its2.toArray) (draws_x (A := X.A.in1) (I.ok.hd hc) t3 i3 d h3 its3.toArray) hz hTI hTO ⟨o1, p⟩ ⟨o2, p2⟩ ⟨o3, p3⟩ g1 g2 g3 fun w1 w2 w3 h' tk y1 y2 y3 z' TO' s1' s2' s3' hT hsz hk => ?_
    have ew1 : w1 = u := by
      have y1 : its.toArray[i]? = some w1 := y1
      rw [List.getElem?_toArray, hu] at y1
      exact (Option.some.inj y1).symm
    have ew2 : w2 = u2 := by
      have y2 : its2.toArray[i]? = some w2 := y2
      rw [List.getElem?_toArray, hu2] at y2
      exact (Option.some.inj y2).symm
    have ew3 : w3 = u3 := by
      have y3 : its3.toArray[i]? = some w3 := y3
      rw [List.getElem?_toArray, hu3] at y3
      exact (Option.some.inj y3).symm
    subst ew1 ew2 ew3
    refine ⟨_, rfl, wpAny_letOwnedTupleGo_zip (s := { s with heap := h', toks := tk }) z' fun h'' z'' sb => ?_⟩
    have hT2 : h''.get? s.heap.objs.size = some { cls := .type "tuple", data := .seq #[w1, w2, w3] } := (sb.2 _ (Nat.ne_of_gt hzl)).trans hT
    have nw : ObjOk X.prog X.w (upd H s.heap.objs.size (.frz { cls := .type "tuple", data := .seq #[w1, w2, w3] } (.tup [x, y, u0]))) h'' s.heap.objs.size (.frz { cls := .type "tuple", data := .seq #[w1, w2, w3] } (.tup [x, y, u0])) :=
      ⟨hT2, by show 3 ≤ sizeLine; decide, [w1, w2, w3], .cons ru (.cons ru2 (.cons ru3 .nil)), ⟨_, hT2, rfl, _, rfl⟩⟩
    have I1 : Inv X pins σ (upd H s.heap.objs.size (.frz { cls := .type "tuple", data := .seq #[w1, w2, w3] } (.tup [x, y, u0]))) { s with heap := h'', toks := tk } :=
      I.turnedNew (t' := tk) (ch := [z, TI, TO, i1, i2, i3]) (fun c o hb q => (sb.2 c (fun q' => hb (by simp [q']))).trans (hk c o (fun q' => hb (by simp [q'])) (fun q' => hb (by simp [q'])) (fun q' => hb (by simp [q'])) (fun q' => hb (by simp [q'])) (fun q' => hb (by simp [q'])) q)) hf (Nat.le_refl _) nw
    refine ⟨.ref s.heap.objs.size, _, I1, rfl, ⟨_, x, y, u0, _, rfl, I.hok.fresh (Nat.le_refl _), rfl, rfl, fun l hl => by rw [sqx_inj I hl hqx]; exact hx, fun l hl => by rw [sqx_inj I hl hqy]; exact hy, fun l hl => by rw [sqx_inj I hl hqz]; exact hu0⟩, ⟨z'', ?_, ⟨w1, w2, w3, ?_⟩, ?_, ?_, ?_⟩, fun c hcm => ?_⟩
    · exact (sb.2 _ S.TIz).trans (hk _ _ S.TIz S.TITO S.TIi1 S.TIi2 S.TIi3 hTI)
    · exact (sb.2 _ S.TOz).trans TO'
    · exact s1'.1.keeps fun o q => (sb.2 _ (fun q' => S.zf1 (by rw [← q']; simp))).trans q
    · exact s2'.1.keeps fun o q => (sb.2 _ (fun q' => S.zf2 (by rw [← q']; simp))).trans q
    · exact s3'.1.keeps fun o q => (sb.2 _ (fun q' => S.zf3 (by rw [← q']; simp))).trans q
    · have hlt : c < s.heap.objs.size := by
        have e' : c = z ∨ c = TI ∨ c = TO ∨ c = i1 ∨ c = i2 ∨ c = i3 := by simpa using hcm
        rcases e' with q | q | q | q | q | q
        · rw [q]; exact hzl
        · rw [q]; exact Heap.lt_size hTI
        · rw [q]; exact Heap.lt_size hTO
        · rw [q]; obtain ⟨_, e1, _⟩ := o1.obj; exact Heap.lt_size e1
        · rw [q]; obtain ⟨_, e2, _⟩ := o2.obj; exact Heap.lt_size e2
        · rw [q]; obtain ⟨_, e3, _⟩ := o3.obj; exact Heap.lt_size e3
      rw [upd_ne (Nat.ne_of_lt hlt)]
      exact (hf c hcm).1
  done := by
    intro X hP hw hK hc i pins s σ H E I hf st hg
    subst hP hw hK
    obtain ⟨hz, hTI, ⟨x0, y0, z0, hTO⟩, o1, o2, o3⟩ := st
    obtain ⟨xs, ys, zs, hqx, hqy, hqz, b1, b2, b3, hend⟩ := hg
    obtain ⟨its, rv, p, _, _⟩ := sqx_at I hqx
    obtain ⟨its2, rv2, p2, _, _⟩ := sqx_at I hqy
    obtain ⟨its3, rv3, p3, _, _⟩ := sqx_at I hqz
    have l1 : its.toArray.size = xs.length := by rw [List.size_toArray, rv.length]
    have l2 : its2.toArray.size = ys.length := by rw [List.size_toArray, rv2.length]
    have l3 : its3.toArray.size = zs.length := by rw [List.size_toArray, rv3.length]
    exact wpAny_pyNext_zipD3_end S (draws_x (A := X.A.in1) (I.ok.hd hc) t i1 a h1 its.toArray) (draws_x (A := X.A.in1) (I.ok.hd hc) t2 i2 b h2 its2.toArray) (draws_x (A := X.A.in1) (I.ok.hd hc) t3 i3 d h3 its3.toArray) hz hTI hTO ⟨o1, p⟩ ⟨o2, p2⟩ ⟨o3, p3⟩ (by omega) (by omega) (by omega) (by omega) fun h' tk hk => ⟨rfl, I.turnedL (t' := tk) (ch := [z, TI, TO, i1, i2, i3]) (fun c o hb q =>
      hk c o (fun q' => hb (by simp [q'])) (fun q' => hb (by simp [q'])) (fun q' => hb (by simp [q'])) (fun q' => hb (by simp [q'])) (fun q' => hb (by simp [q'])) q) hf⟩
  self := fun A i s Q E st h => wpAny_pyIter_zip st.1 h
theorem vals3 {x y z : V} {us : List Value} (h : Vals [x, y, z] us) : ∃ u v w, us = [u, v, w] ∧ L2.RelV x u ∧ L2.RelV y v ∧ L2.RelV z w := by
  cases h with
  | cons a h =>
    obtain ⟨u, v, rfl, b, d⟩ := vals2 h
    exact ⟨_, _, _, rfl, a, b, d⟩
def iZipY (K : PySem.W.Frag) (ta : TA) : TI := fun σ H R => ta σ H fun vs H1 => ∃ t a xs t2 b ys t3 d zs, vs = [.ref a, .ref b, .ref d] ∧ SqX K H1 t a xs ∧ SqX K H1 t2 b ys ∧ SqX K H1 t3 d zs ∧ R (ItzY K t a t2 b t3 d) H1
theorem pi_zipY {ta : TA} {p pos tpos : Pos} {elts : List Expr} {kk : Nat} (hg : Gl X "zip") (hm : X.mg "zip" = none) (ha : PA X [e, e2, e3] ta)
    (hs : starEach [e, e2, e3] X.env = (false, eval e X.env) :: starEach [e2, e3] X.env) (hpl : (backTo pos (starEach [e2, e3] X.env)).any (·.1) = false) :
    PI X (.Tuple elts kk tpos) (.Call (.Name "zip" p) [e, e2, e3] [] pos) (iZipY X.K ta) := by
  refine ⟨fun pins s σ H R I h => ?_⟩
  refine Call_ (ld_blt I hg hm PyProof.Rows.boot_zip (PyProof.Rows.callWith_type1 (thn (ha.run pos pins s σ H _ I h) fun us s1 ⟨vs, H1, I1, r1, t, a, xs, t2, b, ys, t3, d, zs, ex, hqx, hqy, hqz, q⟩ => ?_) hs hpl))
  subst ex
  obtain ⟨u1, u2, u3, rfl, r1', r2', r3'⟩ := vals3 r1
  cases r1'
  cases r2'
  cases r3'
  obtain ⟨its, rv, p1, la, _⟩ := sqx_at I1 hqx
  obtain ⟨its2, rv2, p2, lb, _⟩ := sqx_at I1 hqy
  obtain ⟨its3, rv3, p3, ld, _⟩ := sqx_at I1 hqz
  refine zip_begins3 (begins_x t a its.toArray) (begins_x t2 b its2.toArray) (begins_x t3 d its3.toArray) p1 p2 p3 fun h' hz hTI hTO h1 h2 h3 hsz hk => wpAny_pyIter_zip hz ?_
  refine ⟨s1.heap.objs.size + 5, [s1.heap.objs.size + 5, s1.heap.objs.size + 3, s1.heap.objs.size + 4, s1.heap.objs.size, s1.heap.objs.size + 1, s1.heap.objs.size + 2], _, _, H1, rfl, I1.kept (t' := s1.toks) hk,
    turn_zipY (t := t) (t2 := t2) (t3 := t3) (a := a) (b := b) (d := d) (PySem.zip_sep3 (fp1 := [a]) (fp2 := [b]) (fp3 := [d]) (fun c hc => by rw [List.mem_singleton.mp hc]; exact la) (fun c hc => by rw [List.mem_singleton.mp hc]; exact lb) (fun c hc => by rw [List.mem_singleton.mp hc]; exact ld)) (Nat.ne_of_lt la) (Nat.ne_of_lt (Nat.lt_succ_of_lt lb)) (Nat.ne_of_lt (Nat.lt_succ_of_lt (Nat.lt_succ_of_lt ld))), ⟨hz, hTI, ⟨_, _, _, hTO⟩, itAt_new h1, itAt_new h2, itAt_new h3⟩, fun c hcm => ?_, q⟩
  have e' : c = s1.heap.objs.size + 5 ∨ c = s1.heap.objs.size + 3 ∨ c = s1.heap.objs.size + 4 ∨ c = s1.heap.objs.size ∨ c = s1.heap.objs.size + 1 ∨ c = s1.heap.objs.size + 2 := by simpa using hcm
  have hle : s1.heap.objs.size ≤ c := by
    rcases e' with z | z | z | z | z | z
    · rw [z]; exact Nat.le_add_right _ _
    · rw [z]; exact Nat.le_add_right _ _
    · rw [z]; exact Nat.le_add_right _ _
    · rw [z]; exact Nat.le_refl _
    · rw [z]; exact Nat.le_add_right _ _
    · rw [z]; exact Nat.le_add_right _ _
  exact fresh_fp I1 hle
/-! ### what they go through -/
def Goes (K : PySem.W.Frag) (J : L2.It) (ds : List D) (Hold : Hp → Prop) : Prop :=
  ∀ (H : Hp) (i : Nat), Hold H → (i < ds.length → J.go i H ∧ ∀ x H', J.yld i H x H' → Same H H' ∧ ∃ d, ds[i]? = some d ∧ Im K H' d x) ∧ (i = ds.length → J.stop i H)
/-- the data of a sequence -/
def SqD (K : PySem.W.Frag) (t : Bool) (a : Addr) (ds : List D) (H : Hp) : Prop := ∃ xs, SqX K H t a xs ∧ ImA K H ds xs
theorem sqd_at {K : PySem.W.Frag} {H : Hp} {ds : List D} {xs : List V} {i : Nat} (im : ImA K H ds xs) (h : i < ds.length) : ∃ x d, xs[i]? = some x ∧ ds[i]? = some d ∧ Im K H d x := by
  have e := List.getElem?_eq_getElem h
  obtain ⟨v, hv, q⟩ := im.get e
  exact ⟨v, _, hv, e, q⟩
theorem goes_seq {K : PySem.W.Frag} {t : Bool} {a : Addr} {ds : List D} : Goes K (ItqX K t a) ds (SqD K t a ds) := fun H i ⟨xs, hq, im⟩ => by
  constructor
  · intro hi
    obtain ⟨x, d, h1, h2, h3⟩ := sqd_at im hi
    cases t with
    | false => exact ⟨⟨xs, x, hq, h1⟩, fun y H' ⟨e, hy⟩ => by
        subst e
        rw [hy xs hq] at h1
        cases h1
        exact ⟨.refl _, d, h2, h3⟩⟩
    | true => exact ⟨⟨xs, x, hq, h1⟩, fun y H' ⟨e, hy⟩ => by
        subst e
        rw [hy xs hq] at h1
        cases h1
        exact ⟨.refl _, d, h2, h3⟩⟩
  · rintro rfl
    cases t with
    | false => exact ⟨xs, hq, by rw [im.len]; exact Nat.le_refl _⟩
    | true => exact ⟨xs, hq, by rw [im.len]; exact Nat.le_refl _⟩
theorem goes_enum {K : PySem.W.Frag} {t : Bool} {a : Addr} {ds : List D} : Goes K (IteX K t a) (enumD ds) (SqD K t a ds) := fun H i ⟨xs, hq, im⟩ => by
  constructor
  · intro hi
    have hi : i < ds.length := by simpa [enumD] using hi
    obtain ⟨x, d, h1, h2, h3⟩ := sqd_at im hi
    refine ⟨⟨xs, x, hq, h1⟩, fun y H' ⟨T, x', o, ey, hT, ho, eH, hx⟩ => ?_⟩
    subst ey eH
    rw [hx xs hq] at h1
    cases h1
    refine ⟨same_new hT, .tuple [.int i, d], by simp [enumD, h2], im_tup (.new ho) ?_⟩
    exact .cons (im_int _) (.cons (Im.pst (.new hT) _ _ h3) .nil)
  · rintro rfl
    exact ⟨xs, hq, by rw [← im.len]; simp [enumD]⟩
theorem goes_zip {K : PySem.W.Frag} {t t2 : Bool} {a b : Addr} {ds es : List D} : Goes K (ItzX K t a t2 b) (zipD ds es) (fun H => SqD K t a ds H ∧ SqD K t2 b es H) := fun H i ⟨⟨xs, hq, im⟩, ⟨ys, hq2, im2⟩⟩ => by
  have hl : (zipD ds es).length = min ds.length es.length := by simp [zipD]
  constructor
  · intro hi
    rw [hl] at hi
    obtain ⟨x, d, h1, h2, h3⟩ := sqd_at im (show i < ds.length by omega)
    obtain ⟨y, d', g1, g2, g3⟩ := sqd_at im2 (show i < es.length by omega)
    refine ⟨⟨xs, ys, x, y, hq, hq2, h1, g1⟩, fun v H' ⟨T, x', y', o, ey, hT, ho, eH, hx, hy⟩ => ?_⟩
    subst ey eH
    rw [hx xs hq] at h1
    rw [hy ys hq2] at g1
    cases h1; cases g1
    refine ⟨same_new hT, .tuple [d, d'], by simp [zipD, List.getElem?_zip_eq_some, h2, g2], im_tup (.new ho) ?_⟩
    exact .cons (Im.pst (.new hT) _ _ h3) (.cons (Im.pst (.new hT) _ _ g3) .nil)
  · rintro rfl
    rw [hl]
    have := im.len
    have := im2.len
    exact ⟨xs, ys, hq, hq2, by omega, by omega, by omega⟩
theorem z3get {ds es fs : List D} {i : Nat} {d d' d'' : D} (h2 : ds[i]? = some d) (g2 : es[i]? = some d') (k2 : fs[i]? = some d'') : (zip3D ds es fs)[i]? = some (.tuple [d, d', d'']) := by
  have e0 : (ds.zip (es.zip fs))[i]? = some (d, d', d'') := List.getElem?_zip_eq_some.mpr ⟨h2, List.getElem?_zip_eq_some.mpr ⟨g2, k2⟩⟩
  simp [zip3D, e0]
theorem goes_zip3 {K : PySem.W.Frag} {t t2 t3 : Bool} {a b c : Addr} {ds es fs : List D} : Goes K (ItzY K t a t2 b t3 c) (zip3D ds es fs) (fun H => SqD K t a ds H ∧ SqD K t2 b es H ∧ SqD K t3 c fs H) := fun H i ⟨⟨xs, hq, im⟩, ⟨ys, hq2, im2⟩, ⟨zs, hq3, im3⟩⟩ => by
  have hl : (zip3D ds es fs).length = min ds.length (min es.length fs.length) := by simp [zip3D]
  constructor
  · intro hi
    rw [hl] at hi
    obtain ⟨x, d, h1, h2, h3⟩ := sqd_at im (show i < ds.length by omega)
    obtain ⟨y, d', g1, g2, g3⟩ := sqd_at im2 (show i < es.length by omega)
    obtain ⟨z, d'', k1, k2, k3⟩ := sqd_at im3 (show i < fs.length by omega)
    refine ⟨⟨xs, ys, zs, x, y, z, hq, hq2, hq3, h1, g1, k1⟩, fun v H' ⟨T, x', y', z', o, ey, hT, ho, eH, hx, hy, hz⟩ => ?_⟩
    subst ey eH
    rw [hx xs hq] at h1
    rw [hy ys hq2] at g1
    rw [hz zs hq3] at k1
    cases h1; cases g1; cases k1
    refine ⟨same_new hT, .tuple [d, d', d''], z3get h2 g2 k2, im_tup (.new ho) ?_⟩
    exact .cons (Im.pst (.new hT) _ _ h3) (.cons (Im.pst (.new hT) _ _ g3) (.cons (Im.pst (.new hT) _ _ k3) .nil))
  · rintro rfl
    rw [hl]
    have := im.len
    have := im2.len
    have := im3.len
    exact ⟨xs, ys, zs, hq, hq2, hq3, by omega, by omega, by omega, by omega⟩
theorem goes_rng {K : PySem.W.Frag} {lo : Int} {n : Nat} : Goes K (Itr lo n) (rngD lo n) (fun _ => True) := fun H i _ => by
  have hl : (rngD lo n).length = n := by simp [rngD]
  rw [hl]
  refine ⟨fun hi => ⟨hi, fun x H' ⟨e, ex⟩ => ?_⟩, fun e => Nat.le_of_eq e.symm⟩
  subst e ex
  exact ⟨.refl _, .int (lo + i), by simp [rngD, hi], im_int _⟩
end
end RV

set_option maxRecDepth 100000
/-! Ev18: locks; the readings of what is walked. -/
namespace RV
open PySem L2 PySem.Spec PyProof.Rows
section
variable {K : PySem.W.Frag} {S0 : Bk} {H0 H H' : Hp} {ω : Addr → Option Hd} {a : A} {σ : L2.St} {T ts : List Tm}
/-- the middle held values are dropped -/
theorem W.dropMid {T1 : List Tm} {t : Tm} (w : W K S0 H0 ω a σ ((T ++ T1) ++ [t]) H) :
    W K S0 H0 (fun b => if ω b = some (.tm (T ++ T1).length) then some (.tm T.length) else match ω b with
      | some (.tm j) => if j < T.length then some (.tm j) else none
      | x => x) a σ (T ++ [t]) H := by
  refine ⟨fun b h e => ?_, w.old, w.pst, fun i s e => ?_, fun j u e => ?_, w.lck, w.len⟩
  · try dsimp only at e
    split at e
    · rename_i q; exact w.dom b _ q
    · split at e
      · rename_i j q; exact w.dom b _ q
      · exact w.dom b h e
  · obtain ⟨v, e1, q⟩ := w.slot i s e
    refine ⟨v, e1, q.mv (.refl H) (fun b z => ?_) fun _ _ => rfl⟩
    try dsimp only at z ⊢
    rw [if_neg (by rw [z]; simp), z]
  · by_cases hj : j < T.length
    · rw [List.getElem?_append_left hj] at e
      refine (w.tmp j u (by rw [List.append_assoc, List.getElem?_append_left hj]; exact e)).mv (.refl H) (fun b z => ?_) fun _ _ => rfl
      try dsimp only at z ⊢
      rw [if_neg (by rw [z]; simp; omega), z]
      try dsimp only
      rw [if_pos hj]
    · by_cases hj2 : j = T.length
      · subst hj2
        rw [List.getElem?_append_right (Nat.le_refl _), Nat.sub_self] at e
        cases e
        exact w.last.mv (.refl H) (fun b z => if_pos z) fun _ _ => rfl
      · rw [List.getElem?_eq_none (by rw [List.length_append]; show T.length + 1 ≤ j; omega)] at e
        cases e
/-- a held value's object is changed, it takes what was held behind it -/
theorem W.tmpUpd {t t' : Tm} {p : Addr} {u : HO} (w : W K S0 H0 ω a σ ((T ++ [t]) ++ ts) H) (hp : ω p = some (.tm T.length)) (hu : H p = some u) (mu : Mut (some u)) (hs : (H' p).isSome = true)
    (keep : ∀ b, b ≠ p → H' b = H b) (own : Own K H' false t'.m t'.d t'.v (fun b => ω b = some (.tm T.length) ∨ ∃ j, T.length + 1 ≤ j ∧ ω b = some (.tm j))) :
    W K S0 H0 (fun b => match ω b with
      | some (.tm j) => if T.length ≤ j then some (.tm T.length) else some (.tm j)
      | x => x) a σ (T ++ [t']) H' := by
  have ps : Pst H H' := ⟨fun b xs h => by
    rw [keep b fun z => ?_]; exact h
    subst z; rw [hu] at h; cases h; exact mu, fun b o x h => by
    rw [keep b fun z => ?_]; exact h
    subst z; rw [hu] at h; cases h; exact mu⟩
  refine ⟨fun b x h => ?_, fun b o h n => ?_, w.pst.trans ps, fun j s h => ?_, fun j s h => ?_, w.lck, w.len⟩
  · have hy : ∃ y, ω b = some y := by
      try dsimp only at h
      split at h
      · rename_i j q; exact ⟨_, q⟩
      · exact ⟨x, h⟩
    obtain ⟨y, hy⟩ := hy
    refine ⟨?_, (w.dom b y hy).2⟩
    by_cases hb : b = p
    · subst hb; exact hs
    · rw [keep b hb]; exact (w.dom b y hy).1
  · have h1 := w.old b o h n
    rw [keep b fun z => ?_]; exact h1
    subst z
    rcases (w.dom b _ hp).2 with q | q
    · exact n q
    · rw [q] at h; cases h
  · obtain ⟨v', e1, q⟩ := w.slot j s h
    refine ⟨v', e1, q.mv ps (fun b z => ?_) fun b z => keep b fun hb => ?_⟩
    · try dsimp only at z ⊢
      rw [z]
    · subst hb
      have z : ω b = some (.sl j) := z
      rw [hp] at z
      cases z
  · by_cases hj : j < T.length
    · rw [List.getElem?_append_left hj] at h
      refine (w.tmp j s (by rw [List.append_assoc, List.getElem?_append_left hj]; exact h)).mv ps (fun b z => ?_) fun b z => keep b fun hb => ?_
      · try dsimp only at z ⊢
        rw [z]
        try dsimp only
        rw [if_neg (by omega)]
      · subst hb
        have z : ω b = some (.tm j) := z
        rw [hp] at z
        cases z
        omega
    · by_cases hj2 : j = T.length
      · subst hj2
        rw [List.getElem?_append_right (Nat.le_refl _), Nat.sub_self] at h
        cases h
        refine own.mv (.refl _) (fun b z => ?_) fun _ _ => rfl
        try dsimp only at z ⊢
        rcases z with z | ⟨j, l, z⟩
        · rw [z]
          try dsimp only
          rw [if_pos (Nat.le_refl _)]
        · rw [z]
          try dsimp only
          rw [if_pos (by omega)]
      · rw [List.getElem?_eq_none (by rw [List.length_append]; show T.length + 1 ≤ j; omega)] at h
        cases h
/-! ### locks -/
theorem own_lk {z : Bool} {m : Nat} {d : D} {v : V} {F : Addr → Prop} (h : Own K H false m d v F) : Own K H z m d v F := by
  cases m with
  | zero => exact h
  | succ m =>
    rcases h with h | h | h | ⟨h, _⟩
    · exact .inl h
    · exact .inr (.inl h)
    · exact .inr (.inr (.inl h))
    · cases h
theorem own_unlk {z : Bool} {m : Nat} {d : D} {v : V} {F : Addr → Prop} (h : Own K H z m d v F) (n : m ≠ 99) : Own K H false m d v F := by
  cases m with
  | zero => exact h
  | succ m =>
    rcases h with h | h | h | ⟨_, h, _⟩
    · exact .inl h
    · exact .inr (.inl h)
    · exact .inr (.inr (.inl h))
    · exact absurd (by omega) n
/-- a slot is locked -/
theorem W.lock (w : W K S0 H0 ω a σ T H) {i : Nat} {s : Sl} {v : V} (e : a[i]? = some (some s)) (lk : s.lk = false) (hv : σ[i]? = some (some v)) :
    W K ⟨S0.s, fun j => if j = i then some (v, s.m, s.d) else S0.l j⟩ H0 ω (a.set i (some ⟨s.m, true, s.d⟩)) σ T H := by
  refine ⟨w.dom, w.old, w.pst, fun j t h => ?_, w.tmp, fun j t v' e1 e2 e3 => ?_, by rw [List.length_set]; exact w.len⟩
  · by_cases hj : i = j
    · subst hj
      rw [List.getElem?_set_self (List.getElem?_eq_some_iff.mp e).1] at h
      cases h
      obtain ⟨v', e1, q⟩ := w.slot i s e
      rw [lk] at q
      exact ⟨v', e1, own_lk q⟩
    · rw [List.getElem?_set_ne hj] at h
      exact w.slot j t h
  · by_cases hj : i = j
    · subst hj
      rw [List.getElem?_set_self (List.getElem?_eq_some_iff.mp e).1] at e1
      cases e1
      rw [hv] at e3
      cases e3
      exact if_pos rfl
    · rw [List.getElem?_set_ne hj] at e1
      show (if j = i then some (v, s.m, s.d) else S0.l j) = _
      rw [if_neg (Ne.symm hj)]
      exact w.lck j t v' e1 e2 e3
/-- the new locks -/
def news (lk : Lks) (i : Nat) : Bool := lk.any fun p => p.2 && decide (p.1 = i)
theorem W.unlock1 {S1 : Bk} (w : W K S1 H0 ω a σ T H) {i : Nat} {s : Sl} (e : a[i]? = some (some s)) (n : s.m ≠ 99) : W K S1 H0 ω (a.set i (some ⟨s.m, false, s.d⟩)) σ T H := by
  refine ⟨w.dom, w.old, w.pst, fun j t h => ?_, w.tmp, fun j t v' e1 e2 e3 => ?_, by rw [List.length_set]; exact w.len⟩
  · by_cases hj : i = j
    · subst hj
      rw [List.getElem?_set_self (List.getElem?_eq_some_iff.mp e).1] at h
      cases h
      obtain ⟨v', e1, q⟩ := w.slot i s e
      exact ⟨v', e1, own_unlk q n⟩
    · rw [List.getElem?_set_ne hj] at h
      exact w.slot j t h
  · by_cases hj : i = j
    · subst hj
      rw [List.getElem?_set_self (List.getElem?_eq_some_iff.mp e).1] at e1
      cases e1
      cases e2
    · rw [List.getElem?_set_ne hj] at e1
      exact w.lck j t v' e1 e2 e3
theorem W.unlockS {S1 : Bk} : ∀ {lk : Lks} {a : A}, W K S1 H0 ω a σ T H → W K S1 H0 ω (unlockA a lk) σ T H
  | [], a, w => w
  | (i, false) :: r, a, w => by unfold unlockA; exact W.unlockS w
  | (i, true) :: r, a, w => by
    unfold unlockA
    split
    · rename_i s hs
      refine W.unlockS ?_
      split
      · rename_i h
        exact w.unlock1 hs (by simpa [own99] using h)
      · exact w.forget i
    · exact W.unlockS w
theorem lkAt_set {a : A} {i j : Nat} {s : Option Sl} (h : ∀ t, s = some t → t.lk = false) (k : lkAt a j = false ∨ j = i) : lkAt (a.set i s) j = false := by
  unfold lkAt
  by_cases hj : i = j
  · subst hj
    by_cases hi : i < a.length
    · rw [List.getElem?_set_self hi]
      cases s with
      | none => rfl
      | some t => exact h t rfl
    · rw [List.getElem?_eq_none (by rw [List.length_set]; omega)]
  · rw [List.getElem?_set_ne hj]
    rcases k with k | k
    · exact k
    · exact absurd k.symm hj
theorem unlock_stay : ∀ {lk : Lks} {a : A} {j : Nat}, lkAt a j = false → lkAt (unlockA a lk) j = false
  | [], a, j, h => h
  | (i, false) :: r, a, j, h => by unfold unlockA; exact unlock_stay h
  | (i, true) :: r, a, j, h => by
    unfold unlockA
    split
    · refine unlock_stay (lkAt_set (fun t ht => ?_) (.inl h))
      split at ht
      · cases ht; rfl
      · cases ht
    · exact unlock_stay h
theorem unlock_news : ∀ {lk : Lks} {a : A} {j : Nat}, news lk j = true → lkAt (unlockA a lk) j = false
  | [], a, j, h => by cases h
  | (i, b) :: r, a, j, h => by
    have h : (b && decide (i = j) || news r j) = true := h
    cases b with
    | false =>
      unfold unlockA
      exact unlock_news (by simpa using h)
    | true =>
      unfold unlockA
      by_cases hj : i = j
      · subst hj
        split
        · refine unlock_stay (lkAt_set (fun t ht => ?_) (.inr rfl))
          split at ht
          · cases ht; rfl
          · cases ht
        · rename_i hs
          refine unlock_stay ?_
          unfold lkAt
          split
          · rename_i s h2
            exact absurd h2 (hs s)
          · rfl
      · have h : news r j = true := by simpa [hj] using h
        split
        · exact unlock_news h
        · exact unlock_news h
theorem W.swap {S1 S2 : Bk} (w : W K S1 H0 ω a σ T H) (hs : S2.s = S1.s) (hl : ∀ j, lkAt a j = true → S1.l j = S2.l j) : W K S2 H0 ω a σ T H :=
  ⟨fun b x h => by rw [show S2 b = S1 b from congrFun hs b]; exact w.dom b x h, fun b o h n => w.old b o h (by rw [show S2 b = S1 b from congrFun hs b] at n; exact n), w.pst, w.slot, w.tmp, fun i s v e1 e2 e3 => by
    rw [← hl i (by unfold lkAt; rw [e1]; exact e2)]
    exact w.lck i s v e1 e2 e3, w.len⟩
/-- a loop's end -/
theorem W.unlockAll {S1 : Bk} {lk : Lks} (w : W K S1 H0 ω a σ T H) (hs : S0.s = S1.s) (hl : ∀ j, news lk j = false → S1.l j = S0.l j) : W K S0 H0 ω (unlockA a lk) σ T H :=
  (w.unlockS (lk := lk)).swap hs fun j h => hl j (by
    cases hn : news lk j with
    | false => rfl
    | true => rw [unlock_news hn] at h; cases h)

/-! ### what is walked -/
/-- the books behind: the new locks told -/
def BkUp (S0 S1 : Bk) (lk : Lks) : Prop := S0.s = S1.s ∧ ∀ j, news lk j = false → S1.l j = S0.l j
theorem BkUp.refl {lk : Lks} : BkUp S0 S0 lk := ⟨rfl, fun _ _ => rfl⟩
theorem BkUp.trans {S1 S2 : Bk} {l1 l2 : Lks} (u : BkUp S0 S1 l1) (v : BkUp S1 S2 l2) : BkUp S0 S2 (l1 ++ l2) :=
  ⟨u.1.trans v.1, fun j h => by
    have h : (news l1 j || news l2 j) = false := by rw [← h]; simp [news]
    rw [Bool.or_eq_false_iff] at h
    rw [v.2 j h.2, u.2 j h.1]⟩
/-- an operand is walked: the sequence, what is known of it as long as its locks stand -/
theorem walk_opd {o : Opd} {v : V} {T1 : List Tm} {ds : List D} {a' : A} {lk : Lks} (w : W K S0 H0 ω a σ (T ++ push o v ++ T1) H) (ov : OpV K σ a H o v) (e : walkO a o = some (ds, a', lk)) :
    ∃ S1 t p, BkUp S0 S1 lk ∧ W K S1 H0 ω a' σ (T ++ push o v ++ T1) H ∧ v = .ref p ∧ SqD K t p ds H ∧ holds lk a' = true ∧ (∀ j, lkAt a j = true → S1.l j = S0.l j ∧ lkAt a' j = true) ∧
      ∀ S2 ω2 a2 σ2 T2 H2, W K S2 H0 ω2 a2 σ2 (T ++ push o v ++ T2) H2 → Pst H H2 → (∀ q ∈ lk, S2.l q.1 = S1.l q.1) → holds lk a2 = true → SqD K t p ds H2 := by
  have sqL : ∀ {m : Nat} {z : Bool} {H2 : Hp} {F : Addr → Prop}, kidsIm m (.list ds) = true → Own K H2 z m (.list ds) v F → ∃ p, v = .ref p ∧ SqD K false p ds H2 := fun k o => by
    obtain ⟨p, xs, e, q, im⟩ := kids_im o k
    exact ⟨p, e, xs, q, im⟩
  have sqT : ∀ {m : Nat} {z : Bool} {F : Addr → Prop}, Own K H z m (.tuple ds) v F → ∃ p, v = .ref p ∧ SqD K true p ds H ∧ ∀ H2, Pst H H2 → SqD K true p ds H2 := fun o => by
    obtain ⟨p, xs, e, q, im⟩ := own_tup o
    exact ⟨p, e, ⟨xs, q.1, im⟩, fun H2 ps => ⟨xs, SqT.pst ps q.1, ImA.pst ps _ _ im⟩⟩
  cases o with
  | val m d =>
    simp only [walkO] at e
    split at e
    · split at e
      · rename_i hk
        cases e
        obtain ⟨p, rfl, q⟩ := sqL hk w.drop.last
        refine ⟨S0, false, p, .refl, w, rfl, q, rfl, fun j h => ⟨rfl, h⟩, fun S2 ω2 a2 σ2 T2 H2 w2 _ _ _ => ?_⟩
        obtain ⟨p', e', q'⟩ := sqL hk w2.drop.last
        cases e'
        exact q'
      · cases e
    · cases e
      obtain ⟨p, rfl, q, q2⟩ := sqT w.drop.last
      exact ⟨S0, true, p, .refl, w, rfl, q, rfl, fun j h => ⟨rfl, h⟩, fun S2 ω2 a2 σ2 T2 H2 w2 ps _ _ => q2 H2 ps⟩
    · cases e
  | ref i =>
    have hv : σ[i]? = some (some v) := ov
    simp only [walkO] at e
    split at e
    · rename_i s hs
      obtain ⟨v', hv', own⟩ := w.slot i s hs
      rw [hv] at hv'
      cases hv'
      split at e
      · rename_i ds' hd
        split at e
        · rename_i h0
          cases e
          rw [hd, h0] at own
          have own : Im K H (.list ds) v := own
          simp only [Im] at own
          obtain ⟨p, xs, rfl, q, im⟩ := own
          exact ⟨S0, false, p, .refl, w, rfl, ⟨xs, q.sq, im⟩, rfl, fun j h => ⟨rfl, h⟩, fun S2 ω2 a2 σ2 T2 H2 w2 ps _ _ => ⟨xs, (q.pst ps).sq, ImA.pst ps _ _ im⟩⟩
        · split at e
          · rename_i hk
            split at e
            · rename_i hl
              cases e
              rw [hd] at own hk
              obtain ⟨p, rfl, q⟩ := sqL hk own
              have l0 := w.lck i s _ hs hl hv
              rw [hd] at l0
              refine ⟨S0, false, p, .refl, w, rfl, q, by simp [holds, lkAt, hs, hl], fun j h => ⟨rfl, h⟩, fun S2 ω2 a2 σ2 T2 H2 w2 ps hS hh => ?_⟩
              have h1 := hS (i, false) (by simp)
              have h2 : lkAt a2 i = true := by simpa [holds] using hh
              unfold lkAt at h2
              split at h2
              · rename_i s2 hs2
                obtain ⟨v2, hv2, own2⟩ := w2.slot i s2 hs2
                have l2 := w2.lck i s2 v2 hs2 h2 hv2
                have l0 : S0.l i = some (V.ref p, s.m, PyData.list ds) := l0
                rw [show S2.l i = S0.l i from h1, l0] at l2
                simp only [Option.some.injEq, Prod.mk.injEq] at l2
                obtain ⟨rfl, em, ed⟩ := l2
                rw [← em, ← ed] at own2
                obtain ⟨p', e', q'⟩ := sqL hk own2
                cases e'
                exact q'
              · cases h2
            · rename_i hl
              cases e
              rw [hd] at hk
              have hl : s.lk = false := by simpa using hl
              have w1 := w.lock hs hl hv
              have own' := own
              rw [hd] at own'
              obtain ⟨p, rfl, q⟩ := sqL hk own'
              have hi : i < a.length := (List.getElem?_eq_some_iff.mp hs).1
              refine ⟨⟨S0.s, fun j => if j = i then some (V.ref p, s.m, s.d) else S0.l j⟩, false, p, ⟨rfl, fun j h => ?_⟩, w1, rfl, q, by simp [holds, lkAt, List.getElem?_set_self hi], fun j h => ?_, fun S2 ω2 a2 σ2 T2 H2 w2 ps hS hh => ?_⟩
              · have h : decide (i = j) = false := by simpa [news] using h
                exact if_neg (fun z : j = i => (of_decide_eq_false h) z.symm)
              · have hj : j ≠ i := fun z => by
                  subst z
                  unfold lkAt at h
                  rw [hs] at h
                  have h : s.lk = true := h
                  rw [hl] at h
                  cases h
                refine ⟨if_neg hj, ?_⟩
                unfold lkAt at h ⊢
                rw [List.getElem?_set_ne (Ne.symm hj)]
                exact h
              · have h1 : S2.l i = some (V.ref p, s.m, s.d) := (hS (i, true) (by simp)).trans (if_pos rfl)
                have h2 : lkAt a2 i = true := by simpa [holds] using hh
                unfold lkAt at h2
                split at h2
                · rename_i s2 hs2
                  obtain ⟨v2, hv2, own2⟩ := w2.slot i s2 hs2
                  have l2 := w2.lck i s2 v2 hs2 h2 hv2
                  rw [h1, hd] at l2
                  simp only [Option.some.injEq, Prod.mk.injEq] at l2
                  obtain ⟨rfl, em, ed⟩ := l2
                  rw [← em, ← ed] at own2
                  obtain ⟨p', e', q'⟩ := sqL hk own2
                  cases e'
                  exact q'
                · cases h2
          · cases e
      · rename_i ds' hd
        cases e
        rw [hd] at own
        obtain ⟨p, rfl, q, q2⟩ := sqT own
        exact ⟨S0, true, p, .refl, w, rfl, q, rfl, fun j h => ⟨rfl, h⟩, fun S2 ω2 a2 σ2 T2 H2 w2 ps _ _ => q2 H2 ps⟩
      · cases e
    · cases e
  | sub i k => cases e
end
end RV

set_option maxRecDepth 100000
/-! Ev19: the readings of iterators. -/
namespace RV
open PySem L2 PySem.Spec PyProof.Rows
section
variable {X : Cx} {tg e e2 : Expr} {r r2 : REv} {q q2 qs : Bool} {pos p tpos : Pos} {elts : List Expr} {kk : Nat}
def tI (K : PySem.W.Frag) (ri : RIt) : TI := fun σ H R => ∃ S0 H0 ω a T ds a' lk, W K S0 H0 ω a σ T H ∧ ri a = some (ds, a', lk) ∧
  ∀ J H1 ω1 S1 T1 (Hold : Hp → Prop), W K S1 H0 ω1 a' σ (T ++ T1) H1 → BkUp S0 S1 lk → Hold H1 →
    (∀ ω2 a2 σ2 T2 H2, W K S1 H0 ω2 a2 σ2 (T ++ T1 ++ T2) H2 → Pst H1 H2 → holds lk a2 = true → Hold H2) → holds lk a' = true → Goes K J ds Hold → R J H1
theorem pi_imp {t t' : TI} (h : PI X tg e t) (i : ∀ σ H Q, t' σ H Q → t σ H Q) : PI X tg e t' :=
  ⟨fun pins s σ H Q I hw => h.run pins s σ H Q I (i _ _ _ hw)⟩
theorem one_split {f : List D → List D} {a a' : A} {ds : List D} {lk : Lks} (e : itOne (consAs r nilAs true) f a = some (ds, a', lk)) :
    ∃ o a1 ds0, r a = some (o, a1) ∧ walkO a1 o = some (ds0, a', lk) ∧ ds = f ds0 := by
  unfold itOne consAs at e
  simp only [Option.bind_eq_some_iff, Bool.not_true, Bool.and_false, Bool.false_eq_true, if_false] at e
  obtain ⟨p, ⟨p1, e1, p2, e2, e3⟩, e⟩ := e
  cases e2
  cases e3
  simp only [Option.map_eq_some_iff] at e
  obtain ⟨u, eu, e⟩ := e
  cases e
  exact ⟨p1.1, p1.2, u.1, e1, eu, rfl⟩
theorem pi_ofE (h : PE X e (tR X.K r q)) : PI X tg e (tI X.K (itOne (consAs r nilAs true) id)) :=
  pi_imp (pi_seqX h) fun σ H R ⟨S0, H0, ω, a, T, ds, a', lk, w, ee, k⟩ => by
    obtain ⟨o, a1, ds0, e1, e2, rfl⟩ := one_split ee
    refine ⟨S0, H0, ω, a, T, o, a1, w, e1, fun v H1 ω1 w1 ov _ => ?_⟩
    obtain ⟨S1, t, p, up, w2, rfl, sd, hh, _, hold⟩ := walk_opd (T1 := []) (by rw [List.append_nil]; exact w1) ov e2
    obtain ⟨xs, hq, im⟩ := id sd
    rw [List.append_nil] at w2
    exact ⟨t, p, xs, rfl, hq, k _ H1 ω1 S1 (push o (.ref p)) _ w2 up sd (fun ω2 a2 σ2 T2 H2 w3 ps h2 => hold S1 ω2 a2 σ2 T2 H2 w3 ps (fun _ _ => rfl) h2) hh goes_seq⟩
theorem pi_enumE (hg : Gl X "enumerate") (hm : X.mg "enumerate" = none) (ha : PA X [e] (tAs X.K (consAs r nilAs true) qs)) (hs : starEach [e] X.env = [(false, eval e X.env)]) :
    PI X (.Tuple elts kk tpos) (.Call (.Name "enumerate" p) [e] [] pos) (tI X.K (itOne (consAs r nilAs true) enumD)) :=
  pi_imp (pi_enumX hg hm ha hs) fun σ H R ⟨S0, H0, ω, a, T, ds, a', lk, w, ee, k⟩ => by
    obtain ⟨o, a1, ds0, e1, e2, rfl⟩ := one_split ee
    refine ⟨S0, H0, ω, a, T, [o], a1, w, ?_, fun vs H1 ω1 w1 ov _ => ?_⟩
    · unfold consAs nilAs
      rw [e1]
      simp
    obtain ⟨v, vr, rfl, ov, hvr⟩ := ov
    cases hvr
    obtain ⟨S1, t, p, up, w2, rfl, sd, hh, _, hold⟩ := walk_opd (T1 := []) (by simpa [pushs] using w1) ov e2
    obtain ⟨xs, hq, im⟩ := id sd
    rw [List.append_nil] at w2
    exact ⟨t, p, xs, rfl, hq, k _ H1 ω1 S1 (push o (.ref p)) _ w2 up sd (fun ω2 a2 σ2 T2 H2 w3 ps h2 => hold S1 ω2 a2 σ2 T2 H2 w3 ps (fun _ _ => rfl) h2) hh goes_enum⟩
theorem pi_zipE (hg : Gl X "zip") (hm : X.mg "zip" = none) (ha : PA X [e, e2] (tAs X.K (consAs r (consAs r2 nilAs true) q2) qs)) (hs : starEach [e, e2] X.env = (false, eval e X.env) :: starEach [e2] X.env) (hpl : (backTo pos (starEach [e2] X.env)).any (·.1) = false) :
    PI X (.Tuple elts kk tpos) (.Call (.Name "zip" p) [e, e2] [] pos) (tI X.K (itTwo (consAs r (consAs r2 nilAs true) q2) zipD)) :=
  pi_imp (pi_zipX hg hm ha hs hpl) fun σ H R ⟨S0, H0, ω, a, T, ds, a', lk, w, ee, k⟩ => by
    unfold itTwo at ee
    simp only [Option.bind_eq_some_iff] at ee
    obtain ⟨pp, e1, ee⟩ := ee
    split at ee
    · rename_i o o2 ho
      simp only [Option.bind_eq_some_iff, Option.map_eq_some_iff] at ee
      obtain ⟨u, eu, v, ev, ee⟩ := ee
      cases ee
      refine ⟨S0, H0, ω, a, T, pp.1, pp.2, w, e1, fun vs H1 ω1 w1 ov _ => ?_⟩
      rw [ho] at w1 ov
      obtain ⟨x, xr, rfl, ov1, y, yr, rfl, ov2, hyr⟩ := ov
      cases hyr
      have w1' : W X.K S0 H0 ω1 pp.2 σ (T ++ push o x ++ push o2 y) H1 := by simpa [pushs] using w1
      obtain ⟨S1, t, p, up, w2, rfl, sd, hh, _, hold⟩ := walk_opd (T1 := push o2 y) w1' ov1 eu
      have ov2' : OpV X.K σ u.2.1 H1 o2 y := by
        cases o2 with
        | val _ _ => trivial
        | ref _ => exact ov2
        | sub _ _ => cases ev
      obtain ⟨S2, t2, p2, up2, w3, rfl, sd2, hh2, keep2, hold2⟩ := walk_opd (T := T ++ push o (.ref p)) (T1 := []) (by rw [List.append_nil]; exact w2) ov2' ev
      obtain ⟨xs, hq, im⟩ := id sd
      obtain ⟨ys, hq2, im2⟩ := id sd2
      rw [List.append_nil] at w3
      have hlk : ∀ z ∈ u.2.2, lkAt u.2.1 z.1 = true := fun z hz => List.all_eq_true.mp hh z hz
      have both : ∀ ω2 a2 σ2 T2 H2, W X.K S2 H0 ω2 a2 σ2 (T ++ (push o (.ref p) ++ push o2 (.ref p2)) ++ T2) H2 → Pst H1 H2 → holds (u.2.2 ++ v.2.2) a2 = true → SqD X.K t p u.1 H2 ∧ SqD X.K t2 p2 v.1 H2 := fun ω2 a2 σ2 T2 H2 w4 ps h2 => by
        unfold holds at h2
        rw [List.all_append, Bool.and_eq_true] at h2
        exact ⟨hold S2 ω2 a2 σ2 (push o2 (.ref p2) ++ T2) H2 (by simpa [List.append_assoc] using w4) ps (fun z hz => (keep2 z.1 (hlk z hz)).1) h2.1,
          hold2 S2 ω2 a2 σ2 T2 H2 (by simpa [List.append_assoc] using w4) ps (fun _ _ => rfl) h2.2⟩
      have hold0 : holds (u.2.2 ++ v.2.2) v.2.1 = true := by
        unfold holds at hh2 ⊢
        rw [List.all_append, Bool.and_eq_true]
        exact ⟨List.all_eq_true.mpr fun z hz => (keep2 z.1 (hlk z hz)).2, hh2⟩
      exact ⟨t, p, xs, t2, p2, ys, rfl, hq, hq2, k _ H1 ω1 S2 (push o (.ref p) ++ push o2 (.ref p2)) _ (by rw [← List.append_assoc]; exact w3) (up.trans up2) ⟨sd, sd2⟩ both hold0 goes_zip⟩
    · cases ee
theorem pi_zip3E {r3 : REv} {q3 : Bool} {e3 : Expr} (hg : Gl X "zip") (hm : X.mg "zip" = none) (ha : PA X [e, e2, e3] (tAs X.K (consAs r (consAs r2 (consAs r3 nilAs true) q3) q2) qs)) (hs : starEach [e, e2, e3] X.env = (false, eval e X.env) :: starEach [e2, e3] X.env) (hpl : (backTo pos (starEach [e2, e3] X.env)).any (·.1) = false) :
    PI X (.Tuple elts kk tpos) (.Call (.Name "zip" p) [e, e2, e3] [] pos) (tI X.K (itThree (consAs r (consAs r2 (consAs r3 nilAs true) q3) q2) zip3D)) :=
  pi_imp (pi_zipY hg hm ha hs hpl) fun σ H R ⟨S0, H0, ω, a, T, ds, a', lk, w, ee, k⟩ => by
    unfold itThree at ee
    simp only [Option.bind_eq_some_iff] at ee
    obtain ⟨pp, e1, ee⟩ := ee
    split at ee
    · rename_i o o2 o3 ho
      simp only [Option.bind_eq_some_iff, Option.map_eq_some_iff] at ee
      obtain ⟨u, eu, v, ev, u3, e3', ee⟩ := ee
      cases ee
      refine ⟨S0, H0, ω, a, T, pp.1, pp.2, w, e1, fun vs H1 ω1 w1 ov _ => ?_⟩
      rw [ho] at w1 ov
      obtain ⟨x, xr, rfl, ov1, y, yr, rfl, ov2, z, zr, rfl, ov3, hyr⟩ := ov
      cases hyr
      have w1' : W X.K S0 H0 ω1 pp.2 σ (T ++ push o x ++ (push o2 y ++ push o3 z)) H1 := by simpa [pushs, List.append_assoc] using w1
      obtain ⟨S1, t, p, up, w2, rfl, sd, hh, _, hold⟩ := walk_opd (T1 := push o2 y ++ push o3 z) w1' ov1 eu
      have ov2' : OpV X.K σ u.2.1 H1 o2 y := by
        cases o2 with
        | val _ _ => trivial
        | ref _ => exact ov2
        | sub _ _ => cases ev
      obtain ⟨S2, t2, p2, up2, w3, rfl, sd2, hh2, keep2, hold2⟩ := walk_opd (T := T ++ push o (.ref p)) (T1 := push o3 z) (by rw [List.append_assoc]; exact w2) ov2' ev
      have ov3' : OpV X.K σ v.2.1 H1 o3 z := by
        cases o3 with
        | val _ _ => trivial
        | ref _ => exact ov3
        | sub _ _ => cases e3'
      obtain ⟨S3, t3, p3, up3, w4, rfl, sd3, hh3, keep3, hold3⟩ := walk_opd (T := T ++ push o (.ref p) ++ push o2 (.ref p2)) (T1 := []) (by rw [List.append_nil]; exact w3) ov3' e3'
      obtain ⟨xs, hq, im⟩ := id sd
      obtain ⟨ys, hq2, im2⟩ := id sd2
      obtain ⟨zs, hq3, im3⟩ := id sd3
      rw [List.append_nil] at w4
      have hlk : ∀ z ∈ u.2.2, lkAt u.2.1 z.1 = true := fun z hz => List.all_eq_true.mp hh z hz
      have hlk2 : ∀ z ∈ v.2.2, lkAt v.2.1 z.1 = true := fun z hz => List.all_eq_true.mp hh2 z hz
      have all3 : ∀ ω2 a2 σ2 T2 H2, W X.K S3 H0 ω2 a2 σ2 (T ++ (push o (.ref p) ++ (push o2 (.ref p2) ++ push o3 (.ref p3))) ++ T2) H2 → Pst H1 H2 → holds (u.2.2 ++ v.2.2 ++ u3.2.2) a2 = true → SqD X.K t p u.1 H2 ∧ SqD X.K t2 p2 v.1 H2 ∧ SqD X.K t3 p3 u3.1 H2 := fun ω2 a2 σ2 T2 H2 w5 ps h2 => by
        unfold holds at h2
        rw [List.all_append, List.all_append, Bool.and_eq_true, Bool.and_eq_true] at h2
        exact ⟨hold S3 ω2 a2 σ2 (push o2 (.ref p2) ++ push o3 (.ref p3) ++ T2) H2 (by simpa [List.append_assoc] using w5) ps (fun z hz => ((keep3 z.1 ((keep2 z.1 (hlk z hz)).2)).1).trans (keep2 z.1 (hlk z hz)).1) h2.1.1,
          hold2 S3 ω2 a2 σ2 (push o3 (.ref p3) ++ T2) H2 (by simpa [List.append_assoc] using w5) ps (fun z hz => (keep3 z.1 (hlk2 z hz)).1) h2.1.2,
          hold3 S3 ω2 a2 σ2 T2 H2 (by simpa [List.append_assoc] using w5) ps (fun _ _ => rfl) h2.2⟩
      have hold0 : holds (u.2.2 ++ v.2.2 ++ u3.2.2) u3.2.1 = true := by
        unfold holds at hh2 hh3 ⊢
        rw [List.all_append, List.all_append, Bool.and_eq_true, Bool.and_eq_true]
        exact ⟨⟨List.all_eq_true.mpr fun z hz => (keep3 z.1 ((keep2 z.1 (hlk z hz)).2)).2, List.all_eq_true.mpr fun z hz => (keep3 z.1 (hlk2 z hz)).2⟩, hh3⟩
      exact ⟨t, p, xs, t2, p2, ys, t3, p3, zs, rfl, hq, hq2, hq3, k _ H1 ω1 S3 (push o (.ref p) ++ (push o2 (.ref p2) ++ push o3 (.ref p3))) _ (by simpa [List.append_assoc] using w4) ((up.trans up2).trans up3) ⟨sd, sd2, sd3⟩ all3 hold0 goes_zip3⟩
    · cases ee
theorem rngOk_c {n : Int} (h : rngOk n = true) : -(2 ^ 62) ≤ n ∧ n < 2 ^ 62 := by
  unfold rngOk at h
  simpa [Bool.and_eq_true] using h
theorem pi_rng1E {rs : RAs} {a : Expr} (hg : Gl X "range") (hm : X.mg "range" = none) (ha : PA X [a] (tAs X.K rs qs)) (hs : starEach [a] X.env = [(false, eval a X.env)]) : PI X tg (.Call (.Name "range" p) [a] [] pos) (tI X.K (itRng1 rs)) :=
  pi_imp (pi_range1 hg hm ha hs) fun σ H R ⟨S0, H0, ω, s, T, ds, a', lk, w, ee, k⟩ => by
    unfold itRng1 at ee
    simp only [Option.bind_eq_some_iff] at ee
    obtain ⟨pp, e1, us, eu, ee⟩ := ee
    split at ee
    · split at ee
      · rename_i hn
        cases ee
        refine ⟨S0, H0, ω, s, T, pp.1, pp.2, w, e1, fun vs H1 ω1 w1 ov _ => ?_⟩
        obtain ⟨v, rfl, z, F, o⟩ := own_one (opvs_own w1 ov eu)
        rw [own_int o]
        obtain ⟨b1, b2⟩ := rngOk_c hn
        exact ⟨_, rfl, b1, b2, k _ H1 ω1 S0 [] _ (by rw [List.append_nil]; exact w1.drop) .refl trivial (fun _ _ _ _ _ _ _ _ => trivial) rfl goes_rng⟩
      · cases ee
    · cases ee
theorem pi_rngE {rs : RAs} {a b : Expr} (hg : Gl X "range") (hm : X.mg "range" = none) (ha : PA X [a, b] (tAs X.K rs qs)) (hs : starEach [a, b] X.env = [(false, eval a X.env), (false, eval b X.env)]) (hs2 : starEach [b] X.env = [(false, eval b X.env)]) :
    PI X tg (.Call (.Name "range" p) [a, b] [] pos) (tI X.K (itRng rs)) :=
  pi_imp (pi_range2 hg hm ha hs hs2) fun σ H R ⟨S0, H0, ω, s, T, ds, a', lk, w, ee, k⟩ => by
    unfold itRng at ee
    simp only [Option.bind_eq_some_iff] at ee
    obtain ⟨pp, e1, us, eu, ee⟩ := ee
    split at ee
    · split at ee
      · rename_i hn
        cases ee
        rw [Bool.and_eq_true] at hn
        refine ⟨S0, H0, ω, s, T, pp.1, pp.2, w, e1, fun vs H1 ω1 w1 ov _ => ?_⟩
        obtain ⟨v, x, rfl, ⟨z, F, o⟩, ⟨z2, F2, o2⟩⟩ := own_two (opvs_own w1 ov eu)
        rw [own_int o, own_int o2]
        obtain ⟨b1, b2⟩ := rngOk_c hn.1
        obtain ⟨b3, b4⟩ := rngOk_c hn.2
        exact ⟨_, _, rfl, ⟨b1, b2, b3, b4⟩, k _ H1 ω1 S0 [] _ (by rw [List.append_nil]; exact w1.drop) .refl trivial (fun _ _ _ _ _ _ _ _ => trivial) rfl goes_rng⟩
      · cases ee
    · cases ee
end
end RV

set_option maxRecDepth 100000
/-! Ev20: targets, statements. -/
namespace RV
open PySem L2 PySem.Spec PyProof.Rows
mutual
def tgIn (vs : List Nat) : Tg → Bool
  | .nm i => vs.contains i
  | .tp ts => tgsIn vs ts
def tgsIn (vs : List Nat) : Tgs → Bool
  | .nil => true
  | .cons t ts => tgIn vs t && tgsIn vs ts
end
theorem wipe_set {σ : L2.St} {x : Option V} {i : Nat} : ∀ {vs : List Nat}, vs.contains i = true → wipe (σ.set i x) vs = wipe σ vs
  | [], h => by simp at h
  | v :: vs, h => by
    by_cases hv : vs.contains i = true
    · unfold wipe
      rw [wipe_set hv]
    · have : v = i := by
        simp at h hv
        rcases h with h | h
        · exact h.symm
        · exact absurd h hv
      subst this
      have comm : ∀ (us : List Nat), us.contains v = false → wipe (σ.set v x) us = (wipe σ us).set v x := by
        intro us hu
        induction us with
        | nil => rfl
        | cons u us ih =>
          simp at hu
          unfold wipe
          rw [ih (by simpa using hu.2), List.set_comm _ _ (Ne.symm (fun z => hu.1 z.symm))]
      unfold wipe
      rw [comm vs (by simpa using hv), List.set_set]
section
variable {X : Cx} {e tg : Expr} {es : List Expr} {r : REv} {q : Bool} {pos : Pos}
abbrev RTg := D → A → Option A
abbrev RTs := List D → A → Option A
/-- the reading of a store of something that nobody owns -/
def tG (K : PySem.W.Frag) (bt : RTg) (inn : List Nat → Bool) : TG := fun v σ H Q => ∃ S0 H0 ω a T d a', W K S0 H0 ω a σ T H ∧ Im K H d v ∧ bt d a = some a' ∧
  ∀ σ' ω', W K S0 H0 ω' a' σ' T H → (∀ vs, inn vs = true → wipe σ' vs = wipe σ vs) → Q σ' H
def tGs (K : PySem.W.Frag) (bt : RTs) (inn : List Nat → Bool) : TGs := fun vs σ H Q => ∃ S0 H0 ω a T ds a', W K S0 H0 ω a σ T H ∧ ImA K H ds vs ∧ bt ds a = some a' ∧
  ∀ σ' ω', W K S0 H0 ω' a' σ' T H → (∀ us, inn us = true → wipe σ' us = wipe σ us) → Q σ' H
theorem pg_imp {t t' : TG} (h : PG X tg t) (i : ∀ v σ H Q, t' v σ H Q → t v σ H Q) : PG X tg t' :=
  ⟨fun pins s σ H v u Q I r hw => h.run pins s σ H v u Q I r (i _ _ _ _ hw)⟩
theorem pgs_imp {t t' : TGs} (h : PGs X es t) (i : ∀ v σ H Q, t' v σ H Q → t v σ H Q) : PGs X es t' :=
  ⟨fun pins s σ H v u Q I r hw => h.run pins s σ H v u Q I r (i _ _ _ _ hw)⟩
theorem W.bind {K : PySem.W.Frag} {S0 : Bk} {H0 H : Hp} {ω : Addr → Option Hd} {a : A} {σ : L2.St} {T : List Tm} {d : D} {v : V} (w : W K S0 H0 ω a σ T H) (im : Im K H d v) (i : Nat) :
    ∃ ω', W K S0 H0 ω' (a.set i (some ⟨0, false, d⟩)) (σ.set i (some v)) T H := by
  have w1 : W K S0 H0 ω a σ (T ++ [⟨0, d, v⟩]) H := w.pushIm im (.inr rfl)
  by_cases hi : i < a.length
  · exact ⟨_, w1.store i (by rw [← w.len]; exact hi) hi⟩
  · rw [List.set_eq_of_length_le (by omega), List.set_eq_of_length_le (by rw [← w.len]; omega)]
    exact ⟨ω, w⟩
theorem pg_nmE {i : Nat} (h : PG X tg (gName i)) : PG X tg (tG X.K (bindT (.nm i)) fun vs => tgIn vs (.nm i)) :=
  pg_imp h fun v σ H Q ⟨S0, H0, ω, a, T, d, a', w, im, e, k⟩ => by
    simp only [bindT, Option.some.injEq] at e
    subst e
    obtain ⟨ω', w'⟩ := w.bind im i
    exact k _ ω' w' fun vs h => wipe_set (by simpa [tgIn] using h)
theorem pgs_nilE : PGs X [] (tGs X.K (bindTs .nil) fun vs => tgsIn vs .nil) :=
  pgs_imp pgs_nil fun v σ H Q ⟨S0, H0, ω, a, T, ds, a', w, im, e, k⟩ => by
    cases ds with
    | nil =>
      simp only [ImA] at im
      simp only [bindTs, Option.some.injEq] at e
      subst e
      exact ⟨im, k σ ω w fun _ _ => rfl⟩
    | cons _ _ => cases e
theorem pgs_consE {t : Tg} {ts : Tgs} {u : TGs} (h : PGs X (e :: es) (gCons (tG X.K (bindT t) fun vs => tgIn vs t) (tGs X.K (bindTs ts) fun vs => tgsIn vs ts))) : PGs X (e :: es) (tGs X.K (bindTs (.cons t ts)) fun vs => tgsIn vs (.cons t ts)) :=
  pgs_imp h fun v σ H Q ⟨S0, H0, ω, a, T, ds, a', w, im, e, k⟩ => by
    cases ds with
    | nil => cases e
    | cons d ds =>
      unfold ImA at im
      obtain ⟨x, r, rfl, ix, ir⟩ := im
      simp only [bindTs, Option.bind_eq_some_iff] at e
      obtain ⟨a1, e1, e2⟩ := e
      refine ⟨x, r, rfl, S0, H0, ω, a, T, d, a1, w, ix, e1, fun σ1 ω1 w1 h1 => ⟨S0, H0, ω1, a1, T, ds, a', w1, ir, e2, fun σ2 ω2 w2 h2 => k σ2 ω2 w2 fun vs hv => ?_⟩⟩
      simp only [tgsIn, Bool.and_eq_true] at hv
      rw [h2 vs hv.2, h1 vs hv.1]
theorem bindTs_len : ∀ {ts : Tgs} {ds : List D} {a a' : A} {n : Nat}, bindTs ts ds a = some a' → (∀ m, m = ds.length → m = n → True) → True := fun _ _ => trivial
def tgsLen : Tgs → Nat
  | .nil => 0
  | .cons _ ts => tgsLen ts + 1
theorem bind_len : ∀ {ts : Tgs} {ds : List D} {a a' : A}, bindTs ts ds a = some a' → ds.length = tgsLen ts
  | .nil, [], a, a', e => rfl
  | .nil, _ :: _, a, a', e => by cases e
  | .cons t ts, [], a, a', e => by cases e
  | .cons t ts, d :: ds, a, a', e => by
    simp only [bindTs, Option.bind_eq_some_iff] at e
    obtain ⟨a1, _, e2⟩ := e
    rw [List.length_cons, bind_len e2]
    rfl
theorem pg_tpE {ts : Tgs} {k : Nat} (hc : X.calm = true) (h : PGs X es (tGs X.K (bindTs ts) fun vs => tgsIn vs ts)) (hn : (assignEach es X.env).length = tgsLen ts) (hst : (assignEach es X.env).findIdx? (·.1) = none) :
    PG X (.Tuple es k pos) (tG X.K (bindT (.tp ts)) fun vs => tgIn vs (.tp ts)) :=
  pg_imp (pg_tup hc h hn hst) fun v σ H Q ⟨S0, H0, ω, a, T, d, a', w, im, e, k⟩ => by
    cases d with
    | tuple ds =>
      simp only [bindT] at e
      simp only [Im] at im
      obtain ⟨p, xs, rfl, hq, im⟩ := im
      exact ⟨p, xs, rfl, hq.1, by rw [← im.len, bind_len e], S0, H0, ω, a, T, ds, a', w, im, e, fun σ' ω' w' h' => k σ' ω' w' fun vs hv => h' vs (by simpa [tgIn] using hv)⟩
    | _ => cases e

/-! ### statements -/
/-- what a statement's end gives -/
def Fin (K : PySem.W.Frag) (rm : Nat × List Nat) (D : Ends) (S0 : Bk) (H0 : Hp) (a' : A) (T : List Tm) (σ : L2.St) : Fl → Prop
  | .nx => ∀ σ' H' ω', W K S0 H0 ω' a' σ' T H' → wipe σ' rm.2 = wipe σ rm.2 → D.nx σ' H'
  | .bk => ∀ σ' H' ω', W K S0 H0 ω' a' σ' T H' → wipe σ' rm.2 = wipe σ rm.2 → D.bk σ' H'
  | .ct => ∀ σ' H' ω', W K S0 H0 ω' a' σ' T H' → wipe σ' rm.2 = wipe σ rm.2 → D.ct σ' H'
  | .rt d => ∀ v σ' H' ω', W K S0 H0 ω' a' σ' (T ++ [⟨rm.1, d, v⟩]) H' → wipe σ' rm.2 = wipe σ rm.2 → D.rt v H'
theorem Fin.at {K : PySem.W.Frag} {rm : Nat × List Nat} {D : Ends} {S0 : Bk} {H0 : Hp} {a' : A} {T : List Tm} {σ σ1 : L2.St} {fl : Fl} (f : Fin K rm D S0 H0 a' T σ fl) (h : wipe σ1 rm.2 = wipe σ rm.2) : Fin K rm D S0 H0 a' T σ1 fl := by
  cases fl with
  | nx => exact fun σ' H' ω' w e => f σ' H' ω' w (e.trans h)
  | bk => exact fun σ' H' ω' w e => f σ' H' ω' w (e.trans h)
  | ct => exact fun σ' H' ω' w e => f σ' H' ω' w (e.trans h)
  | rt d => exact fun v σ' H' ω' w e => f v σ' H' ω' w (e.trans h)
/-- rm: the mode of what is returned; the slots that may be stored to -/
def tS (K : PySem.W.Frag) (rm : Nat × List Nat) (r : RSt) : TS := fun D σ H => ∃ S0 H0 ω a T fl a', W K S0 H0 ω a σ T H ∧ r a = some (fl, a') ∧ Fin K rm D S0 H0 a' T σ fl
variable {rm : Nat × List Nat}
theorem ps_gz0 {st : Stmt} {t : TS} (h : PS X st t) : PS X st t := h
theorem pss_nilE : PSs X [] (tS X.K rm nxS) := pss_imp pss_nil fun D σ H ⟨S0, H0, ω, a, T, fl, a', w, e, k⟩ => by
  cases e
  exact k σ H ω w rfl
theorem pss_consE {st : Stmt} {rest : List Stmt} {r u : RSt} (h1 : PS X st (tS X.K rm r)) (h2 : PSs X rest (tS X.K rm u)) : PSs X (st :: rest) (tS X.K rm (seqS r u)) :=
  pss_imp (pss_cons h1 h2) fun D σ H ⟨S0, H0, ω, a, T, fl, a', w, e, k⟩ => by
    unfold seqS at e
    simp only [Option.bind_eq_some_iff] at e
    obtain ⟨p, e1, e⟩ := e
    refine ⟨S0, H0, ω, a, T, p.1, p.2, w, e1, ?_⟩
    cases hp : p.1 with
    | nx =>
      rw [hp] at e
      exact fun σ' H' ω' w' h => ⟨S0, H0, ω', p.2, T, fl, a', w', e, k.at h⟩
    | bk => rw [hp] at e; cases e; exact k
    | ct => rw [hp] at e; cases e; exact k
    | rt d => rw [hp] at e; cases e; exact k
theorem ps_passE : PS X (.Pass pos) (tS X.K rm nxS) := ps_imp ps_pass fun D σ H ⟨S0, H0, ω, a, T, fl, a', w, e, k⟩ => by
  cases e
  exact k σ H ω w rfl
theorem ps_docE {x : Str} {j : Nat} {pos' : Pos} : PS X (.Expr (.Constant (.str x) j pos) pos') (tS X.K rm nxS) := ps_imp ps_doc fun D σ H ⟨S0, H0, ω, a, T, fl, a', w, e, k⟩ => by
  cases e
  exact k σ H ω w rfl
theorem ps_brkE : PS X (.Break pos) (tS X.K rm fun a => some (.bk, a)) := ps_imp ps_break fun D σ H ⟨S0, H0, ω, a, T, fl, a', w, e, k⟩ => by
  cases e
  exact k σ H ω w rfl
theorem ps_cntE : PS X (.Continue pos) (tS X.K rm fun a => some (.ct, a)) := ps_imp ps_continue fun D σ H ⟨S0, H0, ω, a, T, fl, a', w, e, k⟩ => by
  cases e
  exact k σ H ω w rfl
theorem ps_exE (he : PE X e (tR X.K r q)) (hs : swapsWith e none pos.line X.env = pure false) : PS X (.Expr e pos) (tS X.K rm (exS r)) := ps_imp (ps_expr he hs) fun D σ H ⟨S0, H0, ω, a, T, fl, a', w, e, k⟩ => by
  unfold exS at e
  simp only [Option.map_eq_some_iff] at e
  obtain ⟨p, e1, e2⟩ := e
  cases e2
  exact ⟨S0, H0, ω, a, T, p.1, p.2, w, e1, fun v H' ω' w' _ _ => k σ H' ω' w'.drop rfl⟩
theorem ps_retE (he : PE X e (tR X.K r q)) : PS X (.Return (some e) pos) (tS X.K rm (retS r rm.1)) := ps_imp (ps_ret he) fun D σ H ⟨S0, H0, ω, a, T, fl, a', w, e, k⟩ => by
  unfold retS at e
  simp only [Option.bind_eq_some_iff] at e
  obtain ⟨p, e1, e⟩ := e
  split at e
  · rename_i m d hp
    split at e
    · rename_i hm
      cases e
      refine ⟨S0, H0, ω, a, T, p.1, p.2, w, e1, fun v H' ω' w' _ _ => k v σ H' ω' ?_ rfl⟩
      rw [hp, hm] at w'
      exact w'
    · cases e
  · cases e
theorem ps_ret0E : PS X (.Return none pos) (tS X.K rm fun a => some (.rt .none, a)) := ps_imp ps_retN fun D σ H ⟨S0, H0, ω, a, T, fl, a', w, e, k⟩ => by
  cases e
  exact k .non σ H ω (w.pushIm im_none (.inl rfl)) rfl
theorem ps_ifE {c : Expr} {aa bb : List Stmt} {rt : RTe} {x y : RSt} (hc : PT X c (tT X.K rt q)) (ha : PSs X aa (tS X.K rm x)) (hb : PSs X bb (tS X.K rm y)) : PS X (.If c aa bb pos) (tS X.K rm (ifS rt x y)) := ps_imp (ps_if hc ha hb) fun D σ H ⟨S0, H0, ω, a, T, fl, a', w, e, k⟩ => by
  unfold ifS at e
  simp only [Option.bind_eq_some_iff] at e
  obtain ⟨p, e1, e⟩ := e
  refine ⟨S0, H0, ω, a, T, p.1, p.2, w, e1, fun H' ω' w' _ => ?_⟩
  split at e
  · rename_i h
    rw [h, if_pos rfl]
    exact ⟨S0, H0, ω', p.2, T, fl, a', w', e, k⟩
  · rename_i h
    rw [if_neg h]
    exact ⟨S0, H0, ω', p.2, T, fl, a', w', e, k⟩
theorem asg_run {i m : Nat} {D : Ends} {σ : L2.St} {H : Hp} (hst : rm.2.contains i = true) (h : tS X.K rm (asgS r i m) D σ H) : tAsg (tR X.K r q) (gName i) D σ H := by
  obtain ⟨S0, H0, ω, a, T, fl, a', w, e, k⟩ := h
  unfold asgS at e
  simp only [Option.bind_eq_some_iff] at e
  obtain ⟨p, e1, e⟩ := e
  split at e
  · rename_i k' d hp
    split at e
    · rename_i hm
      cases e
      refine ⟨S0, H0, ω, a, T, p.1, p.2, w, e1, fun v H' ω' w' _ _ => ?_⟩
      rw [hp] at w'
      subst hm
      by_cases hi : i < p.2.length
      · exact k _ H' _ (w'.store (t := ⟨k', d, v⟩) i (by rw [← w'.len]; exact hi) hi) (wipe_set hst)
      · show D.nx (σ.set i (some v)) H'
        have k : ∀ σ' H' ω', W X.K S0 H0 ω' (p.2.set i (some ⟨k', false, d⟩)) σ' T H' → wipe σ' rm.2 = wipe σ rm.2 → D.nx σ' H' := k
        rw [List.set_eq_of_length_le (by omega)] at k
        rw [List.set_eq_of_length_le (by rw [← w'.len]; omega)]
        exact k σ H' ω' w'.drop rfl
    · cases e
  · cases e
theorem ps_asgE {i m : Nat} {x : Str} {p2 : Pos} (hst : rm.2.contains i = true) (hN : X.N.Nodup) (hi : X.N[i]? = some x) (hx : Loc X.env.scope x) (he : PE X e (tR X.K r q)) (hs : swapsWith e (some (.Name x p2)) pos.line X.env = pure false) (hf : X.fn x = true ∨ X.env.scope.names.lookup x = some .local) :
    PS X (.Assign [.Name x p2] e pos) (tS X.K rm (asgS r i m)) := ps_imp (ps_set hN hi hx he hs hf) fun D σ H h => asg_run hst h
end
end RV

set_option maxRecDepth 100000
/-! Ev21: loops. -/
namespace RV
open PySem L2 PySem.Spec PyProof.Rows
section
variable {K : PySem.W.Frag} {S0 S1 : Bk} {H0 H H1 H' : Hp} {ω ω1 ω' : Addr → Option Hd} {a a' : A} {σ σ' : L2.St} {T T' ts : List Tm}
/-- the same told from here on -/
def Bk.here (ω : Addr → Option Hd) (S : Bk) : Bk := ⟨fun b => (ω b).isSome = true, S.l⟩
theorem W.rebase (w : W K S1 H0 ω a σ T H) : W K (Bk.here ω S1) H ω a σ T H :=
  ⟨fun b x h => ⟨(w.dom b x h).1, .inl (by show (ω b).isSome = true; rw [h]; rfl)⟩, fun b o h _ => h, .refl H, w.slot, w.tmp, w.lck, w.len⟩
theorem W.back (w : W K S1 H0 ω1 a σ T H1) (w' : W K (Bk.here ω1 S1) H1 ω' a' σ' T' H') : W K S1 H0 ω' a' σ' T' H' := by
  refine ⟨fun b x h => ⟨(w'.dom b x h).1, ?_⟩, fun b o h n => ?_, w.pst.trans w'.pst, w'.slot, w'.tmp, w'.lck, w'.len⟩
  · rcases (w'.dom b x h).2 with q | q
    · have q : (ω1 b).isSome = true := q
      obtain ⟨y, hy⟩ := Option.isSome_iff_exists.mp q
      exact (w.dom b y hy).2
    · rcases w.old0 q with q | q
      · exact .inr q
      · exact .inl q
  · refine w'.old b o (w.old b o h n) fun q => ?_
    have q : (ω1 b).isSome = true := q
    obtain ⟨y, hy⟩ := Option.isSome_iff_exists.mp q
    rcases (w.dom b y hy).2 with z | z
    · exact n z
    · rw [z] at h; cases h
end
section
variable {X : Cx} {tgE iter : Expr} {body : List Stmt} {ri : RIt} {rb : RSt} {tg : Tg} {rm : Nat × List Nat} {pos : Pos}
theorem for_run {D : Ends} {σ : L2.St} {H : Hp} {inn : List Nat → Bool} (hin : inn rm.2 = true) (h : tS X.K rm (forS tg ri rb) D σ H) : tFor (tI X.K ri) (tG X.K (bindT tg) inn) (tS X.K rm rb) D σ H := by
  obtain ⟨S0, H0, ω, a, T, fl, a', w, e, k⟩ := h
  unfold forS at e
  simp only [Option.bind_eq_some_iff, Option.map_eq_some_iff] at e
  obtain ⟨p, ep, q, eq, e⟩ := e
  cases e
  refine ⟨S0, H0, ω, a, T, p.1, p.2.1, p.2.2, w, ep, fun J H1 ω1 S1 T1 Hold w1 up h1 hold hh goes => ?_⟩
  -- the ends
  have nx : ∀ {ω2 a2 σ2 H2}, W X.K (Bk.here ω1 S1) H1 ω2 a2 σ2 (T ++ T1) H2 → W X.K S0 H0 ω2 (unlockA a2 p.2.2) σ2 T H2 := fun {ω2 a2 σ2 H2} w2 =>
    ((w1.back w2).drop).unlockAll up.1 up.2
  have rt : ∀ {ω2 a2 σ2 H2 t}, W X.K (Bk.here ω1 S1) H1 ω2 a2 σ2 (T ++ T1 ++ [t]) H2 → ∃ ω3, W X.K S0 H0 ω3 (unlockA a2 p.2.2) σ2 (T ++ [t]) H2 := fun {ω2 a2 σ2 H2 t} w2 =>
    ⟨_, ((w1.back w2).dropMid).unlockAll up.1 up.2⟩
  have hold2 : ∀ {ω2 a2 σ2 H2}, W X.K (Bk.here ω1 S1) H1 ω2 a2 σ2 (T ++ T1) H2 → holds p.2.2 a2 = true → Hold H2 := fun {ω2 a2 σ2 H2} w2 hl =>
    hold ω2 a2 σ2 [] H2 (by rw [List.append_nil]; exact w1.back w2) w2.pst hl
  refine ⟨fun i m σ2 H => m = p.1.length - i ∧ i ≤ p.1.length ∧ wipe σ2 rm.2 = wipe σ rm.2 ∧ ∃ ω2 a2, W X.K (Bk.here ω1 S1) H1 ω2 a2 σ2 (T ++ T1) H ∧ holds p.2.2 a2 = true ∧ forLoop tg p.2.2 rb (p.1.drop i) a2 = some q, ⟨_, rfl, Nat.zero_le _, rfl, ω1, p.2.1, w1.rebase, hh, by simpa using eq⟩, ?_⟩
  rintro i m σ2 H2 ⟨rfl, hi, hσ, ω2, a2, w2, hl, er⟩
  by_cases hlt : i < p.1.length
  · obtain ⟨go, yld⟩ := (goes H2 i (hold2 w2 hl)).1 hlt
    have ed : p.1.drop i = p.1[i] :: p.1.drop (i + 1) := List.drop_eq_getElem_cons hlt
    rw [ed] at er
    unfold forLoop at er
    simp only [Option.bind_eq_some_iff] at er
    obtain ⟨a3, e3, f, e4, er⟩ := er
    refine .inr ⟨go, fun σ' H' => wipe σ' rm.2 = wipe σ rm.2 ∧ ∃ ω4 a4, W X.K (Bk.here ω1 S1) H1 ω4 a4 σ' (T ++ T1) H' ∧ holds p.2.2 a4 = true ∧ forLoop tg p.2.2 rb (p.1.drop (i + 1)) a4 = some q, fun σ' H' ⟨hσ', ω4, a4, w4, hl4, er4⟩ => ⟨_, Nat.sub_lt_sub_left hlt (Nat.lt_succ_self i), rfl, hlt, hσ', ω4, a4, w4, hl4, er4⟩, fun x H' y => ?_⟩
    obtain ⟨sm, d, hd, im⟩ := yld x H' y
    rw [List.getElem?_eq_getElem hlt] at hd
    cases hd
    refine ⟨Bk.here ω1 S1, H1, ω2, a2, T ++ T1, p.1[i], a3, w2.grow sm, im, e3, fun σ3 ω3 w3 h3 => ⟨Bk.here ω1 S1, H1, ω3, a3, T ++ T1, f.1, f.2, w3, e4, ?_⟩⟩
    have hσ3 : wipe σ3 rm.2 = wipe σ rm.2 := (h3 _ hin).trans hσ
    cases hf : f.1 with
    | nx =>
      rw [hf] at er
      dsimp only at er
      split at er
      · rename_i hl4
        exact fun σ' H' ω' w' h' => ⟨h'.trans hσ3, ω', f.2, w', hl4, er⟩
      · cases er
    | ct =>
      rw [hf] at er
      dsimp only at er
      split at er
      · rename_i hl4
        exact fun σ' H' ω' w' h' => ⟨h'.trans hσ3, ω', f.2, w', hl4, er⟩
      · cases er
    | bk =>
      rw [hf] at er
      cases er
      exact fun σ' H' ω' w' h' => k σ' H' ω' (nx w') (h'.trans hσ3)
    | rt d =>
      rw [hf] at er
      cases er
      exact fun v σ' H' ω' w' h' => by
        obtain ⟨ω3, w3⟩ := rt w'
        exact k v σ' H' ω3 w3 (h'.trans hσ3)
  · have hi2 : i = p.1.length := by omega
    subst hi2
    rw [List.drop_length] at er
    unfold forLoop at er
    cases er
    exact .inl ⟨(goes H2 _ (hold2 w2 hl)).2 rfl, k σ2 H2 ω2 (nx w2) hσ⟩
theorem ps_forE {inn : List Nat → Bool} (hin : inn rm.2 = true) (hs : ∀ x, foldedSetIterable iter X.env x = pure x) (hp : PassesOwn (model X.prog X.w) X.A X.env X.xe) (hc : X.calm = true) (hi : PI X tgE iter (tI X.K ri)) (hg : PG X tgE (tG X.K (bindT tg) inn)) (hb : PSs X body (tS X.K rm rb)) :
    PS X (.For tgE iter body [] pos) (tS X.K rm (forS tg ri rb)) := ps_imp (ps_for hp hc hi hg hb hs) fun D σ H h => for_run hin h
/-! ### while -/
theorem ps_whlE {c : Expr} {rt : RTe} {q : Bool} {L : Nat} (hp : PassesOwn (model X.prog X.w) X.A X.env X.xe) (hc : PT X c (tT X.K rt q)) (hb : PSs X body (tS X.K rm rb)) : PS X (.While c body [] pos) (tS X.K rm (whlLoop rt rb L)) :=
  ps_imp (ps_while hp hc hb) fun D σ H ⟨S0, H0, ω, a, T, fl, a', w, e, k⟩ => by
    refine ⟨fun m σ2 H => wipe σ2 rm.2 = wipe σ rm.2 ∧ ∃ ω2 a2, W X.K S0 H0 ω2 a2 σ2 T H ∧ whlLoop rt rb m a2 = some (fl, a'), ⟨L, rfl, ω, a, w, e⟩, ?_⟩
    rintro m σ2 H2 ⟨hσ, ω2, a2, w2, e2⟩
    cases m with
    | zero => cases e2
    | succ n =>
      unfold whlLoop at e2
      simp only [Option.bind_eq_some_iff] at e2
      obtain ⟨c, ec, e2⟩ := e2
      refine ⟨S0, H0, ω2, a2, T, c.1, c.2, w2, ec, fun H3 ω3 w3 _ => ?_⟩
      split at e2
      · rename_i hc1
        rw [if_pos hc1]
        simp only [Option.bind_eq_some_iff] at e2
        obtain ⟨f, e4, e2⟩ := e2
        refine ⟨fun σ' H' => wipe σ' rm.2 = wipe σ rm.2 ∧ ∃ ω4 a4, W X.K S0 H0 ω4 a4 σ' T H' ∧ whlLoop rt rb n a4 = some (fl, a'), fun σ' H' ⟨hσ', ω4, a4, w4, e4⟩ => ⟨n, Nat.lt_succ_self n, hσ', ω4, a4, w4, e4⟩, S0, H0, ω3, c.2, T, f.1, f.2, w3, e4, ?_⟩
        cases hf : f.1 with
        | nx => rw [hf] at e2; exact fun σ' H' ω' w' h' => ⟨h'.trans hσ, ω', f.2, w', e2⟩
        | ct => rw [hf] at e2; exact fun σ' H' ω' w' h' => ⟨h'.trans hσ, ω', f.2, w', e2⟩
        | bk => rw [hf] at e2; cases e2; exact fun σ' H' ω' w' h' => k σ' H' ω' w' (h'.trans hσ)
        | rt d => rw [hf] at e2; cases e2; exact fun v σ' H' ω' w' h' => k v σ' H' ω' w' (h'.trans hσ)
      · rename_i hc1
        rw [if_neg hc1]
        cases e2
        exact k σ2 H3 ω3 w3 hσ
end
end RV

set_option maxRecDepth 100000
/-! Ev22: list comprehensions. -/
namespace RV
open PySem L2 PySem.Spec PyProof.Rows
section
variable {K : PySem.W.Frag} {S0 S1 : Bk} {H0 H H1 H' : Hp} {ω ω1 ω' : Addr → Option Hd} {a a' : A} {σ σ' : L2.St} {T T' ts : List Tm}
theorem wipe_get {σ : L2.St} {j : Nat} : ∀ {vs : List Nat}, (wipe σ vs)[j]? = if vs.contains j then (σ[j]?).map fun _ => none else σ[j]?
  | [] => by simp [wipe]
  | v :: vs => by
    unfold wipe
    by_cases hj : v = j
    · subst hj
      rw [List.getElem?_set_self']
      rw [wipe_get]
      simp
      cases σ[v]? <;> simp
      all_goals (split <;> exact ⟨_, rfl⟩)
    · rw [List.getElem?_set_ne hj, wipe_get]
      have : (v :: vs).contains j = vs.contains j := by
        simp [Ne.symm hj]
      rw [this]
theorem wipeA_get {a : A} {j : Nat} : ∀ {vs : List Nat}, (wipeA a vs)[j]? = if vs.contains j then (a[j]?).map fun _ => none else a[j]?
  | [] => by simp [wipeA]
  | v :: vs => by
    unfold wipeA
    by_cases hj : v = j
    · subst hj
      rw [List.getElem?_set_self']
      rw [wipeA_get]
      simp
      cases a[v]? <;> simp
      all_goals (split <;> exact ⟨_, rfl⟩)
    · rw [List.getElem?_set_ne hj, wipeA_get]
      have : (v :: vs).contains j = vs.contains j := by
        simp [Ne.symm hj]
      rw [this]
theorem wipeA_length {a : A} : ∀ {vs : List Nat}, (wipeA a vs).length = a.length
  | [] => rfl
  | v :: vs => by unfold wipeA; rw [List.length_set, wipeA_length]
theorem wipe_wipe {σ : L2.St} {vs : List Nat} : wipe (wipe σ vs) vs = wipe σ vs := by
  apply List.ext_getElem?
  intro j
  rw [wipe_get, wipe_get]
  split
  · cases σ[j]? <;> rfl
  · rfl
theorem W.wipe (w : W K S0 H0 ω a σ T H) (vs : List Nat) : W K S0 H0 ω (wipeA a vs) (L2.wipe σ vs) T H := by
  have inv : ∀ {i : Nat} {s : Sl}, (wipeA a vs)[i]? = some (some s) → a[i]? = some (some s) ∧ (L2.wipe σ vs)[i]? = σ[i]? := fun {i s} e => by
    rw [wipeA_get] at e
    rw [wipe_get]
    split at e
    · cases h : a[i]? <;> rw [h] at e <;> cases e
    · rename_i h
      exact ⟨e, if_neg h⟩
  refine ⟨w.dom, w.old, w.pst, fun i s e => ?_, w.tmp, fun i s v e1 e2 e3 => ?_, by rw [wipeA_length, wipe_length]; exact w.len⟩
  · obtain ⟨h1, h2⟩ := inv e
    rw [h2]
    exact w.slot i s h1
  · obtain ⟨h1, h2⟩ := inv e1
    rw [h2] at e3
    exact w.lck i s v h1 e2 e3
theorem backA_length {a0 a : A} : ∀ {vs : List Nat}, (backA a0 a vs).length = a.length
  | [] => rfl
  | v :: vs => by unfold backA; rw [List.length_set, backA_length]
theorem backA_get {a0 a : A} {j : Nat} : ∀ {vs : List Nat}, (backA a0 a vs)[j]? = if vs.contains j then (a[j]?).map fun _ => (a0[j]?).getD none else a[j]?
  | [] => by simp [backA]
  | v :: vs => by
    unfold backA
    by_cases hj : v = j
    · subst hj
      rw [List.getElem?_set_self']
      rw [backA_get]
      simp
      cases a[v]? <;> simp
      all_goals (split <;> exact ⟨_, rfl⟩)
    · rw [List.getElem?_set_ne hj, backA_get]
      have : (v :: vs).contains j = vs.contains j := by
        simp [Ne.symm hj]
      rw [this]
theorem W.unwipe {vs : List Nat} (w0 : W K S1 H0 ω1 a σ T H1) (fine : ownFine a vs = true) (ps : Pst H1 H) (w : W K S0 H0 ω a' (L2.wipe σ vs) T' H) : W K S0 H0 ω (backA a a' vs) σ T' H := by
  have inv : ∀ {i : Nat} {s : Sl}, (backA a a' vs)[i]? = some (some s) → (vs.contains i = true ∧ a[i]? = some (some s)) ∨ (a'[i]? = some (some s) ∧ (L2.wipe σ vs)[i]? = σ[i]?) := fun {i s} e => by
    rw [backA_get] at e
    split at e
    · rename_i h
      refine .inl ⟨h, ?_⟩
      cases h1 : a'[i]? with
      | none => rw [h1] at e; cases e
      | some x =>
        rw [h1] at e
        have e : (a[i]?).getD none = some s := Option.some.inj e
        cases h2 : a[i]? with
        | none => rw [h2] at e; cases e
        | some y => rw [h2] at e; exact congrArg some e
    · rename_i h
      exact .inr ⟨e, by rw [wipe_get]; exact if_neg h⟩
  have ff : ∀ {i : Nat} {s : Sl}, vs.contains i = true → a[i]? = some (some s) → (flat s.d = true ∨ s.m = 0) ∧ s.lk = false := fun {i s} h e => by
    have := List.all_eq_true.mp fine i (by simpa using h)
    rw [e] at this
    simp only [Bool.and_eq_true, Bool.or_eq_true, decide_eq_true_eq, Bool.not_eq_true'] at this
    exact this
  refine ⟨w.dom, w.old, w.pst, fun i s e => ?_, w.tmp, fun i s v e1 e2 e3 => ?_, by rw [backA_length, w.len, wipe_length]⟩
  · rcases inv e with ⟨h, e⟩ | ⟨e, h⟩
    · obtain ⟨v, hv, own⟩ := w0.slot i s e
      refine ⟨v, hv, ?_⟩
      rcases (ff h e).1 with f | f
      · exact Own.of_flat f (Im.pst ps _ _ (own.im_flat f))
      · rw [f] at own ⊢
        exact Im.pst ps _ _ own
    · rw [← h]
      exact w.slot i s e
  · rcases inv e1 with ⟨h, e⟩ | ⟨e, h⟩
    · rw [(ff h e).2] at e2; cases e2
    · rw [← h] at e3
      exact w.lck i s v e e2 e3
end
section
variable {X : Cx} {elt tgE iter : Expr} {ifs : List Expr} {ri : RIt} {rc : RTe} {re : REv} {tg : Tg} {own : List Nat} {w : Nat}
theorem vals1_split {m : Nat} {o : Opd} {ds : List D} (h : valsOf m [o] = some ds) : ∃ d, o = .val m d ∧ ds = [d] := by
  cases o with
  | val k d =>
    simp only [valsOf] at h
    split at h
    · rename_i hk
      subst hk
      cases h
      exact ⟨d, rfl, rfl⟩
    · cases h
  | ref _ => cases h
  | sub _ _ => cases h
theorem lc_run {σ : L2.St} {H : Hp} {Q : VK} {qc qe : Bool} (hin : tgIn own tg = true) (h : tR X.K (lcEv own re tg ri rc w) false σ H Q) :
    tLc (tI X.K ri) (tG X.K (bindT tg) fun vs => tgIn vs tg) (tT X.K rc qc) (tR X.K re qe) own σ H (fun v H' => Gz (Q v) H') := by
  obtain ⟨S0, H0, ω, a, T, o, a', w0, e, k⟩ := h
  unfold lcEv at e
  simp only [Option.bind_eq_some_iff] at e
  obtain ⟨p, ep, e⟩ := e
  split at e
  · cases e
  rename_i hf
  simp only [Bool.or_eq_true, Bool.not_eq_true', not_or, Bool.not_eq_false] at hf
  simp only [Option.map_eq_some_iff] at e
  obtain ⟨q, eq, e⟩ := e
  cases e
  refine ⟨S0, H0, ω, a, T, p.1, p.2.1, p.2.2, w0, ep, fun J H1 ω1 S1 T1 Hold w1 up h1 hold hh goes Dl hD => ?_⟩
  have hsz : p.1.length ≤ sizeLine := of_decide_eq_true hf.2
  have hold2 : ∀ {ω2 a2 σ2 T2 H2}, W X.K (Bk.here ω1 S1) H1 ω2 a2 σ2 (T ++ T1 ++ T2) H2 → holds p.2.2 a2 = true → Hold H2 := fun {ω2 a2 σ2 T2 H2} w2 hl =>
    hold ω2 a2 σ2 T2 H2 (w1.back w2) w2.pst hl
  have hlw : holds p.2.2 (wipeA p.2.1 own) = true := List.all_eq_true.mpr fun z hz => by
    have h1 := List.all_eq_true.mp hh z hz
    unfold lkAt at h1 ⊢
    rw [wipeA_get]
    by_cases hc : own.contains z.1 = true
    · exfalso
      have := List.all_eq_true.mp hf.1 z.1 (by simpa using hc)
      cases hs : p.2.1[z.1]? with
      | none => rw [hs] at h1; cases h1
      | some x =>
        cases x with
        | none => rw [hs] at h1; cases h1
        | some s =>
          rw [hs] at h1 this
          simp only [Bool.and_eq_true, Bool.not_eq_true'] at this
          have h1 : s.lk = true := h1
          rw [h1] at this
          cases this.2
    · rw [if_neg hc]
      exact h1
  have wD : W X.K (Bk.here ω1 S1) H1 _ (wipeA p.2.1 own) (wipe σ own) (T ++ T1 ++ [⟨w - 1 + 1, .list [], .ref Dl⟩]) (upd H1 Dl (.lst [])) :=
    (w1.rebase.wipe own).new (o := .lst []) hD (by
      unfold Own
      exact .inr (.inl ⟨Dl, [], [], fun _ => 0, rfl, rfl, rfl, upd_same, rfl, fun i e x h => by simp at h⟩))
  refine ⟨fun i m H => m = p.1.length - i ∧ i ≤ p.1.length ∧ ∃ ω2 a2 acc q', W X.K (Bk.here ω1 S1) H1 ω2 a2 (wipe σ own) (T ++ T1 ++ [⟨w - 1 + 1, .list acc, .ref Dl⟩]) H ∧ holds p.2.2 a2 = true ∧ acc.length ≤ i ∧
    lcLoop p.2.2 (lcTurn tg rc re own (w - 1)) (p.1.drop i) a2 = some q' ∧ q.1 = acc ++ q'.1 ∧ q.2 = q'.2, ⟨_, rfl, Nat.zero_le _, _, _, [], q, wD, hlw, Nat.le_refl _, by simpa using eq, rfl, rfl⟩, ?_⟩
  rintro i m H2 ⟨rfl, hi, ω2, a2, acc, q', w2, hl, hacc, er, ea, eb⟩
  by_cases hlt : i < p.1.length
  · obtain ⟨go, yld⟩ := (goes H2 i (hold2 w2 hl)).1 hlt
    have ed : p.1.drop i = p.1[i] :: p.1.drop (i + 1) := List.drop_eq_getElem_cons hlt
    rw [ed] at er
    unfold lcLoop at er
    simp only [Option.bind_eq_some_iff] at er
    obtain ⟨tr, et, er⟩ := er
    split at er
    · rename_i hl4
      simp only [Option.map_eq_some_iff] at er
      obtain ⟨q2, er, eq2⟩ := er
      subst eq2
      refine .inr ⟨go, fun H' => ∃ ω4 acc', W X.K (Bk.here ω1 S1) H1 ω4 tr.2 (wipe σ own) (T ++ T1 ++ [⟨w - 1 + 1, .list acc', .ref Dl⟩]) H' ∧ acc'.length ≤ i + 1 ∧ q.1 = acc' ++ q2.1, fun H' ⟨ω4, acc', w4, hl5, e5⟩ => ⟨_, Nat.sub_lt_sub_left hlt (Nat.lt_succ_self i), rfl, hlt, ω4, tr.2, acc', q2, w4, hl4, hl5, er, e5, eb⟩, fun x H' y => ?_⟩
      obtain ⟨sm, d, hd, im⟩ := yld x H' y
      rw [List.getElem?_eq_getElem hlt] at hd
      cases hd
      unfold lcTurn at et
      simp only [Option.bind_eq_some_iff] at et
      obtain ⟨b1, e3, c, e4, et⟩ := et
      refine ⟨Bk.here ω1 S1, H1, ω2, a2, _, p.1[i], b1, w2.grow sm, im, e3, fun σ3 ω3 w3 hw => ?_⟩
      have hw3 : wipe σ3 own = wipe σ own := (hw own hin).trans wipe_wipe
      refine ⟨hw3, Bk.here ω1 S1, H1, ω3, b1, _, c.1, c.2, w3, e4, fun H3 ω4 w4 _ => ?_⟩
      split at et
      · rename_i hc
        rw [if_pos hc]
        simp only [Option.bind_eq_some_iff, Option.map_eq_some_iff] at et
        obtain ⟨r, e5, ds, e6, et⟩ := et
        obtain ⟨d5, ho, rfl⟩ := vals1_split e6
        subst et
        refine ⟨Bk.here ω1 S1, H1, ω4, c.2, _, r.1, r.2, w4, e5, fun y H4 ω5 w5 _ _ => ?_⟩
        rw [ho] at w5
        have ownD := w5.drop.last
        have ownY := w5.last
        rw [List.length_append] at ownY
        have ownY : Own X.K H4 false (w - 1) d5 y (fun b => ω5 b = some (.tm ((T ++ T1).length + 1))) := ownY
        obtain ⟨pp, xs, e7, fp, hp, hlx, own'⟩ := own_append ownD ownY (by simp [putV]) (fun b g z => by
          have g : ω5 b = some (.tm ((T ++ T1).length + 1)) := g
          have z : ω5 b = some (.tm (T ++ T1).length) := z
          rw [g] at z
          exact absurd (Hd.tm.inj (Option.some.inj z)) (by omega))
        cases e7
        refine ⟨xs, hp, by rw [← hlx]; omega, ?_⟩
        have w6 := w5.tmpUpd (t' := ⟨w - 1 + 1, .list (acc ++ [d5]), .ref Dl⟩) fp hp trivial (by rw [upd_same]; rfl) (fun b hb => upd_ne hb) (own_false.mpr (own'.mv (.refl _) (fun b z => z.imp id fun z => ⟨_, Nat.le_refl _, z⟩) fun _ _ => rfl))
        have w7 := w6.wipe own
        rw [hw3] at w7
        refine ⟨_, acc ++ [d5], w7, by simp; omega, ?_⟩
        rw [ea]
        simp
      · rename_i hc
        rw [if_neg hc]
        cases et
        have w7 := w4.wipe own
        rw [hw3] at w7
        exact ⟨_, acc, w7, by omega, ea⟩
    · cases er
  · have hi2 : i = p.1.length := by omega
    subst hi2
    rw [List.drop_length] at er
    unfold lcLoop at er
    cases er
    refine .inl ⟨(goes H2 _ (hold2 w2 hl)).2 rfl, ?_⟩
    simp only [List.append_nil] at ea
    have w3 := w1.rebase.unwipe hf.1 w2.pst w2
    have w4 := (((w1.back w3).dropMid).unlockAll (S0 := S0) (lk := p.2.2) up.1 up.2)
    have eb : q.2 = a2 := eb
    rw [← ea, ← eb] at w4
    by_cases hw : w = 0
    · subst hw
      exact w4.ice.mono fun H' w5 => k _ H' _ w5 trivial fun z => by cases z
    · rw [show w - 1 + 1 = w by omega] at w4
      exact .done (k _ H2 _ w4 trivial fun z => by cases z)
theorem pe_lcE {scope : Scope} {ow : List (Str × Nat)} {pos : Pos} {qc qe : Bool} (hin : tgIn (ow.map (·.2)) tg = true) (hc : X.calm = true) (hN : X.N.Nodup) (hi : PI X tgE iter (tI X.K ri)) (ok : BlkOk X.N X.env.scope scope ow)
    (hg : ∀ (s : Shared) (H : Hp) (C : Addr) (cl : List (Str × Addr)) (fp : List Addr), PG (X.blk s H scope (compEnvC scope cl C X.env) fp) tgE (tG X.K (bindT tg) fun vs => tgIn vs tg)) (ht : ∀ (s : Shared) (H : Hp) (C : Addr) (cl : List (Str × Addr)) (fp : List Addr), PTs (X.blk s H scope (compEnvC scope cl C X.env) fp) ifs (tT X.K rc qc))
    (he : ∀ (s : Shared) (H : Hp) (C : Addr) (cl : List (Str × Addr)) (fp : List Addr), PE (X.blk s H scope (compEnvC scope cl C X.env) fp) elt (tR X.K re qe)) (hs : ∀ x, foldedSetIterable iter X.env x = pure x) :
    PE X (.ListComp elt [⟨tgE, iter, ifs, 0⟩] scope pos) (tR X.K (lcEv (ow.map (·.2)) re tg ri rc w) false) :=
  pe_imp (pe_gz (pe_lc hc hN hi ok hg ht he hs)) fun σ H Q h => lc_run hin h
end
end RV

set_option maxRecDepth 100000
/-! Ev23: stores. -/
namespace RV
open PySem L2 PySem.Spec PyProof.Rows
section
variable {X : Cx} {e ek el : Expr} {re rk rl : REv} {q qe qk ql : Bool} {rm : Nat × List Nat} {pos : Pos}
theorem ps_gz {st : Stmt} {t : TS} (h : PS X st t) : PS X st (fun D σ H => t ⟨fun σ H => Gz (D.nx σ) H, D.rt, D.bk, D.ct⟩ σ H) :=
  ⟨fun pins s σ H D I hw => thn (h.run pins s σ H _ I hw) fun f s1 k => by
    cases f with
    | next =>
      obtain ⟨σ', H', I', g⟩ := k
      obtain ⟨H2, I2, q2⟩ := inv_gz g I'
      exact ⟨σ', H2, I2, q2⟩
    | ret u => exact k
    | brk => exact k
    | cont => exact k⟩
/-! ### x[k] = e -/
def rSetT (K : PySem.W.Frag) : V → V → V → Hp → (Hp → Prop) → Prop := fun o i v H Q => ∃ p b ts ks, o = .ref p ∧ i = .ref b ∧ TDOwn K H p ts ∧ SqT K H b (ks.map V.int) ∧ ts.length < sizeLine ∧
  ∀ ob' val, (p == sysModules) = false → L2.RelV v val → TObj ob' (storedH ts ks b val) → Q (upd H p (TdO p ob'))
theorem set_t (hu : X.A.units + 1 < cLine) : PSet X (rSetT X.K) := by
  intro pins s σ H o i v ov iv u Q I ro ri rv h
  obtain ⟨p, b, ts, ks, rfl, rfl, td, sq, hl, q⟩ := h
  cases ro
  cases ri
  obtain ⟨dd, hd, hz⟩ := td_of I td.at
  obtain ⟨uu, hp, mu⟩ := td.mut
  refine wpAny_setItem_heap (hsz := hz) (tupleKind_room_in1 hu) (tkey_of I sq) dd fun h' dd' hs => ?_
  obtain ⟨ob', es, ep, hq, h2, h3, h4, _, h5⟩ := dd'
  have ol : (storedH ts ks b u).length ≤ sizeLine := by
    unfold storedH
    split
    · rw [List.length_map]; exact hz
    · rw [List.length_append]; simp; omega
  refine ⟨_, d_write (ob := TdO p ob') I (by rw [hp]; exact mu) hs ⟨ob', hq⟩ ⟨hq, ⟨ob', hq⟩, fun h1 h2 e k => k _ e⟩, q ob' u hd rv ⟨h2, ⟨es, ep, h3, h4⟩, h5, ol⟩⟩
def rSetX0 : V → V → V → Hp → (Hp → Prop) → Prop := fun o i v H Q => rSetL o i v H Q ∨ (∃ p kvs k, o = .ref p ∧ i = kV k ∧ H p = some (.dK kvs) ∧ kvs.length < sizeLine ∧ ((kvs.map (·.1)).Nodup → Q (upd H p (.dK (putK kvs k v)))))
theorem set_x0 (hu : X.A.units + 1 < cLine) : PSet X rSetX0 := by
  intro pins s σ H o i v ov iv u Q I ro ri rv h
  rcases h with h | ⟨p, kvs, k, rfl, rfl, hp, hl, q⟩
  · exact set_list pins s σ H o i v ov iv u Q I ro ri rv h
  · cases ro
    obtain ⟨_, _, vs, kv, dd⟩ := dk_of I.hok hp
    have nd : (kvs.map (·.1)).Nodup := by
      rw [kv.keys]
      obtain ⟨_, _, _, _, _, _, _, _, nd⟩ := dd
      exact nd
    exact d_setItem hu I (DPut.k hp hl) ri rv fun s' I' => ⟨_, I', q nd⟩
def rSetX (K : PySem.W.Frag) : V → V → V → Hp → (Hp → Prop) → Prop := fun o i v H Q => rSetX0 o i v H Q ∨ rSetT K o i v H Q
theorem set_x (hu : X.A.units + 1 < cLine) : PSet X (rSetX X.K) := by
  intro pins s σ H o i v ov iv u Q I ro ri rv h
  rcases h with h | h
  · exact set_x0 hu pins s σ H o i v ov iv u Q I ro ri rv h
  · exact set_t hu pins s σ H o i v ov iv u Q I ro ri rv h
theorem stoD_cases {x k y z : D} (h : stoD x k y = some z) : (∃ ds i j, x = .list ds ∧ k = .int i ∧ ixN ds.length i = some j ∧ z = .list (ds.set j y)) ∨
    ((∃ kvs kk, x = .dict kvs ∧ k = keyD kk ∧ kvs.all (fun kv => keyOk kv.1) = true ∧ kvs.length < sizeLine ∧ z = .dict (dput kvs k y)) ∨
     ∃ kvs ks, x = .dict kvs ∧ tkey k = some ks ∧ keysT kvs = true ∧ kvs.length < sizeLine ∧ z = .dict (dput kvs k y)) := by
  unfold stoD at h
  split at h
  · simp only [Option.map_eq_some_iff] at h
    obtain ⟨j, hj, rfl⟩ := h
    exact .inl ⟨_, _, j, rfl, rfl, hj, rfl⟩
  · split at h
    · rename_i hz
      cases h
      simp only [Bool.and_eq_true, decide_eq_true_eq] at hz
      cases k with
      | int n => exact .inr (.inl ⟨_, .inl n, rfl, rfl, hz.1.2, hz.2, rfl⟩)
      | str n => exact .inr (.inl ⟨_, .inr n, rfl, rfl, hz.1.2, hz.2, rfl⟩)
      | _ => cases hz.1.1
    · split at h
      · rename_i hz
        cases h
        simp only [Bool.and_eq_true, decide_eq_true_eq] at hz
        obtain ⟨ks, hk⟩ := Option.isSome_iff_exists.mp hz.1.1
        exact .inr (.inr ⟨_, ks, rfl, hk, hz.1.2, hz.2, rfl⟩)
      · cases h
  · cases h
theorem own_key {K : PySem.W.Frag} {H : Hp} {z : Bool} {m : Nat} {k : Key} {v : V} {F : Addr → Prop} (h : Own K H z m (keyD k) v F) : v = kV k := by
  cases k with
  | inl i => exact own_int h
  | inr x => exact own_str h
theorem sto_run {i am : Nat} {D : Ends} {σ : L2.St} {H : Hp} (h : tS X.K rm (stoS i am re rk) D σ H) : tAsg (tR X.K re qe) (gSub (tVar i) (tR X.K rk qk) (rSetX X.K)) D σ H := by
  obtain ⟨S0, H0, ω, a, T, fl, a', w, e, k⟩ := h
  unfold stoS at e
  simp only [Option.bind_eq_some_iff] at e
  obtain ⟨p, e1, c, ec, pk, e2, vd, e3, kd, e4, e⟩ := e
  obtain ⟨d, ho, rfl⟩ := vals1_split e3
  refine ⟨S0, H0, ω, a, T, p.1, p.2, w, e1, fun v H1 ω1 w1 _ _ => ?_⟩
  rw [ho] at w1
  unfold varEv at ec
  split at ec
  · rename_i s0 hs0
    cases ec
    obtain ⟨vi, hvi, _⟩ := w1.slot i s0 hs0
    unfold stoStep at e
    split at e
    · rename_i s hs
      split at e
      · cases e
      rename_i hc
      simp only [Bool.or_eq_true, decide_eq_true_eq, not_or, Bool.not_eq_true] at hc
      split at e
      · rename_i hp
        simp only [Option.map_eq_some_iff] at e
        obtain ⟨d2, es, e⟩ := e
        cases e
        refine ⟨vi, hvi, S0, H0, ω1, p.2, _, pk.1, pk.2, w1, e2, fun kv H2 ω2 w2 ov _ => ?_⟩
        obtain ⟨m, hm⟩ : ∃ m, s.m = m + 1 := ⟨s.m - 1, by omega⟩
        obtain ⟨v', hv', own⟩ := w2.slot i s hs
        rw [hvi] at hv'
        cases hv'
        rw [hc.1, hm] at own
        rw [hm] at hp
        obtain ⟨z, F, ok⟩ := opd_own (T2 := []) (by rw [List.append_nil]; exact w2) ov e4
        have ownV : Own X.K H2 false am d v (fun b => ω2 b = some (.tm T.length)) := w2.drop.last
        have dj : ∀ b, (fun b => ω2 b = some (.tm T.length)) b → ¬ (fun b => ω2 b = some (.sl i)) b := fun b g z => by
          have g : ω2 b = some (.tm T.length) := g
          rw [show ω2 b = some (.sl i) from z] at g
          cases g
        rw [List.append_assoc] at w2
        have fin : ∀ (H' : Hp) (pp : Addr) (u : HO), ω2 pp = some (.sl i) → H2 pp = some u → Mut (some u) → (∀ b, b ≠ pp → H' b = H2 b) → (H' pp).isSome = true → Own1 X.K H' (m + 1) d2 vi (fun b => ω2 b = some (.sl i) ∨ ω2 b = some (.tm T.length)) → D.nx σ H' := fun H' pp u fp hu mu keep hs' ow =>
          k σ H' _ (w2.slotUpd (s' := ⟨s.m, false, d2⟩) hs hvi fp hu mu hs' keep rfl (by
            show Own X.K H' false s.m d2 vi _
            rw [hm]
            exact own_false.mpr (ow.mv (.refl H') (fun b z => z.imp id fun z => ⟨_, Nat.le_refl _, z⟩) fun _ _ => rfl))) rfl
        rcases stoD_cases es with ⟨ds, ii, j, hd, hk, hj, rfl⟩ | ⟨kvs, kk, hd, hk, hka, hl, rfl⟩ | ⟨kvs, ks, hd, hk, hka, hl, rfl⟩
        · rw [hd] at own
          rw [hk] at ok
          obtain ⟨pp, xs, rfl, fp, hpp, hlx, ow⟩ := own_setAt own ownV hp dj (ixN_seq hj).2.1
          refine .inl (.inl ⟨pp, xs, ii, j, rfl, own_int ok, hpp, by rw [← hlx]; exact hj, ?_⟩)
          exact fin _ pp _ fp hpp trivial (fun b hb => upd_ne hb) (by rw [upd_same]; rfl) ow
        · rw [hd] at own
          rw [hk] at ok
          obtain ⟨pp, kvs', rfl, fp, hpp, hlx, ow⟩ := own_dput (k := kk) own hka ownV hp dj
          refine .inl (.inr ⟨pp, kvs', kk, rfl, own_key ok, hpp, by rw [hlx]; exact hl, fun nd => ?_⟩)
          refine fin _ pp _ fp hpp trivial (fun b hb => upd_ne hb) (by rw [upd_same]; rfl) ?_
          rw [hk]
          exact ow nd
        · rw [hd] at own
          obtain ⟨b, rfl, tb⟩ := own_tupI ok hk
          obtain ⟨pp, ts, rfl, fp, td, hlx, ow⟩ := own_dputT own hka ownV hp dj tb
          refine .inr ⟨pp, b, ts, ks, rfl, rfl, td, tb.1, by rw [hlx]; exact hl, fun ob' val hs rv hx => ?_⟩
          obtain ⟨uu, hpp, mu⟩ := td.mut
          refine fin _ pp _ fp hpp mu (fun b hb => upd_ne hb) (by rw [upd_same]; rfl) ?_
          rw [tkey_some hk]
          exact ow ob' val hs rv hx
      · cases e
    · cases e
  · cases ec
theorem ps_stoE {i am : Nat} {x : Str} {p1 p2 : Pos} (hu : X.A.units + 1 < cLine) (hv : PE X (.Name x p1) (tVar i)) (he : PE X e (tR X.K re qe)) (hk : PE X ek (tR X.K rk qk)) (hg : PG X (.Subscript (.Name x p1) ek p2) (gSub (tVar i) (tR X.K rk qk) (rSetX X.K))) (hs : swapsWithSole [.Subscript (.Name x p1) ek p2] e pos.line X.env = pure false) (hw : swappedStores [.Subscript (.Name x p1) ek p2] e X.env = pure none)
    (h1 : (assignEach [.Subscript (.Name x p1) ek p2] X.env).map (·.2) = [assign (.Subscript (.Name x p1) ek p2) X.env]) : PS X (.Assign [.Subscript (.Name x p1) ek p2] e pos) (tS X.K rm (stoS i am re rk)) := ps_imp (ps_asg he hg hs hw h1) fun D σ H h => sto_run h
/-! ### x[k][l] = e -/
theorem sto2_run {i : Nat} {D : Ends} {σ : L2.St} {H : Hp} (h : tS X.K rm (sto2S i re rk rl qk ql) D σ H) : tAsg (tR X.K re qe) (gSub (tR X.K (idxEv (varEv i .br) rk qk .br) false) (tR X.K rl ql) rSetL) D σ H := by
  obtain ⟨S0, H0, ω, a, T, fl, a', w, e, k⟩ := h
  unfold sto2S at e
  simp only [Option.bind_eq_some_iff] at e
  obtain ⟨p, e1, c, ec, pl, e2, e⟩ := e
  split at e
  · rename_i j kd hc0
    split at e
    · cases e
    rename_i hql
    simp only [Bool.not_eq_true', Bool.not_eq_false] at hql
    simp only [Option.bind_eq_some_iff] at e
    obtain ⟨vd, e3, ld, e4, e⟩ := e
    obtain ⟨d, ho, rfl⟩ := vals1_split e3
    refine ⟨S0, H0, ω, a, T, p.1, p.2, w, e1, fun v H1 ω1 w1 _ _ => ⟨S0, H0, ω1, p.2, _, c.1, c.2, w1, ec, fun x H2 ω2 w2 ov2 _ => ⟨S0, H0, ω2, c.2, _, pl.1, pl.2, w2, e2, fun lv H3 ω3 w3 ov3 q3 => ?_⟩⟩⟩
    obtain ⟨sm, ea⟩ := q3 hql
    rw [hc0] at ov2 w2 w3
    obtain ⟨s1, x1, F1, es1, ex1, own1, fdom, vi, hvi, kv⟩ := ov2
    rw [ho] at w3
    have w3 : W X.K S0 H0 ω3 pl.2 σ (T ++ [⟨0, d, v⟩] ++ push pl.1 lv) H3 := by simpa [push] using w3
    unfold stoStep2 at e
    split at e
    · rename_i s hs
      split at e
      · cases e
      rename_i hc
      simp only [Bool.or_eq_true, decide_eq_true_eq, not_or, Bool.not_eq_true] at hc
      simp only [Option.bind_eq_some_iff] at e
      obtain ⟨x0, ex, e⟩ := e
      split at e
      · cases e
      rename_i hl
      simp only [Bool.or_eq_true, Bool.not_eq_true', not_or, Bool.not_eq_false, decide_eq_true_eq] at hl
      simp only [Option.bind_eq_some_iff, Option.map_eq_some_iff] at e
      obtain ⟨x2, ex2, d2, ed, e⟩ := e
      cases e
      obtain ⟨m, hm⟩ : ∃ m, s.m = m + 2 := ⟨s.m - 2, by omega⟩
      obtain ⟨v', hv', own⟩ := w3.slot j s hs
      have hjv : σ[j]? = some (some vi) := hvi
      rw [hjv] at hv'
      cases hv'
      rw [hc.1, hm] at own
      have flx : flat s.d = false := by
        cases hd : s.d with
        | list _ => rfl
        | dict _ => rfl
        | _ => rw [hd] at ed; cases ed
      obtain ⟨y, R, oy, rf, ky, back⟩ := own_kidAt own (by obtain ⟨es, rfl⟩ := lst_of hl.1; rfl) flx ex ed
      rw [kidV_same sm kv] at ky
      cases ky
      obtain ⟨es, rfl⟩ := lst_of hl.1
      obtain ⟨z, F, ok⟩ := opd_own (T2 := []) (by rw [List.append_nil]; exact w3) ov3 e4
      rcases stoD_cases ex2 with ⟨ds, ii, jj, hd, hk, hj, rfl⟩ | ⟨kvs, kk, hd, _⟩ | ⟨kvs, kk, hd, _⟩
      · cases hd
        rw [hk] at ok
        have imV : Im X.K H3 d v := w3.drop.last
        have ownV : Own X.K H3 false 0 d v (fun _ => False) := imV
        obtain ⟨pp, xs, rfl, fp, hpp, hlx, ow⟩ := own_setAt (own_false.mpr oy) ownV (by
          unfold putV
          simp only [Bool.or_eq_true, decide_eq_true_eq]
          rcases hl.2 with q | q
          · exact .inl q
          · exact .inr (by omega)) (fun b g => g.elim) (ixN_seq hj).2.1
        refine ⟨pp, xs, ii, jj, rfl, own_int ok, hpp, by rw [← hlx]; exact hj, ?_⟩
        have w4 : W X.K S0 H0 ω3 pl.2 σ (T ++ ([⟨0, d, v⟩] ++ push pl.1 lv)) H3 := by simpa [push, List.append_assoc] using w3
        refine k σ _ _ (w4.slotUpd (s' := ⟨s.m, false, d2⟩) hs hjv (rf _ fp) hpp trivial (by rw [upd_same]; rfl) (fun b hb => upd_ne hb) rfl ?_) rfl
        show Own X.K _ false s.m d2 vi _
        rw [hm]
        exact own_false.mpr ((back _ pp _ fp hpp trivial (fun b hb => upd_ne hb) (ow.mv (.refl _) (fun b z => z.resolve_right id) fun _ _ => rfl)).mv (.refl _) (fun b z => .inl z) fun _ _ => rfl)
      · cases hd
      · cases hd
    · cases e
  · cases e
/-! ### x op= e, of ints -/
theorem int_flat {c : Int → Int → Bool} {f : Int → Int → Int} {x y : Int} {d : D} (h : intD c f (0, .int x) (0, .int y) = some d) : flat d = true := by
  simp only [intD] at h
  split at h
  · cases h; rfl
  · cases h
theorem bin_flat {o : Bop} {x y : Int} {d : D} (h : binD o (0, .int x) (0, .int y) = some d) : flat d = true := by
  cases o with
  | add => simp only [binD, addD] at h; cases h; rfl
  | mul =>
    simp only [binD, mulD] at h
    split at h
    · cases h; rfl
    · cases h
  | sub => simp only [binD] at h; exact int_flat h
  | fdiv => simp only [binD] at h; exact int_flat h
  | mod => simp only [binD] at h; exact int_flat h
  | pow => simp only [binD] at h; exact int_flat h
  | shl => simp only [binD] at h; exact int_flat h
  | shr => simp only [binD] at h; exact int_flat h
  | band => simp only [binD] at h; exact int_flat h
  | bor => simp only [binD] at h; exact int_flat h
theorem aug_run {i : Nat} {o : Bop} {t : R2} {D : Ends} {σ : L2.St} {H : Hp} (hst : rm.2.contains i = true) (hv : Val2 X.K t (binD o)) (h : tS X.K rm (augS i o re) D σ H) : tAug i (tR X.K re qe) (fun x y H Q => ∃ i j, x = .int i ∧ y = .int j ∧ t x y H Q) D σ H := by
  obtain ⟨S0, H0, ω, a, T, fl, a', w, e, k⟩ := h
  unfold augS at e
  split at e
  · rename_i m l x hs
    simp only [Option.bind_eq_some_iff] at e
    obtain ⟨p, e1, u, eu, e⟩ := e
    split at e
    · rename_i y hy
      simp only [Option.map_eq_some_iff] at e
      obtain ⟨d, ed, e⟩ := e
      cases e
      obtain ⟨vi, hvi, own⟩ := w.slot i _ hs
      have evi := own_int own
      subst evi
      refine ⟨_, hvi, S0, H0, ω, a, T, p.1, p.2, w, e1, fun v H1 ω1 w1 ov _ => ?_⟩
      obtain ⟨z, F, ok⟩ := opd_own (T2 := []) (by rw [List.append_nil]; exact w1) ov eu
      rw [hy] at ok
      have ev := own_int ok
      subst ev
      refine ⟨x, y, rfl, rfl, hv H1 _ _ false false 0 0 (.int x) (.int y) (fun _ => False) (fun _ => False) d _ (im_int (K := X.K) (H := H1) x) (im_int (K := X.K) (H := H1) y) ed fun v' H' mk => ?_⟩
      have fd : flat d = true := bin_flat ed
      cases mk with
      | flat _ im sm =>
        obtain ⟨ω', w'⟩ := (w1.drop.grow sm).bind im i
        exact k _ H' ω' w' (wipe_set hst)
      | list _ _ => cases fd
      | dict _ _ _ => cases fd
    · cases e
  · cases e
end
end RV

set_option maxRecDepth 100000
/-! Ev24: what a def promises; its body. -/
namespace RV
open PySem L2 PySem.Spec PyProof.Rows
abbrev SpG := List V → Hp → VK → Prop
def noX : CXT := fun _ _ _ _ _ _ => False
def noE : XK := fun _ _ _ => False
/-- a def's promise, called where no guard stands -/
def FnG (P : Program) (w : World) (K : PySem.W.Frag) (mg : Str → Option Value) (base : Heap) (k : Nat) (f : Addr) (fd : FuncData) (ps : List Str) (sp : SpG) : Prop :=
  ∀ (A : Around) (outer : List Env) (s : Shared) (H : Hp) (args : Args) (us : List Value) (vs : List V) (Q : VK), Room k A → A.guards = some [] → Env0 P w K mg base A outer s H → BindsTo s fd args (ps.zip us) → Vals vs us → vs.length = ps.length → sp vs H Q →
    codeAny (model P w) A (.call (.ref f) args) (CR noX outer P w H s Q noE) s
theorem fnG_of {P : Program} {w : World} {K : PySem.W.Frag} {mg : Str → Option Value} {base : Heap} {k : Nat} {f : Addr} {name qual : Str} {params : Arguments} {body : List Stmt} {scope : Scope} {dV kV doc pm cdv ct oc : Value} {an od : Option Addr}
    {osl : Array (Option Value)} {N ps : List Str} {sp : SpG} (lk : K.lookup f = some ⟨oc, od, .func (PySem.W.fnOf name qual params body scope dV kV doc pm an cdv ct), osl⟩) (hcd : PySem.W.codeIn K cdv qual = true) (S : FnScope N ps scope)
    (hbody : ∀ (A : Around) (outer : List Env) (s : Shared) (H : Hp) (vs : List V) (Q : VK), Room k (A.deeper (envOfC qual scope s.heap.objs.size f cdv)) → A.guards = some [] → vs.length = ps.length → sp vs H Q →
      ∃ t, PSs (cxOf noX P w K mg base N qual scope f cdv A outer s H noE) body t ∧ t { nx := fun _ H' => Q .non H', rt := Q } (start N vs) H) :
    FnG P w K mg base (k + 1) f (PySem.W.fnOf name qual params body scope dV kV doc pm an cdv ct) ps sp := by
  intro A outer s H args us vs Q hr hgd e0 hb r hl hsp
  have inK : K.In s.heap := e0.mod.kin.keeps fun b o e => (e0.bs b o e).1
  have noLim : s.heap.NoLimit := e0.mod.nolimit.keeps fun b o e => (e0.bs b o e).1
  have knd : ∀ y ∈ ps.zip us, scope.names.lookup y.1 = some .local ∨ (scope.names.lookup y.1 = some .cell ∧ ((cellsFrom (s.heap.objs.size + 1) scope.names []).lookup y.1).isSome = true) := fun y hy => by
    rcases S.par y.1 (List.of_mem_zip hy).1 with q | q
    · exact .inl q
    · exact .inr ⟨q, PySem.W.cellsFrom_some _ _ _ (.inl q)⟩
  refine codeAny_call_function hr.depth (inK _ _ lk) rfl S.co S.gen rfl (PySem.W.codeRec_of inK hcd) (hb _ _ _ _ ?_)
  refine wpAny_newFunctionEnv_cells S.kind knd fun env he s1 x => ?_
  subst he
  refine ⟨noLim.keeps x.toInCall.keep, codeAny_func ?_⟩
  obtain ⟨t, ht, hq⟩ := hbody A outer s H vs Q (hr.deeper _) hgd hl hsp
  have I : Inv (cxOf noX P w K mg base N qual scope f cdv A outer s H noE) [] (start N vs) H s1 := inv_start S hr.hd e0 hl r x
  refine wpAny_mono (ht.run [] s1 (start N vs) H _ I hq) (fun fl s' hs => ?_) fun e s' hs => hs
  have fin : ∀ {σ' : L2.St} {H' : Hp} {v : V} {u : Value}, Inv (cxOf noX P w K mg base N qual scope f cdv A outer s H noE) [] σ' H' s' → L2.RelV v u → Q v H' → CE outer P w H s Q u s' :=
    fun {σ' H' v u} J rv q => ⟨v, H', J.os, J.bare, J.base, J.hok, rv, q⟩
  cases fl with
  | ret u =>
    obtain ⟨v, σ', H', J, rv, q⟩ := hs
    exact fin J rv q
  | next =>
    obtain ⟨σ', H', J, q⟩ := hs
    exact fin (v := V.non) (u := Value.none) J rfl q
  | brk =>
    obtain ⟨_, _, _, q⟩ := hs
    exact False.elim q
  | cont =>
    obtain ⟨_, _, _, q⟩ := hs
    exact False.elim q
/-- the promise of a def whose meaning is known: χ tells who owns what is handed in; behind, χ' tells who owns what comes back (none: the result) -/
def spT (K : PySem.W.Frag) (g : List Sl → Option (Nat × D × List (Option Sl))) : SpG := fun vs H Q => ∃ (ss : List Sl) (χ : Addr → Option Nat) (m : Nat) (d : D) (back : List (Option Sl)),
  g ss = some (m, d, back) ∧ ss.length = vs.length ∧ (∀ (i : Nat) s v, ss[i]? = some s → vs[i]? = some v → Own K H s.lk s.m s.d v (fun b => χ b = some i)) ∧ (∀ b i, χ b = some i → (H b).isSome = true) ∧
  ∀ (v : V) (H' : Hp) (χ' : Addr → Option (Option Nat)), Pst H H' → (∀ b o, H b = some o → χ b = none → H' b = some o) → (∀ b x, χ' b = some x → (H' b).isSome = true ∧ ((χ b).isSome = true ∨ H b = none)) →
    Own K H' false m d v (fun b => χ' b = some none) → (∀ (i : Nat) s u, back[i]? = some (some s) → vs[i]? = some u → Own K H' s.lk s.m s.d u (fun b => χ' b = some (some i))) →
    (∀ (i : Nat) s, back[i]? = some (some s) → s.lk = true → ss[i]? = some s) → Q v H'
def initBk (χ : Addr → Option Nat) (ss : List Sl) (vs : List V) : Bk := ⟨fun b => (χ b).isSome = true, fun i => match ss[i]?, vs[i]? with
  | some s, some v => if s.lk then some (v, s.m, s.d) else none
  | _, _ => none⟩
theorem init_W {K : PySem.W.Frag} {H : Hp} {N : List Str} {ss : List Sl} {vs : List V} {χ : Addr → Option Nat} (hl : ss.length = vs.length) (own : ∀ (i : Nat) s v, ss[i]? = some s → vs[i]? = some v → Own K H s.lk s.m s.d v (fun b => χ b = some i)) (hd : ∀ b i, χ b = some i → (H b).isSome = true) :
    W K (initBk χ ss vs) H (fun b => (χ b).map Hd.sl) (ss.map some ++ List.replicate (N.length - vs.length) none) (start N vs) [] H := by
  have at_ : ∀ {i : Nat} {s : Sl}, (ss.map some ++ List.replicate (N.length - vs.length) none)[i]? = some (some s) → ss[i]? = some s ∧ ∃ v, vs[i]? = some v ∧ (start N vs)[i]? = some (some v) := fun {i s} e => by
    by_cases hi : i < ss.length
    · rw [List.getElem?_append_left (by simpa using hi), List.getElem?_map] at e
      cases h : ss[i]? with
      | none => rw [h] at e; cases e
      | some x =>
        rw [h] at e
        cases e
        have hv : vs[i]? = some (vs[i]'(by omega)) := List.getElem?_eq_getElem (by omega)
        refine ⟨rfl, _, hv, ?_⟩
        unfold L2.start
        rw [List.getElem?_append_left (by rw [List.length_map]; omega), List.getElem?_map, hv]
        rfl
    · rw [List.getElem?_append_right (by rw [List.length_map]; omega), List.getElem?_replicate] at e
      split at e <;> cases e
  refine ⟨fun b h e => ?_, fun b o h _ => h, .refl H, fun i s e => ?_, fun j t e => by simp at e, fun i s v e1 e2 e3 => ?_, ?_⟩
  · have e : (χ b).map Hd.sl = some h := e
    cases hc : χ b with
    | none => rw [hc] at e; cases e
    | some i => exact ⟨hd b i hc, .inl (by show (χ b).isSome = true; rw [hc]; rfl)⟩
  · obtain ⟨h1, v, h2, h3⟩ := at_ e
    refine ⟨v, h3, (own i s v h1 h2).mv (.refl H) (fun b z => ?_) fun _ _ => rfl⟩
    have z : χ b = some i := z
    show (χ b).map Hd.sl = _
    rw [z]
    rfl
  · obtain ⟨h1, v', h2, h3⟩ := at_ e1
    rw [h3] at e3
    cases e3
    show (match ss[i]?, vs[i]? with
      | some s, some v => if s.lk then some (v, s.m, s.d) else none
      | _, _ => none) = _
    rw [h1, h2]
    exact if_pos e2
  · unfold L2.start
    simp [hl]
/-- a def's body reads as its meaning -/
def bodyG (f : Fd) (r : RSt) : List Sl → Option (Nat × D × List (Option Sl)) := fun ss =>
  if ss.length = f.np then
    match r (ss.map some ++ List.replicate (f.N.length - f.np) none) with
    | some (.rt d, a) => some (f.rm, d, (List.range f.np).map fun i => if f.st.contains i then none else (a[i]?).getD none)
    | some (.nx, a) => some (f.rm, .none, (List.range f.np).map fun i => if f.st.contains i then none else (a[i]?).getD none)
    | _ => none
  else none
theorem body_run {K : PySem.W.Frag} {f : Fd} {r : RSt} {vs : List V} {H : Hp} {Q : VK} (hv : vs.length = f.np) (h : spT K (bodyG f r) vs H Q) :
    tS K (f.rm, f.st) r { nx := fun _ H' => Q .non H', rt := Q } (start f.N vs) H := by
  obtain ⟨ss, χ, m, d, back, e, hl, own, hd, k⟩ := h
  have w0 := init_W (N := f.N) hl own hd
  unfold bodyG at e
  split at e
  · rename_i hn
    -- the end
    have fin : ∀ (a' : A) (v : V) (σ' : L2.St) (H' : Hp) (ω' : Addr → Option Hd) (d' : D), m = f.rm → d' = d → back = ((List.range f.np).map fun i => if f.st.contains i then none else (a'[i]?).getD none) →
        W K (initBk χ ss vs) H ω' a' σ' [⟨f.rm, d', v⟩] H' → wipe σ' f.st = wipe (start f.N vs) f.st → Q v H' := by
      intro a' v σ' H' ω' d' em ed eb w hw
      subst em ed eb
      have bk : ∀ {i : Nat} {s : Sl}, ((List.range f.np).map fun i => if f.st.contains i then none else (a'[i]?).getD none)[i]? = some (some s) → i < f.np ∧ f.st.contains i = false ∧ a'[i]? = some (some s) := fun {i s} e => by
        rw [List.getElem?_map] at e
        by_cases hi : i < f.np
        · rw [List.getElem?_range hi] at e
          have e : (if f.st.contains i then none else (a'[i]?).getD none) = some s := Option.some.inj e
          split at e
          · cases e
          · rename_i hs
            refine ⟨hi, by simpa using hs, ?_⟩
            cases h : a'[i]? with
            | none => rw [h] at e; cases e
            | some x => rw [h] at e; exact congrArg some e
        · rw [List.getElem?_eq_none (by simpa using hi)] at e
          cases e
      have sv : ∀ {i : Nat} {u : V}, i < f.np → f.st.contains i = false → vs[i]? = some u → σ'[i]? = some (some u) := fun {i u} hi hs hu => by
        have := congrArg (fun l => l[i]?) hw
        simp only [wipe_get, hs, Bool.false_eq_true, if_false] at this
        rw [this]
        unfold L2.start
        rw [List.getElem?_append_left (by rw [List.length_map]; omega), List.getElem?_map, hu]
        rfl
      refine k v H' (fun b => match ω' b with
        | some (.tm j) => if j = 0 then some none else none
        | some (.sl i) => some (some i)
        | none => none) w.pst (fun b o hb hc => w.old b o hb fun z => ?_) (fun b x hx => ?_) ?_ (fun i s u e1 e2 => ?_) fun i s e1 e2 => ?_
      · have z : (χ b).isSome = true := z
        rw [hc] at z
        cases z
      · have hy : ∃ y, ω' b = some y := by
          try dsimp only at hx
          split at hx
          · exact ⟨_, by assumption⟩
          · exact ⟨_, by assumption⟩
          · cases hx
        obtain ⟨y, hy⟩ := hy
        exact w.dom b y hy
      · refine (w.tmp 0 _ rfl).mv (.refl _) (fun b z => ?_) fun _ _ => rfl
        have z : ω' b = some (.tm 0) := z
        try dsimp only
        rw [z]
        rfl
      · obtain ⟨hi, hs, ha⟩ := bk e1
        obtain ⟨v', hv', ow⟩ := w.slot i s ha
        rw [sv hi hs e2] at hv'
        cases hv'
        refine ow.mv (.refl _) (fun b z => ?_) fun _ _ => rfl
        have z : ω' b = some (.sl i) := z
        try dsimp only
        rw [z]
      · obtain ⟨hi, hs, ha⟩ := bk e1
        have hu : vs[i]? = some (vs[i]'(by omega)) := List.getElem?_eq_getElem (by omega)
        have hss : ss[i]? = some (ss[i]'(by omega)) := List.getElem?_eq_getElem (by omega)
        have l := w.lck i s _ ha e2 (sv hi hs hu)
        have l : (match ss[i]?, vs[i]? with
          | some s, some v => if s.lk then some (v, s.m, s.d) else none
          | _, _ => none) = some (vs[i]'(by omega), s.m, s.d) := l
        rw [hss, hu] at l
        dsimp only at l
        split at l
        · rename_i hk
          simp only [Option.some.injEq, Prod.mk.injEq] at l
          rw [hss]
          congr 1
          cases hx : ss[i]'(by omega) with
          | mk m1 l1 d1 =>
            rw [hx] at l hk
            cases s with
            | mk m2 l2 d2 =>
              have e2 : l2 = true := e2
              have hk : l1 = true := hk
              have l1' : m1 = m2 := l.2.1
              have l2' : d1 = d2 := l.2.2
              rw [e2, hk, l1', l2']
        · cases l
    split at e
    · rename_i d' a' hr
      simp only [Option.some.injEq, Prod.mk.injEq] at e
      obtain ⟨em, ed, eb⟩ := e
      rw [← hv] at hr
      exact ⟨_, H, _, _, [], .rt d', a', w0, hr, fun v σ' H' ω' w hw => fin a' v σ' H' ω' d' em.symm ed eb.symm w hw⟩
    · rename_i a' hr
      simp only [Option.some.injEq, Prod.mk.injEq] at e
      obtain ⟨em, ed, eb⟩ := e
      rw [← hv] at hr
      exact ⟨_, H, _, _, [], .nx, a', w0, hr, fun σ' H' ω' w hw => fin a' .non σ' H' ω' .none em.symm ed eb.symm (w.pushIm im_none (.inl rfl)) hw⟩
    · cases e
  · cases e
end RV

set_option maxRecDepth 100000
/-! Ev25: calls. -/
namespace RV
open PySem L2 PySem.Spec PyProof.Rows
/-! ### lists -/
theorem nodupN_inj : ∀ {l : List Nat}, nodupN l = true → ∀ {i j x : Nat}, l[i]? = some x → l[j]? = some x → i = j
  | [], _, i, j, x, h1, _ => by simp at h1
  | y :: r, h, i, j, x, h1, h2 => by
    unfold nodupN at h
    rw [Bool.and_eq_true, Bool.not_eq_true'] at h
    have no : ∀ {k : Nat}, r[k]? = some y → False := fun {k} e => by
      have := List.mem_of_getElem? e
      have h := h.1
      simp at h
      exact h this
    cases i with
    | zero =>
      simp at h1
      subst h1
      cases j with
      | zero => rfl
      | succ j => exact (no (by simpa using h2)).elim
    | succ i =>
      cases j with
      | zero =>
        simp at h2
        subst h2
        exact (no (by simpa using h1)).elim
      | succ j => exact congrArg (· + 1) (nodupN_inj h.2 (x := x) (by simpa using h1) (by simpa using h2))
theorem permO_get {α : Type} {xs : List α} : ∀ {perm : List Nat} {ys : List α}, permO xs perm = some ys → ys.length = perm.length ∧ ∀ {j : Nat} {y : α}, ys[j]? = some y → ∃ i, perm[j]? = some i ∧ xs[i]? = some y
  | [], ys, h => by cases h; exact ⟨rfl, fun {j y} e => by simp at e⟩
  | i :: r, ys, h => by
    simp only [permO, Option.bind_eq_some_iff, Option.map_eq_some_iff] at h
    obtain ⟨x, hx, zs, hz, rfl⟩ := h
    obtain ⟨hl, hg⟩ := permO_get hz
    refine ⟨by simp [hl], fun {j y} e => ?_⟩
    cases j with
    | zero => simp at e; subst e; exact ⟨i, rfl, hx⟩
    | succ j => exact hg (by simpa using e)
/-- where the i-th operand is held -/
def tix : List Opd → Nat → Nat
  | .val _ _ :: r, i + 1 => tix r i + 1
  | _ :: r, i + 1 => tix r i
  | _, 0 => 0
  | [], _ => 0
theorem pushs_at : ∀ {os : List Opd} {vs : List V} {i m : Nat} {d : D} {v : V}, os[i]? = some (.val m d) → vs[i]? = some v → (pushs os vs)[tix os i]? = some ⟨m, d, v⟩
  | [], _, i, _, _, _, h, _ => by simp at h
  | _ :: _, [], i, _, _, _, _, h => by simp at h
  | o :: os, v :: vs, 0, m, d, x, h1, h2 => by
    simp at h1 h2
    subst h1 h2
    rfl
  | o :: os, v :: vs, i + 1, m, d, x, h1, h2 => by
    have h1 : os[i]? = some (.val m d) := by simpa using h1
    have h2 : vs[i]? = some x := by simpa using h2
    have ih := pushs_at h1 h2
    cases o with
    | val k e =>
      show ((⟨k, e, v⟩ : Tm) :: pushs os vs)[tix os i + 1]? = _
      rw [List.getElem?_cons_succ]
      exact ih
    | ref _ => exact ih
    | sub _ _ => exact ih
theorem tix_lt : ∀ {os : List Opd} {i j m : Nat} {d : D}, i < j → os[i]? = some (.val m d) → j < os.length → tix os i < tix os j
  | [], i, j, _, _, _, h, _ => by simp at h
  | o :: os, 0, j, m, d, hij, h, hj => by
    simp at h
    subst h
    cases j with
    | zero => omega
    | succ j =>
      show 0 < tix os j + 1
      omega
  | o :: os, i + 1, j, m, d, hij, h, hj => by
    cases j with
    | zero => omega
    | succ j =>
      have := tix_lt (os := os) (i := i) (j := j) (by omega) (by simpa using h) (by simpa using hj)
      cases o with
      | val _ _ => show tix os i + 1 < tix os j + 1; omega
      | ref _ => exact this
      | sub _ _ => exact this
theorem tix_inj {os : List Opd} {i j m m' : Nat} {d d' : D} (h1 : os[i]? = some (.val m d)) (h2 : os[j]? = some (.val m' d')) (e : tix os i = tix os j) : i = j := by
  rcases Nat.lt_trichotomy i j with h | h | h
  · have := tix_lt h h1 (List.getElem?_eq_some_iff.mp h2).1; omega
  · exact h
  · have := tix_lt h h2 (List.getElem?_eq_some_iff.mp h1).1; omega
/-- a slot that is lent -/
def isLent (a : A) (i : Nat) : Prop := ∃ s, a[i]? = some (some s) ∧ (flat s.d || decide (s.m = 0)) = false
theorem lent_ref {a : A} {i : Nat} {r : List Opd} : lent a (.ref i :: r) = match a[i]? with
    | some (some s) => if (flat s.d || decide (s.m = 0)) = true then lent a r else i :: lent a r
    | _ => lent a r := rfl
theorem lent_cons {a : A} {i : Nat} {r : List Opd} : (isLent a i ∧ lent a (.ref i :: r) = i :: lent a r) ∨ (¬ isLent a i ∧ lent a (.ref i :: r) = lent a r) := by
  rw [lent_ref]
  generalize lent a r = z
  split
  · rename_i s hs
    split
    · rename_i h
      refine .inr ⟨fun ⟨s', e, h'⟩ => ?_, rfl⟩
      rw [hs] at e
      cases e
      rw [h'] at h
      cases h
    · rename_i h
      exact .inl ⟨⟨s, hs, by simpa using h⟩, rfl⟩
  · rename_i h
    exact .inr ⟨fun ⟨s', e, _⟩ => h s' e, rfl⟩
theorem lent_mem {a : A} {i : Nat} (hi : isLent a i) : ∀ {os : List Opd} {j : Nat}, os[j]? = some (.ref i) → i ∈ lent a os
  | [], j, h => by simp at h
  | o :: os, j, h => by
    cases j with
    | zero =>
      simp at h
      subst h
      rcases lent_cons (a := a) (i := i) (r := os) with ⟨_, e⟩ | ⟨n, _⟩
      · rw [e]; simp
      · exact absurd hi n
    | succ j =>
      have ih := lent_mem hi (os := os) (j := j) (by simpa using h)
      cases o with
      | ref k =>
        rcases lent_cons (a := a) (i := k) (r := os) with ⟨_, e⟩ | ⟨_, e⟩ <;> rw [e]
        · exact List.mem_cons_of_mem _ ih
        · exact ih
      | val _ _ => exact ih
      | sub _ _ => exact ih
theorem lent_inj {a : A} {i : Nat} (hi : isLent a i) : ∀ {os : List Opd} {j j' : Nat}, nodupN (lent a os) = true → os[j]? = some (.ref i) → os[j']? = some (.ref i) → j = j'
  | [], j, j', _, h, _ => by simp at h
  | o :: os, j, j', nd, h1, h2 => by
    have tl : nodupN (lent a os) = true ∧ (o = .ref i → i ∉ lent a os) := by
      cases o with
      | ref k =>
        rcases lent_cons (a := a) (i := k) (r := os) with ⟨hk, e⟩ | ⟨hk, e⟩
        · rw [e] at nd
          unfold nodupN at nd
          rw [Bool.and_eq_true, Bool.not_eq_true'] at nd
          refine ⟨nd.2, fun z hm => ?_⟩
          cases z
          have := nd.1
          simp at this
          exact this hm
        · rw [e] at nd
          exact ⟨nd, fun z => by cases z; exact absurd hi hk⟩
      | val _ _ => exact ⟨nd, fun z => by cases z⟩
      | sub _ _ => exact ⟨nd, fun z => by cases z⟩
    cases j with
    | zero =>
      cases j' with
      | zero => rfl
      | succ j' =>
        simp at h1 h2
        exact absurd (lent_mem hi h2) (tl.2 h1)
    | succ j =>
      cases j' with
      | zero =>
        simp at h1 h2
        exact absurd (lent_mem hi h1) (tl.2 h2)
      | succ j' => exact congrArg (· + 1) (lent_inj hi tl.1 (by simpa using h1) (by simpa using h2))
theorem backs_length {a : A} : ∀ {os : List Opd} {back : List (Option Sl)}, (backs a os back).length = a.length
  | [], _ => by unfold backs; rfl
  | .val _ _ :: r, [] => by unfold backs; rfl
  | .ref i :: r, [] => by unfold backs; rfl
  | .sub _ _ :: r, [] => by unfold backs; rfl
  | .val _ _ :: r, s :: ss => by unfold backs; exact backs_length
  | .sub _ _ :: r, s :: ss => by unfold backs; exact backs_length
  | .ref i :: r, s :: ss => by
    unfold backs
    split
    · split
      · exact backs_length
      · rw [List.length_set]; exact backs_length
    · exact backs_length
theorem backs_get {a : A} : ∀ {os : List Opd} {back : List (Option Sl)}, os.length = back.length → nodupN (lent a os) = true → ∀ (i : Nat),
    (∃ (j : Nat) (s : Option Sl), os[j]? = some (.ref i) ∧ isLent a i ∧ back[j]? = some s ∧ (backs a os back)[i]? = some s) ∨ ((∀ (j : Nat), os[j]? = some (.ref i) → ¬ isLent a i) ∧ (backs a os back)[i]? = a[i]?)
  | [], [], _, _, i => .inr ⟨fun j h => (by simp at h), by unfold backs; rfl⟩
  | [], _ :: _, h, _, _ => by cases h
  | _ :: _, [], h, _, _ => by cases h
  | o :: os, s :: ss, hl, nd, i => by
    have hl : os.length = ss.length := by simpa using hl
    have plain : nodupN (lent a os) = true → (o = .ref i → ¬ isLent a i) → (backs a (o :: os) (s :: ss))[i]? = (backs a os ss)[i]? →
        (∃ (j : Nat) (s' : Option Sl), (o :: os)[j]? = some (.ref i) ∧ isLent a i ∧ (s :: ss)[j]? = some s' ∧ (backs a (o :: os) (s :: ss))[i]? = some s') ∨ ((∀ (j : Nat), (o :: os)[j]? = some (.ref i) → ¬ isLent a i) ∧ (backs a (o :: os) (s :: ss))[i]? = a[i]?) := fun nd ho e => by
      rcases backs_get hl nd i with ⟨j, s', h1, h2, h3, h4⟩ | ⟨h1, h2⟩
      · exact .inl ⟨j + 1, s', by simpa using h1, h2, by simpa using h3, e.trans h4⟩
      · refine .inr ⟨fun j h => ?_, e.trans h2⟩
        cases j with
        | zero => simp at h; exact ho h
        | succ j => exact h1 j (by simpa using h)
    cases o with
    | val m d => exact plain nd (fun z => by cases z) (by rw [backs]; intro _ z; cases z)
    | sub k x => exact plain nd (fun z => by cases z) (by rw [backs]; intro _ z; cases z)
    | ref k =>
      rcases lent_cons (a := a) (i := k) (r := os) with ⟨hk, e⟩ | ⟨hk, e⟩
      · rw [e] at nd
        unfold nodupN at nd
        rw [Bool.and_eq_true] at nd
        obtain ⟨t, ht, hf⟩ := hk
        have eb : backs a (Opd.ref k :: os) (s :: ss) = (backs a os ss).set k s := by
          rw [backs, ht]
          simp [hf]
        by_cases hki : k = i
        · subst hki
          refine .inl ⟨0, s, rfl, ⟨t, ht, hf⟩, rfl, ?_⟩
          rw [eb, List.getElem?_set_self (by rw [backs_length]; exact (List.getElem?_eq_some_iff.mp ht).1)]
        · refine plain nd.2 (fun z => by cases z; exact absurd rfl hki) ?_
          rw [eb, List.getElem?_set_ne hki]
      · rw [e] at nd
        refine plain nd (fun z => by cases z; exact hk) ?_
        rw [backs]
        split
        · rename_i t ht
          split
          · rfl
          · rename_i hf
            exact absurd ⟨t, ht, by simpa using hf⟩ hk
        · rfl
end RV

set_option maxRecDepth 100000
/-! Ev26: a call's reading. -/
namespace RV
open PySem L2 PySem.Spec PyProof.Rows
section
variable {K : PySem.W.Frag} {S0 : Bk} {H0 H : Hp} {ω : Addr → Option Hd} {a : A} {σ : L2.St} {T : List Tm}
theorem argsOf_get : ∀ {os : List Opd} {ss : List Sl}, argsOf a os = some ss → ss.length = os.length ∧ ∀ {j : Nat} {o : Opd}, os[j]? = some o → ∃ s, ss[j]? = some s ∧ argOf a o = some s
  | [], ss, h => by cases h; exact ⟨rfl, fun {j o} e => by simp at e⟩
  | o :: os, ss, h => by
    simp only [argsOf, Option.bind_eq_some_iff, Option.map_eq_some_iff] at h
    obtain ⟨s, hs, r, hr, rfl⟩ := h
    obtain ⟨hl, hg⟩ := argsOf_get hr
    refine ⟨by simp [hl], fun {j o'} e => ?_⟩
    cases j with
    | zero => simp at e; subst e; exact ⟨s, rfl, hs⟩
    | succ j => exact hg (by simpa using e)
theorem opvs_get : ∀ {os : List Opd} {vs : List V} {i : Nat} {o : Opd} {v : V}, OpVs K σ a H os vs → os[i]? = some o → vs[i]? = some v → OpV K σ a H o v
  | [], _, i, _, _, _, h, _ => by simp at h
  | o :: os, vs, i, o', v', h, h1, h2 => by
    obtain ⟨v, r, rfl, hv, hr⟩ := h
    cases i with
    | zero => simp at h1 h2; subst h1 h2; exact hv
    | succ i => exact opvs_get hr (by simpa using h1) (by simpa using h2)
theorem call_fin {os os' : List Opd} {vs vs' : List V} {perm : List Nat} {g : List Sl → Option (Nat × D × List (Option Sl))} {ss : List Sl} {m : Nat} {d : D} {back : List (Option Sl)} {Q : VK}
    (w : W K S0 H0 ω a σ (T ++ pushs os vs) H) (ov : OpVs K σ a H os vs) (hp : permO os perm = some os') (hv : permO vs perm = some vs') (dp : os'.any Opd.deep = false) (ln : nodupN (lent a os') = true) (np : nodupN perm = true)
    (es : argsOf a os' = some ss) (eg : g ss = some (m, d, back)) (bl : back.length = os'.length)
    (k : ∀ v H' ω', W K S0 H0 ω' (backs a os' back) σ (T ++ [⟨m, d, v⟩]) H' → Q v H') : spT K g vs' H Q := by
  classical
  obtain ⟨hpl, hpg⟩ := permO_get hp
  obtain ⟨hvl, hvg⟩ := permO_get hv
  obtain ⟨sl, sg⟩ := argsOf_get es
  -- who owns what is handed in
  let R : Nat → Addr → Prop := fun j b => (∃ m d i, os'[j]? = some (.val m d) ∧ perm[j]? = some i ∧ ω b = some (.tm (T.length + tix os i))) ∨ (∃ i, os'[j]? = some (.ref i) ∧ isLent a i ∧ ω b = some (.sl i))
  have Rω : ∀ {j b}, R j b → ∃ y, ω b = some y := fun {j b} h => by
    rcases h with ⟨_, _, _, _, _, h⟩ | ⟨_, _, _, h⟩ <;> exact ⟨_, h⟩
  have Rinj : ∀ {j j' b}, R j b → R j' b → j = j' := fun {j j' b} h h' => by
    rcases h with ⟨m1, d1, i1, h1, h2, h3⟩ | ⟨i1, h1, h2, h3⟩ <;> rcases h' with ⟨m2, d2, i2, g1, g2, g3⟩ | ⟨i2, g1, g2, g3⟩
    · rw [h3] at g3
      have e := Hd.tm.inj (Option.some.inj g3)
      obtain ⟨x1, p1, q1⟩ := hpg h1
      obtain ⟨x2, p2, q2⟩ := hpg g1
      rw [h2] at p1
      rw [g2] at p2
      cases p1
      cases p2
      have ei := tix_inj q1 q2 (by omega)
      subst ei
      exact nodupN_inj np h2 g2
    · rw [h3] at g3; cases g3
    · rw [h3] at g3; cases g3
    · rw [h3] at g3
      cases g3
      exact lent_inj h2 ln h1 g1
  let χ : Addr → Option Nat := fun b => if h : ∃ j, R j b then some h.choose else none
  have χR : ∀ {j b}, χ b = some j → R j b := fun {j b} e => by
    have e : (if h : ∃ j, R j b then some h.choose else none) = some j := e
    split at e
    · rename_i h
      cases e
      exact h.choose_spec
    · cases e
  have Rχ : ∀ {j b}, R j b → χ b = some j := fun {j b} h => by
    have hx : ∃ j, R j b := ⟨j, h⟩
    show (if h : ∃ j, R j b then some h.choose else none) = some j
    rw [dif_pos hx]
    exact congrArg some (Rinj hx.choose_spec h)
  have χn : ∀ {b}, (∀ j, ¬ R j b) → χ b = none := fun {b} h => by
    show (if h : ∃ j, R j b then some h.choose else none) = none
    exact dif_neg fun ⟨j, hj⟩ => h j hj
  have argV : ∀ {j o v}, os'[j]? = some o → vs'[j]? = some v → ∃ i, perm[j]? = some i ∧ os[i]? = some o ∧ vs[i]? = some v := fun {j o v} h1 h2 => by
    obtain ⟨i, p1, q1⟩ := hpg h1
    obtain ⟨i', p2, q2⟩ := hvg h2
    rw [p1] at p2
    cases p2
    exact ⟨i, p1, q1, q2⟩
  refine ⟨ss, χ, m, d, back, eg, by omega, fun j s v h1 h2 => ?_, fun b j h => ?_, fun v H' χ' ps fr dom' ownR ownB lkB => ?_⟩
  · have hj : j < os'.length := by rw [← sl]; exact (List.getElem?_eq_some_iff.mp h1).1
    have ho : os'[j]? = some os'[j] := List.getElem?_eq_getElem hj
    obtain ⟨s', g1, g2⟩ := sg ho
    rw [h1] at g1
    cases g1
    obtain ⟨i, p1, q1, q2⟩ := argV ho h2
    cases hoj : os'[j] with
    | val m0 d0 =>
      rw [hoj] at g2 q1 ho
      cases g2
      have ht : (T ++ pushs os vs)[T.length + tix os i]? = some ⟨m0, d0, v⟩ := by
        rw [List.getElem?_append_right (by omega), Nat.add_sub_cancel_left]
        exact pushs_at q1 q2
      exact (w.tmp _ _ ht).mv (.refl H) (fun b z => Rχ (.inl ⟨m0, d0, i, ho, p1, z⟩)) fun _ _ => rfl
    | ref i0 =>
      rw [hoj] at g2 q1 ho
      simp only [argOf] at g2
      split at g2
      · rename_i s0 hs0
        cases g2
        have hσ : σ[i0]? = some (some v) := opvs_get ov q1 q2
        obtain ⟨v', hv', own⟩ := w.slot i0 _ hs0
        rw [hσ] at hv'
        cases hv'
        by_cases hl : isLent a i0
        · exact own.mv (.refl H) (fun b z => Rχ (.inr ⟨i0, ho, hl, z⟩)) fun _ _ => rfl
        · have : (flat s.d || decide (s.m = 0)) = true := by
            cases hf : (flat s.d || decide (s.m = 0)) with
            | true => rfl
            | false => exact absurd ⟨s, hs0, hf⟩ hl
          rw [Bool.or_eq_true, decide_eq_true_iff] at this
          rcases this with f | f
          · exact Own.of_flat f (own.im_flat f)
          · rw [f] at own ⊢
            exact own
      · cases g2
    | sub i0 x =>
      have := List.any_eq_false.mp dp _ (List.mem_of_getElem? ho)
      rw [hoj] at this
      exact absurd rfl this
  · obtain ⟨y, hy⟩ := Rω (χR h)
    exact (w.dom b y hy).1
  · -- behind the call
    have keep : ∀ {b y}, ω b = some y → χ b = none → H' b = H b ∧ χ' b = none := fun {b y} hy hc => by
      have hs := (w.dom b y hy).1
      obtain ⟨o, ho⟩ := Option.isSome_iff_exists.mp hs
      refine ⟨by rw [fr b o ho hc, ho], ?_⟩
      cases hx : χ' b with
      | none => rfl
      | some x =>
        rcases (dom' b x hx).2 with q | q
        · rw [hc] at q; cases q
        · rw [q] at hs; cases hs
    let ω'' : Addr → Option Hd := fun b => match χ' b with
      | some none => some (.tm T.length)
      | some (some j) => (match os'[j]? with
        | some (.ref i) => if isLent a i then some (.sl i) else none
        | _ => none)
      | none => if (χ b).isSome then none else match ω b with
        | some (.tm k) => if k < T.length then some (.tm k) else none
        | x => x
    have ωk : ∀ {b}, χ' b = none → χ b = none → ω'' b = match ω b with
        | some (.tm k) => if k < T.length then some (.tm k) else none
        | x => x := fun {b} h1 h2 => by
      show (match χ' b with
        | some none => some (Hd.tm T.length)
        | some (some j) => (match os'[j]? with
          | some (.ref i) => if isLent a i then some (.sl i) else none
          | _ => none)
        | none => if (χ b).isSome then none else match ω b with
          | some (.tm k) => if k < T.length then some (.tm k) else none
          | x => x) = _
      rw [h1, h2]
      rfl
    refine k v H' ω'' ⟨fun b h e => ?_, fun b o h n => ?_, w.pst.trans ps, fun i s e => ?_, fun j t e => ?_, fun i s u e1 e2 e3 => ?_, by rw [backs_length]; exact w.len⟩
    · cases hx : χ' b with
      | some x =>
        obtain ⟨q1, q2⟩ := dom' b x hx
        refine ⟨q1, ?_⟩
        rcases q2 with q2 | q2
        · obtain ⟨j, hj⟩ := Option.isSome_iff_exists.mp q2
          obtain ⟨y, hy⟩ := Rω (χR hj)
          exact (w.dom b y hy).2
        · rcases w.old0 q2 with q | q
          · exact .inr q
          · exact .inl q
      | none =>
        cases hc : χ b with
        | some j =>
          have e : ω'' b = some h := e
          have : ω'' b = none := by
            show (match χ' b with
              | some none => some (Hd.tm T.length)
              | some (some j) => (match os'[j]? with
                | some (.ref i) => if isLent a i then some (.sl i) else none
                | _ => none)
              | none => if (χ b).isSome then none else match ω b with
                | some (.tm k) => if k < T.length then some (.tm k) else none
                | x => x) = _
            rw [hx, hc]
            rfl
          rw [this] at e
          cases e
        | none =>
          have e : ω'' b = some h := e
          rw [ωk hx hc] at e
          have hy : ∃ y, ω b = some y := by
            cases ho : ω b with
            | none => rw [ho] at e; cases e
            | some y => exact ⟨y, rfl⟩
          obtain ⟨y, hy⟩ := hy
          refine ⟨?_, (w.dom b y hy).2⟩
          rw [(keep hy hc).1]
          exact (w.dom b y hy).1
    · have h1 := w.old b o h n
      refine fr b o h1 ?_
      cases hc : χ b with
      | none => rfl
      | some j =>
        obtain ⟨y, hy⟩ := Rω (χR hc)
        rcases (w.dom b y hy).2 with q | q
        · exact absurd q n
        · rw [q] at h; cases h
    · rcases backs_get bl.symm ln i with ⟨j, s0, h1, h2, h3, h4⟩ | ⟨h1, h2⟩
      · rw [h4] at e
        cases e
        have hj : j < vs'.length := by rw [hvl, ← hpl]; exact (List.getElem?_eq_some_iff.mp h1).1
        have hvj : vs'[j]? = some vs'[j] := List.getElem?_eq_getElem hj
        obtain ⟨i0, p1, q1, q2⟩ := argV h1 hvj
        have hσ : σ[i]? = some (some vs'[j]) := opvs_get ov q1 q2
        refine ⟨_, hσ, (ownB j s _ h3 hvj).mv (.refl _) (fun b z => ?_) fun _ _ => rfl⟩
        have z : χ' b = some (some j) := z
        show (match χ' b with
          | some none => some (Hd.tm T.length)
          | some (some j) => (match os'[j]? with
            | some (.ref i) => if isLent a i then some (.sl i) else none
            | _ => none)
          | none => if (χ b).isSome then none else match ω b with
            | some (.tm k) => if k < T.length then some (.tm k) else none
            | x => x) = _
        rw [z]
        dsimp only
        rw [h1]
        exact if_pos h2
      · rw [h2] at e
        obtain ⟨u, hu, own⟩ := w.slot i s e
        have cn : ∀ {b}, ω b = some (.sl i) → χ b = none := fun {b} z => χn fun j hR => by
          rcases hR with ⟨_, _, _, _, _, g⟩ | ⟨i1, g1, g2, g3⟩
          · rw [z] at g; cases g
          · rw [z] at g3; cases g3; exact h1 j g1 g2
        refine ⟨u, hu, own.mv ps (fun b z => ?_) fun b z => (keep z (cn z)).1⟩
        have z : ω b = some (.sl i) := z
        show ω'' b = _
        rw [ωk (keep z (cn z)).2 (cn z), z]
    · by_cases hj : j < T.length
      · rw [List.getElem?_append_left hj] at e
        have cn : ∀ {b}, ω b = some (.tm j) → χ b = none := fun {b} z => χn fun j' hR => by
          rcases hR with ⟨_, _, _, _, _, g⟩ | ⟨i1, g1, g2, g3⟩
          · rw [z] at g
            have := Hd.tm.inj (Option.some.inj g)
            omega
          · rw [z] at g3; cases g3
        refine (w.tmp j t (by rw [List.getElem?_append_left hj]; exact e)).mv ps (fun b z => ?_) fun b z => (keep z (cn z)).1
        have z : ω b = some (.tm j) := z
        show ω'' b = _
        rw [ωk (keep z (cn z)).2 (cn z), z]
        exact if_pos hj
      · by_cases hj2 : j = T.length
        · subst hj2
          rw [List.getElem?_append_right (Nat.le_refl _), Nat.sub_self] at e
          cases e
          refine ownR.mv (.refl _) (fun b z => ?_) fun _ _ => rfl
          have z : χ' b = some none := z
          show (match χ' b with
            | some none => some (Hd.tm T.length)
            | some (some j) => (match os'[j]? with
              | some (.ref i) => if isLent a i then some (.sl i) else none
              | _ => none)
            | none => if (χ b).isSome then none else match ω b with
              | some (.tm k) => if k < T.length then some (.tm k) else none
              | x => x) = _
          rw [z]
        · rw [List.getElem?_eq_none (by rw [List.length_append]; show T.length + 1 ≤ j; omega)] at e
          cases e
    · rcases backs_get bl.symm ln i with ⟨j, s0, h1, h2, h3, h4⟩ | ⟨h1, h2⟩
      · rw [h4] at e1
        cases e1
        have hss := lkB j s h3 e2
        obtain ⟨s', g1, g2⟩ := sg h1
        rw [hss] at g1
        cases g1
        simp only [argOf] at g2
        split at g2
        · rename_i s0 hs0
          cases g2
          exact w.lck i _ u hs0 e2 e3
        · cases g2
      · rw [h2] at e1
        exact w.lck i s u e1 e2 e3
end
end RV

set_option maxRecDepth 100000
/-! Ev27: calls of one's own defs. -/
namespace RV
open PySem L2 PySem.Spec PyProof.Rows
theorem pushs_app : ∀ {os os2 : List Opd} {vs vs2 : List V}, vs.length = os.length → pushs (os ++ os2) (vs ++ vs2) = pushs os vs ++ pushs os2 vs2
  | [], os2, [], vs2, _ => by simp [pushs]
  | [], _, _ :: _, _, h => by cases h
  | _ :: _, _, [], _, h => by cases h
  | o :: os, os2, v :: vs, vs2, h => by
    show push o v ++ pushs (os ++ os2) (vs ++ vs2) = push o v ++ pushs os vs ++ pushs os2 vs2
    rw [pushs_app (by simpa using h), List.append_assoc]
theorem opvs_app {K : PySem.W.Frag} {σ : L2.St} {a a' : A} {H H' : Hp} : ∀ {os os2 : List Opd} {vs vs2 : List V}, os.any Opd.deep = false → OpVs K σ a H os vs → OpVs K σ a' H' os2 vs2 → OpVs K σ a' H' (os ++ os2) (vs ++ vs2)
  | [], os2, vs, vs2, _, h, h2 => by cases h; exact h2
  | o :: os, os2, vs, vs2, d, h, h2 => by
    obtain ⟨v, r, rfl, hv, hr⟩ := h
    rw [List.any_cons, Bool.or_eq_false_iff] at d
    exact ⟨v, r ++ vs2, rfl, opv_any hv d.1, opvs_app d.2 hr h2⟩
theorem permO_map {α β : Type} {R : α → β → Prop} {xs : List α} {ys : List β} (hl : xs.length = ys.length) (h : ∀ (i : Nat) x y, xs[i]? = some x → ys[i]? = some y → R x y) : ∀ {perm : List Nat} {us : List α}, permO xs perm = some us → ∃ vs, permO ys perm = some vs ∧ us.length = vs.length ∧ ∀ (i : Nat) x y, us[i]? = some x → vs[i]? = some y → R x y
  | [], us, e => by cases e; exact ⟨[], rfl, rfl, fun i x y h => by simp at h⟩
  | i :: r, us, e => by
    simp only [permO, Option.bind_eq_some_iff, Option.map_eq_some_iff] at e
    obtain ⟨x, hx, zs, hz, rfl⟩ := e
    obtain ⟨vs, hv, hl2, hr⟩ := permO_map hl h hz
    have hi : i < ys.length := by rw [← hl]; exact (List.getElem?_eq_some_iff.mp hx).1
    have hy : ys[i]? = some ys[i] := List.getElem?_eq_getElem hi
    refine ⟨ys[i] :: vs, by simp only [permO, hy, hv, Option.bind_some, Option.map_some], by simp [hl2], fun j x' y' h1 h2 => ?_⟩
    cases j with
    | zero => simp at h1 h2; subst h1 h2; exact h i _ _ hx hy
    | succ j => exact hr j x' y' (by simpa using h1) (by simpa using h2)
theorem vals_at : ∀ {vs : List V} {us : List Value}, vs.length = us.length → (∀ (i : Nat) x y, vs[i]? = some x → us[i]? = some y → L2.RelV x y) → Vals vs us
  | [], [], _, _ => .nil
  | [], _ :: _, h, _ => by cases h
  | _ :: _, [], h, _ => by cases h
  | v :: vs, u :: us, h, k => .cons (k 0 v u rfl rfl) (vals_at (by simpa using h) fun i x y h1 h2 => k (i + 1) x y (by simpa using h1) (by simpa using h2))
/-- how a call binds: n positional arguments, the keywords ks -/
def BindsG (fd : FuncData) (ps ks : List Str) (n : Nat) (perm : List Nat) : Prop :=
  perm.length = ps.length ∧ ∀ (us ws zs : List Value), us.length = n → ws.length = ks.length → permO (us ++ ws) perm = some zs → bindArgs fd ⟨us, ks.zip ws⟩ = pure (ps.zip zs)
def tCallG (K : PySem.W.Frag) (g : List Sl → Option (Nat × D × List (Option Sl))) (n m : Nat) (perm : List Nat) (t tk : TA) : TE := fun σ H Q => t σ H fun vs H1 => tk σ H1 fun zs H2 => vs.length = n ∧ zs.length = m ∧ ∃ ys, permO (vs ++ zs) perm = some ys ∧ spT K g ys H2 Q
section
variable {X : Cx} {k n : Nat} {f : Addr} {fd : FuncData} {ps ks : List Str} {g : List Sl → Option (Nat × D × List (Option Sl))} {perm : List Nat} {x : Str} {p pos : Pos} {e : Expr} {es : List Expr} {kws : List Keyword} {t tk : TA} {rs rk : RAs} {q qs qk : Bool}
theorem runG {pins : List (Addr × Obj)} {σ : L2.St} {H : Hp} {s : Shared} {Q : VK} {us ws : List Value} {vs zs ys : List V} (F : FnG X.prog X.w X.K X.mg X.base k f fd ps (spT X.K g)) (hr : Room k X.A) (hgd : X.A.guards = some []) (hb : BindsG fd ps ks n perm)
    (I : Inv X pins σ H s) (r : Vals vs us) (rz : Vals zs ws) (hn : vs.length = n) (hm : zs.length = ks.length) (hp : permO (vs ++ zs) perm = some ys) (h : spT X.K g ys H Q) : wpAny (model X.prog X.w) X.A (call (.ref f) us (ks.zip ws)) (EP X pins σ Q) X.xe s := by
  have r2 := r.append rz
  obtain ⟨ys', hp', hl, hrel⟩ := permO_map (R := L2.RelV) r2.length (fun i x y h1 h2 => by
    obtain ⟨u, hu, ru⟩ := r2.get h1
    rw [h2] at hu
    cases hu
    exact ru) hp
  have hyl : ys.length = ps.length := by rw [(permO_get hp).1]; exact hb.1
  refine wpAny_call (codeAny_mono (F X.A X.stack s H ⟨us, ks.zip ws⟩ ys' ys Q hr hgd I.env0 (.of_eq (hb.2 us ws ys' (by rw [← r.length]; exact hn) (by rw [← rz.length]; exact hm) hp')) (vals_at hl hrel) hyl h) fun r s' hq => ?_)
  cases r with
  | error e => exact False.elim hq
  | ok fl =>
    cases fl with
    | ret u => exact I.after hq
    | next => exact False.elim hq
    | brk => exact False.elim hq
    | cont => exact False.elim hq
/-- f(e, ..) -/
theorem pe_callG (F : FnG X.prog X.w X.K X.mg X.base k f fd ps (spT X.K g)) (hr : Room k X.A) (hgd : X.A.guards = some []) (hg : Gl X x) (hm : X.mg x = some (.ref f)) (hk : PySem.W.keepIn X.K (.ref f) = true) (hb : BindsG fd ps [] n perm)
    (ha : PA X (e :: es) t) (hdb : (x == ("__debug__" : Str)) = false) (he : starEach (e :: es) X.env = (false, eval e X.env) :: starEach es X.env) (hpl : (backTo pos (starEach es X.env)).any (·.1) = false) :
    PE X (.Call (.Name x p) (e :: es) [] pos) (tCallG X.K g n 0 perm t tNil) := by
  refine ⟨fun pins s σ H Q I h => ?_⟩
  refine wpAny_Call_Name_kw (ld_glob I hg hm ?_ hdb)
  refine PySem.W.callWith_K (h₀ := X.base) I.ok.mod.kin hk (thn (ha.run pos pins s σ H _ I h) fun us s1 ⟨vs, H1, I1, r, hn, _, ys, hp, q⟩ => ⟨I1.kIn, ?_⟩) he hpl
  exact runG (ks := []) (ws := []) (zs := []) F hr hgd hb I1 r .nil hn rfl hp q
/-- f(e, .., k = v, ..) -/
theorem pe_callGK (F : FnG X.prog X.w X.K X.mg X.base k f fd ps (spT X.K g)) (hr : Room k X.A) (hgd : X.A.guards = some []) (hg : Gl X x) (hm : X.mg x = some (.ref f)) (hk : PySem.W.keepIn X.K (.ref f) = true) (hb : BindsG fd ps ks n perm)
    (ha : PA X (e :: es) t) (hkw : PK X kws tk) (hall : (backToKw pos (keywordEach kws X.env)).all (·.1.isSome) = true) (hks : (backToKw pos (keywordEach kws X.env)).filterMap (·.1) = ks)
    (hdb : (x == ("__debug__" : Str)) = false) (he : starEach (e :: es) X.env = (false, eval e X.env) :: starEach es X.env)
    (hpl : ((backTo pos (starEach (e :: es) X.env)).any (·.1) || (backToKw pos (keywordEach kws X.env)).any (·.1.isNone)) = false) :
    PE X (.Call (.Name x p) (e :: es) kws pos) (tCallG X.K g n ks.length perm t tk) := by
  refine ⟨fun pins s σ H Q I h => ?_⟩
  refine wpAny_Call_Name_kw (ld_glob I hg hm ?_ hdb)
  refine PySem.W.callWith_KW (h₀ := X.base) I.ok.mod.kin hk hall (thn (ha.run pos pins s σ H _ I h) fun us s1 ⟨vs, H1, I1, r, q⟩ => ?_) hpl he
  refine thn (hkw.run pos pins s1 σ H1 _ I1 q) fun ws s2 ⟨zs, H2, I2, rz, hn, hm2, ys, hp, q2⟩ => ⟨I2.kIn, ?_⟩
  rw [hks]
  exact runG F hr hgd hb I2 r rz hn hm2 hp q2
theorem callG_tR {w m : Nat} {σ : L2.St} {H : Hp} {Q : VK} (l1 : ∀ a p, rs a = some p → p.1.length = n) (l2 : ∀ a p, rk a = some p → p.1.length = m) (h : tR X.K (callEvF g rs rk perm w) q σ H Q) (hq : q = false) :
    tCallG X.K g n m perm (tAs X.K rs qs) (tAs X.K rk qk) σ H (fun v H' => Gz (Q v) H') := by
  subst hq
  obtain ⟨S0, H0, ω, a, T, o, a', wd, e, kk⟩ := h
  unfold callEvF at e
  simp only [Option.bind_eq_some_iff] at e
  obtain ⟨p, ep, p2, ep2, os', hpo, e⟩ := e
  split at e
  · cases e
  rename_i hc
  simp only [Bool.or_eq_true, Bool.not_eq_true', not_or, Bool.not_eq_true, Bool.not_eq_false] at hc
  obtain ⟨⟨⟨c0, c1⟩, c2⟩, c3⟩ := hc
  simp only [Option.bind_eq_some_iff] at e
  obtain ⟨ss, es, r, eg, e⟩ := e
  split at e
  · rename_i hk
    rw [Bool.and_eq_true, decide_eq_true_iff] at hk
    cases e
    refine ⟨S0, H0, ω, a, T, p.1, p.2, wd, ep, fun vs H1 ω1 w1 o1 _ => ⟨S0, H0, ω1, p.2, _, p2.1, p2.2, w1, ep2, fun zs H2 ω2 w2 o2 _ => ?_⟩⟩
    have hv := opvs_len o1
    have hz := opvs_len o2
    have w3 : W X.K S0 H0 ω2 p2.2 σ (T ++ pushs (p.1 ++ p2.1) (vs ++ zs)) H2 := by
      rw [pushs_app hv, ← List.append_assoc]
      exact w2
    have d0 : p.1.any Opd.deep = false := by
      rw [List.any_append, Bool.or_eq_false_iff] at c0
      exact c0.1
    have ov := opvs_app (a' := p2.2) (H' := H2) d0 o1 o2
    obtain ⟨ys, hys, _, _⟩ := permO_map (R := fun _ _ => True) (xs := p.1 ++ p2.1) (ys := vs ++ zs) (by simp [hv, hz]) (fun _ _ _ _ _ => trivial) hpo
    refine ⟨by rw [hv]; exact l1 _ _ ep, by rw [hz]; exact l2 _ _ ep2, ys, hys, ?_⟩
    refine call_fin w3 ov hpo hys c1 c2 c3 es eg hk.2 fun v H' ω' w' => ?_
    have ho := hk.1
    unfold outOk at ho
    simp only [Bool.or_eq_true, decide_eq_true_eq] at ho
    rcases ho with (ho | ho) | ho
    · exact .done (kk v H' ω' (w'.drop.pushIm (w'.last.im_flat ho) (.inl ho)) trivial fun z => by cases z)
    · rw [← ho] at w'
      exact .done (kk v H' ω' w' trivial fun z => by cases z)
    · subst ho
      exact w'.ice.mono fun H3 w3 => kk v H3 ω' w3 trivial fun z => by cases z
  · cases e
end
end RV

set_option maxRecDepth 100000
/-! Ev28: calls without positional arguments; several targets; built-ins by name. -/
namespace RV
open PySem L2 PySem.Spec PyProof.Rows
section
variable {X : Cx} {k n : Nat} {f : Addr} {fd : FuncData} {ps ks : List Str} {g : List Sl → Option (Nat × D × List (Option Sl))} {perm : List Nat} {x : Str} {p pos : Pos} {e : Expr} {es : List Expr} {kws : List Keyword} {t tk : TA} {rs rk : RAs} {q qs qk : Bool}
/-- f(k = v, ..) -/
theorem pe_callGK0 (F : FnG X.prog X.w X.K X.mg X.base k f fd ps (spT X.K g)) (hr : Room k X.A) (hgd : X.A.guards = some []) (hg : Gl X x) (hm : X.mg x = some (.ref f)) (hk : PySem.W.keepIn X.K (.ref f) = true) (hb : BindsG fd ps ks 0 perm)
    (hkw : PK X kws tk) (hall : (backToKw pos (keywordEach kws X.env)).all (·.1.isSome) = true) (hks : (backToKw pos (keywordEach kws X.env)).filterMap (·.1) = ks)
    (hdb : (x == ("__debug__" : Str)) = false) (hpl : ((backTo pos (starEach [] X.env)).any (·.1) || (backToKw pos (keywordEach kws X.env)).any (·.1.isNone)) = false) :
    PE X (.Call (.Name x p) [] kws pos) (tCallG X.K g 0 ks.length perm tNil tk) := by
  refine ⟨fun pins s σ H Q I h => ?_⟩
  refine wpAny_Call_Name_kw (ld_glob I hg hm ?_ hdb)
  refine PySem.W.callWith_KW0 (h₀ := X.base) I.ok.mod.kin hk hall (thn (hkw.run pos pins s σ H _ I h) fun ws s2 ⟨zs, H2, I2, rz, hn, hm2, ys, hp, q2⟩ => ⟨I2.kIn, ?_⟩) hpl
  rw [hks]
  exact runG (us := []) (vs := []) F hr hgd hb I2 .nil rz hn hm2 hp q2
/-- the keywords' values -/
theorem pk_imp {t t' : TA} (h : PK X kws t) (i : ∀ σ H Q, t' σ H Q → t σ H Q) : PK X kws t' :=
  ⟨fun p pins s σ H Q I hw => h.run p pins s σ H Q I (i _ _ _ hw)⟩
theorem nil_tAs {σ : L2.St} {H : Hp} {Q : List V → Hp → Prop} (h : tAs X.K nilAs q σ H Q) : tNil σ H Q := by
  obtain ⟨S0, H0, ω, a, T, os, a', w, e, k⟩ := h
  cases e
  exact k [] H ω (by simpa [pushs] using w) rfl fun _ => ⟨.refl H, rfl⟩
theorem cons_tAs {ra : REv} {rs : RAs} {qa qs : Bool} {σ : L2.St} {H : Hp} {Q : List V → Hp → Prop} (hq : q = true → qa = true ∧ qs = true) (h : tAs X.K (consAs ra rs qs) q σ H Q) : tCons (tR X.K ra qa) (tAs X.K rs qs) σ H Q := by
  obtain ⟨S0, H0, ω, a, T, os, a', w, ee, k⟩ := h
  unfold consAs at ee
  simp only [Option.bind_eq_some_iff] at ee
  obtain ⟨p, e1, p2, e2, ee⟩ := ee
  split at ee
  · cases ee
  rename_i hd
  cases ee
  refine ⟨S0, H0, ω, a, T, p.1, p.2, w, e1, fun x H1 ω1 w1 o1 q1 => ⟨S0, H0, ω1, p.2, _, p2.1, p2.2, w1, e2, fun vs H2 ω2 w2 o2 q2 => ?_⟩⟩
  rw [List.append_assoc] at w2
  refine k (x :: vs) H2 ω2 w2 ⟨x, vs, rfl, opv_keep o1 ((deep_or hd).imp id fun h => q2 h), o2⟩ fun hq' => ?_
  obtain ⟨h1, h2⟩ := hq hq'
  obtain ⟨s1, e1⟩ := q1 h1
  obtain ⟨s2, e2⟩ := q2 h2
  exact ⟨s1.trans s2, e2.trans e1⟩
theorem pk_nilE : PK X [] (tAs X.K nilAs q) := pk_imp pk_nil fun _ _ _ h => nil_tAs h
theorem pk_consE {ra : REv} {rs : RAs} {qa qs : Bool} {nm : Option Str} {kpos : Pos} (hq : q = true → qa = true ∧ qs = true) (ha : PE X e (tR X.K ra qa)) (hr : PK X kws (tAs X.K rs qs)) : PK X (⟨nm, e, kpos⟩ :: kws) (tAs X.K (consAs ra rs qs) q) :=
  pk_imp (pk_cons ha hr) fun _ _ _ h => cons_tAs hq h
theorem len_nil : ∀ a p, nilAs a = some p → p.1.length = 0 := fun a p h => by cases h; rfl
theorem len_cons {ra : REv} {rs : RAs} {qs : Bool} {n : Nat} (h : ∀ a p, rs a = some p → p.1.length = n) : ∀ a p, consAs ra rs qs a = some p → p.1.length = n + 1 := fun a p e => by
  unfold consAs at e
  simp only [Option.bind_eq_some_iff] at e
  obtain ⟨u, e1, v, e2, e⟩ := e
  split at e
  · cases e
  · cases e
    simp [h _ _ e2]
/-! ### a, b = e -/
theorem unp_run {rm : Nat × List Nat} {re : REv} {qe : Bool} {ts : Tgs} {D : Ends} {σ : L2.St} {H : Hp} {inn : List Nat → Bool} (hin : inn rm.2 = true) (h : tS X.K rm (unpS re ts) D σ H) : tAsg (tR X.K re qe) (tG X.K (bindT (.tp ts)) inn) D σ H := by
  obtain ⟨S0, H0, ω, a, T, fl, a', w, e, k⟩ := h
  unfold unpS at e
  simp only [Option.bind_eq_some_iff] at e
  obtain ⟨p, e1, e⟩ := e
  split at e
  · rename_i m ds hp
    split at e
    · rename_i h0
      simp only [Option.map_eq_some_iff] at e
      obtain ⟨a1, eb, e⟩ := e
      cases e
      refine ⟨S0, H0, ω, a, T, p.1, p.2, w, e1, fun v H1 ω1 w1 _ _ => ?_⟩
      rw [hp] at w1
      exact ⟨S0, H0, ω1, p.2, T, .tuple ds, a', w1.drop, w1.last.im_flat rfl, eb, fun σ' ω' w' hw => k σ' H1 ω' w' (hw _ hin)⟩
    · cases e
  · cases e
theorem ps_unpE {rm : Nat × List Nat} {re : REv} {qe : Bool} {ts : Tgs} {tg : Expr} {inn : List Nat → Bool} (hin : inn rm.2 = true) (he : PE X e (tR X.K re qe)) (hg : PG X tg (tG X.K (bindT (.tp ts)) inn)) (hs : swapsWithSole [tg] e pos.line X.env = pure false) (hw : swappedStores [tg] e X.env = pure none) (h1 : (assignEach [tg] X.env).map (·.2) = [assign tg X.env]) :
    PS X (.Assign [tg] e pos) (tS X.K rm (unpS re ts)) := ps_imp (ps_asg he hg hs hw h1) fun D σ H h => unp_run hin h
/-! ### a, b = e, f at once -/
theorem W.store2 {K : PySem.W.Frag} {S0 : Bk} {H0 H : Hp} {ω : Addr → Option Hd} {a : A} {σ : L2.St} {T : List Tm} {t : Tm} (w : W K S0 H0 ω a σ (T ++ [t]) H) (i : Nat) : ∃ ω', W K S0 H0 ω' (a.set i (some ⟨t.m, false, t.d⟩)) (σ.set i (some t.v)) T H := by
  by_cases hi : i < a.length
  · exact ⟨_, w.store i (by rw [← w.len]; exact hi) hi⟩
  · rw [List.set_eq_of_length_le (by omega), List.set_eq_of_length_le (by rw [← w.len]; omega)]
    exact ⟨ω, w.drop⟩
theorem par2_run {rm : Nat × List Nat} {i m j m2 : Nat} {D : Ends} {σ : L2.St} {H : Hp} (hij : i ≠ j) (hi : rm.2.contains i = true) (hj : rm.2.contains j = true) (h : tS X.K rm (par2S i m j m2 rs) D σ H) : tPar i j (tAs X.K rs qs) D σ H := by
  obtain ⟨S0, H0, ω, a, T, fl, a', w, e, k⟩ := h
  unfold par2S at e
  simp only [Option.bind_eq_some_iff] at e
  obtain ⟨p, e1, e⟩ := e
  split at e
  · rename_i k1 d1 k2 d2 hp
    split at e
    · rename_i hm
      obtain ⟨rfl, rfl⟩ := hm
      cases e
      refine ⟨S0, H0, ω, a, T, p.1, p.2, w, e1, fun vs H1 ω1 w1 ov _ => ?_⟩
      rw [hp] at ov w1
      obtain ⟨x, r1, rfl, _, y, r2, rfl, _, hr⟩ := ov
      cases hr
      have w2 : W X.K S0 H0 ω1 p.2 σ ((T ++ [⟨k1, d1, x⟩]) ++ [⟨k2, d2, y⟩]) H1 := by simpa [pushs, push] using w1
      obtain ⟨ω2, w3⟩ := w2.store2 j
      obtain ⟨ω3, w4⟩ := w3.store2 i
      rw [List.set_comm _ _ (Ne.symm hij), List.set_comm (l := σ) _ _ (Ne.symm hij)] at w4
      exact ⟨x, y, rfl, k _ H1 ω3 w4 (by rw [wipe_set hj, wipe_set hi])⟩
    · cases e
  · cases e
end
end RV

set_option maxRecDepth 100000
/-! Ev29: built-ins by name; isinstance. -/
namespace RV
open PySem L2 PySem.Spec PyProof.Rows
/-! ### dict(pairs) -/
theorem putK_nodup {kvs : List (Key × V)} {k : Key} {x : V} (h : (kvs.map (·.1)).Nodup) : ((putK kvs k x).map (·.1)).Nodup := by
  unfold putK
  split
  · rw [List.map_map]
    have e : ((fun kv : Key × V => kv.1) ∘ fun kv => if kv.1 = k then (kv.1, x) else kv) = fun kv => kv.1 := by
      funext kv
      simp only [Function.comp]
      split <;> rfl
    rw [e]
    exact h
  · rename_i hn
    rw [List.map_append, List.nodup_append]
    refine ⟨h, by simp, fun a ha b hb e => hn ?_⟩
    simp at hb
    subst hb e
    obtain ⟨q, hq, e⟩ := List.mem_map.mp ha
    exact List.any_eq_true.mpr ⟨q, hq, by simpa using e⟩
/-- pairs of data and their dict in the heap -/
structure DRel (K : PySem.W.Frag) (H : Hp) (kds : List (D × D)) (kvs : List (Key × V)) : Prop where
  ks : kds.map (·.1) = kvs.map (fun p => keyD p.1)
  nd : (kvs.map (·.1)).Nodup
  im : ∀ (i : Nat) (e : D × D) y, kds[i]? = some e → (kvs.map (·.2))[i]? = some y → Im K H e.2 y
theorem DRel.put {K : PySem.W.Frag} {H : Hp} {kds : List (D × D)} {kvs : List (Key × V)} {k : Key} {d : D} {x : V} (h : DRel K H kds kvs) (i : Im K H d x) : DRel K H (dput kds (keyD k) d) (putK kvs k x) := by
  obtain ⟨h1, c, h2, h3⟩ := dput_rel k d x h.ks h.nd
  refine ⟨h1, putK_nodup h.nd, fun j e y he hy => ?_⟩
  by_cases hj : j = c
  · subst hj
    obtain ⟨e1, e2⟩ := h3 e y he hy
    rw [e1, e2]
    exact i
  · obtain ⟨e1, e2⟩ := h2 j e y hj he hy
    exact h.im j e y e1 e2
theorem dictOf_rel {K : PySem.W.Frag} {H : Hp} : ∀ {ds : List D} {xs : List V} {acc out : List (D × D)} {kvs : List (Key × V)}, ImA K H ds xs → dictOf acc ds = some out → DRel K H acc kvs →
    ∃ (ps : List Addr) (more : List (Key × V)), xs = ps.map V.ref ∧ Paired (fun p kv => SqT K H p [kV kv.1, kv.2]) ps more ∧ DRel K H out (mergeK kvs more)
  | [], xs, acc, out, kvs, h, e, r => by
    unfold ImA at h
    unfold dictOf at e
    cases e
    exact ⟨[], [], h, .nil, r⟩
  | d :: ds, xs, acc, out, kvs, h, e, r => by
    unfold ImA at h
    obtain ⟨v, rest, rfl, hd, ht⟩ := h
    unfold dictOf at e
    split at e
    · rename_i heq
      cases heq
    · rename_i k w r2 heq
      cases heq
      split at e
      · rename_i hk
        unfold Im at hd
        obtain ⟨p, ys, rfl, hp, hy⟩ := hd
        unfold ImA at hy
        obtain ⟨v1, r1, rfl, i1, hy⟩ := hy
        unfold ImA at hy
        obtain ⟨v2, r3, rfl, i2, hy⟩ := hy
        unfold ImA at hy
        subst hy
        obtain ⟨key, rfl, rfl⟩ := key_of_d hk i1
        obtain ⟨ps, more, e1, e2, e3⟩ := dictOf_rel ht e (r.put i2)
        subst e1
        exact ⟨p :: ps, (key, v2) :: more, rfl, .cons hp.1 e2, e3⟩
      · cases e
    · cases e
def rDictP (K : PySem.W.Frag) : List V → Hp → VK → Prop := fun xs H Q => ∃ (a : Addr) (ps : List Addr) (kvs : List (Key × V)), xs = [.ref a] ∧ SqL K H a (ps.map V.ref) ∧ Paired (fun p kv => SqT K H p [kV kv.1, kv.2]) ps kvs ∧
    ∀ p, H p = none → Q (.ref p) (upd H p (.dK (mergeK [] kvs)))
theorem vn_dict {K : PySem.W.Frag} : ValN K (rDictP K) dictD := by
  intro H vs us d Q o e k
  unfold dictD at e
  split at e
  · obtain ⟨v, rfl, z, F, o1⟩ := own_one o
    split at e
    · rename_i hz
      simp only [Option.map_eq_some_iff] at e
      obtain ⟨out, e, rfl⟩ := e
      obtain ⟨a, xs, rfl, q, im⟩ := kids_im o1 hz
      obtain ⟨ps, kvs, rfl, e2, e3⟩ := dictOf_rel (kvs := []) im e ⟨rfl, by simp, fun i e y he => by simp at he⟩
      refine ⟨a, ps, kvs, rfl, q, e2, fun p hp => k _ _ (.dict (xs := (mergeK [] kvs).map (·.2)) hp (.inl ⟨_, rfl, e3.ks, rfl⟩) ?_)⟩
      refine ImA.iff.mpr ⟨?_, fun i d' v' h1 h2 => ?_⟩
      · have := congrArg List.length e3.ks
        simpa using this
      · rw [List.getElem?_map] at h1
        cases hh : out[i]? with
        | none => rw [hh] at h1; cases h1
        | some e => rw [hh] at h1; cases h1; exact e3.im i e v' hh h2
    · cases e
  · cases e
def biNames : List Str := ["len", "abs", "max", "min", "sum", "sorted", "all", "any", "repr", "int", "str", "bool", "tuple", "list", "dict", "isinstance", "range", "enumerate", "zip", "set"]
structure Good (X : Cx) : Prop where
  nd : X.N.Nodup
  calm : X.calm = true
  un : X.A.units + 66 < cLine
  grd : X.A.guards = some []
  sys : ∃ o, X.base.get? sysModules = some o
  bl : ∀ x ∈ biNames, X.mg x = none
def biNm : Bi → Option Str
  | .len => some "len" | .abs => some "abs" | .max => some "max" | .min => some "min" | .sum => some "sum" | .sorted => some "sorted" | .all => some "all" | .any => some "any" | .repr => some "repr"
  | .int => some "int" | .str => some "str" | .bool => some "bool" | .tuple => some "tuple" | .list => some "list" | .dict => some "dict"
  | _ => none
section
variable {X : Cx} {x : Str} {p pos : Pos} {e : Expr} {es : List Expr} {rs : RAs} {q qs : Bool} {m : Nat}
theorem pe_bB {id : String} {r : List V → Hp → VK → Prop} {f : List (Nat × D) → Option D} (hc : CallR X (.builtin id) r) (hv : ValN X.K r f) (hq : q = true → qs = true) (hg : Gl X x) (hm : X.mg x = none) (hb : bootBuiltins x = some (.builtin id)) (ha : PA X (e :: es) (tAs X.K rs qs)) (hn : x ≠ "__name__") (hdb : (x == ("__debug__" : Str)) = false)
    (he : starEach (e :: es) X.env = (false, eval e X.env) :: starEach es X.env) (hpl : (backTo pos (starEach es X.env)).any (·.1) = false) : PE X (.Call (.Name x p) (e :: es) [] pos) (tR X.K (callEv rs f m) q) :=
  pe_imp (pe_gz (pe_callB hc hg hm hb ha hn hdb he hpl)) fun _ _ _ h => call_tR hv hq h
theorem pe_bT {T : String} {r : List V → Hp → VK → Prop} {f : List (Nat × D) → Option D} (hc : CallR X (.type T) r) (hv : ValN X.K r f) (hq : q = true → qs = true) (hg : Gl X x) (hm : X.mg x = none) (hb : bootBuiltins x = some (.type T)) (ha : PA X (e :: es) (tAs X.K rs qs)) (hn : x ≠ "__name__") (hdb : (x == ("__debug__" : Str)) = false)
    (he : starEach (e :: es) X.env = (false, eval e X.env) :: starEach es X.env) (hpl : (backTo pos (starEach es X.env)).any (·.1) = false) : PE X (.Call (.Name x p) (e :: es) [] pos) (tR X.K (callEv rs f m) q) :=
  pe_imp (pe_gz (pe_callTy hc hg hm hb ha hn hdb he hpl)) fun _ _ _ h => call_tR hv hq h
theorem pe_biE (G : Good X) (f : Bi) (hx : biNm f = some x) (hg : Gl X x) (hq : q = true → qs = true) (ha : PA X (e :: es) (tAs X.K rs qs)) (he : starEach (e :: es) X.env = (false, eval e X.env) :: starEach es X.env) (hpl : (backTo pos (starEach es X.env)).any (·.1) = false) :
    PE X (.Call (.Name x p) (e :: es) [] pos) (tR X.K (callEv rs (biD f) m) q) := by
  have hu : X.A.units + 64 < cLine := by have := G.un; omega
  cases f with
  | len => cases hx; exact pe_bB cr_lenAll vn_len hq hg (G.bl _ (by decide)) (by decide +kernel) ha (by decide) (by decide) he hpl
  | abs => cases hx; exact pe_bB call_abs vn_abs hq hg (G.bl _ (by decide)) (by decide +kernel) ha (by decide) (by decide) he hpl
  | max => cases hx; exact pe_bB (cr_maxAll G.calm hu) vn_max hq hg (G.bl _ (by decide)) (by decide +kernel) ha (by decide) (by decide) he hpl
  | min => cases hx; exact pe_bB (cr_minAll G.calm hu) vn_min hq hg (G.bl _ (by decide)) (by decide +kernel) ha (by decide) (by decide) he hpl
  | sum => cases hx; exact pe_bB (cr_sumAll G.calm) vn_sum hq hg (G.bl _ (by decide)) (by decide +kernel) ha (by decide) (by decide) he hpl
  | sorted => cases hx; exact pe_bB (cr_sortedAll G.calm hu) vn_sorted hq hg (G.bl _ (by decide)) (by decide +kernel) ha (by decide) (by decide) he hpl
  | all => cases hx; exact pe_bB (cr_all G.calm) vn_all hq hg (G.bl _ (by decide)) (by decide +kernel) ha (by decide) (by decide) he hpl
  | any => cases hx; exact pe_bB (cr_any G.calm) vn_any hq hg (G.bl _ (by decide)) (by decide +kernel) ha (by decide) (by decide) he hpl
  | repr => cases hx; exact pe_bB (cr_repr hu G.grd G.sys) vn_repr hq hg (G.bl _ (by decide)) (by decide +kernel) ha (by decide) (by decide) he hpl
  | int => cases hx; exact pe_bT call_int1 vn_int hq hg (G.bl _ (by decide)) (by decide +kernel) ha (by decide) (by decide) he hpl
  | str => cases hx; exact pe_bT call_str_int vn_str hq hg (G.bl _ (by decide)) (by decide +kernel) ha (by decide) (by decide) he hpl
  | bool => cases hx; exact pe_bT call_bool1 vn_bool hq hg (G.bl _ (by decide)) (by decide +kernel) ha (by decide) (by decide) he hpl
  | tuple => cases hx; exact pe_bT cr_tupleAll vn_tuple hq hg (G.bl _ (by decide)) (by decide +kernel) ha (by decide) (by decide) he hpl
  | list => cases hx; exact pe_bT (cr_listAll G.calm) vn_list hq hg (G.bl _ (by decide)) (by decide +kernel) ha (by decide) (by decide) he hpl
  | dict => cases hx; exact pe_bT (call_dictP G.calm) vn_dict hq hg (G.bl _ (by decide)) (by decide +kernel) ha (by decide) (by decide) he hpl
  | sortedSet => cases hx
  | lenSet => cases hx
  | rangeL => cases hx
  | rangeT => cases hx
/-! ### isinstance(a, T) -/
def isiTypes : List String := ["bool", "int", "str", "list", "tuple", "dict"]
def rIsiD (K : PySem.W.Frag) : List V → Hp → VK → Prop := fun vs H Q => ∃ (x : V) (T : String) (z : Bool) (m : Nat) (d : D) (F : Addr → Prop), vs = [x, .ty T] ∧ T ∈ isiTypes ∧ Own K H z m d x F ∧ Q (.bl (isKind d T)) H
theorem cr_isi : CallR X (.builtin "isinstance") (rIsiD X.K) := by
  intro pins s σ H vs us Q I r h
  obtain ⟨x, T, z, m, d, F, rfl, hT, o, q⟩ := h
  obtain ⟨u, u2, rfl, ru, r2⟩ := vals2 r
  cases (show u2 = Value.type T from r2)
  obtain ⟨as, rd, _⟩ := own_reads I o ru
  simp only [isiTypes, List.mem_cons, List.not_mem_nil, or_false] at hT
  rcases hT with rfl | rfl | rfl | rfl | rfl | rfl
  · exact PySem.W.isinstance_bool_data rd fun tk _ => ⟨.bl _, H, I.tok _, by cases d <;> rfl, q⟩
  · exact PySem.W.isinstance_int_data rd fun tk _ => ⟨.bl _, H, I.tok _, by cases d <;> rfl, q⟩
  · exact PySem.W.isinstance_str_data rd fun tk _ => ⟨.bl _, H, I.tok _, by cases d <;> rfl, q⟩
  · exact PySem.W.isinstance_list_data rd fun tk _ => ⟨.bl _, H, I.tok _, by cases d <;> rfl, q⟩
  · exact PySem.W.isinstance_tuple_data rd fun tk _ => ⟨.bl _, H, I.tok _, by cases d <;> rfl, q⟩
  · exact PySem.W.isinstance_dict_data rd fun tk _ => ⟨.bl _, H, I.tok _, by cases d <;> rfl, q⟩
theorem pe_isiE {ra : REv} {qa : Bool} {T : String} {y : Str} {p2 : Pos} (G : Good X) (hT : T ∈ isiTypes) (hy : y ∈ biNames) (hyb : bootBuiltins y = some (.type T)) (hq : q = true → qa = true) (hg : Gl X "isinstance") (hgy : Gl X y) (ha : PE X e (tR X.K ra qa)) (he : starEach [e, .Name y p2] X.env = (false, eval e X.env) :: starEach [.Name y p2] X.env)
    (hpl : (backTo pos (starEach [.Name y p2] X.env)).any (·.1) = false) (hn : y ≠ "__name__") (hdb : (y == ("__debug__" : Str)) = false) : PE X (.Call (.Name "isinstance" p) [e, .Name y p2] [] pos) (tR X.K (oneEv ra (isiD [T]) m) q) := by
  have hv : PE X (.Name y p2) (tC (.ty T)) := pe_bltn hgy (G.bl _ hy) hyb rfl hn hdb
  refine pe_imp (pe_gz (pe_callB (t := tCons (tR X.K ra qa) (tCons (tC (.ty T)) tNil)) cr_isi hg (G.bl _ (by decide)) (by decide +kernel) (pa_cons ha (pa_cons hv pa_nil rfl) he) (by decide) (by decide) he hpl)) fun σ H Q h => ?_
  have hval : Val1 X.K (fun x H Q => rIsiD X.K [x, .ty T] H Q) (isiD [T]) := by
    intro H x z1 m1 d1 F1 d Q o1 e k
    simp only [isiD, List.any_cons, List.any_nil, Bool.or_false, Option.some.injEq] at e
    subst e
    exact ⟨x, T, z1, m1, d1, F1, rfl, hT, o1, k _ _ (.bool _)⟩
  exact one_tR (m := m) hval hq h
end
end RV

set_option maxRecDepth 100000
/-! Ev30: x = [..]; three at once; dict displays. -/
namespace RV
open PySem L2 PySem.Spec PyProof.Rows
section
variable {X : Cx} {elt tgE iter : Expr} {ifs : List Expr} {ri : RIt} {rc : RTe} {re : REv} {tg : Tg} {w : Nat} {rm : Nat × List Nat}
theorem ps_asgLcE {i m : Nat} {y : Str} {py : Pos} {scope : Scope} {ow : List (Str × Nat)} {pos spos : Pos} {qc qe : Bool} (hst : rm.2.contains i = true) (hin : tgIn (ow.map (·.2)) tg = true) (hc : X.calm = true) (hN : X.N.Nodup) (hy : X.N[i]? = some y) (hyl : X.env.scope.names.lookup y = some .local)
    (hsw : swapsWith (.ListComp elt [⟨tgE, iter, ifs, 0⟩] scope pos) (some (.Name y py)) spos.line X.env = pure true) (hi : PI X tgE iter (tI X.K ri)) (ok : BlkOk X.N X.env.scope scope ow)
    (hg : ∀ (s : Shared) (H : Hp) (C : Addr) (cl : List (Str × Addr)) (fp : List Addr), PG (X.blk s H scope (compEnvC scope cl C X.env) fp) tgE (tG X.K (bindT tg) fun vs => tgIn vs tg)) (ht : ∀ (s : Shared) (H : Hp) (C : Addr) (cl : List (Str × Addr)) (fp : List Addr), PTs (X.blk s H scope (compEnvC scope cl C X.env) fp) ifs (tT X.K rc qc))
    (he : ∀ (s : Shared) (H : Hp) (C : Addr) (cl : List (Str × Addr)) (fp : List Addr), PE (X.blk s H scope (compEnvC scope cl C X.env) fp) elt (tR X.K re qe)) (hs : ∀ x, foldedSetIterable iter X.env x = pure x) :
    PS X (.Assign [.Name y py] (.ListComp elt [⟨tgE, iter, ifs, 0⟩] scope pos) spos) (tS X.K rm (asgS (lcEv (ow.map (·.2)) re tg ri rc w) i m)) :=
  ps_imp (ps_gz (ps_setLc hc hN hy hyl hsw hi ok hg ht he hs)) fun D σ H h => lc_run hin (asg_run (q := false) hst h)
/-! ### three at once -/
variable {rs : RAs} {qs : Bool}
theorem par3_run {i m j m2 l m3 : Nat} {D : Ends} {σ : L2.St} {H : Hp} (hij : i ≠ j) (hil : i ≠ l) (hjl : j ≠ l) (hi : rm.2.contains i = true) (hj : rm.2.contains j = true) (hl : rm.2.contains l = true) (h : tS X.K rm (par3S i m j m2 l m3 rs) D σ H) : tPar3 i j l (tAs X.K rs qs) D σ H := by
  obtain ⟨S0, H0, ω, a, T, fl, a', w, e, k⟩ := h
  unfold par3S at e
  simp only [Option.bind_eq_some_iff] at e
  obtain ⟨p, e1, e⟩ := e
  split at e
  · rename_i k1 d1 k2 d2 k3 d3 hp
    split at e
    · rename_i hm
      obtain ⟨rfl, rfl, rfl⟩ := hm
      cases e
      refine ⟨S0, H0, ω, a, T, p.1, p.2, w, e1, fun vs H1 ω1 w1 ov _ => ?_⟩
      rw [hp] at ov w1
      obtain ⟨x, r1, rfl, _, y, r2, rfl, _, z, r3, rfl, _, hr⟩ := ov
      cases hr
      have w2 : W X.K S0 H0 ω1 p.2 σ (((T ++ [⟨k1, d1, x⟩]) ++ [⟨k2, d2, y⟩]) ++ [⟨k3, d3, z⟩]) H1 := by simpa [pushs, push] using w1
      obtain ⟨ω2, w3⟩ := w2.store2 l
      obtain ⟨ω3, w4⟩ := w3.store2 j
      obtain ⟨ω4, w5⟩ := w4.store2 i
      refine ⟨x, y, z, rfl, k _ H1 ω4 ?_ (by rw [wipe_set hl, wipe_set hj, wipe_set hi])⟩
      have e1 : ∀ {α : Type} (xs : List α) (u v t : α), ((xs.set l t).set j v).set i u = ((xs.set i u).set j v).set l t := fun xs u v t => by
        rw [List.set_comm _ _ (Ne.symm hjl), List.set_comm _ _ (Ne.symm hil), List.set_comm _ _ (Ne.symm hij)]
      dsimp only at w5
      rw [e1, e1] at w5
      exact w5
    · cases e
  · cases e
end
end RV

set_option maxRecDepth 100000
/-! Ev31: dict displays. -/
namespace RV
open PySem L2 PySem.Spec PyProof.Rows
/-- the pairs of a display, from their values -/
def PairOk (K : PySem.W.Frag) (trs : List (TE × TE)) (kks : List Key) (rs : RAs) (q : Bool) : Prop := ∀ (σ : L2.St) (H : Hp) (Q : List (V × V) → Hp → Prop), tAs K rs q σ H (fun vs H2 => vs.length = kks.length → Q ((kks.map kV).zip vs) H2) → tPairs trs σ H Q
section
variable {X : Cx} {q qa qs : Bool} {rs : RAs} {ra : REv} {trs : List (TE × TE)} {kks : List Key}
theorem as_mono {σ : L2.St} {H : Hp} {Q Q' : List V → Hp → Prop} (h : tAs X.K rs q σ H Q) (k : ∀ v H', Q v H' → Q' v H') : tAs X.K rs q σ H Q' := by
  obtain ⟨S0, H0, ω, s, T, o, s', w, e, kk⟩ := h
  exact ⟨S0, H0, ω, s, T, o, s', w, e, fun v H' ω' w' o' q' => k _ _ (kk v H' ω' w' o' q')⟩
theorem pairs_nilE : PairOk X.K [] [] nilAs q := fun σ H Q h => nil_tAs h rfl
theorem pairs_consE {k : Key} (hq : q = true → qa = true ∧ qs = true) (h : PairOk X.K trs kks rs qs) : PairOk X.K ((tC (kV k), tR X.K ra qa) :: trs) (k :: kks) (consAs ra rs qs) q := fun σ H Q e =>
  tr_mono (cons_tAs hq e) fun v H' g => h σ H' _ (as_mono g fun vs H2 z hl => z (by simp [hl]))
end
theorem mergeK_nd : ∀ {more kvs : List (Key × V)}, ((kvs ++ more).map (·.1)).Nodup → mergeK kvs more = kvs ++ more
  | [], kvs, _ => by simp [mergeK]
  | p :: r, kvs, nd => by
    have hn : putK kvs p.1 p.2 = kvs ++ [p] := by
      unfold putK
      rw [if_neg]
      intro h
      obtain ⟨x, hx, e⟩ := List.any_eq_true.mp h
      have e := of_decide_eq_true e
      rw [List.map_append, List.nodup_append] at nd
      exact nd.2.2 x.1 (List.mem_map_of_mem hx) p.1 (by simp) e
    show mergeK (putK kvs p.1 p.2) r = _
    rw [hn, mergeK_nd (by simpa using nd)]
    simp
section
variable {X : Cx} {q qs : Bool} {rs : RAs} {trs : List (TE × TE)} {kks : List Key}
theorem dis_tR {w : Nat} {σ : L2.St} {H : Hp} {Q : VK} (hnd : kks.Nodup) (h15 : kks.length ≤ 15) (hp : PairOk X.K trs kks rs qs) (h : tR X.K (disEv (kks.map keyD) rs w) false σ H Q) : tDisp trs σ H (fun v H' => Gz (Q v) H') := by
  obtain ⟨S0, H0, ω, a, T, o, a', wd, e, k⟩ := h
  unfold disEv at e
  simp only [Option.bind_eq_some_iff] at e
  obtain ⟨p, e1, ds, e2, e⟩ := e
  split at e
  · rename_i hc
    simp only [Bool.and_eq_true, decide_eq_true_eq, List.length_map] at hc
    cases e
    intro P hP
    have w1 := wd.new (o := .dK []) hP (m := w - 1 + 1) (d := .dict []) (v := .ref P) (by
      unfold Own
      exact .inr (.inr (.inl ⟨P, .dK [], [], [], fun _ => 0, rfl, rfl, rfl, upd_same, .inl ⟨[], rfl, rfl, rfl⟩, fun i e x h => by simp at h⟩)))
    refine hp σ _ _ ⟨S0, H0, _, a, _, p.1, p.2, w1, e1, fun vs H2 ω2 w2 ov _ hl => ?_⟩
    obtain ⟨ev, ed, em⟩ := pushs_vals e2 (opvs_len ov)
    have ownD := w2.drop.last
    obtain ⟨P', u, xs, χ, eP, fP, hu, du0, _⟩ := own_rootD ownD
    obtain ⟨kvs0, rfl, ek0, rfl⟩ := du_K du0 rfl
    cases eP
    have h0 : kvs0 = [] := by
      cases kvs0 with
      | nil => rfl
      | cons _ _ => cases ek0
    subst h0
    have l1 : (kks.zip vs).map (·.1) = kks := by
      rw [← List.unzip_fst, List.unzip_zip_left (by omega)]
    have l2 : (kks.zip vs).map (·.2) = vs := by
      rw [← List.unzip_snd, List.unzip_zip_right (by omega)]
    have l3 : ((kks.map keyD).zip ds).map (·.1) = kks.map keyD := by
      rw [← List.unzip_fst, List.unzip_zip_left (by simp; omega)]
    have l4 : ((kks.map keyD).zip ds).map (·.2) = ds := by
      rw [← List.unzip_snd, List.unzip_zip_right (by simp; omega)]
    have l5 : ((kks.map keyD).zip ds).map (·.1) = (kks.zip vs).map (fun p => keyD p.1) := by
      have : (kks.zip vs).map (fun p => keyD p.1) = ((kks.zip vs).map (·.1)).map keyD := by rw [List.map_map]; rfl
      rw [l3, this, l1]
    refine ⟨hu, kks.zip vs, ?_, by simp; omega, ?_⟩
    · rw [List.zip_map_left]
      rfl
    · rw [mergeK_nd (by rw [List.nil_append, l1]; exact hnd), List.nil_append]
      have kids : ∀ (i : Nat) e x, ((kks.map keyD).zip ds)[i]? = some e → vs[i]? = some x → Own1 X.K (upd H2 P (.dK (kks.zip vs))) (w - 1) e.2 x (fun b => (ω2 b = some (.tm T.length) ∨ ∃ j, T.length + 1 ≤ j ∧ ω2 b = some (.tm j)) ∧ b ≠ P ∧ (fun b => match ω2 b with
          | some (.tm j) => j - (T.length + 1)
          | _ => 0) b = i) := by
        intro i e x h1 h2
        have hd : ds[i]? = some e.2 := by
          rw [← l4, List.getElem?_map, h1]
          rfl
        have hi : i < (pushs p.1 vs).length := by
          have := congrArg List.length ev
          rw [List.length_map] at this
          rw [this]
          exact (List.getElem?_eq_some_iff.mp h2).1
        have ht : (pushs p.1 vs)[i]? = some (pushs p.1 vs)[i] := List.getElem?_eq_getElem hi
        have hv : (pushs p.1 vs)[i].v = x := by
          rw [← ev, List.getElem?_map, ht] at h2
          exact Option.some.inj h2
        have hdd : (pushs p.1 vs)[i].d = e.2 := by
          rw [← ed, List.getElem?_map, ht] at hd
          exact Option.some.inj hd
        have hm := em _ (List.getElem_mem hi)
        have ht2 : (T ++ [⟨w - 1 + 1, .dict [], .ref P⟩] ++ pushs p.1 vs)[T.length + 1 + i]? = some (pushs p.1 vs)[i] := by
          have ei : T.length + 1 + i - (T ++ [(⟨w - 1 + 1, .dict [], .ref P⟩ : Tm)]).length = i := by simp
          rw [List.getElem?_append_right (by simp), ei]
          exact ht
        have own := w2.tmp (T.length + 1 + i) _ ht2
        rw [hv, hdd, hm] at own
        have np : ∀ b, ω2 b = some (.tm (T.length + 1 + i)) → b ≠ P := fun b z hb => by
          subst hb
          have fP : ω2 b = some (.tm T.length) := fP
          rw [z] at fP
          have := Hd.tm.inj (Option.some.inj fP)
          omega
        refine (own_false.mp own).mv (.chg hu trivial) (fun b z => ?_) fun b z => upd_ne (np b z)
        have z : ω2 b = some (.tm (T.length + 1 + i)) := z
        refine ⟨.inr ⟨_, by omega, z⟩, np b z, ?_⟩
        try dsimp only
        rw [z]
        exact Nat.add_sub_cancel_left ..
      have w3 := w2.tmpUpd (t' := ⟨w - 1 + 1, .dict ((kks.map keyD).zip ds), .ref P⟩) fP hu trivial (by rw [upd_same]; rfl) (fun b hb => upd_ne hb) (own_false.mpr (own_ofD (.inl fP) upd_same (.inl ⟨kks.zip vs, rfl, l5, rfl⟩) (by rw [l2]; exact kids)))
      by_cases hw : w = 0
      · subst hw
        exact w3.ice.mono fun H' w5 => k _ H' _ w5 trivial fun z => by cases z
      · rw [show w - 1 + 1 = w by omega] at w3
        exact .done (k _ _ _ w3 trivial fun z => by cases z)
  · cases e
theorem pe_disE {pos : Pos} {w : Nat} {keys : List (Option Expr)} {values : List Expr} (hnd : kks.Nodup) (h15 : kks.length ≤ 15) (hp : PairOk X.K trs kks rs qs) (h : PPs X pos keys values trs) (hall : keys.all (·.isSome) = true) (hl : keys.length = values.length) (h0 : keys ≠ []) (hk : keys.length ≤ 15) :
    PE X (.Dict keys values pos) (tR X.K (disEv (kks.map keyD) rs w) false) := pe_imp (pe_gz (pe_disp h hall hl h0 hk)) fun σ H Q h => dis_tR hnd h15 hp h
end
end RV

set_option maxRecDepth 100000
/-! Ev32: the rest of the readings: methods that change their list, names stored together, x[k][l] = e. -/
namespace RV
open PySem L2 PySem.Spec PyProof.Rows
def muNm : Mu → Str
  | .append => "append" | .extend => "extend" | .pop => "pop" | .popAt => "pop" | .insert => "insert"
def muId : Mu → String
  | .append => "list.append" | .extend => "list.extend" | .pop => "list.pop" | .popAt => "list.pop" | .insert => "list.insert"
section
variable {X : Cx} {e o : Expr} {es : List Expr} {rs : RAs} {rk : REv} {qs qk : Bool} {apos cpos pos : Pos}
theorem mu_all (f : Mu) : ∃ r, MtR X (muId f) r ∧ MuRule X.K f r ∧ Slot "list" (muNm f) (muId f) ∧ typeOf (.builtin (muId f)) = pure (.type "method_descriptor") := by
  cases f with
  | append => exact ⟨_, mt_append, mu_append, F.slot_list_append, rfl⟩
  | extend => exact ⟨_, mt_extR, mu_extend, F.slot_list_extend, rfl⟩
  | pop => exact ⟨_, mt_pop, mu_pop, F.slot_list_pop, rfl⟩
  | popAt => exact ⟨_, mt_popAt, mu_popAt, F.slot_list_pop, rfl⟩
  | insert => exact ⟨_, mt_insert, mu_insert, F.slot_list_insert, rfl⟩
/-- the calls' plain shape -/
structure BmOk (X : Cx) (o e : Expr) (es : List Expr) (name : Str) (apos cpos : Pos) : Prop where
  base : attributeBase o name X.env (eval o X.env) = eval o X.env
  few : ((backTo cpos (starEach (e :: es) X.env)).all (fun x => !x.1) && (backToKw cpos (keywordEach [] X.env)).all (fun x => x.1.isSome) && decide ((e :: es).length + ([] : List Keyword).length + (if ([] : List Keyword).isEmpty then 0 else 1) < 30)) = true
  line : (apos.endLine == cpos.line) = true
  star : starEach (e :: es) X.env = (false, eval e X.env) :: starEach es X.env
  plain : (backTo cpos (starEach es X.env)).any (·.1) = false
theorem pe_muE {f : Mu} {am i : Nat} {w : Wt} (B : BmOk X o e es (muNm f) apos cpos) (hv : PE X o (tVar i)) (ha : PA X (e :: es) (tAs X.K rs qs)) : PE X (.Call (.Attribute o (muNm f) apos) (e :: es) [] cpos) (tR X.K (muEv rs f am i w) false) := by
  obtain ⟨r, h1, h2, h3, h4⟩ := mu_all (X := X) f
  exact pe_imp (pe_bm F.plainAttrs_list h3 h4 h1 hv ha B.base B.few B.line B.star B.plain) fun σ H Q h => mu_tR h2 h
theorem pe_muE0 {f : Mu} {am i : Nat} {w : Wt} (hb : attributeBase o (muNm f) X.env (eval o X.env) = eval o X.env) (hl : (apos.endLine == cpos.line) = true) (hv : PE X o (tVar i)) : PE X (.Call (.Attribute o (muNm f) apos) [] [] cpos) (tR X.K (muEv nilAs f am i w) false) := by
  obtain ⟨r, h1, h2, h3, h4⟩ := mu_all (X := X) f
  exact pe_imp (pe_bm0 F.plainAttrs_list h3 h4 h1 hv hb hl) fun σ H Q h => mu_tR0 h2 h
theorem pe_muSubE {f : Mu} {i : Nat} {w : Wt} (B : BmOk X o e es (muNm f) apos cpos) (hv : PE X o (tR X.K (idxEv (varEv i .br) rk qk .br) false)) (ha : PA X (e :: es) (tAs X.K rs qs)) : PE X (.Call (.Attribute o (muNm f) apos) (e :: es) [] cpos) (tR X.K (muSubEv rk qk rs qs f i w) false) := by
  obtain ⟨r, h1, h2, h3, h4⟩ := mu_all (X := X) f
  exact pe_imp (pe_bm F.plainAttrs_list h3 h4 h1 hv ha B.base B.few B.line B.star B.plain) fun σ H Q h => muSub_tR h2 h
theorem pe_muSubE0 {f : Mu} {i : Nat} {w : Wt} (hb : attributeBase o (muNm f) X.env (eval o X.env) = eval o X.env) (hl : (apos.endLine == cpos.line) = true) (hv : PE X o (tR X.K (idxEv (varEv i .br) rk qk .br) false)) : PE X (.Call (.Attribute o (muNm f) apos) [] [] cpos) (tR X.K (muSubEv rk qk nilAs qs f i w) false) := by
  obtain ⟨r, h1, h2, h3, h4⟩ := mu_all (X := X) f
  exact pe_imp (pe_bm0 F.plainAttrs_list h3 h4 h1 hv hb hl) fun σ H Q h => muSub_tR0 h2 h
end
end RV

set_option maxRecDepth 100000
/-! Ev33: names stored together through a tuple; x[k][l] = e; x op= e. -/
namespace RV
open PySem L2 PySem.Spec PyProof.Rows
section
variable {X : Cx} {e ek el : Expr} {re rk rl : REv} {q qe qk ql qs : Bool} {rm : Nat × List Nat} {pos : Pos} {rs : RAs}
theorem par2_cell {i m j m2 : Nat} {D : Ends} {σ : L2.St} {H : Hp} (hij : i ≠ j) (hi : rm.2.contains i = true) (hj : rm.2.contains j = true) (h : tS X.K rm (par2S i m j m2 rs) D σ H) :
    tAsg (tTup (tAs X.K rs qs)) (gTup X.K 2 (gCons (gName i) (gCons (gName j) gNil))) D σ H := by
  obtain ⟨S0, H0, ω, a, T, fl, a', w, e, k⟩ := h
  unfold par2S at e
  simp only [Option.bind_eq_some_iff] at e
  obtain ⟨p, e1, e⟩ := e
  split at e
  · rename_i k1 d1 k2 d2 hp
    split at e
    · rename_i hm
      obtain ⟨rfl, rfl⟩ := hm
      cases e
      refine ⟨S0, H0, ω, a, T, p.1, p.2, w, e1, fun vs H1 ω1 w1 ov _ => ?_⟩
      rw [hp] at ov w1
      obtain ⟨x, r1, rfl, _, y, r2, rfl, _, hr⟩ := ov
      cases hr
      refine ⟨by show 2 ≤ sizeLine; decide, fun pp hpp => ⟨pp, [x, y], rfl, .inl (.inl upd_same), rfl, x, [y], rfl, y, [], rfl, rfl, ?_⟩⟩
      have w1 := w1.grow (same_new (o := .tup [x, y]) hpp)
      have w2 : W X.K S0 H0 ω1 p.2 σ ((T ++ [⟨k1, d1, x⟩]) ++ [⟨k2, d2, y⟩]) (upd H1 pp (.tup [x, y])) := by simpa [pushs, push] using w1
      obtain ⟨ω2, w3⟩ := w2.store2 j
      obtain ⟨ω3, w4⟩ := w3.store2 i
      rw [List.set_comm _ _ (Ne.symm hij), List.set_comm (l := σ) _ _ (Ne.symm hij)] at w4
      exact k _ _ ω3 w4 (by rw [wipe_set hj, wipe_set hi])
    · cases e
  · cases e
theorem par3_cell {i m j m2 l m3 : Nat} {D : Ends} {σ : L2.St} {H : Hp} (hij : i ≠ j) (hil : i ≠ l) (hjl : j ≠ l) (hi : rm.2.contains i = true) (hj : rm.2.contains j = true) (hl : rm.2.contains l = true) (h : tS X.K rm (par3S i m j m2 l m3 rs) D σ H) :
    tAsg (tTup (tAs X.K rs qs)) (gTup X.K 3 (gCons (gName i) (gCons (gName j) (gCons (gName l) gNil)))) D σ H := by
  obtain ⟨S0, H0, ω, a, T, fl, a', w, e, k⟩ := h
  unfold par3S at e
  simp only [Option.bind_eq_some_iff] at e
  obtain ⟨p, e1, e⟩ := e
  split at e
  · rename_i k1 d1 k2 d2 k3 d3 hp
    split at e
    · rename_i hm
      obtain ⟨rfl, rfl, rfl⟩ := hm
      cases e
      refine ⟨S0, H0, ω, a, T, p.1, p.2, w, e1, fun vs H1 ω1 w1 ov _ => ?_⟩
      rw [hp] at ov w1
      obtain ⟨x, r1, rfl, _, y, r2, rfl, _, z, r3, rfl, _, hr⟩ := ov
      cases hr
      refine ⟨by show 3 ≤ sizeLine; decide, fun pp hpp => ⟨pp, [x, y, z], rfl, .inl (.inl upd_same), rfl, x, [y, z], rfl, y, [z], rfl, z, [], rfl, rfl, ?_⟩⟩
      have w1 := w1.grow (same_new (o := .tup [x, y, z]) hpp)
      have w2 : W X.K S0 H0 ω1 p.2 σ (((T ++ [⟨k1, d1, x⟩]) ++ [⟨k2, d2, y⟩]) ++ [⟨k3, d3, z⟩]) (upd H1 pp (.tup [x, y, z])) := by simpa [pushs, push] using w1
      obtain ⟨ω2, w3⟩ := w2.store2 l
      obtain ⟨ω3, w4⟩ := w3.store2 j
      obtain ⟨ω4, w5⟩ := w4.store2 i
      have e1 : ∀ {α : Type} (xs : List α) (u v t : α), ((xs.set l t).set j v).set i u = ((xs.set i u).set j v).set l t := fun xs u v t => by
        rw [List.set_comm _ _ (Ne.symm hjl), List.set_comm _ _ (Ne.symm hil), List.set_comm _ _ (Ne.symm hij)]
      dsimp only at w5
      rw [e1, e1] at w5
      exact k _ _ ω4 w5 (by rw [wipe_set hl, wipe_set hj, wipe_set hi])
    · cases e
  · cases e
/-- x[k][l] = e -/
theorem ps_sto2E {i : Nat} {o : Expr} {p2 : Pos} (hu : X.A.units + 1 < cLine) (hv : PE X o (tR X.K (idxEv (varEv i .br) rk qk .br) false)) (he : PE X e (tR X.K re qe)) (hl : PE X el (tR X.K rl ql))
    (hg : ∀ v, assign (.Subscript o el p2) X.env v = (do
      let ov ← holding [v] (eval o X.env)
      let iv ← holding [v, ov] (eval el X.env)
      standAt p2
      holding [v, ov, iv] (setItem ov iv v)
      release [v, ov, iv] []))
    (hs : swapsWithSole [.Subscript o el p2] e pos.line X.env = pure false) (hw : swappedStores [.Subscript o el p2] e X.env = pure none)
    (h1 : (assignEach [.Subscript o el p2] X.env).map (·.2) = [assign (.Subscript o el p2) X.env]) : PS X (.Assign [.Subscript o el p2] e pos) (tS X.K rm (sto2S i re rk rl qk ql)) :=
  ps_imp (ps_asg he (pg_sub hv hl set_list hg) hs hw h1) fun D σ H h => sto2_run h
/-- x op= e, ints -/
def augOk : Bop → Bool
  | .add => true
  | .sub => true
  | .mul => true
  | _ => false
theorem ip_mul : PIp X .Mult (fun x y H Q => ∃ i j, x = .int i ∧ y = .int j ∧ CMul i j ∧ Q (.int (i * j)) H) := by
  intro pins s σ H x y v u Q I r1 r2 h
  obtain ⟨i, j, e1, e2, hc, q⟩ := h
  subst e1; subst e2
  obtain ⟨t, rfl⟩ := r1
  obtain ⟨t', rfl⟩ := r2
  exact imul_int ⟨.int _, H, I.tok _, ⟨_, rfl⟩, q⟩ hc.ok
theorem aug_ip {o : Bop} (h : augOk o = true) : ∃ ti, PIp X (opOf o) ti ∧ ∀ (i j : Int) d, binD o (0, .int i) (0, .int j) = some d → ∃ n, d = .int n ∧ ∀ H Q, Q (.int n) H → ti (.int i) (.int j) H Q := by
  cases o with
  | add => exact ⟨_, ip_add, fun i j d e => by cases e; exact ⟨_, rfl, fun H Q q => ⟨i, j, rfl, rfl, q⟩⟩⟩
  | sub =>
    refine ⟨_, ip_sub, fun i j d e => ?_⟩
    simp only [binD, intD, if_true, Option.some.injEq] at e
    exact ⟨_, e.symm, fun H Q q => ⟨i, j, rfl, rfl, q⟩⟩
  | mul =>
    refine ⟨_, ip_mul, fun i j d e => ?_⟩
    simp only [binD, mulD] at e
    split at e
    · rename_i hz
      cases e
      refine ⟨_, rfl, fun H Q q => ⟨i, j, rfl, rfl, ?_, q⟩⟩
      unfold mulOk at hz
      simp only [Bool.or_eq_true, Bool.and_eq_true, decide_eq_true_eq] at hz
      exact hz
    · cases e
  | _ => cases h
theorem aug_run2 {ti : TIp} {i : Nat} {o : Bop} {D : Ends} {σ : L2.St} {H : Hp} (hst : rm.2.contains i = true) (hr : ∀ (i j : Int) d, binD o (0, .int i) (0, .int j) = some d → ∃ n, d = .int n ∧ ∀ H Q, Q (.int n) H → ti (.int i) (.int j) H Q)
    (h : tS X.K rm (augS i o re) D σ H) : tAug i (tR X.K re qe) ti D σ H := by
  obtain ⟨S0, H0, ω, a, T, fl, a', w, e, k⟩ := h
  unfold augS at e
  split at e
  · rename_i sm sl x hs
    simp only [Option.bind_eq_some_iff] at e
    obtain ⟨p, ep, u, eu, e⟩ := e
    split at e
    · rename_i y hy
      simp only [Option.map_eq_some_iff] at e
      obtain ⟨d, ed, e⟩ := e
      cases e
      obtain ⟨v, hv, own⟩ := w.slot i _ hs
      have hvi : v = .int x := own_int own
      subst hvi
      obtain ⟨n, rfl, q⟩ := hr x y d ed
      refine ⟨_, hv, S0, H0, ω, a, T, p.1, p.2, w, ep, fun yv H1 ω1 w1 o1 _ => ?_⟩
      obtain ⟨z1, F1, w1'⟩ := opd_own (T2 := []) (by rw [List.append_nil]; exact w1) o1 eu
      rw [hy] at w1'
      rw [own_int w1']
      refine q H1 _ ?_
      have w2 : W X.K S0 H0 ω1 p.2 σ (T ++ [⟨0, .int n, .int n⟩]) H1 := w1.drop.pushIm (im_int n) (.inl rfl)
      obtain ⟨ω2, w3⟩ := w2.store2 i
      exact k _ _ ω2 w3 (by rw [wipe_set hst])
    · cases e
  · cases e
theorem ps_augE {i : Nat} {o : Bop} {x : Str} {p2 : Pos} (ho : augOk o = true) (hst : rm.2.contains i = true) (hN : X.N.Nodup) (hi : X.N[i]? = some x) (hx : Loc X.env.scope x) (he : PE X e (tR X.K re qe)) (hf : X.fn x = true ∨ X.env.scope.names.lookup x = some .local) :
    PS X (.AugAssign (.Name x p2) (opOf o) e pos) (tS X.K rm (augS i o re)) := by
  obtain ⟨ti, h1, h2⟩ := aug_ip (X := X) ho
  exact ps_imp (ps_aug hN hi hx he h1 hf) fun D σ H h => aug_run2 hst h2 h
end
/-! ### set(ints) -/
section
variable {P : Program} {w : World} {A : Around} {E : Value → Shared → Prop} {s : Shared}
/-- an empty set -/
def nsO (w : World) : Obj := { cls := .type "set", dict := none, data := .set #[] 0 (.fresh 0 0 (!w.params.followText "set-order")) }
abbrev mt (g : Nat → Int) (i : Nat) : List Int := firstMet g i
theorem ints_in {I : Addr} {fs ws : List Addr} {G : Array GenState → Array GenState → Prop} {n : Nat} {Pv : Nat → Value → Prop} {Sv : Nat → Shared → Prop} {R : Result → Shared → Prop}
    (W : WalksS P w A.in1 I fs ws G n Pv Sv) (z : Addr) (hz : z ∉ fs) (g : Nat → Int) (hg : ∀ i v, Pv i v → ∃ tk, v = .int (g i) tk) (hb : n + 1 < scanBound) : ∀ (k i : Nat) (u : Shared), n = k + i → Sv i u →
      SetR w u.heap z (fun j => (mt g i).any (· == j)) (mt g i).length → (∀ u', Moved (z :: ws) G u u' → SetR w u'.heap z (fun j => (mt g n).any (· == j)) (mt g n).length → R (.ok (.ret .none)) u') →
      codeAny (model P w) A (.builtin "set.update.loop" ⟨[.ref z, .ref I], []⟩) R u := by
  have zw : z ∉ ws := fun q => hz (W.sub _ q)
  have up : ∀ b ∈ ws, b ∈ z :: ws := fun b q => .tail _ q
  intro k
  induction k with
  | zero =>
    intro i u e hs hr fin
    obtain rfl : n = i := by rw [e, Nat.zero_add]
    apply codeAny_builtin F.entry_set_update_loop
    rw [Around.under_plainId F.plain_set_update_loop ⟨[.ref z, .ref I], []⟩]
    change wpAny _ A.in1 (pyNext (.ref I) >>= _) _ _ u
    apply wpAny_bind
    refine W.done u _ _ hs fun u' mv => ?_
    change wpAny _ A.in1 (ret Value.none) _ _ u'
    apply wpAny_pure
    exact fin u' (mv.mono up) (hr.at fun o q => mv.heap z o zw q)
  | succ k ih =>
    intro i u e hs hr fin
    have lt : i < n := by omega
    apply codeAny_builtin F.entry_set_update_loop
    rw [Around.under_plainId F.plain_set_update_loop ⟨[.ref z, .ref I], []⟩]
    change wpAny _ A.in1 (pyNext (.ref I) >>= _) _ _ u
    apply wpAny_bind
    refine W.item i u _ _ lt hs fun v u' pv hs' mv => ?_
    obtain ⟨tk, rfl⟩ := hg i v pv
    have hr' := hr.at (h' := u'.heap) fun o q => mv.heap z o zw q
    change wpAny _ A.in1 (holding [Value.int (g i) tk] (setAdd z (.int (g i) tk)) >>= _) _ _ u'
    apply wpAny_bind
    apply wpAny_holding
    unfold setAdd
    apply wpAny_holding
    apply wpAny_bind
    refine (intKind P w).pyHash (k := g i) (intKind_is P w (g i) tk) ?_
    have few : (mt g i).length + 1 < scanBound := by
      have := firstMet_length_le g i
      show (firstMet g i).length + 1 < scanBound
      omega
    refine setR_add_hashed (s := { u' with toks := u'.toks + 1 }) hr' few fun h2 sb r2 => ?_
    have r3 : SetR w h2 z (fun j => (mt g (i + 1)).any (· == j)) (mt g (i + 1)).length := by
      have e1 : (fun j => (mt g (i + 1)).any (· == j)) = fun j => (mt g i).any (· == j) || decide (j = g i) := by
        funext j
        show (firstMet g (i + 1)).any _ = _
        rw [firstMet_succ, step_any]
      have e2 : (mt g (i + 1)).length = if (mt g i).any (· == g i) = true then (mt g i).length else (mt g i).length + 1 := by
        show (firstMet g (i + 1)).length = _
        rw [firstMet_succ, step_length]
      rw [e1, e2]
      exact r2
    apply wpAny_pure
    refine ⟨plainId_quiet F.plain_set_update_loop _, ih (i + 1) _ (by omega) (W.frame _ u' _ _ hs' (Nat.le_succ _) fun b q o eo => ?_) r3 fun u2 mv2 r4 => ?_⟩
    · have ne : b ≠ z := fun q2 => hz (q2 ▸ q)
      exact (sb.2 b ne).trans eo
    · refine fin u2 ((Moved.trans W.gtrans) ((mv.mono up).then_heap (Nat.le_succ _) fun b o q eo => ?_) mv2) r4
      have ne : b ≠ z := fun q2 => q (q2 ▸ .head _)
      exact (sb.2 b ne).trans eo
set_option maxHeartbeats 3200000 in
theorem set_ints {l : Addr} {vs : Array Value} {ns : List Int} {Q : Value → Shared → Prop} (hh : A.handled = none) (hl : s.heap.IsList l vs) (hi : IntsAre vs.toList ns) (hb : vs.size + 1 < scanBound)
    (q : ∀ h2 tk, SetR w h2 s.heap.objs.size (fun j => (mt (fun i => ns.getD i 0) vs.size).any (· == j)) (mt (fun i => ns.getD i 0) vs.size).length → (∀ b o, s.heap.get? b = some o → h2.get? b = some o) → Q (.ref s.heap.objs.size) { s with heap := h2, toks := tk }) :
    wpAny (model P w) A (call (.type "set") [.ref l]) Q E s := by
  obtain ⟨_, _, k0⟩ := F.called_set.mro
  have k1 := F.called_set.made
  have k2 := F.called_set.sub
  apply wpAny_call
  apply codeAny_of_tree
  change wpAny _ _ (callAny (.type "set") _) _ _ _
  apply wpAny_pure
  refine ⟨Code.quiet_builtin _ (by decide +kernel), ?_⟩
  apply codeAny_builtin F.entry_type_call
  rw [Around.under_plain (weight_type_call_type "set" [.ref l] []) (by rfl)]
  have k3 := F.called_set.notType
  have k4 := F.called_set.canCreate
  have k5 := F.typeCall_set_1 (.ref l)
  repeat (any_goals (first | wp_step | assumption))
  refine codeAny_mono (code_set_led1 (.ref l) (Q₁ := fun v u => v = .ref s.heap.objs.size ∧ u = { s with heap := s.heap.push (nsO w) }) (E := E) ⟨rfl, rfl⟩) fun r u hr => ?_
  cases r with
  | error _ => exact hr
  | ok fl =>
    cases fl with
    | ret v =>
      obtain ⟨rfl, rfl⟩ := hr
      have at0 : (s.heap.push (nsO w)).get? s.heap.objs.size = some (nsO w) := Heap.get?_push_size _ rfl
      have ty : Shared.TypeIs { s with heap := s.heap.push (nsO w) } (.ref s.heap.objs.size) "set" := ⟨_, at0, rfl⟩
      have k6 := F.called_set.init.lookup
      have k7 := F.called_set.init.bind (.ref s.heap.objs.size)
      repeat (any_goals (first | wp_step | assumption))
      refine codeAny_mono (codeAny_call_builtin (R := wants (fun v u => v = .none ∧ ∃ h2 tk, u = { s with heap := h2, toks := tk } ∧ SetR w h2 s.heap.objs.size (fun j => (mt (fun i => ns.getD i 0) vs.size).any (· == j)) (mt (fun i => ns.getD i 0) vs.size).length ∧
          (∀ b o, s.heap.get? b = some o → h2.get? b = some o)) E) F.called_set.init.plain F.entry_set_init (check_set_init_1 ty ?_)) fun r2 u2 hr2 => ?_
      · obtain ⟨⟨oc, od, oa, os⟩, ho, e1, m, e2⟩ := hl
        cases e1
        cases e2
        have ho2 : (s.heap.push (nsO w)).get? l = some ⟨.type "list", od, .seq vs m, os⟩ := Heap.get?_push_of_some _ ho
        have k8 := F.sub_list_set
        have k9 := F.sub_list_frozenset
        have ne : ((.type "list" : Value) == .type "dict") = false := by decide +kernel
        have hl2 : (s.heap.push (nsO w)).IsList l vs := ⟨_, ho2, rfl, m, rfl⟩
        unfold Builtin.«set.__init__» Builtin.Frozenset.updateFrom noKeywords
        generalize it : pyIter = J
        wp_walk
        subst it
        apply wpAny_pyIter_list hl2
        apply wpAny_bind
        apply wpAny_runValue
        have lt := Heap.lt_size ho
        have sz : (s.heap.push (nsO w)).objs.size = s.heap.objs.size + 1 := Heap.size_push ..
        have hh2 : A.in1.in1.in1.handled = none := by simp [hh]
        have ne2 : l ≠ (s.heap.push (nsO w)).objs.size := by rw [sz]; exact Nat.ne_of_lt (Nat.lt_succ_of_lt lt)
        have hz : s.heap.objs.size ∉ [(s.heap.push (nsO w)).objs.size, l] := by
          rw [sz]
          intro q
          rcases List.mem_cons.mp q with q | q
          · exact absurd q (Nat.ne_of_lt (Nat.lt_succ_self _))
          · exact absurd (List.mem_singleton.mp q) (Nat.ne_of_gt lt)
        refine ints_in ((Walks.list hh2 _ l ne2 vs).toS) s.heap.objs.size hz (fun i => ns.getD i 0) (fun i v q => hi.int_at i v (by rw [Array.getElem?_toList]; exact q)) hb vs.size 0 _ rfl
          ⟨⟨_, Heap.get?_push_size _ rfl, rfl, rfl⟩, hl2.push _⟩ ?c1 ?c2
        case c1 =>
          exact (setR_fresh w).at fun o q => Heap.get?_push_of_some _ q
        case c2 =>
          intro u2 mv r2
          obtain ⟨h2, g2, d2, t2, o2⟩ := u2
          cases (show g2 = s.gens from mv.gens)
          cases (show d2 = s.drawn from mv.drawn)
          cases (show o2 = s.os from mv.os)
          change wpAny _ _ _ _ _ _
          apply wpAny_pure
          change wpAny _ _ (ret Value.none) _ _ _
          apply wpAny_pure
          refine ⟨rfl, h2, t2, rfl, r2, fun b o q => ?_⟩
          have lb := Heap.lt_size q
          refine mv.heap b o (fun q2 => ?_) (Heap.get?_push_of_some _ (Heap.get?_push_of_some _ q))
          rcases List.mem_cons.mp q2 with q3 | q3
          · exact absurd q3 (Nat.ne_of_lt lb)
          · have q4 := List.mem_singleton.mp q3
            exact absurd (q4.trans sz) (Nat.ne_of_lt (Nat.lt_succ_of_lt lb))
      · cases r2 with
        | error _ => exact hr2
        | ok fl2 =>
          cases fl2 with
          | ret v2 =>
            obtain ⟨rfl, h2, tk, rfl, c1, c2⟩ := hr2
            repeat (any_goals (first | wp_step | assumption))
            exact q h2 tk c1 c2
          | _ => exact hr2.elim
    | _ => exact hr.elim
set_option maxHeartbeats 3200000 in
theorem set_intsT {l : Addr} {vs : Array Value} {ns : List Int} {Q : Value → Shared → Prop} (hh : A.handled = none) (hl : s.heap.IsTuple l vs) (hi : IntsAre vs.toList ns) (hb : vs.size + 1 < scanBound)
    (q : ∀ h2 tk, SetR w h2 s.heap.objs.size (fun j => (mt (fun i => ns.getD i 0) vs.size).any (· == j)) (mt (fun i => ns.getD i 0) vs.size).length → (∀ b o, s.heap.get? b = some o → h2.get? b = some o) → Q (.ref s.heap.objs.size) { s with heap := h2, toks := tk }) :
    wpAny (model P w) A (call (.type "set") [.ref l]) Q E s := by
  obtain ⟨_, _, k0⟩ := F.called_set.mro
  have k1 := F.called_set.made
  have k2 := F.called_set.sub
  apply wpAny_call
  apply codeAny_of_tree
  change wpAny _ _ (callAny (.type "set") _) _ _ _
  apply wpAny_pure
  refine ⟨Code.quiet_builtin _ (by decide +kernel), ?_⟩
  apply codeAny_builtin F.entry_type_call
  rw [Around.under_plain (weight_type_call_type "set" [.ref l] []) (by rfl)]
  have k3 := F.called_set.notType
  have k4 := F.called_set.canCreate
  have k5 := F.typeCall_set_1 (.ref l)
  repeat (any_goals (first | wp_step | assumption))
  refine codeAny_mono (code_set_led1 (.ref l) (Q₁ := fun v u => v = .ref s.heap.objs.size ∧ u = { s with heap := s.heap.push (nsO w) }) (E := E) ⟨rfl, rfl⟩) fun r u hr => ?_
  cases r with
  | error _ => exact hr
  | ok fl =>
    cases fl with
    | ret v =>
      obtain ⟨rfl, rfl⟩ := hr
      have at0 : (s.heap.push (nsO w)).get? s.heap.objs.size = some (nsO w) := Heap.get?_push_size _ rfl
      have ty : Shared.TypeIs { s with heap := s.heap.push (nsO w) } (.ref s.heap.objs.size) "set" := ⟨_, at0, rfl⟩
      have k6 := F.called_set.init.lookup
      have k7 := F.called_set.init.bind (.ref s.heap.objs.size)
      repeat (any_goals (first | wp_step | assumption))
      refine codeAny_mono (codeAny_call_builtin (R := wants (fun v u => v = .none ∧ ∃ h2 tk, u = { s with heap := h2, toks := tk } ∧ SetR w h2 s.heap.objs.size (fun j => (mt (fun i => ns.getD i 0) vs.size).any (· == j)) (mt (fun i => ns.getD i 0) vs.size).length ∧
          (∀ b o, s.heap.get? b = some o → h2.get? b = some o)) E) F.called_set.init.plain F.entry_set_init (check_set_init_1 ty ?_)) fun r2 u2 hr2 => ?_
      · obtain ⟨⟨oc, od, oa, os⟩, ho, e1, m, e2⟩ := hl
        cases e1
        cases e2
        have ho2 : (s.heap.push (nsO w)).get? l = some ⟨.type "tuple", od, .seq vs m, os⟩ := Heap.get?_push_of_some _ ho
        have k8 := PySem.F.sub_tuple_set
        have k9 := PySem.F.sub_tuple_frozenset
        have ne : ((.type "tuple" : Value) == .type "dict") = false := by decide +kernel
        have hl2 : (s.heap.push (nsO w)).IsTuple l vs := ⟨_, ho2, rfl, m, rfl⟩
        unfold Builtin.«set.__init__» Builtin.Frozenset.updateFrom noKeywords
        generalize it : pyIter = J
        wp_walk
        subst it
        apply wpAny_pyIter_tuple hl2
        apply wpAny_bind
        apply wpAny_runValue
        have lt := Heap.lt_size ho
        have sz : (s.heap.push (nsO w)).objs.size = s.heap.objs.size + 1 := Heap.size_push ..
        have hh2 : A.in1.in1.in1.handled = none := by simp [hh]
        have ne2 : l ≠ (s.heap.push (nsO w)).objs.size := by rw [sz]; exact Nat.ne_of_lt (Nat.lt_succ_of_lt lt)
        have hz : s.heap.objs.size ∉ [(s.heap.push (nsO w)).objs.size, l] := by
          rw [sz]
          intro q
          rcases List.mem_cons.mp q with q | q
          · exact absurd q (Nat.ne_of_lt (Nat.lt_succ_self _))
          · exact absurd (List.mem_singleton.mp q) (Nat.ne_of_gt lt)
        refine ints_in ((Walks.tuple hh2 _ l ne2 vs).toS) s.heap.objs.size hz (fun i => ns.getD i 0) (fun i v q => hi.int_at i v (by rw [Array.getElem?_toList]; exact q)) hb vs.size 0 _ rfl
          ⟨⟨_, Heap.get?_push_size _ rfl, rfl, rfl⟩, hl2.push _⟩ ?c1 ?c2
        case c1 =>
          exact (setR_fresh w).at fun o q => Heap.get?_push_of_some _ q
        case c2 =>
          intro u2 mv r2
          obtain ⟨h2, g2, d2, t2, o2⟩ := u2
          cases (show g2 = s.gens from mv.gens)
          cases (show d2 = s.drawn from mv.drawn)
          cases (show o2 = s.os from mv.os)
          change wpAny _ _ _ _ _ _
          apply wpAny_pure
          change wpAny _ _ (ret Value.none) _ _ _
          apply wpAny_pure
          refine ⟨rfl, h2, t2, rfl, r2, fun b o q => ?_⟩
          have lb := Heap.lt_size q
          refine mv.heap b o (fun q2 => ?_) (Heap.get?_push_of_some _ (Heap.get?_push_of_some _ q))
          rcases List.mem_cons.mp q2 with q3 | q3
          · exact absurd q3 (Nat.ne_of_lt lb)
          · have q4 := List.mem_singleton.mp q3
            exact absurd (q4.trans sz) (Nat.ne_of_lt (Nat.lt_succ_of_lt lb))
      · cases r2 with
        | error _ => exact hr2
        | ok fl2 =>
          cases fl2 with
          | ret v2 =>
            obtain ⟨rfl, h2, tk, rfl, c1, c2⟩ := hr2
            repeat (any_goals (first | wp_step | assumption))
            exact q h2 tk c1 c2
          | _ => exact hr2.elim
    | _ => exact hr.elim
end
/-! ### sorted(set(ints)), len(set(ints)) -/
theorem Own.sameH {K : PySem.W.Frag} : True := trivial
theorem mem_dedup : ∀ {ns : List Int} {k : Int}, k ∈ dedupI ns ↔ k ∈ ns
  | [], k => by simp [dedupI]
  | x :: r, k => by
    rw [dedupI, List.mem_cons, List.mem_cons, List.mem_filter, mem_dedup]
    simp only [decide_eq_true_eq]
    by_cases h : k = x
    · simp [h]
    · simp [h]
theorem nodup_dedup : ∀ (ns : List Int), (dedupI ns).Nodup
  | [] => .nil
  | x :: r => by
    rw [dedupI, List.nodup_cons]
    refine ⟨fun h => ?_, (nodup_dedup r).filter _⟩
    have := (List.mem_filter.mp h).2
    simp at this
theorem nodup_step {l : List Int} (h : l.Nodup) (v : Int) : (step_dedup l v).Nodup := by
  unfold step_dedup
  split
  · exact h
  · rename_i hn
    rw [List.nodup_append]
    refine ⟨h, by simp, fun a ha b hb e => hn ?_⟩
    simp at hb
    subst hb e
    simpa using ha
theorem nodup_mt (g : Nat → Int) : ∀ i, (mt g i).Nodup
  | 0 => .nil
  | i + 1 => by
    show (firstMet g (i + 1)).Nodup
    rw [firstMet_succ]
    exact nodup_step (nodup_mt g i) _
theorem mem_mt {ns : List Int} {k : Int} : ((mt (fun i => ns.getD i 0) ns.length).any (· == k)) = true ↔ k ∈ ns := by
  show ((firstMet _ _).any _) = true ↔ _
  rw [firstMet_any]
  have e : (List.range ns.length).map (fun i => ns.getD i 0) = ns := by
    refine List.ext_getElem? fun i => ?_
    rw [List.getElem?_map]
    by_cases hi : i < ns.length
    · rw [List.getElem?_range hi, List.getElem?_eq_getElem hi]
      simp [hi]
    · rw [List.getElem?_eq_none (by rw [List.length_range]; omega), List.getElem?_eq_none (by omega)]
      rfl
  rw [e]
  simp
theorem mt_len {ns : List Int} : (mt (fun i => ns.getD i 0) ns.length).length = (dedupI ns).length := by
  refine ((List.perm_ext_iff_of_nodup (nodup_mt _ _) (nodup_dedup _)).mpr fun k => ?_).length_eq
  rw [mem_dedup]
  have h := mem_mt (ns := ns) (k := k)
  have e : ((mt (fun i => ns.getD i 0) ns.length).any (· == k)) = true ↔ k ∈ mt (fun i => ns.getD i 0) ns.length := by
    rw [List.any_eq_true]
    exact ⟨fun ⟨x, hx, q⟩ => by rw [← eq_of_beq q]; exact hx, fun hx => ⟨k, hx, beq_self_eq_true k⟩⟩
  exact e.symm.trans h
end RV

set_option maxRecDepth 100000
/-! Ev34: a check that a text of the small language stands for a text of the program. -/
namespace RV
open PySem L2 PySem.Spec PyProof.Rows
/-- a def called: its name, its place in the table, how many positional arguments, the keywords, what each parameter gets -/
structure CallSh where
  nm : Str
  f : Nat
  n : Nat
  ks : List Str
  perm : List Nat
  deriving DecidableEq
/-- what is known around a def's body -/
structure Ck where
  N : List Str
  cs : List (Str × D)
  calls : List CallSh

def noSt : Expr → Bool
  | .Starred .. => false
  | _ => true
def noLc : Expr → Bool
  | .ListComp .. | .SetComp .. | .DictComp .. => false
  | _ => true
def noSet : Expr → Bool
  | .Set .. => false
  | _ => true
def noSlc : Expr → Bool
  | .Slice .. => false
  | _ => true
def lkB (sc : Scope) (x : Str) (k : NameKind) : Bool := decide (sc.names.lookup x = some k)
def glB (sc : Scope) (x : Str) : Bool := lkB sc x .globalImplicit
def locB (sc : Scope) (x : Str) : Bool := match sc.names.lookup x with
  | some .local => true
  | some .cell => true
  | _ => false
def visB (sc : Scope) (x : Str) : Bool := match sc.names.lookup x with
  | some .local => true
  | some .cell => true
  | some .free => true
  | _ => false
def plainNm (x : Str) : Bool := !(x == ("__debug__" : Str)) && !(x == ("__classdict__" : Str))
def flatEq : D → D → Bool
  | .int i, .int j => decide (i = j)
  | .str i, .str j => decide (i = j)
  | .bool i, .bool j => i == j
  | .none, .none => true
  | _, _ => false
def varB (C : Ck) (sc : Scope) (i : Nat) (x : Str) : Bool := decide (C.N[i]? = some x) && visB sc x && plainNm x
/-- stored into -/
def setB (C : Ck) (sc : Scope) (i : Nat) (x : Str) : Bool := decide (C.N[i]? = some x) && locB sc x
def constB : D → Const → Bool
  | .int i, .int j => decide (i = j)
  | .str i, .str j => decide (i = j)
  | _, _ => false
def keysB : List D → List (Option Expr) → Bool
  | [], [] => true
  | d :: ds, some (.Constant c _ _) :: xs => constB d c && keysB ds xs
  | _, _ => false
def blkB (N : List Str) (sc scope : Scope) (own : List Nat) : Bool :=
  decide (scope.kind = .function) && scope.names.all (fun y => decide (scope.names.lookup y.1 = some y.2)) && own.all (fun i => (N[i]?).isSome) &&
  scope.names.all (fun y => (match y.2 with
    | .free => lkB sc y.1 .cell || lkB sc y.1 .free
    | .local => own.any (fun i => decide (N[i]? = some y.1)) || !(N.contains y.1)
    | .cell => own.any (fun i => decide (N[i]? = some y.1)) || !(N.contains y.1)
    | _ => true))
def biTy (T : String) (y : Str) : Bool := decide (T ∈ isiTypes) && decide (y = Str.ofString T)
def kwNames : List Keyword → List (Option Str)
  | [] => []
  | ⟨n, _, _⟩ :: r => n :: kwNames r
def esLen : Es → Nat
  | .nil => 0
  | .cons _ es => esLen es + 1
def tailB (op : BoolOp) (y : Expr) (r : List Expr) (pos : Pos) : Expr := match r with
  | [] => y
  | _ => .BoolOp op (y :: r) pos
/-- may be read as a test -/
def tOk : E → Bool
  | .ife .. => false
  | _ => true
/-- a pair's target is a tuple -/
def itTg : It → Expr → Bool
  | .enum _, .Tuple .. => true
  | .zip2 _ _, .Tuple .. => true
  | .zip3 _ _ _, .Tuple .. => true
  | .enum _, _ => false
  | .zip2 _ _, _ => false
  | .zip3 _ _ _, _ => false
  | _, _ => true
/-- not a call without arguments -/
def noC0 : Expr → Bool
  | .Call _ [] [] _ => false
  | _ => true
def unNm : Un → Str × Str
  | .rangeL => ("list", "range")
  | .rangeT => ("tuple", "range")
  | .lenSet => ("len", "set")
  | .sortedSet => ("sorted", "set")
mutual
def chkE (C : Ck) : E → Scope → Expr → Bool
  | .var i, sc, ex => match ex with
    | .Name x _ => varB C sc i x
    | _ => false
  | .non, sc, ex => match ex with
    | .Constant .none _ _ => true
    | _ => false
  | .bl b, sc, ex => match ex with
    | .Constant (.bool c) _ _ => b == c
    | _ => false
  | .int n, sc, ex => match ex with
    | .Constant (.int m) _ _ => decide (n = m)
    | _ => false
  | .str s, sc, ex => match ex with
    | .Constant (.str t) _ _ => decide (s = t)
    | _ => false
  | .glo x d, sc, ex => match ex with
    | .Name y _ => decide (x = y) && glB sc y && plainNm y && flat d && C.cs.any (fun p => decide (p.1 = y) && flatEq p.2 d)
    | _ => false
  | .tup es, sc, ex => match ex with
    | .Tuple xs _ _ => chkEs C es sc xs
    | _ => false
  | .lst es, sc, ex => match ex with
    | .List xs _ => chkEs C es sc xs
    | _ => false
  | .dnew, sc, ex => match ex with
    | .Dict [] [] _ => true
    | _ => false
  | .dis ks es, sc, ex => match ex with
    | .Dict keys vals _ => keysB ks keys && keysNd ks && decide (ks.length ≤ 15) && decide (1 ≤ ks.length) && decide (ks.length = vals.length) && chkEs C es sc vals
    | _ => false
  | .bin o a b, sc, ex => match ex with
    | .BinOp x p y _ => decide (opOf o = p) && chkE C a sc x && chkE C b sc y
    | _ => false
  | .cmp o a b, sc, ex => match ex with
    | .Compare x [p] [y] _ => decide (o ≠ .isN) && decide (o ≠ .notN) && decide (copOf o = p) && !behindInMarks p y && chkE C a sc x && chkE C b sc y
    | _ => false
  | .isn neg a, sc, ex => match ex with
    | .Compare x [p] [.Constant .none _ _] _ => decide (p = if neg then .IsNot else .Is) && chkE C a sc x
    | _ => false
  | .chn o o2 a b c, sc, ex => match ex with
    | .Compare x [p, p2] [y, z] _ => decide (o ≠ .isN) && decide (o ≠ .notN) && decide (o2 ≠ .isN) && decide (o2 ≠ .notN) && decide (copOf o = p) && decide (copOf o2 = p2) && !lastMarks [p, p2] [y, z] && chkE C a sc x && chkE C b sc y && chkE C c sc z
    | _ => false
  | .neg a, sc, ex => match ex with
    | .UnaryOp .USub x _ => chkE C a sc x
    | _ => false
  | .not a, sc, ex => match ex with
    | .UnaryOp .Not x _ => tOk a && chkE C a sc x
    | _ => false
  | .and a b, sc, ex => match ex with
    | .BoolOp .And (x :: y :: r) pos => tOk a && tOk b && chkE C a sc x && chkE C b sc (tailB .And y r pos)
    | _ => false
  | .or a b, sc, ex => match ex with
    | .BoolOp .Or (x :: y :: r) pos => tOk a && tOk b && chkE C a sc x && chkE C b sc (tailB .Or y r pos)
    | _ => false
  | .ife c a b, sc, ex => match ex with
    | .IfExp t x y _ => tOk c && chkE C c sc t && chkE C a sc x && chkE C b sc y
    | _ => false
  | .idx a k, sc, ex => match ex with
    | .Subscript x y _ => noSlc y && chkE C a sc x && chkE C k sc y
    | _ => false
  | .slc a lo hi, sc, ex => match ex with
    | .Subscript x (.Slice l h none _) _ => chkE C a sc x && chkO C lo sc l && chkO C hi sc h
    | _ => false
  | .rev a, sc, ex => match ex with
    | .Subscript x (.Slice none none (some (.UnaryOp .USub (.Constant (.int n) _ _) _)) _) _ => decide (n = 1) && chkE C a sc x
    | _ => false
  | .un f a, sc, ex => match ex with
    | .Call (.Name x _) [.Call (.Name y _) [z] [] _] [] _ => decide (unNm f = (x, y)) && glB sc x && glB sc y && noSt z && chkE C a sc z
    | _ => false
  | .bi f es, sc, ex => match ex with
    | .Call (.Name x _) (y :: ys) [] _ => decide (biNm f = some x) && glB sc x && chkEs C es sc (y :: ys)
    | _ => false
  | .isi a ts, sc, ex => match ex with
    | .Call (.Name x _) [y, .Name z _] [] _ => (match ts with | [T] => biTy T z | _ => false) && decide (x = "isinstance") && glB sc x && glB sc z && noSt y && chkE C a sc y
    | _ => false
  | .me f a e, sc, ex => match ex with
    | .Call (.Attribute x nm ap) [y] [] cp => decide (meNm f = some nm) && noC0 x && (ap.endLine == cp.line) && noSt y && chkE C a sc x && chkE C e sc y
    | _ => false
  | .mu f _ i .none es, sc, ex => match ex with
    | .Call (.Attribute (.Name x _) nm ap) ys [] cp => decide (nm = muNm f) && varB C sc i x && (ap.endLine == cp.line) && decide (ys.length < 30) && chkEs C es sc ys
    | _ => false
  | .mu f _ i (.some k) es, sc, ex => match ex with
    | .Call (.Attribute (.Subscript (.Name x _) y _) nm ap) ys [] cp => decide (nm = muNm f) && varB C sc i x && noSlc y && (ap.endLine == cp.line) && decide (ys.length < 30) && chkE C k sc y && chkEs C es sc ys
    | _ => false
  | .call f es ks perm, sc, ex => match ex with
    | .Call (.Name x _) ys kws _ => glB sc x && plainNm x && (C.calls.any fun c => decide (c.nm = x) && decide (c.f = f) && decide (c.n = ys.length) && decide (c.ks.map some = kwNames kws) && decide (c.perm = perm)) && decide (0 < ys.length + kws.length) && chkEs C es sc ys && chkKs C ks sc kws
    | _ => false
  | .lc own el tg it cond, sc, ex => match ex with
    | .ListComp elt [⟨tgE, iter, ifs, 0⟩] scope _ => blkB C.N sc scope own && noSet iter && tgIn own tg && itTg it tgE && chkIt C it sc iter && chkTg C tg scope tgE && chkC C cond scope ifs && chkE C el scope elt
    | _ => false
def chkEs (C : Ck) : Es → Scope → List Expr → Bool
  | .nil, sc, ex => match ex with
    | [] => true
    | _ => false
  | .cons e es, sc, ex => match ex with
    | x :: xs => noSt x && chkE C e sc x && chkEs C es sc xs
    | _ => false
def chkKs (C : Ck) : Es → Scope → List Keyword → Bool
  | .nil, sc, ex => match ex with
    | [] => true
    | _ => false
  | .cons e es, sc, ex => match ex with
    | ⟨_, x, _⟩ :: xs => chkE C e sc x && chkKs C es sc xs
    | _ => false
def chkO (C : Ck) : Oe → Scope → Option Expr → Bool
  | .none, sc, ex => match ex with
    | none => true
    | _ => false
  | .some e, sc, ex => match ex with
    | some x => chkE C e sc x
    | _ => false
def chkC (C : Ck) : Oe → Scope → List Expr → Bool
  | .none, sc, ex => match ex with
    | [] => true
    | _ => false
  | .some e, sc, ex => match ex with
    | [x] => tOk e && chkE C e sc x
    | _ => false
def chkIt (C : Ck) : It → Scope → Expr → Bool
  | .enum e, sc, ex => match ex with
    | .Call (.Name f _) [x] [] _ => decide (f = "enumerate") && glB sc f && noSt x && chkE C e sc x
    | _ => false
  | .zip2 a b, sc, ex => match ex with
    | .Call (.Name f _) [x, y] [] _ => decide (f = "zip") && glB sc f && noSt x && noSt y && chkE C a sc x && chkE C b sc y
    | _ => false
  | .zip3 a b c, sc, ex => match ex with
    | .Call (.Name f _) [x, y, z] [] _ => decide (f = "zip") && glB sc f && noSt x && noSt y && noSt z && chkE C a sc x && chkE C b sc y && chkE C c sc z
    | _ => false
  | .rng1 a, sc, ex => match ex with
    | .Call (.Name f _) [x] [] _ => decide (f = "range") && glB sc f && noSt x && chkE C a sc x
    | _ => false
  | .rng a b, sc, ex => match ex with
    | .Call (.Name f _) [x, y] [] _ => decide (f = "range") && glB sc f && noSt x && noSt y && chkE C a sc x && chkE C b sc y
    | _ => false
  | .of e, sc, ex => match ex with
    | x => chkE C e sc x
def chkTg (C : Ck) : Tg → Scope → Expr → Bool
  | .nm i, sc, ex => match ex with
    | .Name x _ => setB C sc i x
    | _ => false
  | .tp ts, sc, ex => match ex with
    | .Tuple xs _ _ => chkTgs C ts sc xs
    | _ => false
def chkTgs (C : Ck) : Tgs → Scope → List Expr → Bool
  | .nil, sc, ex => match ex with
    | [] => true
    | _ => false
  | .cons t ts, sc, ex => match ex with
    | x :: xs => noSt x && chkTg C t sc x && chkTgs C ts sc xs
    | _ => false
end
end RV

set_option maxRecDepth 100000
/-! Ev35: what the check's parts mean. -/
namespace RV
open PySem L2 PySem.Spec PyProof.Rows
/-- a def that may be called -/
def CallOk (X : Cx) (fn : Fn) (c : CallSh) : Prop :=
  ∃ (k : Nat) (f : Addr) (fd : FuncData) (ps : List Str), FnG X.prog X.w X.K X.mg X.base k f fd ps (spT X.K (fn c.f)) ∧ Room k X.A ∧ X.mg c.nm = some (.ref f) ∧ PySem.W.keepIn X.K (.ref f) = true ∧ BindsG fd ps c.ks c.n c.perm
structure Fits (X : Cx) (C : Ck) (fn : Fn) (sc : Scope) : Prop where
  good : Good X
  N : X.N = C.N
  rel : ∀ x k, sc.names.lookup x = some k → X.env.scope.names.lookup x = some k ∨ (k = .free ∧ X.env.scope.names.lookup x = some .cell)
  fnc : ∀ x, sc.names.lookup x = some .cell → X.fn x = true
  kind : X.env.scope.kind = .function
  consts : ∀ p ∈ C.cs, ∃ (u : Value) (v : V), X.mg p.1 = some u ∧ RelV v u ∧ ∀ H, Im X.K H p.2 v
  calls : ∀ c ∈ C.calls, CallOk X fn c
section
variable {X : Cx} {C : Ck} {fn : Fn} {sc : Scope} {x : Str} {i : Nat} {pos : Pos}
theorem relabel_lookup {env : Env} : ∀ {names : List (Str × NameKind)} {x : Str} {k : NameKind}, names.lookup x = some k →
    (names.map fun (n, k) => if (k == NameKind.free && env.scope.kind == .function && env.kindOf n == some .cell) then (n, NameKind.cell) else (n, k)).lookup x = some k ∨ (k = .free ∧ (names.map fun (n, k) => if (k == NameKind.free && env.scope.kind == .function && env.kindOf n == some .cell) then (n, NameKind.cell) else (n, k)).lookup x = some .cell)
  | [], _, _, h => by simp at h
  | (n, k) :: r, x, j, h => by
    simp only [List.map_cons]
    cases hx : x == n with
    | true =>
      simp only [List.lookup_cons, hx] at h
      cases h
      by_cases hc : (k == NameKind.free && env.scope.kind == .function && env.kindOf n == some .cell) = true
      · right
        simp only [if_pos hc, List.lookup_cons, hx]
        simp only [Bool.and_eq_true] at hc
        exact ⟨eq_of_beq hc.1.1, trivial⟩
      · left
        simp only [if_neg hc, List.lookup_cons, hx]
    | false =>
      simp only [List.lookup_cons, hx] at h
      have ih := relabel_lookup (env := env) h
      by_cases hc : (k == NameKind.free && env.scope.kind == .function && env.kindOf n == some .cell) = true
      · simp only [if_pos hc, List.lookup_cons, hx]; exact ih
      · simp only [if_neg hc, List.lookup_cons, hx]; exact ih
theorem Fits.blk (F : Fits X C fn sc) {scope : Scope} (k : scope.kind = .function) (s : Shared) (H : Hp) (A : Addr) (cl : List (Str × Addr)) (fp : List Addr) : Fits (X.blk s H scope (compEnvC scope cl A X.env) fp) C fn scope where
  good := ⟨F.good.nd, F.good.calm, F.good.un, F.good.grd, F.good.sys, F.good.bl⟩
  N := F.N
  rel := fun x k h => relabel_lookup h
  fnc := fun x h => by show (scope.names.lookup x == some .cell) = true; rw [h]; rfl
  kind := k
  consts := F.consts
  calls := F.calls
theorem Fits.gl (F : Fits X C fn sc) (h : glB sc x = true) : Gl X x := by
  unfold Gl Env.kindOf
  rcases F.rel x _ (of_decide_eq_true h) with e | ⟨e, _⟩
  · exact e
  · cases e
theorem Fits.vis (F : Fits X C fn sc) (h : visB sc x = true) : Vis X.env.scope x := by
  unfold visB at h
  split at h
  · rename_i e
    rcases F.rel x _ e with e | ⟨e, _⟩
    · exact .inl e
    · cases e
  · rename_i e
    rcases F.rel x _ e with e | ⟨e, _⟩
    · exact .inr (.inl e)
    · cases e
  · rename_i e
    rcases F.rel x _ e with e | ⟨_, e⟩
    · exact .inr (.inr e)
    · exact .inr (.inl e)
  · cases h
theorem Fits.lo (F : Fits X C fn sc) (h : locB sc x = true) : X.env.scope.names.lookup x = some .local ∨ (X.env.scope.names.lookup x = some .cell ∧ X.fn x = true) := by
  unfold locB at h
  split at h
  · rename_i e
    rcases F.rel x _ e with e | ⟨e, _⟩
    · exact .inl e
    · cases e
  · rename_i e
    have f := F.fnc x e
    rcases F.rel x _ e with e | ⟨e, _⟩
    · exact .inr ⟨e, f⟩
    · cases e
  · cases h
theorem plainNm_of (h : plainNm x = true) : (x == ("__debug__" : Str)) = false ∧ (x == ("__classdict__" : Str)) = false := by
  unfold plainNm at h
  simpa using h
theorem Fits.var (F : Fits X C fn sc) (h : varB C sc i x = true) : PE X (.Name x pos) (tVar i) := by
  unfold varB at h
  simp only [Bool.and_eq_true, decide_eq_true_eq] at h
  obtain ⟨⟨h1, h2⟩, h3⟩ := h
  refine pe_var (by rw [F.N]; exact h1) (F.vis h2) (plainNm_of h3).1 (plainNm_of h3).2
theorem Fits.loc (F : Fits X C fn sc) (h : setB C sc i x = true) : X.N[i]? = some x ∧ Loc X.env.scope x ∧ (X.fn x = true ∨ X.env.scope.names.lookup x = some .local) := by
  unfold setB at h
  simp only [Bool.and_eq_true, decide_eq_true_eq] at h
  rcases F.lo h.2 with l | ⟨l, f⟩
  · exact ⟨by rw [F.N]; exact h.1, .inl l, .inr l⟩
  · exact ⟨by rw [F.N]; exact h.1, .inr l, .inl f⟩
theorem star_cons {e : Expr} {es : List Expr} {env : Env} (h : noSt e = true) : starEach (e :: es) env = (false, eval e env) :: starEach es env := by
  cases e <;> first | rfl | cases h
theorem asg_cons {e : Expr} {es : List Expr} {env : Env} (h : noSt e = true) : assignEach (e :: es) env = (false, assign e env) :: assignEach es env := by
  cases e <;> first | rfl | cases h
theorem back_any {trees : List (Bool × Sem Value)} : (backTo pos trees).any (·.1) = trees.any (·.1) := by
  unfold backTo
  rw [List.any_map]
  rfl
theorem back_all {trees : List (Bool × Sem Value)} : (backTo pos trees).all (fun x => !x.1) = trees.all (fun x => !x.1) := by
  unfold backTo
  rw [List.all_map]
  rfl
theorem chkEs_star {env : Env} : ∀ {es : Es} {xs : List Expr}, chkEs C es sc xs = true → (starEach xs env).any (·.1) = false ∧ (starEach xs env).all (fun x => !x.1) = true ∧ xs.length = esLen es
  | .nil, [], _ => ⟨rfl, rfl, rfl⟩
  | .nil, _ :: _, h => by simp only [chkEs] at h; cases h
  | .cons e es, [], h => by simp only [chkEs] at h; cases h
  | .cons e es, x :: xs, h => by
    simp only [chkEs, Bool.and_eq_true] at h
    obtain ⟨a, b, c⟩ := chkEs_star (env := env) h.2
    rw [star_cons h.1.1]
    exact ⟨by rw [List.any_cons, a]; rfl, by rw [List.all_cons, b]; rfl, by simp [esLen, c]⟩
theorem chkEs_first {env : Env} {es : Es} {x : Expr} {xs : List Expr} (h : chkEs C es sc (x :: xs) = true) : starEach (x :: xs) env = (false, eval x env) :: starEach xs env ∧ (backTo pos (starEach xs env)).any (·.1) = false ∧ noSt x = true := by
  cases es with
  | nil => simp only [chkEs] at h; cases h
  | cons e es =>
    simp only [chkEs, Bool.and_eq_true] at h
    exact ⟨star_cons h.1.1, by rw [back_any]; exact (chkEs_star h.2).1, h.1.1⟩
theorem pt_weak {e : Expr} {rt : RTe} {q : Bool} (h : PT X e (tT X.K rt q)) : PT X e (tT X.K rt false) := pt_imp h fun σ H Q ⟨S0, H0, ω, a, T, k, a', w, ee, kk⟩ => ⟨S0, H0, ω, a, T, k, a', w, ee, fun H' ω' w' _ => kk H' ω' w' fun z => by cases z⟩
theorem pw_weak {e : Expr} {rt : RTe} {q : Bool} (h : PW X e (tT X.K rt q)) : PW X e (tT X.K rt false) := pw_imp h fun σ H Q ⟨S0, H0, ω, a, T, k, a', w, ee, kk⟩ => ⟨S0, H0, ω, a, T, k, a', w, ee, fun H' ω' w' _ => kk H' ω' w' fun z => by cases z⟩
theorem pe_weak {e : Expr} {r : REv} {q : Bool} (h : PE X e (tR X.K r q)) : PE X e (tR X.K r false) := pe_imp h fun σ H Q ⟨S0, H0, ω, a, T, k, a', w, ee, kk⟩ => ⟨S0, H0, ω, a, T, k, a', w, ee, fun v H' ω' w' o' _ => kk v H' ω' w' o' fun z => by cases z⟩
/-- a text stands for a text -/
def SE (X : Cx) (fn : Fn) (e : E) (ex : Expr) : Prop :=
  (∀ w, PE X ex (tR X.K (ev fn e w) (quietW e w))) ∧ (tOk e = true → PT X ex (tT X.K (tst (ev fn e .br)) false)) ∧ ∀ op vs p, ex = .BoolOp op vs p → PW X ex (tT X.K (tst (ev fn e .br)) false)
def SEs (X : Cx) (fn : Fn) (es : Es) (xs : List Expr) : Prop := ∀ w, PA X xs (tAs X.K (evs fn es w) (quietWs es w))
def SKs (X : Cx) (fn : Fn) (es : Es) (xs : List Keyword) : Prop := ∀ w, PK X xs (tAs X.K (evs fn es w) (quietWs es w))
def SO (X : Cx) (fn : Fn) (o : Oe) (x : Option Expr) : Prop := PO X x (tPO X.K (evO fn o))
def SC (X : Cx) (fn : Fn) (o : Oe) (xs : List Expr) : Prop := PTs X xs (tT X.K (evC fn o) false)
def SI (X : Cx) (fn : Fn) (it : It) (x : Expr) : Prop := ∀ tg, itTg it tg = true → PI X tg x (tI X.K (evIt fn it))
def ST (X : Cx) (t : Tg) (x : Expr) : Prop := PG X x (tG X.K (bindT t) fun vs => tgIn vs t)
def STs (X : Cx) (ts : Tgs) (xs : List Expr) : Prop := PGs X xs (tGs X.K (bindTs ts) fun vs => tgsIn vs ts)
/-- no test of its own -/
def plainT : Expr → Bool
  | .BoolOp .. => false
  | .UnaryOp .Not _ _ => false
  | .Compare .. => false
  | .IfExp .. => false
  | _ => true
theorem isTrue_plain {ex : Expr} {env : Env} (h : plainT ex = true) : ∀ whole, isTrue ex env whole = (do let v ← whole; standAt ex.pos; holding [v] (truthy v)) := by
  intro whole
  cases ex <;> first | rfl | cases h | skip
  rename_i op a p
  cases op <;> first | rfl | cases h
end
end RV

set_option maxRecDepth 100000
/-! Ev36: the check of expressions is right. -/
namespace RV
open PySem L2 PySem.Spec PyProof.Rows
section
variable {X : Cx} {C : Ck} {fn : Fn} {sc : Scope} {x : Str} {i : Nat} {pos : Pos} {ex : Expr}
theorem se_plain {e : E} (hp : plainT ex = true) (h : ∀ w, PE X ex (tR X.K (ev fn e w) (quietW e w))) : SE X fn e ex :=
  ⟨h, fun _ => pt_weak (pt_of_val (h .br) (isTrue_plain hp)), fun op vs p he => by subst he; cases hp⟩
theorem se_var (F : Fits X C fn sc) (h : chkE C (.var i) sc ex = true) : SE X fn (.var i) ex := by
  simp only [chkE] at h
  split at h
  · refine se_plain rfl fun w => ?_
    have hv := pe_varE (w := w) (F.var (pos := ‹Pos›) h)
    cases w <;> exact hv
  · cases h
theorem se_non (h : chkE C .non sc ex = true) : SE X fn .non ex := by
  simp only [chkE] at h
  split at h
  · exact se_plain rfl fun w => pe_nonE
  · cases h
theorem se_bl {b : Bool} (h : chkE C (.bl b) sc ex = true) : SE X fn (.bl b) ex := by
  simp only [chkE] at h
  split at h
  · have h := eq_of_beq h
    subst h
    exact se_plain rfl fun w => pe_blE
  · cases h
theorem se_int {b : Int} (h : chkE C (.int b) sc ex = true) : SE X fn (.int b) ex := by
  simp only [chkE] at h
  split at h
  · have h := of_decide_eq_true h
    subst h
    exact se_plain rfl fun w => pe_intE
  · cases h
theorem se_str {b : Str} (h : chkE C (.str b) sc ex = true) : SE X fn (.str b) ex := by
  simp only [chkE] at h
  split at h
  · have h := of_decide_eq_true h
    subst h
    exact se_plain rfl fun w => pe_strE
  · cases h
theorem flatEq_eq {a b : D} (h : flatEq a b = true) : a = b := by
  unfold flatEq at h
  split at h
  · rw [of_decide_eq_true h]
  · rw [of_decide_eq_true h]
  · rw [eq_of_beq h]
  · rfl
  · cases h
theorem se_glo {d : D} (F : Fits X C fn sc) (h : chkE C (.glo x d) sc ex = true) : SE X fn (.glo x d) ex := by
  simp only [chkE] at h
  split at h
  · simp only [Bool.and_eq_true, decide_eq_true_eq, List.any_eq_true] at h
    obtain ⟨⟨⟨⟨rfl, hg⟩, hp⟩, hf⟩, p, hm, hx, he⟩ := h
    obtain ⟨u, v, h1, h2, h3⟩ := F.consts p hm
    rw [hx] at h1
    rw [flatEq_eq he] at h3
    exact se_plain rfl fun w => pe_gloE hf h3 (F.gl hg) h1 h2 (plainNm_of hp).1
  · cases h
theorem se_tup {es : Es} (ih : ∀ xs, chkEs C es sc xs = true → SEs X fn es xs) (h : chkE C (.tup es) sc ex = true) : SE X fn (.tup es) ex := by
  simp only [chkE] at h
  split at h
  · refine se_plain rfl fun w => ?_
    exact pe_tupE (qs := quietTs es) (fun q => by cases w <;> exact q) (ih _ h (.tk 0))
  · cases h
theorem se_lst {es : Es} (ih : ∀ xs, chkEs C es sc xs = true → SEs X fn es xs) (h : chkE C (.lst es) sc ex = true) : SE X fn (.lst es) ex := by
  simp only [chkE] at h
  split at h
  · refine se_plain rfl fun w => ?_
    refine pe_lstE (qs := quietTs es) (fun q => ?_) (ih _ h (.tk (w.m - 1)))
    cases es with
    | nil => rfl
    | cons e es => cases w <;> cases q
  · cases h
theorem se_dnew (h : chkE C .dnew sc ex = true) : SE X fn .dnew ex := by
  simp only [chkE] at h
  split at h
  · exact se_plain rfl fun w => pe_dnewE
  · cases h
theorem se_bin {o : Bop} {a b : E} (iha : ∀ x, chkE C a sc x = true → SE X fn a x) (ihb : ∀ x, chkE C b sc x = true → SE X fn b x) (h : chkE C (.bin o a b) sc ex = true) : SE X fn (.bin o a b) ex := by
  simp only [chkE] at h
  split at h
  · simp only [Bool.and_eq_true, decide_eq_true_eq] at h
    obtain ⟨⟨rfl, ha⟩, hb⟩ := h
    refine se_plain rfl fun w => ?_
    refine pe_binop (qa := quiet a) (qb := quiet b) o (fun q => ?_) ((iha _ ha).1 .br) ((ihb _ hb).1 .br)
    have q : (quiet a && quiet b) = true := by cases w <;> exact q
    simpa using q
  · cases h
theorem cop_ne {o : Cop} : (o ≠ .isN ∧ o ≠ .notN) ↔ (decide (o ≠ .isN) = true ∧ decide (o ≠ .notN) = true) := by simp
theorem se_cmp {o : Cop} {a b : E} (F : Fits X C fn sc) (iha : ∀ x, chkE C a sc x = true → SE X fn a x) (ihb : ∀ x, chkE C b sc x = true → SE X fn b x) (h : chkE C (.cmp o a b) sc ex = true) : SE X fn (.cmp o a b) ex := by
  simp only [chkE] at h
  split at h
  · simp only [Bool.and_eq_true, decide_eq_true_eq, Bool.not_eq_true'] at h
    obtain ⟨⟨⟨⟨⟨h1, h2⟩, rfl⟩, hm⟩, ha⟩, hb⟩ := h
    have hq : ∀ w, quietW (.cmp o a b) w = true → quiet a = true ∧ quiet b = true := fun w q => by
      have q : (quiet a && quiet b) = true := by cases w <;> exact q
      simpa using q
    refine ⟨fun w => ?_, fun _ => ?_, fun _ _ _ z => by cases z⟩
    · exact pe_cmpE (qa := quiet a) (qb := quiet b) F.good.un o ⟨h1, h2⟩ hm ((iha _ ha).1 .br) ((ihb _ hb).1 .br) (hq w)
    · show PT X _ (tT X.K (tst (tV _ 0)) false)
      rw [tst_tV]
      exact pt_cmpE (qa := quiet a) (qb := quiet b) F.good.un o ⟨h1, h2⟩ hm ((iha _ ha).1 .br) ((ihb _ hb).1 .br) (fun z => by cases z)
  · cases h
theorem se_isn {neg : Bool} {a : E} (iha : ∀ x, chkE C a sc x = true → SE X fn a x) (h : chkE C (.isn neg a) sc ex = true) : SE X fn (.isn neg a) ex := by
  simp only [chkE] at h
  split at h
  · simp only [Bool.and_eq_true, decide_eq_true_eq] at h
    obtain ⟨rfl, ha⟩ := h
    have ha := (iha _ ha).1 .br
    have hqw : ∀ w, quietW (.isn neg a) w = quietW a .br := fun w => by cases w <;> rfl
    cases neg with
    | true => exact ⟨fun w => by rw [hqw]; exact pe_notNE ha, fun _ => by show PT X _ (tT X.K (tst (tV _ 0)) false); rw [tst_tV]; exact pt_weak (pt_notNE ha), fun _ _ _ z => by cases z⟩
    | false => exact ⟨fun w => by rw [hqw]; exact pe_isNE ha, fun _ => by show PT X _ (tT X.K (tst (tV _ 0)) false); rw [tst_tV]; exact pt_weak (pt_isNE ha), fun _ _ _ z => by cases z⟩
  · cases h
theorem se_chn {o o2 : Cop} {a b c : E} (F : Fits X C fn sc) (iha : ∀ x, chkE C a sc x = true → SE X fn a x) (ihb : ∀ x, chkE C b sc x = true → SE X fn b x) (ihc : ∀ x, chkE C c sc x = true → SE X fn c x) (h : chkE C (.chn o o2 a b c) sc ex = true) : SE X fn (.chn o o2 a b c) ex := by
  simp only [chkE] at h
  split at h
  · simp only [Bool.and_eq_true, decide_eq_true_eq, Bool.not_eq_true'] at h
    obtain ⟨⟨⟨⟨⟨⟨⟨⟨⟨h1, h2⟩, h3⟩, h4⟩, rfl⟩, rfl⟩, hm⟩, ha⟩, hb⟩, hc⟩ := h
    refine ⟨fun w => ?_, fun _ => ?_, fun _ _ _ z => by cases z⟩
    · have := pe_chainE (m := w.m) (pos := ‹Pos›) F.good.un o o2 ⟨h1, h2⟩ ⟨h3, h4⟩ hm ((iha _ ha).1 .br) ((ihb _ hb).1 .br) ((ihc _ hc).1 .br)
      cases w <;> exact this
    · show PT X _ (tT X.K (tst (tV _ 0)) false)
      rw [tst_tV]
      exact pt_chainE F.good.un o o2 ⟨h1, h2⟩ ⟨h3, h4⟩ hm ((iha _ ha).1 .br) ((ihb _ hb).1 .br) ((ihc _ hc).1 .br)
  · cases h
theorem se_neg {a : E} (iha : ∀ x, chkE C a sc x = true → SE X fn a x) (h : chkE C (.neg a) sc ex = true) : SE X fn (.neg a) ex := by
  simp only [chkE] at h
  split at h
  · have ha := (iha _ h).1 .br
    exact se_plain rfl fun w => pe_negE (qa := quiet a) (fun q => by cases w <;> exact q) ha
  · cases h
theorem se_not {a : E} (iha : ∀ x, chkE C a sc x = true → SE X fn a x) (h : chkE C (.not a) sc ex = true) : SE X fn (.not a) ex := by
  simp only [chkE] at h
  split at h
  · rw [Bool.and_eq_true] at h
    have ha := iha _ h.2
    refine ⟨fun w => ?_, fun _ => ?_, fun _ _ _ z => by cases z⟩
    · have := pe_notE (m := w.m) (pos := ‹Pos›) (ha.1 .br)
      cases w <;> exact this
    · show PT X _ (tT X.K (tst (tV _ 0)) false)
      rw [tst_tV]
      exact pt_notE (ha.2.1 h.1)
  · cases h
theorem se_and {a b : E} (iha : ∀ x, chkE C a sc x = true → SE X fn a x) (ihb : ∀ x, chkE C b sc x = true → SE X fn b x) (h : chkE C (.and a b) sc ex = true) : SE X fn (.and a b) ex := by
  simp only [chkE] at h
  split at h
  · rename_i x y r pos
    simp only [Bool.and_eq_true] at h
    have ha := iha _ h.1.2
    have hb := ihb _ h.2
    have hb1 : ∀ w, PE X (.BoolOp .And (y :: r) pos) (tR X.K (ev fn b w) (quietW b w)) := fun w => by
      cases r with
      | nil => exact pe_oneE (hb.1 w)
      | cons z r => exact hb.1 w
    have hb2 : PW X (.BoolOp .And (y :: r) pos) (tT X.K (tst (ev fn b .br)) false) := by
      cases r with
      | nil => exact pw_one (hb.2.1 h.1.1.2)
      | cons z r => exact hb.2.2 _ _ _ rfl
    have pw : PW X (.BoolOp .And (x :: y :: r) pos) (tT X.K (tst (ev fn (.and a b) .br)) false) := by
      show PW X _ (tT X.K (tst (tV _ 0)) false)
      rw [tst_tV]
      exact pw_andE (ha.2.1 h.1.1.1) hb2
    refine ⟨fun w => ?_, fun _ => pw.pt, fun _ _ _ z => by cases z; exact pw⟩
    have := pe_andE (m := w.m) (ha.1 .br) (hb1 .br)
    cases w <;> exact this
  · cases h
theorem se_or {a b : E} (iha : ∀ x, chkE C a sc x = true → SE X fn a x) (ihb : ∀ x, chkE C b sc x = true → SE X fn b x) (h : chkE C (.or a b) sc ex = true) : SE X fn (.or a b) ex := by
  simp only [chkE] at h
  split at h
  · rename_i x y r pos
    simp only [Bool.and_eq_true] at h
    have ha := iha _ h.1.2
    have hb := ihb _ h.2
    have hb1 : ∀ w, PE X (.BoolOp .Or (y :: r) pos) (tR X.K (ev fn b w) (quietW b w)) := fun w => by
      cases r with
      | nil => exact pe_oneE (hb.1 w)
      | cons z r => exact hb.1 w
    have hb2 : PW X (.BoolOp .Or (y :: r) pos) (tT X.K (tst (ev fn b .br)) false) := by
      cases r with
      | nil => exact pw_one (hb.2.1 h.1.1.2)
      | cons z r => exact hb.2.2 _ _ _ rfl
    have pw : PW X (.BoolOp .Or (x :: y :: r) pos) (tT X.K (tst (ev fn (.or a b) .br)) false) := by
      show PW X _ (tT X.K (tst (tV _ 0)) false)
      rw [tst_tV]
      exact pw_orE (ha.2.1 h.1.1.1) hb2
    refine ⟨fun w => ?_, fun _ => pw.pt, fun _ _ _ z => by cases z; exact pw⟩
    have := pe_orE (m := w.m) (ha.1 .br) (hb1 .br)
    cases w <;> exact this
  · cases h
end
end RV

set_option maxRecDepth 100000
/-! Ev37: the check of expressions is right, its other half. -/
namespace RV
open PySem L2 PySem.Spec PyProof.Rows
section
variable {X : Cx} {C : Ck} {fn : Fn} {sc : Scope} {x : Str} {i : Nat} {pos : Pos} {ex : Expr}
theorem se_ife {c a b : E} (ihc : ∀ x, chkE C c sc x = true → SE X fn c x) (iha : ∀ x, chkE C a sc x = true → SE X fn a x) (ihb : ∀ x, chkE C b sc x = true → SE X fn b x) (h : chkE C (.ife c a b) sc ex = true) : SE X fn (.ife c a b) ex := by
  simp only [chkE] at h
  split at h
  · simp only [Bool.and_eq_true] at h
    refine ⟨fun w => ?_, (fun z => nomatch (show false = true from z)), fun _ _ _ z => (by cases z)⟩
    have := pe_ifE (pos := ‹Pos›) ((ihc _ h.1.1.2).2.1 h.1.1.1) ((iha _ h.1.2).1 (.tk w.m)) ((ihb _ h.2).1 (.tk w.m))
    cases w <;> exact this
  · cases h
theorem plainIx_of {y : Expr} (h : noSlc y = true) : PlainIx y := by
  intro o i
  cases y <;> first | rfl | cases h
theorem se_idx {a k : E} (F : Fits X C fn sc) (iha : ∀ x, chkE C a sc x = true → SE X fn a x) (ihk : ∀ x, chkE C k sc x = true → SE X fn k x) (h : chkE C (.idx a k) sc ex = true) : SE X fn (.idx a k) ex := by
  simp only [chkE] at h
  split at h
  · simp only [Bool.and_eq_true] at h
    refine se_plain rfl fun w => ?_
    refine pe_idxE (qa := quiet a) (qb := quiet k) (by have := F.good.un; omega) (plainIx_of h.1.1) (fun q => ?_) ((iha _ h.1.2).1 .br) ((ihk _ h.2).1 .br)
    have q : (quiet a && quiet k) = true := by cases w <;> exact q
    simpa using q
  · cases h
theorem se_slc {a : E} {lo hi : Oe} (iha : ∀ x, chkE C a sc x = true → SE X fn a x) (ihl : ∀ x, chkO C lo sc x = true → SO X fn lo x) (ihh : ∀ x, chkO C hi sc x = true → SO X fn hi x) (h : chkE C (.slc a lo hi) sc ex = true) : SE X fn (.slc a lo hi) ex := by
  simp only [chkE] at h
  split at h
  · simp only [Bool.and_eq_true] at h
    refine se_plain rfl fun w => ?_
    have := pe_slcE (m := w.m) (pos := ‹Pos›) (p2 := ‹Pos›) ((iha _ h.1.1).1 .br) (ihl _ h.1.2) (ihh _ h.2)
    cases w <;> exact pe_slcE (m := _) ((iha _ h.1.1).1 .br) (ihl _ h.1.2) (ihh _ h.2)
  · cases h
theorem se_rev {a : E} (iha : ∀ x, chkE C a sc x = true → SE X fn a x) (h : chkE C (.rev a) sc ex = true) : SE X fn (.rev a) ex := by
  simp only [chkE] at h
  split at h
  · simp only [Bool.and_eq_true, decide_eq_true_eq] at h
    obtain ⟨rfl, ha⟩ := h
    refine se_plain rfl fun w => ?_
    have ha := (iha _ ha).1 .br
    cases w <;> exact pe_revE (fun z => by cases z) ha
  · cases h
theorem rgV_ints {n : Int} : rgV 0 n = ((List.range n.toNat).map fun (i : Nat) => (i : Int)).map V.int := by
  unfold rgV
  rw [List.map_map, Int.sub_zero]
  refine List.map_congr_left fun i _ => ?_
  simp
theorem rangeD_ints {n : Int} : rangeD n = ((List.range n.toNat).map fun (i : Nat) => (i : Int)).map PyData.int := by
  unfold rangeD rangeD.D.int'
  rw [List.map_map]
  rfl
theorem rgOk_small {n : Int} (h : (decide (n ≤ 1000000) && decide (-(2 ^ 62) ≤ n)) = true) : RgOk 0 n := by
  simp only [Bool.and_eq_true, decide_eq_true_eq] at h
  exact ⟨by decide, by decide, h.2, by omega, by omega⟩
theorem val_rangeL {K : PySem.W.Frag} : Val1 K (fun x H Q => ∃ n, x = V.int n ∧ (RgOk 0 n ∧ ∀ q, H q = none → Q (.ref q) (upd H q (.lst (rgV 0 n))))) (unD .rangeL) := by
  intro H x z1 m1 d1 F1 d Q o1 e k
  simp only [unD] at e
  unfold rangeLD at e
  split at e
  · rename_i n he
    simp only [List.cons.injEq, Prod.mk.injEq, and_true] at he
    obtain ⟨rfl, rfl⟩ := he
    split at e
    · rename_i hn
      cases e
      refine ⟨n, own_int o1, rgOk_small hn, fun q hq => k _ _ ?_⟩
      rw [rgV_ints, rangeD_ints]
      exact .list hq (im_ints _)
    · cases e
  · cases e
theorem pe_tupRgN {X : Cx} {e : Expr} {te : L2.St → Hp → (Int → Int → Hp → Prop) → Prop} {p pos : Pos} (hc : X.calm = true) (hg : Gl X "tuple") (hm : X.mg "tuple" = none) (he : PRg X e te) (na : starEach [e] X.env = (false, eval e X.env) :: starEach [] X.env := by rfl) : PE X (.Call (.Name "tuple" p) [e] [] pos) (fun σ H Q => te σ H fun a b H1 => RgOk a b ∧ NewT Q H1 (rgV a b)) := by
  refine ⟨fun pins s σ H Q I h => ?_⟩
  refine Call_ (ld_blt I hg hm boot_tuple (PyProof.Rows.callWith_type1 (args_cons (thn (he pins s σ H _ I h) fun x s1 ⟨r, a, b, t, u, v, H1, ex, hr, I1, ok, q⟩ => args_nil ?_) na) na))
  subst ex
  obtain ⟨b1, b2, b3, b4, b5⟩ := ok
  refine call_tuple_range (n := (b - a).toNat) (I1.ok.hd hc) hr (small_one b1 b2 b3 b4) (rangeSize_nat a b) b5 fun h' tk acc hk hi => ?_
  have I2 : Inv X pins σ H1 { s1 with heap := h', toks := tk } := I1.kept hk
  have := ep_newT (s := { s1 with heap := h', toks := tk }) I2 (vals_rg hi) (by rw [rgV_length, sizeLine_eq]; omega) q
  rw [Array.toArray_toList] at this
  exact this
theorem val_rangeT {K : PySem.W.Frag} : Val1 K (fun x H Q => ∃ n, x = V.int n ∧ (RgOk 0 n ∧ NewT Q H (rgV 0 n))) (unD .rangeT) := by
  intro H x z1 m1 d1 F1 d Q o1 e k
  simp only [unD] at e
  unfold rangeTD at e
  split at e
  · rename_i n he
    simp only [List.cons.injEq, Prod.mk.injEq, and_true] at he
    obtain ⟨rfl, rfl⟩ := he
    split at e
    · rename_i hn
      cases e
      refine ⟨n, own_int o1, rgOk_small hn, fun q o hq ho => k _ _ ?_⟩
      rw [rgV_ints, rangeD_ints]
      exact .tup hq ho (im_ints _)
    · cases e
  · cases e
/-! sets -/
def rSetI (K : PySem.W.Frag) (w : World) : List V → Hp → VK → Prop := fun xs H Q => ∃ (a : Addr) (ns : List Int), xs = [V.ref a] ∧ (SqL K H a (ns.map V.int) ∨ SqT K H a (ns.map V.int)) ∧ ns.length ≤ 4000 ∧
  ∀ p S, (∀ k : Int, S k = true ↔ k ∈ ns) → H p = none → Q (.ref p) (upd H p (SetO w p S (dedupI ns).length))
theorem cr_setI {X : Cx} (hc : X.calm = true) : CallR X (.type "set") (rSetI X.K X.w) := by
  intro pins s σ H vs us Q I r h
  obtain ⟨a, ns, rfl, hq, hl, q⟩ := h
  obtain ⟨u, rfl, rx⟩ := vals1 r
  cases rx
  have S0 : ∀ (h2 : Heap) (tk : Nat) (its : List Value), its.length = ns.length → SetR X.w h2 s.heap.objs.size (fun j => (mt (fun i => ns.getD i 0) its.toArray.size).any (· == j)) (mt (fun i => ns.getD i 0) its.toArray.size).length → (∀ b o, s.heap.get? b = some o → h2.get? b = some o) →
      EP X pins σ Q (.ref s.heap.objs.size) { s with heap := h2, toks := tk } := fun h2 tk its hlen c1 c2 => by
    have sz : its.toArray.size = ns.length := by rw [List.size_toArray, hlen]
    rw [sz, mt_len] at c1
    exact ⟨.ref _, upd H s.heap.objs.size (SetO X.w s.heap.objs.size _ _), I.laid (t' := tk) (fun b u e => c2 b u e) (Nat.le_refl _) (setO_new c1), rfl, q _ _ (fun k => mem_mt) (I.hok.fresh (Nat.le_refl _))⟩
  rcases hq with hq | hq
  · obtain ⟨its, r', pl, hz⟩ := I.list hq
    have hlen : its.length = ns.length := by rw [← r'.length, List.length_map]
    exact set_ints (I.ok.hd hc) pl.isList (by simpa using RZ.intsAre_vals r') (by rw [List.size_toArray, hlen]; unfold scanBound; omega) fun h2 tk c1 c2 => S0 h2 tk its hlen c1 c2
  · obtain ⟨its, r', pl, hz⟩ := I.tuple hq
    have hlen : its.length = ns.length := by rw [← r'.length, List.length_map]
    exact set_intsT (I.ok.hd hc) ⟨_, pl.choose_spec.1, pl.choose_spec.2.1, pl.choose_spec.2.2⟩ (by simpa using RZ.intsAre_vals r') (by rw [List.size_toArray, hlen]; unfold scanBound; omega) fun h2 tk c1 c2 => S0 h2 tk its hlen c1 c2
def rLenS (w : World) : List V → Hp → VK → Prop := fun xs H Q => ∃ (a : Addr) (S : Int → Bool) (n : Nat), xs = [V.ref a] ∧ H a = some (SetO w a S n) ∧ Q (.int n) H
theorem cr_lenS {X : Cx} : CallR X (.builtin "len") (rLenS X.w) := by
  intro pins s σ H vs us Q I r h
  obtain ⟨a, S, n, rfl, ha, q⟩ := h
  obtain ⟨u, rfl, rx⟩ := vals1 r
  cases rx
  obtain ⟨o, es, ep, t, ho, hx, hd, _, _, _, hb, hf, hn, _⟩ := setO_get I ha
  exact call_len_set ho hx hd hf (by unfold scanBound at hb; omega) ⟨.int n, H, I.tok _, ⟨_, by rw [hn]⟩, q⟩
/-- over a heap that has grown -/
def Val1g (K : PySem.W.Frag) (r : V → Hp → VK → Prop) (f : Nat × D → Option D) : Prop :=
  ∀ (H : Hp) (x : V) (z1 : Bool) (m1 : Nat) (d1 : D) (F1 : Addr → Prop) (d : D) (Q : VK), Own K H z1 m1 d1 x F1 → f (m1, d1) = some d → (∀ H2 v H', Same H H2 → Made K H2 d v H' → Q v H') → r x H Q
theorem one_tRg {X : Cx} {qa q : Bool} {ra : REv} {t : V → Hp → VK → Prop} {f : Nat × D → Option D} {m : Nat} {σ : L2.St} {H : Hp} {Q : VK} (hv : Val1g X.K t f) (hq : q = true → qa = true)
    (h : tR X.K (oneEv ra f m) q σ H Q) : tR X.K ra qa σ H (fun x H1 => t x H1 (fun v H' => Gz (Q v) H')) := by
  obtain ⟨S0, H0, ω, a, T, o, a', w, e, k⟩ := h
  unfold oneEv at e
  simp only [Option.bind_eq_some_iff] at e
  obtain ⟨p, ep, u, eu, d, ed, e⟩ := e
  split at e
  · rename_i hk
    cases e
    refine ⟨S0, H0, ω, a, T, p.1, p.2, w, ep, fun x H1 ω1 w1 o1 q1 => ?_⟩
    obtain ⟨z1, F1, w1'⟩ := opd_own (T2 := []) (by rw [List.append_nil]; exact w1) o1 eu
    refine hv H1 x z1 _ _ F1 d _ w1' ed fun H2 v' H' sm mk => ?_
    refine ((w1.drop.grow sm).made mk hk).mono fun H3 ⟨ω3, w4, s⟩ => k v' H3 ω3 w4 trivial fun hq' => ?_
    obtain ⟨s1, e1⟩ := q1 (hq hq')
    exact ⟨s1.trans (sm.trans s), e1⟩
  · cases e
theorem own_seqI {K : PySem.W.Frag} {H : Hp} {z : Bool} {m : Nat} {d : D} {v : V} {F : Addr → Prop} {ns : List Int} {ds : List D} (h : Own K H z m d v F) (hd : d = .list ds ∨ d = .tuple ds) (hn : asInts ds = some ns) : ∃ a, v = .ref a ∧ (SqL K H a (ns.map V.int) ∨ SqT K H a (ns.map V.int)) := by
  have e := asInts_eq hn
  subst e
  rcases hd with rfl | rfl
  · obtain ⟨a, xs, rfl, q, im⟩ := kids_im h (by simp only [kidsIm, kidsFlat, List.all_map, Bool.or_eq_true]; exact .inr (List.all_eq_true.mpr fun _ _ => rfl))
    rw [ima_ints im] at q
    exact ⟨a, rfl, .inl q⟩
  · obtain ⟨a, xs, rfl, q, im⟩ := own_tup h
    rw [ima_ints im] at q
    exact ⟨a, rfl, .inr q.1⟩
theorem sorted_uniq {a b : List Int} (ha : a.Pairwise (· < ·)) (hb : b.Pairwise (· < ·)) (h : ∀ k, k ∈ a ↔ k ∈ b) : a = b := by
  have na : a.Nodup := ha.imp fun h => Int.ne_of_lt h
  have nb : b.Nodup := hb.imp fun h => Int.ne_of_lt h
  refine ((List.perm_ext_iff_of_nodup na nb).mpr h).eq_of_pairwise (le := fun x y => x < y) (fun x y _ _ h1 h2 => ?_) ha hb
  omega
theorem sset_sorted (ns : List Int) : ((dedupI ns).mergeSort fun a b => decide (a ≤ b)).Pairwise (· < ·) := by
  have h1 : ((dedupI ns).mergeSort fun a b => decide (a ≤ b)).Pairwise fun a b => decide (a ≤ b) = true := List.pairwise_mergeSort (by intro a b c; simp; omega) (by intro a b; simp; omega) _
  have h2 : ((dedupI ns).mergeSort fun a b => decide (a ≤ b)).Nodup := (List.mergeSort_perm _ _).nodup_iff.mpr (nodup_dedup ns)
  refine (h1.and h2).imp fun ⟨h3, h4⟩ => ?_
  simp only [decide_eq_true_eq] at h3
  omega
theorem seqInts {d : Nat × D} {r : D} {c : List Int → Bool} {g : List Int → D} (h : (match d.2 with | .list ds => (asInts ds).bind fun ns => if c ns = true then some (g ns) else none | .tuple ds => (asInts ds).bind fun ns => if c ns = true then some (g ns) else none | _ => none) = some r) :
    ∃ ds ns, (d.2 = .list ds ∨ d.2 = .tuple ds) ∧ asInts ds = some ns ∧ c ns = true ∧ r = g ns := by
  split at h
  · rename_i ds e
    obtain ⟨ns, h1, h2⟩ := Option.bind_eq_some_iff.mp h
    split at h2
    · cases h2; exact ⟨ds, ns, .inl e, h1, ‹_›, rfl⟩
    · cases h2
  · rename_i ds e
    obtain ⟨ns, h1, h2⟩ := Option.bind_eq_some_iff.mp h
    split at h2
    · cases h2; exact ⟨ds, ns, .inr e, h1, ‹_›, rfl⟩
    · cases h2
  · cases h
theorem val_lenSet {K : PySem.W.Frag} {w : World} : Val1g K (fun x H Q => rSetI K w [x] H fun y H2 => rLenS w [y] H2 Q) (unD .lenSet) := by
  intro H x z1 m1 d1 F1 d Q o1 e k
  obtain ⟨ds, ns, h1, h2, h3, rfl⟩ := seqInts e
  obtain ⟨a, rfl, hq⟩ := own_seqI o1 h1 h2
  refine ⟨a, ns, rfl, hq, by simpa using h3, fun p S hS hp => ⟨p, S, _, rfl, upd_same, ?_⟩⟩
  exact k _ _ _ (same_new hp) (.flat rfl (im_int _) (.refl _))
theorem val_sortedSet {K : PySem.W.Frag} {w : World} : Val1g K (fun x H Q => rSetI K w [x] H fun y H2 => rSortedSet w [y] H2 Q) (unD .sortedSet) := by
  intro H x z1 m1 d1 F1 d Q o1 e k
  obtain ⟨ds, ns, h1, h2, h3, rfl⟩ := seqInts e
  obtain ⟨a, rfl, hq⟩ := own_seqI o1 h1 h2
  simp only [Bool.and_eq_true, decide_eq_true_eq] at h3
  refine ⟨a, ns, rfl, hq, h3.1, fun p S hS hp => ⟨p, S, _, rfl, upd_same, h3.2, fun ns2 p2 s1 s2 s3 hp2 => ?_⟩⟩
  have e2 : ns2 = (dedupI ns).mergeSort fun a b => decide (a ≤ b) := sorted_uniq s1 (sset_sorted ns) fun k => by rw [s2, hS, (List.mergeSort_perm _ _).mem_iff, mem_dedup]
  subst e2
  exact k _ _ _ (same_new hp) (.list hp2 (im_ints _))
theorem pe_unE {X : Cx} {qa q : Bool} {ra : REv} {m : Nat} {a : Expr} {x y : Str} {p p2 pos pos2 : Pos} (G : Good X) (u : Un) (hx : unNm u = (x, y)) (hg : Gl X x) (hg2 : Gl X y) (hs : noSt a = true) (hq : q = true → qa = true) (ha : PE X a (tR X.K ra qa)) :
    PE X (.Call (.Name x p) [.Call (.Name y p2) [a] [] pos2] [] pos) (tR X.K (oneEv ra (unD u) m) q) := by
  cases u with
  | rangeL => cases hx; exact pe_imp (pe_gz (pe_listRg G.calm hg (G.bl _ (by decide)) (prg_1 hg2 (G.bl _ (by decide)) ha (star_cons hs)))) fun σ H Q h => one_tR val_rangeL hq h
  | rangeT => cases hx; exact pe_imp (pe_gz (pe_tupRgN G.calm hg (G.bl _ (by decide)) (prg_1 hg2 (G.bl _ (by decide)) ha (star_cons hs)))) fun σ H Q h => one_tR val_rangeT hq h
  | lenSet =>
    cases hx
    have h1 := pe_callTy (p := p2) (pos := pos2) (cr_setI G.calm) hg2 (G.bl _ (by decide)) (by decide +kernel) (pa_cons ha pa_nil (star_cons hs)) (by decide) (by decide) (star_cons hs) (by rw [back_any]; rfl)
    have h2 := pe_callB (p := p) (pos := pos) cr_lenS hg (G.bl _ (by decide)) (by decide +kernel) (pa_cons h1 pa_nil (star_cons rfl)) (by decide) (by decide) (star_cons rfl) (by rw [back_any]; rfl)
    exact pe_imp (pe_gz h2) fun σ H Q h => one_tRg val_lenSet hq h
  | sortedSet =>
    cases hx
    have h1 := pe_callTy (p := p2) (pos := pos2) (cr_setI G.calm) hg2 (G.bl _ (by decide)) (by decide +kernel) (pa_cons ha pa_nil (star_cons hs)) (by decide) (by decide) (star_cons hs) (by rw [back_any]; rfl)
    have h2 := pe_callB (p := p) (pos := pos) (cr_sortedSet G.calm) hg (G.bl _ (by decide)) (by decide +kernel) (pa_cons h1 pa_nil (star_cons rfl)) (by decide) (by decide) (star_cons rfl) (by rw [back_any]; rfl)
    exact pe_imp (pe_gz h2) fun σ H Q h => one_tRg val_sortedSet hq h
theorem se_un {u : Un} {a : E} (F : Fits X C fn sc) (iha : ∀ x, chkE C a sc x = true → SE X fn a x) (h : chkE C (.un u a) sc ex = true) : SE X fn (.un u a) ex := by
  simp only [chkE] at h
  split at h
  · simp only [Bool.and_eq_true, decide_eq_true_eq] at h
    obtain ⟨⟨⟨⟨h1, h2⟩, h3⟩, h4⟩, h5⟩ := h
    refine se_plain rfl fun w => ?_
    have ha := (iha _ h5).1 .br
    exact pe_unE F.good u h1 (F.gl h2) (F.gl h3) h4 (fun z => by cases w <;> cases z) ha
  · cases h
theorem biq {f : Bi} {es : Es} {w : Wt} (h : quietW (.bi f es) w = true) : quiets es = true := by
  cases f <;> cases w <;> first | exact h | cases h
theorem se_bi {f : Bi} {es : Es} (F : Fits X C fn sc) (ih : ∀ xs, chkEs C es sc xs = true → SEs X fn es xs) (h : chkE C (.bi f es) sc ex = true) : SE X fn (.bi f es) ex := by
  simp only [chkE] at h
  split at h
  · simp only [Bool.and_eq_true, decide_eq_true_eq] at h
    obtain ⟨⟨h1, h2⟩, h3⟩ := h
    obtain ⟨s1, s2, _⟩ := chkEs_first (env := X.env) (pos := ‹Pos›) h3
    refine se_plain rfl fun w => ?_
    exact pe_biE F.good f h1 (F.gl h2) (qs := quiets es) biq (ih _ h3 .br) s1 s2
  · cases h
theorem se_isi {a : E} {ts : List String} (F : Fits X C fn sc) (iha : ∀ x, chkE C a sc x = true → SE X fn a x) (h : chkE C (.isi a ts) sc ex = true) : SE X fn (.isi a ts) ex := by
  simp only [chkE] at h
  split at h
  · rename_i z pz pos'
    simp only [Bool.and_eq_true, decide_eq_true_eq] at h
    obtain ⟨⟨⟨⟨⟨ht, rfl⟩, h2⟩, h3⟩, h4⟩, h5⟩ := h
    split at ht
    · rename_i T
      unfold biTy at ht
      simp only [Bool.and_eq_true, decide_eq_true_eq] at ht
      obtain ⟨hT, rfl⟩ := ht
      have ha := (iha _ h5).1 .br
      refine se_plain rfl fun w => ?_
      have key : (Str.ofString T) ∈ biNames ∧ bootBuiltins (Str.ofString T) = some (.type T) ∧ (Str.ofString T) ≠ "__name__" ∧ ((Str.ofString T) == ("__debug__" : Str)) = false := by
        simp only [isiTypes, List.mem_cons, List.not_mem_nil, or_false] at hT
        rcases hT with rfl | rfl | rfl | rfl | rfl | rfl <;> exact ⟨by decide +kernel, by decide +kernel, by decide +kernel, by decide +kernel⟩
      exact pe_isiE F.good hT key.1 key.2.1 (qa := quiet a) (fun q => by cases w <;> cases q) (F.gl h2) (F.gl h3) ha (star_cons h4) (by rw [back_any]; rfl) key.2.2.1 key.2.2.2
    · cases ht
  · cases h
theorem kw_all {pos : Pos} {env : Env} : ∀ {kws : List Keyword} {ks : List Str}, ks.map some = kwNames kws → ((backToKw pos (keywordEach kws env)).all (·.1.isSome) = true ∧ (backToKw pos (keywordEach kws env)).any (·.1.isNone) = false ∧ (backToKw pos (keywordEach kws env)).filterMap (·.1) = ks ∧ kws.length = ks.length)
  | [], ks, h => by
    cases ks with
    | nil => exact ⟨rfl, rfl, rfl, rfl⟩
    | cons _ _ => cases h
  | ⟨n, v, p⟩ :: r, ks, h => by
    cases ks with
    | nil => cases h
    | cons k ks =>
      simp only [kwNames, List.map_cons, List.cons.injEq] at h
      obtain ⟨rfl, h⟩ := h
      obtain ⟨a, b, c, d⟩ := kw_all (pos := pos) (env := env) h
      unfold backToKw at a b c ⊢
      refine ⟨?_, ?_, ?_, by simp [d]⟩
      · rw [keywordEach, List.map_cons, List.all_cons, a]; rfl
      · rw [keywordEach, List.map_cons, List.any_cons, b]; rfl
      · rw [keywordEach, List.map_cons, List.filterMap_cons, c]
theorem evs_len {w : Wt} : ∀ {es : Es} {a p}, evs fn es w a = some p → p.1.length = esLen es
  | .nil, a, p, h => len_nil a p h
  | .cons e es, a, p, h => len_cons (n := esLen es) (fun a p h => evs_len h) a p h
theorem kks_len : ∀ {es : Es} {kws : List Keyword}, chkKs C es sc kws = true → kws.length = esLen es
  | .nil, [], _ => rfl
  | .nil, _ :: _, h => by simp only [chkKs] at h; cases h
  | .cons e es, [], h => by simp only [chkKs] at h; cases h
  | .cons e es, ⟨n, v, p⟩ :: r, h => by
    simp only [chkKs, Bool.and_eq_true] at h
    simp [esLen, kks_len h.2]
theorem mu_run {f : Mu} {am : Nat} {o : Expr} {apos cpos : Pos} {ys : List Expr} {es : Es} {w : Wt} (hb : attributeBase o (muNm f) X.env (eval o X.env) = eval o X.env) (hl : (apos.endLine == cpos.line) = true) (h30 : ys.length < 30) (hc : chkEs C es sc ys = true) (hv : PE X o (tVar i)) (ha : SEs X fn es ys) :
    PE X (.Call (.Attribute o (muNm f) apos) ys [] cpos) (tR X.K (muEv (evs fn es (muWt f am)) f am i w) false) := by
  cases ys with
  | nil =>
    cases es with
    | cons _ _ => simp only [chkEs] at hc; cases hc
    | nil => exact pe_muE0 hb hl hv
  | cons e r =>
    obtain ⟨s1, s2, _⟩ := chkEs_first (env := X.env) (pos := cpos) hc
    have s3 := (chkEs_star (env := X.env) hc).2.1
    refine pe_muE ⟨hb, ?_, hl, s1, s2⟩ hv (ha _)
    rw [back_all, s3]
    simp only [Bool.true_and, Bool.and_eq_true, decide_eq_true_eq]
    exact ⟨rfl, by simpa using h30⟩
theorem muSub_run {f : Mu} {o : Expr} {apos cpos : Pos} {ys : List Expr} {es : Es} {w : Wt} {rk : REv} {qk : Bool} (hb : attributeBase o (muNm f) X.env (eval o X.env) = eval o X.env) (hl : (apos.endLine == cpos.line) = true) (h30 : ys.length < 30) (hc : chkEs C es sc ys = true) (hv : PE X o (tR X.K (idxEv (varEv i .br) rk qk .br) false)) (ha : SEs X fn es ys) :
    PE X (.Call (.Attribute o (muNm f) apos) ys [] cpos) (tR X.K (muSubEv rk qk (evs fn es .br) (quiets es) f i w) false) := by
  cases ys with
  | nil =>
    cases es with
    | cons _ _ => simp only [chkEs] at hc; cases hc
    | nil => exact pe_muSubE0 hb hl hv
  | cons e r =>
    obtain ⟨s1, s2, _⟩ := chkEs_first (env := X.env) (pos := cpos) hc
    have s3 := (chkEs_star (env := X.env) hc).2.1
    refine pe_muSubE ⟨hb, ?_, hl, s1, s2⟩ hv (ha _)
    rw [back_all, s3]
    simp only [Bool.true_and, Bool.and_eq_true, decide_eq_true_eq]
    exact ⟨rfl, by simpa using h30⟩
theorem se_mu {f : Mu} {am : Nat} {es : Es} (F : Fits X C fn sc) (ih : ∀ xs, chkEs C es sc xs = true → SEs X fn es xs) (h : chkE C (.mu f am i .none es) sc ex = true) : SE X fn (.mu f am i .none es) ex := by
  simp only [chkE] at h
  split at h
  · simp only [Bool.and_eq_true, decide_eq_true_eq] at h
    obtain ⟨⟨⟨⟨rfl, h2⟩, h3⟩, h4⟩, h5⟩ := h
    refine se_plain rfl fun w => ?_
    cases w <;> exact mu_run (f := f) (am := am) rfl h3 h4 h5 (F.var h2) (ih _ h5)
  · cases h
theorem se_muS {f : Mu} {am : Nat} {k : E} {es : Es} (F : Fits X C fn sc) (ihk : ∀ x, chkE C k sc x = true → SE X fn k x) (ih : ∀ xs, chkEs C es sc xs = true → SEs X fn es xs) (h : chkE C (.mu f am i (.some k) es) sc ex = true) : SE X fn (.mu f am i (.some k) es) ex := by
  simp only [chkE] at h
  split at h
  · simp only [Bool.and_eq_true, decide_eq_true_eq] at h
    obtain ⟨⟨⟨⟨⟨⟨rfl, h2⟩, h3⟩, h4⟩, h5⟩, h6⟩, h7⟩ := h
    refine se_plain rfl fun w => ?_
    cases w <;> exact muSub_run (f := f) rfl h4 h5 h7 (pe_idxE (w := .br) (q := false) (qa := true) (qb := quiet k) (by have := F.good.un; omega) (plainIx_of h3) (fun z => by cases z) (pe_varE (w := .br) (F.var h2)) ((ihk _ h6).1 .br)) (ih _ h7)
  · cases h
end
end RV

set_option maxRecDepth 100000
/-! Ev38: the check of expressions is right: calls, comprehensions, all together. -/
namespace RV
open PySem L2 PySem.Spec PyProof.Rows
section
variable {X : Cx} {C : Ck} {fn : Fn} {sc : Scope} {x : Str} {i : Nat} {pos : Pos} {ex : Expr}
theorem se_call {f : Nat} {es ks : Es} {perm : List Nat} (F : Fits X C fn sc) (ih : ∀ xs, chkEs C es sc xs = true → SEs X fn es xs) (ihk : ∀ xs, chkKs C ks sc xs = true → SKs X fn ks xs) (h : chkE C (.call f es ks perm) sc ex = true) : SE X fn (.call f es ks perm) ex := by
  simp only [chkE] at h
  split at h
  · rename_i x p ys kws pos
    simp only [Bool.and_eq_true, decide_eq_true_eq, List.any_eq_true] at h
    obtain ⟨⟨⟨⟨⟨h1, h2⟩, c, hc, ⟨⟨⟨hn, hf⟩, hl⟩, hks⟩, hp⟩, hpos⟩, h5⟩, h6⟩ := h
    obtain ⟨k, fa, fd, ps, FG, hr, hm, hk, hb⟩ := F.calls c hc
    subst hn hf hp
    obtain ⟨k1, k2, k3, k4⟩ := kw_all (pos := pos) (env := X.env) hks
    have hlen := (chkEs_star (env := X.env) h5).2.2
    have hklen := kks_len h6
    have l1 : ∀ a p, evs fn es .br a = some p → p.1.length = c.n := fun a p e => by rw [evs_len e, hl, hlen]
    have l2 : ∀ a p, evs fn ks .br a = some p → p.1.length = c.ks.length := fun a p e => by rw [evs_len e, ← k4, hklen]
    refine se_plain rfl fun w => ?_
    have hq : quietW (.call c.f es ks c.perm) w = false := by cases w <;> rfl
    rw [hq]
    have ha := ih _ h5 .br
    have hkw := ihk _ h6 .br
    cases ys with
    | nil =>
      have es0 : es = .nil := by
        cases es with
        | nil => rfl
        | cons _ _ => simp only [chkEs] at h5; cases h5
      subst es0
      have hn0 : c.n = 0 := hl
      rw [hn0] at hb l1
      have P := pe_callGK0 (g := fn c.f) FG hr F.good.grd (F.gl h1) hm hk hb hkw k1 k3 (plainNm_of h2).1 (p := p) (pos := pos) (by rw [k2]; rfl)
      refine pe_imp (pe_gz P) fun σ H Q hh => ?_
      exact nil_tAs (q := false) (callG_tR (w := w.m) (rs := nilAs) (qs := false) (n := 0) l1 l2 hh rfl)
    | cons e r =>
      obtain ⟨s1, s2, _⟩ := chkEs_first (env := X.env) (pos := pos) h5
      have P := pe_callGK (g := fn c.f) FG hr F.good.grd (F.gl h1) hm hk hb ha hkw k1 k3 (plainNm_of h2).1 (p := p) (pos := pos) s1 (by rw [k2, back_any, (chkEs_star (env := X.env) h5).1]; rfl)
      exact pe_imp (pe_gz P) fun σ H Q hh => callG_tR (w := w.m) l1 l2 hh rfl
  · cases h
theorem Fits.blkOk {own : List Nat} {scope : Scope} (F : Fits X C fn sc) (h : BlkOk X.N sc scope (own.map fun i => ((X.N[i]?).getD "", i))) : BlkOk X.N X.env.scope scope (own.map fun i => ((X.N[i]?).getD "", i)) := by
  refine ⟨h.kind, h.uniq, h.ix, fun y hy e => ?_, h.own⟩
  rcases h.free y hy e with k | k
  · rcases F.rel _ _ k with z | ⟨z, _⟩
    · exact .inl z
    · cases z
  · rcases F.rel _ _ k with z | ⟨_, z⟩
    · exact .inr z
    · exact .inl z
theorem blk_of {N : List Str} {sc scope : Scope} {own : List Nat} (h : blkB N sc scope own = true) : BlkOk N sc scope (own.map fun i => ((N[i]?).getD "", i)) := by
  unfold blkB at h
  simp only [Bool.and_eq_true, decide_eq_true_eq, List.all_eq_true] at h
  obtain ⟨⟨⟨h1, h2⟩, h3⟩, h4⟩ := h
  refine ⟨h1, h2, fun p hp => ?_, fun y hy e => ?_, fun y hy e => ?_⟩
  · obtain ⟨i, hi, rfl⟩ := List.mem_map.mp hp
    have := h3 i hi
    obtain ⟨z, hz⟩ := Option.isSome_iff_exists.mp this
    simp [hz]
  · have := h4 y hy
    rw [e] at this
    simp only [Bool.or_eq_true] at this
    exact this.imp of_decide_eq_true of_decide_eq_true
  · have key : (own.any (fun i => decide (N[i]? = some y.1)) || !(N.contains y.1)) = true := by
      have := h4 y hy
      rcases e with e | e <;> (rw [e] at this; exact this)
    rw [Bool.or_eq_true] at key
    rcases key with k | k
    · left
      simp only [List.any_eq_true, decide_eq_true_eq] at k
      obtain ⟨i, hi, e⟩ := k
      refine List.mem_map.mpr ⟨_, List.mem_map.mpr ⟨i, hi, rfl⟩, ?_⟩
      rw [e]; rfl
    · right
      simpa using k
theorem blk_snd {N : List Str} {own : List Nat} : (own.map fun i => (((N[i]?).getD "" : Str), i)).map (·.2) = own := by
  rw [List.map_map]
  exact List.map_id _
theorem fold_of {e : Expr} {env : Env} (h : noSet e = true) : ∀ x, foldedSetIterable e env x = pure x := by
  intro x
  cases e <;> first | rfl | cases h
theorem se_lc {own : List Nat} {el : E} {tg : Tg} {it : It} {cond : Oe} (F : Fits X C fn sc)
    (ihi : ∀ x, chkIt C it sc x = true → SI X fn it x) (iht : ∀ {Y : Cx} {sc'} x, Fits Y C fn sc' → chkTg C tg sc' x = true → ST Y tg x) (ihc : ∀ {Y : Cx} {sc'} x, Fits Y C fn sc' → chkC C cond sc' x = true → SC Y fn cond x) (ihe : ∀ {Y : Cx} {sc'} x, Fits Y C fn sc' → chkE C el sc' x = true → SE Y fn el x)
    (h : chkE C (.lc own el tg it cond) sc ex = true) : SE X fn (.lc own el tg it cond) ex := by
  simp only [chkE] at h
  split at h
  · rename_i elt tgE iter ifs scope pos
    simp only [Bool.and_eq_true] at h
    obtain ⟨⟨⟨⟨⟨⟨⟨h1, h2⟩, h3⟩, h4⟩, h5⟩, h6⟩, h7⟩, h8⟩ := h
    have kd : scope.kind = .function := (blk_of h1).kind
    refine se_plain rfl fun w => ?_
    have bk := blk_of h1
    rw [← F.N] at bk
    have bk := F.blkOk bk
    have P := pe_lcE (pos := pos) (w := w.m) (by rw [blk_snd]; exact h3) F.good.calm F.good.nd (ihi _ h5 tgE h4) bk
      (fun s H A cl fp => iht tgE (F.blk kd s H A cl fp) h6) (fun s H A cl fp => ihc ifs (F.blk kd s H A cl fp) h7) (fun s H A cl fp => (ihe elt (F.blk kd s H A cl fp) h8).1 (.tk (w.m - 1))) (fold_of h2)
    rw [blk_snd] at P
    cases w <;> exact P
  · cases h
theorem qws {e : E} {es : Es} {w : Wt} (q : quietWs (.cons e es) w = true) : quietW e w = true ∧ quietWs es w = true := by
  cases w with
  | br =>
    have q : (quiet e && quiets es) = true := q
    rw [Bool.and_eq_true] at q
    exact q
  | tk m =>
    have q : quietTs (.cons e es) = true := q
    cases e <;> first
      | (cases q; done)
      | (simp only [quietTs, Bool.and_eq_true] at q
         exact q)
def dKey : D → Key
  | .int i => .inl i
  | .str x => .inr x
  | _ => .inl 0
theorem keysB_ok : ∀ {ks : List D} {keys : List (Option Expr)}, keysB ks keys = true → (ks.map dKey).map keyD = ks ∧ keys.all (·.isSome) = true ∧ keys.length = ks.length
  | [], [], _ => ⟨rfl, rfl, rfl⟩
  | [], _ :: _, h => by cases h
  | d :: ds, [], h => by cases h
  | d :: ds, none :: xs, h => by cases h
  | d :: ds, some e :: xs, h => by
    cases e with
    | Constant c _ _ =>
      have h : (constB d c && keysB ds xs) = true := h
      rw [Bool.and_eq_true] at h
      obtain ⟨a, b, c'⟩ := keysB_ok h.2
      refine ⟨?_, by rw [List.all_cons, b]; rfl, by simp [c']⟩
      rw [List.map_cons, List.map_cons, a]
      have h1 := h.1
      cases d <;> cases c <;> first | rfl | cases h1
    | _ => cases h
theorem key_pe {d : D} {c : Const} {j : Nat} (h : constB d c = true) : PE X (.Constant c j pos) (tC (kV (dKey d))) := by
  cases d <;> cases c <;> first
    | (have h := of_decide_eq_true h; subst h; exact pe_int)
    | (have h := of_decide_eq_true h; subst h; exact pe_str)
    | cases h
theorem keysNd_ok : ∀ {ks : List D}, keysNd ks = true → (ks.map dKey).map keyD = ks → (ks.map dKey).Nodup
  | [], _, _ => List.nodup_nil
  | k :: r, h, e => by
    rw [keysNd, Bool.and_eq_true] at h
    rw [List.map_cons, List.map_cons, List.cons.injEq] at e
    rw [List.map_cons, List.nodup_cons]
    refine ⟨fun hm => ?_, keysNd_ok h.2 e.2⟩
    obtain ⟨j, hj, ej⟩ := List.mem_map.mp hm
    have h1 := List.all_eq_true.mp h.1 j hj
    have e2 : keyD (dKey j) = j := by
      have := e.2
      rw [List.map_map] at this
      obtain ⟨n, hn, hn2⟩ := List.getElem_of_mem hj
      have t := congrArg (fun l => l[n]?) this
      simp only [List.getElem?_map, List.getElem?_eq_getElem hn, Option.map_some, hn2, Function.comp] at t
      exact Option.some.inj t
    rw [← e.1, ← e2, ej, beqKey_keyD] at h1
    simp at h1
theorem se_dis {ks : List D} {es : Es} (ih : ∀ (keys : List (Option Expr)) (xs : List Expr) (p : Pos) (w : Wt), keysB ks keys = true → chkEs C es sc xs = true → keys.length = xs.length → ∃ trs, PPs X p keys xs trs ∧ PairOk X.K trs (ks.map dKey) (evs fn es w) (quietWs es w))
    (h : chkE C (.dis ks es) sc ex = true) : SE X fn (.dis ks es) ex := by
  simp only [chkE] at h
  split at h
  · rename_i keys vals p
    simp only [Bool.and_eq_true, decide_eq_true_eq] at h
    obtain ⟨⟨⟨⟨⟨h1, h2⟩, h3⟩, h4⟩, h5⟩, h6⟩ := h
    obtain ⟨k1, k2, k3⟩ := keysB_ok h1
    refine se_plain rfl fun w => ?_
    obtain ⟨trs, t1, t2⟩ := ih keys vals p (.tk (w.m - 1)) h1 h6 (by omega)
    have P := pe_disE (w := w.m) (keysNd_ok h2 k1) (by simpa using h3) t2 t1 k2 (by omega) (by intro z; rw [z] at k3; simp at k3; omega) (by omega)
    rw [k1] at P
    cases w <;> exact P
  · cases h
end
theorem noC0_base {o : Expr} {name : Str} {env : Env} {whole : Sem Value} (h : noC0 o = true) : attributeBase o name env whole = whole := by
  unfold attributeBase
  cases o <;> try rfl
  rename_i f as ks p
  cases f <;> try rfl
  cases as <;> try rfl
  cases ks <;> first | rfl | cases h
theorem se_me {f : Me} {a e : E} (F : Fits X C fn sc) (ha : ∀ x, chkE C a sc x = true → SE X fn a x) (he : ∀ x, chkE C e sc x = true → SE X fn e x) (h : chkE C (.me f a e) sc ex = true) : SE X fn (.me f a e) ex := by
  simp only [chkE] at h
  split at h
  · simp only [Bool.and_eq_true, decide_eq_true_eq] at h
    obtain ⟨⟨⟨⟨⟨h1, h2⟩, h3⟩, h4⟩, h5⟩, h6⟩ := h
    refine se_plain rfl fun w => ?_
    have P := pe_meE (m := w.m) (q := false) (qb := quiet e) (by have := F.good.un; omega) h1 (fun z => by cases z) ((ha _ h5).1 .br) ((he _ h6).1 .br) (noC0_base h2) h3 (star_cons h4)
    cases w <;> exact P
  · cases h
mutual
theorem chkE_ok : ∀ (e : E) {X : Cx} {C : Ck} {fn : Fn} {sc : Scope} (ex : Expr), Fits X C fn sc → chkE C e sc ex = true → SE X fn e ex
  | .var i, X, C, fn, sc, ex, F, h => se_var F h
  | .non, X, C, fn, sc, ex, F, h => se_non h
  | .bl b, X, C, fn, sc, ex, F, h => se_bl h
  | .int n, X, C, fn, sc, ex, F, h => se_int h
  | .str s, X, C, fn, sc, ex, F, h => se_str h
  | .glo x d, X, C, fn, sc, ex, F, h => se_glo F h
  | .tup es, X, C, fn, sc, ex, F, h => se_tup (fun x => chkEs_ok es x F) h
  | .lst es, X, C, fn, sc, ex, F, h => se_lst (fun x => chkEs_ok es x F) h
  | .dnew, X, C, fn, sc, ex, F, h => se_dnew h
  | .dis ks es, X, C, fn, sc, ex, F, h => se_dis (fun keys xs p w h1 h2 h3 => chkDs_ok es ks keys xs p w F h1 h2 h3) h
  | .bin o a b, X, C, fn, sc, ex, F, h => se_bin (fun x => chkE_ok a x F) (fun x => chkE_ok b x F) h
  | .cmp o a b, X, C, fn, sc, ex, F, h => se_cmp F (fun x => chkE_ok a x F) (fun x => chkE_ok b x F) h
  | .isn neg a, X, C, fn, sc, ex, F, h => se_isn (fun x => chkE_ok a x F) h
  | .chn o p a b c, X, C, fn, sc, ex, F, h => se_chn F (fun x => chkE_ok a x F) (fun x => chkE_ok b x F) (fun x => chkE_ok c x F) h
  | .neg a, X, C, fn, sc, ex, F, h => se_neg (fun x => chkE_ok a x F) h
  | .not a, X, C, fn, sc, ex, F, h => se_not (fun x => chkE_ok a x F) h
  | .and a b, X, C, fn, sc, ex, F, h => se_and (fun x => chkE_ok a x F) (fun x => chkE_ok b x F) h
  | .or a b, X, C, fn, sc, ex, F, h => se_or (fun x => chkE_ok a x F) (fun x => chkE_ok b x F) h
  | .ife c a b, X, C, fn, sc, ex, F, h => se_ife (fun x => chkE_ok c x F) (fun x => chkE_ok a x F) (fun x => chkE_ok b x F) h
  | .idx a k, X, C, fn, sc, ex, F, h => se_idx F (fun x => chkE_ok a x F) (fun x => chkE_ok k x F) h
  | .slc a lo hi, X, C, fn, sc, ex, F, h => se_slc (fun x => chkE_ok a x F) (fun x => chkO_ok lo x F) (fun x => chkO_ok hi x F) h
  | .rev a, X, C, fn, sc, ex, F, h => se_rev (fun x => chkE_ok a x F) h
  | .un f a, X, C, fn, sc, ex, F, h => se_un F (fun x => chkE_ok a x F) h
  | .bi f es, X, C, fn, sc, ex, F, h => se_bi F (fun x => chkEs_ok es x F) h
  | .isi a ts, X, C, fn, sc, ex, F, h => se_isi F (fun x => chkE_ok a x F) h
  | .me f a e, X, C, fn, sc, ex, F, h => se_me F (fun x => chkE_ok a x F) (fun x => chkE_ok e x F) h
  | .mu f am i .none es, X, C, fn, sc, ex, F, h => se_mu F (fun x => chkEs_ok es x F) h
  | .mu f am i (.some k) es, X, C, fn, sc, ex, F, h => se_muS F (fun x => chkE_ok k x F) (fun x => chkEs_ok es x F) h
  | .call f es ks perm, X, C, fn, sc, ex, F, h => se_call F (fun x => chkEs_ok es x F) (fun x => chkKs_ok ks x F) h
  | .lc own el tg it cond, X, C, fn, sc, ex, F, h => se_lc F (fun x => chkIt_ok it x F) (fun x F => chkTg_ok tg x F) (fun x F => chkC_ok cond x F) (fun x F => chkE_ok el x F) h
theorem chkEs_ok : ∀ (es : Es) {X : Cx} {C : Ck} {fn : Fn} {sc : Scope} (xs : List Expr), Fits X C fn sc → chkEs C es sc xs = true → SEs X fn es xs
  | .nil, X, C, fn, sc, [], F, h => fun w => pa_nilE
  | .nil, X, C, fn, sc, _ :: _, F, h => by simp only [chkEs] at h; cases h
  | .cons e es, X, C, fn, sc, [], F, h => by simp only [chkEs] at h; cases h
  | .cons e es, X, C, fn, sc, x :: xs, F, h => by
    simp only [chkEs, Bool.and_eq_true] at h
    have h1 := chkE_ok e x F h.1.2
    have h2 := chkEs_ok es xs F h.2
    intro w
    refine pa_consE (qa := quietW e w) (qs := quietWs es w) (fun q => ?_) (h1.1 w) (h2 w) (star_cons h.1.1)
    exact qws q
theorem chkDs_ok : ∀ (es : Es) {X : Cx} {C : Ck} {fn : Fn} {sc : Scope} (ks : List D) (keys : List (Option Expr)) (xs : List Expr) (p : Pos) (w : Wt), Fits X C fn sc → keysB ks keys = true → chkEs C es sc xs = true → keys.length = xs.length → ∃ trs, PPs X p keys xs trs ∧ PairOk X.K trs (ks.map dKey) (evs fn es w) (quietWs es w)
  | .nil, X, C, fn, sc, ks, keys, [], p, w, F, hk, h, hl => by
    have k3 := (keysB_ok hk).2.2
    cases keys with
    | cons _ _ => cases hl
    | nil =>
      cases ks with
      | cons _ _ => cases k3
      | nil => exact ⟨[], pps_nil, pairs_nilE⟩
  | .nil, X, C, fn, sc, ks, keys, _ :: _, p, w, F, hk, h, hl => by simp only [chkEs] at h; cases h
  | .cons e es, X, C, fn, sc, ks, keys, [], p, w, F, hk, h, hl => by simp only [chkEs] at h; cases h
  | .cons e es, X, C, fn, sc, ks, keys, x :: xs, p, w, F, hk, h, hl => by
    simp only [chkEs, Bool.and_eq_true] at h
    have k3 := (keysB_ok hk).2.2
    cases keys with
    | nil => cases hl
    | cons key keys =>
      cases ks with
      | nil => cases k3
      | cons d ds =>
        cases key with
        | none => cases hk
        | some ke =>
          cases ke with
          | Constant c j pp =>
            have hk : (constB d c && keysB ds keys) = true := hk
            rw [Bool.and_eq_true] at hk
            obtain ⟨trs, t1, t2⟩ := chkDs_ok es ds keys xs p w F hk.2 h.2 (by simpa using hl)
            exact ⟨_, pps_cons (key_pe hk.1) ((chkE_ok e x F h.1.2).1 w) t1, pairs_consE qws t2⟩
          | _ => cases hk
theorem chkKs_ok : ∀ (es : Es) {X : Cx} {C : Ck} {fn : Fn} {sc : Scope} (xs : List Keyword), Fits X C fn sc → chkKs C es sc xs = true → SKs X fn es xs
  | .nil, X, C, fn, sc, [], F, h => fun w => pk_nilE
  | .nil, X, C, fn, sc, _ :: _, F, h => by simp only [chkKs] at h; cases h
  | .cons e es, X, C, fn, sc, [], F, h => by simp only [chkKs] at h; cases h
  | .cons e es, X, C, fn, sc, ⟨n, x, p⟩ :: xs, F, h => by
    simp only [chkKs, Bool.and_eq_true] at h
    have h1 := chkE_ok e x F h.1
    have h2 := chkKs_ok es xs F h.2
    intro w
    refine pk_consE (qa := quietW e w) (qs := quietWs es w) (fun q => ?_) (h1.1 w) (h2 w)
    exact qws q
theorem chkO_ok : ∀ (o : Oe) {X : Cx} {C : Ck} {fn : Fn} {sc : Scope} (x : Option Expr), Fits X C fn sc → chkO C o sc x = true → SO X fn o x
  | .none, X, C, fn, sc, none, F, h => po_noneE
  | .none, X, C, fn, sc, some _, F, h => by simp only [chkO] at h; cases h
  | .some e, X, C, fn, sc, none, F, h => by simp only [chkO] at h; cases h
  | .some e, X, C, fn, sc, some x, F, h => by
    simp only [chkO] at h
    exact po_someE ((chkE_ok e x F h).1 (.tk 0))
theorem chkC_ok : ∀ (o : Oe) {X : Cx} {C : Ck} {fn : Fn} {sc : Scope} (x : List Expr), Fits X C fn sc → chkC C o sc x = true → SC X fn o x
  | .none, X, C, fn, sc, [], F, h => ⟨fun pins s σ H Q I h => pts_nil.run pins s σ H Q I (by
      obtain ⟨S0, H0, ω, a, T, b, a', w, e, k⟩ := h
      cases e
      exact k H ω w fun z => by cases z)⟩
  | .none, X, C, fn, sc, _ :: _, F, h => by simp only [chkC] at h; cases h
  | .some e, X, C, fn, sc, [], F, h => by simp only [chkC] at h; cases h
  | .some e, X, C, fn, sc, _ :: _ :: _, F, h => by simp only [chkC] at h; cases h
  | .some e, X, C, fn, sc, [x], F, h => by
    simp only [chkC, Bool.and_eq_true] at h
    exact pts_one ((chkE_ok e x F h.2).2.1 h.1)
theorem chkIt_ok : ∀ (it : It) {X : Cx} {C : Ck} {fn : Fn} {sc : Scope} (x : Expr), Fits X C fn sc → chkIt C it sc x = true → SI X fn it x
  | .of e, X, C, fn, sc, x, F, h => by
    simp only [chkIt] at h
    exact fun tg _ => pi_ofE ((chkE_ok e x F h).1 .br)
  | .rng1 e, X, C, fn, sc, x, F, h => by
    simp only [chkIt] at h
    split at h
    · simp only [Bool.and_eq_true, decide_eq_true_eq] at h
      obtain ⟨⟨⟨rfl, h2⟩, h3⟩, h4⟩ := h
      have ha := (chkE_ok e _ F h4).1 .br
      refine fun tg _ => pi_rng1E (F.gl h2) (F.good.bl _ (by decide)) (qs := false) (pa_consE (qa := quiet e) (qs := true) (fun z => by cases z) ha pa_nilE (star_cons h3)) (by rw [star_cons h3]; rfl)
    · cases h
  | .rng e e2, X, C, fn, sc, x, F, h => by
    simp only [chkIt] at h
    split at h
    · simp only [Bool.and_eq_true, decide_eq_true_eq] at h
      obtain ⟨⟨⟨⟨⟨rfl, h2⟩, h3⟩, h4⟩, h5⟩, h6⟩ := h
      have ha := (chkE_ok e _ F h5).1 .br
      have hb := (chkE_ok e2 _ F h6).1 .br
      refine fun tg _ => pi_rngE (F.gl h2) (F.good.bl _ (by decide)) (qs := false) (pa_consE (qa := quiet e) (qs := quiet e2) (fun z => by cases z) ha (pa_consE (qa := quiet e2) (qs := true) (fun z => ⟨z, rfl⟩) hb pa_nilE (star_cons h4)) (star_cons h3)) (by rw [star_cons h3, star_cons h4]; rfl) (by rw [star_cons h4]; rfl)
    · cases h
  | .enum e, X, C, fn, sc, x, F, h => by
    simp only [chkIt] at h
    split at h
    · simp only [Bool.and_eq_true, decide_eq_true_eq] at h
      obtain ⟨⟨⟨rfl, h2⟩, h3⟩, h4⟩ := h
      have ha := (chkE_ok e _ F h4).1 .br
      intro tg ht
      cases tg <;> first | cases ht | skip
      exact pi_enumE (F.gl h2) (F.good.bl _ (by decide)) (qs := false) (pa_consE (qa := quiet e) (qs := true) (fun z => by cases z) ha pa_nilE (star_cons h3)) (by rw [star_cons h3]; rfl)
    · cases h
  | .zip2 e e2, X, C, fn, sc, x, F, h => by
    simp only [chkIt] at h
    split at h
    · simp only [Bool.and_eq_true, decide_eq_true_eq] at h
      obtain ⟨⟨⟨⟨⟨rfl, h2⟩, h3⟩, h4⟩, h5⟩, h6⟩ := h
      have ha := (chkE_ok e _ F h5).1 .br
      have hb := (chkE_ok e2 _ F h6).1 .br
      intro tg ht
      cases tg <;> first | cases ht | skip
      exact pi_zipE (F.gl h2) (F.good.bl _ (by decide)) (qs := false) (pa_consE (qa := quiet e) (qs := quiet e2) (fun z => by cases z) ha (pa_consE (qa := quiet e2) (qs := true) (fun z => ⟨z, rfl⟩) hb pa_nilE (star_cons h4)) (star_cons h3)) (star_cons h3) (by rw [back_any, star_cons h4]; rfl)
    · cases h
  | .zip3 e e2 e3, X, C, fn, sc, x, F, h => by
    simp only [chkIt] at h
    split at h
    · simp only [Bool.and_eq_true, decide_eq_true_eq] at h
      obtain ⟨⟨⟨⟨⟨⟨⟨rfl, h2⟩, h3⟩, h4⟩, h5⟩, h6⟩, h7⟩, h8⟩ := h
      have ha := (chkE_ok e _ F h6).1 .br
      have hb := (chkE_ok e2 _ F h7).1 .br
      have hc := (chkE_ok e3 _ F h8).1 .br
      intro tg ht
      cases tg <;> first | cases ht | skip
      exact pi_zip3E (F.gl h2) (F.good.bl _ (by decide)) (qs := false) (pa_consE (qa := quiet e) (qs := quiet e2 && quiet e3) (fun z => by cases z) ha (pa_consE (qa := quiet e2) (qs := quiet e3) (fun z => by simpa using z) hb (pa_consE (qa := quiet e3) (qs := true) (fun z => ⟨z, rfl⟩) hc pa_nilE (star_cons h5)) (star_cons h4)) (star_cons h3)) (star_cons h3) (by rw [star_cons h4, star_cons h5]; rfl)
    · cases h
theorem chkTg_ok : ∀ (t : Tg) {X : Cx} {C : Ck} {fn : Fn} {sc : Scope} (x : Expr), Fits X C fn sc → chkTg C t sc x = true → ST X t x
  | .nm i, X, C, fn, sc, x, F, h => by
    simp only [chkTg] at h
    split at h
    · obtain ⟨a, b, c⟩ := F.loc h
      exact pg_nmE (pg_name F.good.nd a b c)
    · cases h
  | .tp ts, X, C, fn, sc, x, F, h => by
    simp only [chkTg] at h
    split at h
    · obtain ⟨a, b, c⟩ := chkTgs_ok ts _ F h
      exact pg_tpE F.good.calm a b c
    · cases h
theorem chkTgs_ok : ∀ (ts : Tgs) {X : Cx} {C : Ck} {fn : Fn} {sc : Scope} (xs : List Expr), Fits X C fn sc → chkTgs C ts sc xs = true → STs X ts xs ∧ (assignEach xs X.env).length = tgsLen ts ∧ (assignEach xs X.env).findIdx? (·.1) = none
  | .nil, X, C, fn, sc, [], F, h => ⟨pgs_nilE, rfl, rfl⟩
  | .nil, X, C, fn, sc, _ :: _, F, h => by simp only [chkTgs] at h; cases h
  | .cons e es, X, C, fn, sc, [], F, h => by simp only [chkTgs] at h; cases h
  | .cons e es, X, C, fn, sc, x :: xs, F, h => by
    simp only [chkTgs, Bool.and_eq_true] at h
    have h1 := chkTg_ok e x F h.1.2
    obtain ⟨a, b, c⟩ := chkTgs_ok es xs F h.2
    have e0 := asg_cons (env := X.env) (es := xs) h.1.1
    refine ⟨pgs_consE (u := gNil) (pgs_cons h1 a (by rw [e0]; rfl)), by rw [e0, List.length_cons, b]; rfl, ?_⟩
    rw [e0, List.findIdx?_cons]
    simp only [c]
    rfl
end
end RV

set_option maxRecDepth 100000
/-! Ev39: the check of statements. -/
namespace RV
open PySem L2 PySem.Spec PyProof.Rows
def notTup : Expr → Bool
  | .Tuple .. => false
  | _ => true
def lclB (sc : Scope) (x : Str) : Bool := lkB sc x .local
/-- the list that a line stores is stored as it is made -/
def swB (sc : Scope) (x : Str) (px : Pos) : Expr → Bool
  | .ListComp _ _ scope p => lclB sc x && (px.line == p.line) && !(scope.names.any fun q => q.1 == x && (q.2 == .local || q.2 == .cell))
  | _ => false
/-- the list that a line stores is made ahead and stored then -/
def nswB (sc : Scope) (x : Str) (px : Pos) : Expr → Bool
  | .ListComp _ _ scope p => !(lclB sc x && (px.line == p.line) && !(scope.names.any fun q => q.1 == x && (q.2 == .local || q.2 == .cell)))
  | _ => false
/-- stores that are swapped -/
def two (sc : Scope) (x y : Str) (px py : Pos) : Bool := lclB sc x && lclB sc y && (py.line == px.line)
def three (sc : Scope) (x y z : Str) (px py pz : Pos) : Bool := lclB sc x && lclB sc y && lclB sc z && (py.line == px.line) && (pz.line == px.line)
mutual
def chkS (C : Ck) (st : List Nat) : S → Scope → Stmt → Bool
  | .asg i m e, sc, s => match s with
    | .Assign [.Name x px] ex _ => decide (C.N[i]? = some x) && locB sc x && st.contains i && chkE C e sc ex && (noLc ex || swB sc x px ex || nswB sc x px ex)
    | _ => false
  | .unp ts e, sc, s => match s with
    | .Assign [.Tuple xs _ _] ex _ => chkTgs C ts sc xs && chkE C e sc ex && noLc ex && (notTup ex || decide (4 ≤ xs.length)) && tgsIn st ts
    | _ => false
  | .par2 i m j m2 a b, sc, s => match s with
    | .Assign [.Tuple [.Name x px, .Name y py] _ _] (.Tuple [ea, eb] _ _) _ => decide (i ≠ j) && setB C sc i x && setB C sc j y && st.contains i && st.contains j && noSt ea && noSt eb && chkE C a sc ea && chkE C b sc eb &&
        (!two sc x y px py || (foldedForSure 8 ea && foldedForSure 8 eb) || !(constantsAlone 8 ea && constantsAlone 8 eb))
    | _ => false
  | .par3 i m j m2 l m3 a b c, sc, s => match s with
    | .Assign [.Tuple [.Name x px, .Name y py, .Name z pz] _ _] (.Tuple [ea, eb, ec] _ _) _ => decide (i ≠ j) && decide (i ≠ l) && decide (j ≠ l) && setB C sc i x && setB C sc j y && setB C sc l z && st.contains i && st.contains j && st.contains l && noSt ea && noSt eb && noSt ec &&
        chkE C a sc ea && chkE C b sc eb && chkE C c sc ec &&
        (!three sc x y z px py pz || (foldedForSure 8 ea && foldedForSure 8 eb && foldedForSure 8 ec) || !(constantsAlone 8 ea && constantsAlone 8 eb && constantsAlone 8 ec))
    | _ => false
  | .sto i am k e, sc, s => match s with
    | .Assign [.Subscript (.Name x _) ek _] ex _ => varB C sc i x && noSlc ek && noLc ex && chkE C k sc ek && chkE C e sc ex
    | _ => false
  | .sto2 i k l e, sc, s => match s with
    | .Assign [.Subscript (.Subscript (.Name x _) ek _) el _] ex _ => varB C sc i x && noSlc ek && noSlc el && noLc ex && chkE C k sc ek && chkE C l sc el && chkE C e sc ex
    | _ => false
  | .aug i o e, sc, s => match s with
    | .AugAssign (.Name x _) p ex _ => augOk o && decide (opOf o = p) && st.contains i && decide (C.N[i]? = some x) && locB sc x && chkE C e sc ex
    | _ => false
  | .ex e, sc, s => match s with
    | .Expr ex _ => noLc ex && chkE C e sc ex
    | _ => false
  | .ret e, sc, s => match s with
    | .Return (some ex) _ => chkE C e sc ex
    | _ => false
  | .ret0, sc, s => match s with
    | .Return none _ => true
    | _ => false
  | .ifs c a b, sc, s => match s with
    | .If t x y _ => tOk c && chkE C c sc t && chkSs C st a sc x && chkSs C st b sc y
    | _ => false
  | .loop tg it b, sc, s => match s with
    | .For tgE iter body [] _ => noSet iter && tgIn st tg && itTg it tgE && chkIt C it sc iter && chkTg C tg sc tgE && chkSs C st b sc body
    | _ => false
  | .whl c b, sc, s => match s with
    | .While t body [] _ => tOk c && chkE C c sc t && chkSs C st b sc body
    | _ => false
  | .brk, sc, s => match s with
    | .Break _ => true
    | _ => false
  | .cnt, sc, s => match s with
    | .Continue _ => true
    | _ => false
  | .pas, sc, s => match s with
    | .Pass _ => true
    | _ => false
  | .bad, _, _ => true
def chkSs (C : Ck) (st : List Nat) : Ss → Scope → List Stmt → Bool
  | .nil, _, ss => match ss with
    | [] => true
    | _ => false
  | .cons s r, sc, ss => match ss with
    | x :: xs => chkS C st s sc x && chkSs C st r sc xs
    | _ => false
end
section
variable {X : Cx} {C : Ck} {fn : Fn} {sc : Scope} {x y z : Str} {i j l : Nat} {pos : Pos} {ex ea eb ec : Expr} {rm : Nat × List Nat} {L : Nat}
theorem sw_no {t : Option Expr} {n : Nat} {env : Env} (h : noLc ex = true) : swapsWith ex t n env = pure false := by
  cases ex <;> first | rfl | cases h
theorem sole_no {t : Expr} {n : Nat} {env : Env} (h : noLc ex = true) : swapsWithSole [t] ex n env = pure false := sw_no h
theorem Fits.bkind (F : Fits X C fn sc) : X.env.blockKind = .function := by
  unfold Env.blockKind
  rw [F.kind]
  rfl
/-- at a def's own level -/
theorem local_of (hsc : X.env.scope = sc) (h : lclB sc x = true) : X.env.scope.names.lookup x = some .local := by
  rw [hsc]
  exact of_decide_eq_true h
theorem nolocal (hsc : X.env.scope = sc) (h : lclB sc x = false) : X.env.kindOf x ≠ some .local := by
  unfold Env.kindOf
  rw [hsc]
  exact of_decide_eq_false h
theorem haslocal (hsc : X.env.scope = sc) (h : lclB sc x = true) : X.env.kindOf x = some .local := by
  unfold Env.kindOf
  exact local_of hsc h
section
variable {px py pz pt pt2 : Pos} {kt k2 : Nat}
theorem two_sw (F : Fits X C fn sc) (hsc : X.env.scope = sc) (hxy : x ≠ y) (h : two sc x y px py = true) (h5 : noSt ea = true) (h6 : noSt eb = true) (hc : (constantsAlone 8 ea && constantsAlone 8 eb) = false) (hf : (foldedForSure 8 ea && foldedForSure 8 eb) = false) :
    swappedStores [.Tuple [.Name x px, .Name y py] kt pt] (.Tuple [ea, eb] k2 pt2) X.env = pure (some [x, y]) := by
  unfold two at h
  simp only [Bool.and_eq_true, beq_iff_eq] at h
  obtain ⟨⟨h1, h2⟩, h3⟩ := h
  unfold swappedStores
  simp [List.filterMap_cons, haslocal hsc h1, haslocal hsc h2, h3, hxy, hxy.symm, F.bkind, hc, hf, List.eraseDups_cons, Expr.pos]
  intro z
  rcases z with z | z
  · cases ea <;> first | (cases h5; done) | exact absurd (show false = true from z) (by decide)
  · cases eb <;> first | (cases h6; done) | exact absurd (show false = true from z) (by decide)
theorem two_no (F : Fits X C fn sc) (hsc : X.env.scope = sc) (hxy : x ≠ y) (h5 : noSt ea = true) (h6 : noSt eb = true) (h : two sc x y px py = false ∨ (foldedForSure 8 ea && foldedForSure 8 eb) = true) :
    swappedStores [.Tuple [.Name x px, .Name y py] kt pt] (.Tuple [ea, eb] k2 pt2) X.env = pure none := by
  unfold swappedStores
  rcases h with h | h
  · unfold two at h
    simp only [Bool.and_eq_false_iff] at h
    rcases h with (h | h) | h
    · by_cases h2 : X.env.kindOf y = some .local ∧ py.line = px.line <;> simp [List.filterMap_cons, nolocal hsc h, h2, F.bkind, Expr.pos]
    · by_cases h2 : X.env.kindOf x = some .local <;> simp [List.filterMap_cons, nolocal hsc h, h2, F.bkind, Expr.pos]
    · have h : py.line ≠ px.line := by simpa using h
      by_cases h2 : X.env.kindOf x = some .local <;> simp [List.filterMap_cons, h, h2, F.bkind, Expr.pos]
  · simp only [h, List.all_cons, List.all_nil, Bool.and_true]
    simp
    repeat' split
    all_goals rfl
theorem three_sw (F : Fits X C fn sc) (hsc : X.env.scope = sc) {pz : Pos} (hxy : x ≠ y) (hxz : x ≠ z) (hyz : y ≠ z) (h : three sc x y z px py pz = true) (h5 : noSt ea = true) (h6 : noSt eb = true) (h7 : noSt ec = true) (hc : (constantsAlone 8 ea && constantsAlone 8 eb && constantsAlone 8 ec) = false) (hf : (foldedForSure 8 ea && foldedForSure 8 eb && foldedForSure 8 ec) = false) :
    swappedStores [.Tuple [.Name x px, .Name y py, .Name z pz] kt pt] (.Tuple [ea, eb, ec] k2 pt2) X.env = pure (some [x, y, z]) := by
  unfold three at h
  simp only [Bool.and_eq_true, beq_iff_eq] at h
  obtain ⟨⟨⟨⟨h1, h2⟩, h3⟩, h4⟩, h8⟩ := h
  unfold swappedStores
  simp [List.filterMap_cons, haslocal hsc h1, haslocal hsc h2, haslocal hsc h3, h4, h8, hxy, hxy.symm, hxz, hxz.symm, hyz, hyz.symm, F.bkind, ← Bool.and_assoc, hc, hf, List.eraseDups_cons, Expr.pos]
  intro z
  rcases z with z | z | z
  · cases ea <;> first | (cases h5; done) | exact absurd (show false = true from z) (by decide)
  · cases eb <;> first | (cases h6; done) | exact absurd (show false = true from z) (by decide)
  · cases ec <;> first | (cases h7; done) | exact absurd (show false = true from z) (by decide)
theorem three_no (F : Fits X C fn sc) (hsc : X.env.scope = sc) {pz : Pos} (h5 : noSt ea = true) (h6 : noSt eb = true) (h7 : noSt ec = true) (h : three sc x y z px py pz = false ∨ (foldedForSure 8 ea && foldedForSure 8 eb && foldedForSure 8 ec) = true) :
    swappedStores [.Tuple [.Name x px, .Name y py, .Name z pz] kt pt] (.Tuple [ea, eb, ec] k2 pt2) X.env = pure none := by
  unfold swappedStores
  rcases h with h | h
  · unfold three at h
    simp only [Bool.and_eq_false_iff] at h
    rcases h with (((h | h) | h) | h) | h
    · by_cases h2 : X.env.kindOf y = some .local ∧ py.line = px.line <;> by_cases h3 : X.env.kindOf z = some .local ∧ pz.line = px.line <;> simp [List.filterMap_cons, nolocal hsc h, h2, h3, F.bkind, Expr.pos]
    · by_cases h2 : X.env.kindOf x = some .local <;> by_cases h3 : X.env.kindOf z = some .local ∧ pz.line = px.line <;> simp [List.filterMap_cons, nolocal hsc h, h2, h3, F.bkind, Expr.pos]
    · by_cases h2 : X.env.kindOf x = some .local <;> by_cases h3 : X.env.kindOf y = some .local ∧ py.line = px.line <;> simp [List.filterMap_cons, nolocal hsc h, h2, h3, F.bkind, Expr.pos]
    · have h : py.line ≠ px.line := by simpa using h
      by_cases h2 : X.env.kindOf x = some .local <;> by_cases h3 : X.env.kindOf z = some .local ∧ pz.line = px.line <;> simp [List.filterMap_cons, h, h2, h3, F.bkind, Expr.pos]
    · have h : pz.line ≠ px.line := by simpa using h
      by_cases h2 : X.env.kindOf x = some .local <;> by_cases h3 : X.env.kindOf y = some .local ∧ py.line = px.line <;> simp [List.filterMap_cons, h, h2, h3, F.bkind, Expr.pos]
  · have h1 : [ea, eb, ec].all (foldedForSure 8) = true := by simp only [List.all_cons, List.all_nil, Bool.and_true]; rw [← Bool.and_assoc]; exact h
    simp only [h1]
    simp
    repeat' split
    all_goals rfl
end
end
end RV

set_option maxRecDepth 100000
/-! Ev40: the check of statements is right. -/
namespace RV
open PySem L2 PySem.Spec PyProof.Rows
/-- what stands around a def's body -/
structure FitsS (X : Cx) (C : Ck) (fn : Fn) (sc : Scope) : Prop extends Fits X C fn sc where
  scE : X.env.scope = sc
  pass : PassesOwn (model X.prog X.w) X.A X.env X.xe
section
variable {X : Cx} {C : Ck} {fn : Fn} {sc : Scope} {x y z : Str} {i j l : Nat} {pos : Pos} {ex ea eb ec : Expr} {rm : Nat × List Nat} {L : Nat} {s : Stmt}
abbrev SS (X : Cx) (fn : Fn) (L : Nat) (rm : Nat × List Nat) (s : S) (st : Stmt) : Prop := PS X st (tS X.K rm (exec fn L rm.1 s))
abbrev SSs (X : Cx) (fn : Fn) (L : Nat) (rm : Nat × List Nat) (s : Ss) (st : List Stmt) : Prop := PSs X st (tS X.K rm (execs fn L rm.1 s))
theorem FitsS.name (F : FitsS X C fn sc) {N : List Str} (hN : C.N = N) (h1 : decide (C.N[i]? = some x) = true) (h2 : locB sc x = true) : X.N[i]? = some x ∧ Loc X.env.scope x ∧ (X.fn x = true ∨ X.env.scope.names.lookup x = some .local) := by
  refine F.toFits.loc ?_
  unfold setB
  rw [h1, h2]
  rfl
theorem lc_of {e : E} {elt : Expr} {gens : List Comprehension} {scope : Scope} {p : Pos} (h : chkE C e sc (.ListComp elt gens scope p) = true) : ∃ own el tg it cond, e = .lc own el tg it cond := by
  cases e with
  | lc own el tg it cond => exact ⟨own, el, tg, it, cond, rfl⟩
  | mu f am i k es => cases k <;> (simp only [chkE] at h; cases h)
  | _ => simp only [chkE] at h; cases h
theorem ss_asg {m : Nat} {e : E} (F : FitsS X C fn sc) (h : chkS C rm.2 (.asg i m e) sc s = true) : SS X fn L rm (.asg i m e) s := by
  simp only [chkS] at h
  split at h
  · rename_i x px ex spos
    simp only [Bool.and_eq_true] at h
    obtain ⟨⟨⟨⟨h1, h2⟩, h3⟩, h4⟩, h5⟩ := h
    obtain ⟨n1, n2, n3⟩ := F.name rfl h1 h2
    have he := (chkE_ok e ex F.toFits h4).1 (.tk m)
    rw [Bool.or_eq_true, Bool.or_eq_true] at h5
    by_cases hlc : noLc ex = true
    · exact ps_asgE h3 F.good.nd n1 n2 he (sw_no hlc) n3
    · rcases h5 with (h5 | h5) | h5
      · exact absurd h5 hlc
      · unfold swB at h5
        split at h5
        · rename_i elt gens scope p
          simp only [Bool.and_eq_true, beq_iff_eq] at h5
          obtain ⟨⟨k1, k2⟩, k3⟩ := h5
          obtain ⟨own, el, tg, it, cond, rfl⟩ := lc_of h4
          simp only [chkE] at h4
          split at h4
          · rename_i elt tgE iter ifs scope q heq
            cases heq
            simp only [Bool.and_eq_true] at h4
            obtain ⟨⟨⟨⟨⟨⟨⟨g1, g2⟩, g3⟩, g4⟩, g5⟩, g6⟩, g7⟩, g8⟩ := h4
            have kd : scope.kind = .function := (blk_of g1).kind
            have bk := blk_of g1
            rw [← F.N] at bk
            have bk := F.blkOk bk
            have hsw : swapsWith (.ListComp elt [⟨tgE, iter, ifs, 0⟩] scope p) (some (.Name x px)) spos.line X.env = pure true := by
              unfold swapsWith
              simp [F.toFits.bkind, haslocal F.scE k1, k2, k3, Expr.pos]
            have P := ps_asgLcE (m := m) (spos := spos) (rm := rm) (w := m) h3 (by rw [blk_snd]; exact g3) F.good.calm F.good.nd n1 (local_of F.scE k1) hsw (chkIt_ok it iter F.toFits g5 tgE g4) bk
              (fun s H A cl fp => chkTg_ok tg tgE (F.blk kd s H A cl fp) g6) (fun s H A cl fp => chkC_ok cond ifs (F.blk kd s H A cl fp) g7) (fun s H A cl fp => (chkE_ok el elt (F.blk kd s H A cl fp) g8).1 (.tk (m - 1))) (fold_of g2)
            rw [blk_snd] at P
            exact P
          · cases h4
        · cases h5
      · refine ps_asgE h3 F.good.nd n1 n2 he ?_ n3
        unfold nswB at h5
        split at h5
        · rename_i elt gens scope p
          unfold swapsWith
          simp only [F.toFits.bkind]
          cases hl : lclB sc x with
          | false =>
            have hk := nolocal F.scE hl
            have e0 : (X.env.kindOf x == some NameKind.local) = false := by
              revert hk
              cases X.env.kindOf x with
              | none => intro _; rfl
              | some k => cases k <;> first | (intro _; rfl; done) | (intro h; exact absurd rfl h)
            simp only [e0, Bool.false_and, Bool.and_false]
          | true =>
            rw [hl] at h5
            simp only [Bool.true_and, Bool.not_eq_true', Bool.and_eq_false_iff, Bool.not_eq_false'] at h5
            rcases h5 with h5 | h5
            · simp only [Expr.pos, h5, Bool.false_and, Bool.and_false]
            · simp only [h5, Bool.not_true, Bool.and_false]
        · cases h5
  · cases h
theorem ss_unp {ts : Tgs} {e : E} (F : FitsS X C fn sc) (h : chkS C rm.2 (.unp ts e) sc s = true) : SS X fn L rm (.unp ts e) s := by
  simp only [chkS] at h
  split at h
  · simp only [Bool.and_eq_true] at h
    obtain ⟨⟨⟨⟨h1, h2⟩, h3⟩, h4⟩, h5⟩ := h
    obtain ⟨a, b, c⟩ := chkTgs_ok ts _ F.toFits h1
    refine ps_unpE (inn := fun vs => tgIn vs (.tp ts)) h5 ((chkE_ok e _ F.toFits h2).1 (.tk 0)) (pg_tpE F.good.calm a b c) (sole_no h3) ?_ rfl
    rename_i xs k p ex pos
    unfold swappedStores
    cases ex <;> first | rfl | skip
    rename_i es k2 p2
    have h4 : 4 ≤ xs.length := by
      rw [Bool.or_eq_true] at h4
      rcases h4 with h4 | h4
      · cases h4
      · exact of_decide_eq_true h4
    have n2 : xs.length ≠ 2 := by omega
    have n3 : xs.length ≠ 3 := by omega
    simp [n2, n3]
  · cases h
theorem ss_par2 {m m2 : Nat} {a b : E} (F : FitsS X C fn sc) (h : chkS C rm.2 (.par2 i m j m2 a b) sc s = true) : SS X fn L rm (.par2 i m j m2 a b) s := by
  simp only [chkS] at h
  split at h
  · rename_i x px y py kt pt ea eb k2 pt2 pos
    simp only [Bool.and_eq_true, decide_eq_true_eq, Bool.or_eq_true, Bool.not_eq_true'] at h
    obtain ⟨⟨⟨⟨⟨⟨⟨⟨⟨hij, n1⟩, n2⟩, s1⟩, s2⟩, t1⟩, t2⟩, c1⟩, c2⟩, hc⟩ := h
    obtain ⟨a1, a2, a3⟩ := F.toFits.loc n1
    obtain ⟨b1, b2, b3⟩ := F.toFits.loc n2
    have hxy : x ≠ y := fun e => by
      subst e
      exact hij ((List.getElem?_inj (List.getElem?_eq_some_iff.mp a1).1 F.good.nd).mp (a1.trans b1.symm))
    have ha := (chkE_ok a ea F.toFits c1).1 (.tk m)
    have hb := (chkE_ok b eb F.toFits c2).1 (.tk m2)
    have pa : PA X [ea, eb] (tAs X.K (consAs (ev fn a (.tk m)) (consAs (ev fn b (.tk m2)) nilAs true) false) false) :=
      pa_consE (qs := false) (fun z => by cases z) ha (pa_consE (qs := true) (fun z => by cases z) hb pa_nilE (star_cons t2)) (star_cons t1)
    by_cases hs : two sc x y px py = true ∧ (foldedForSure 8 ea && foldedForSure 8 eb) = false
    · have hk : (constantsAlone 8 ea && constantsAlone 8 eb) = false := by
        rcases hc with (hc | hc) | hc
        · rw [hs.1] at hc; cases hc
        · have := hs.2
          rw [hc.1, hc.2] at this
          cases this
        · exact hc
      have hs1 := hs.1
      unfold two at hs1
      simp only [Bool.and_eq_true] at hs1
      exact ps_imp (ps_par F.good.calm F.good.nd a1 b1 hij (local_of F.scE hs1.1.1) (local_of F.scE hs1.1.2) pa (two_sw F.toFits F.scE hxy hs.1 t1 t2 hk hs.2)) fun D σ H hh => par2_run hij s1 s2 hh
    · have hno : two sc x y px py = false ∨ (foldedForSure 8 ea && foldedForSure 8 eb) = true := by
        cases h1 : two sc x y px py
        · exact .inl rfl
        · right
          cases h2 : (foldedForSure 8 ea && foldedForSure 8 eb)
          · exact absurd ⟨h1, h2⟩ hs
          · rfl
      exact ps_imp (ps_asg (pe_tup pa) (pg_tup F.good.calm (pgs_cons (pg_name F.good.nd a1 a2 a3) (pgs_cons (pg_name F.good.nd b1 b2 b3) pgs_nil))) rfl (two_no F.toFits F.scE hxy t1 t2 hno)) fun D σ H hh => par2_cell hij s1 s2 hh
  · cases h
theorem ss_par3 {m m2 m3 : Nat} {a b c : E} (F : FitsS X C fn sc) (h : chkS C rm.2 (.par3 i m j m2 l m3 a b c) sc s = true) : SS X fn L rm (.par3 i m j m2 l m3 a b c) s := by
  simp only [chkS] at h
  split at h
  · rename_i x px y py z pz kt pt ea eb ec k2 pt2 pos
    simp only [Bool.and_eq_true, decide_eq_true_eq, Bool.or_eq_true, Bool.not_eq_true'] at h
    obtain ⟨⟨⟨⟨⟨⟨⟨⟨⟨⟨⟨⟨⟨⟨⟨hij, hil⟩, hjl⟩, n1⟩, n2⟩, n3⟩, s1⟩, s2⟩, s3⟩, t1⟩, t2⟩, t3⟩, c1⟩, c2⟩, c3⟩, hc⟩ := h
    obtain ⟨a1, a2, a3⟩ := F.toFits.loc n1
    obtain ⟨b1, b2, b3⟩ := F.toFits.loc n2
    obtain ⟨d1, d2, d3⟩ := F.toFits.loc n3
    have inj : ∀ {i j : Nat} {u v : Str}, i ≠ j → X.N[i]? = some u → X.N[j]? = some v → u ≠ v := fun ne h1 h2 e => by
      subst e
      exact ne ((List.getElem?_inj (List.getElem?_eq_some_iff.mp h1).1 F.good.nd).mp (h1.trans h2.symm))
    have hxy := inj hij a1 b1
    have hxz := inj hil a1 d1
    have hyz := inj hjl b1 d1
    have ha := (chkE_ok a ea F.toFits c1).1 (.tk m)
    have hb := (chkE_ok b eb F.toFits c2).1 (.tk m2)
    have hd := (chkE_ok c ec F.toFits c3).1 (.tk m3)
    have pa : PA X [ea, eb, ec] (tAs X.K (consAs (ev fn a (.tk m)) (consAs (ev fn b (.tk m2)) (consAs (ev fn c (.tk m3)) nilAs true) false) false) false) :=
      pa_consE (qs := false) (fun z => by cases z) ha (pa_consE (qs := false) (fun z => by cases z) hb (pa_consE (qs := true) (fun z => by cases z) hd pa_nilE (star_cons t3)) (star_cons t2)) (star_cons t1)
    by_cases hs : three sc x y z px py pz = true ∧ (foldedForSure 8 ea && foldedForSure 8 eb && foldedForSure 8 ec) = false
    · have hk : (constantsAlone 8 ea && constantsAlone 8 eb && constantsAlone 8 ec) = false := by
        rcases hc with (hc | hc) | hc
        · rw [hs.1] at hc; cases hc
        · have := hs.2
          rw [hc.1.1, hc.1.2, hc.2] at this
          cases this
        · exact hc
      have hs1 := hs.1
      unfold three at hs1
      simp only [Bool.and_eq_true] at hs1
      exact ps_imp (ps_par3 F.good.calm F.good.nd a1 b1 d1 hij hil hjl (local_of F.scE hs1.1.1.1.1) (local_of F.scE hs1.1.1.1.2) (local_of F.scE hs1.1.1.2) pa (three_sw F.toFits F.scE hxy hxz hyz hs.1 t1 t2 t3 hk hs.2)) fun D σ H hh => par3_run hij hil hjl s1 s2 s3 hh
    · have hno : three sc x y z px py pz = false ∨ (foldedForSure 8 ea && foldedForSure 8 eb && foldedForSure 8 ec) = true := by
        cases h1 : three sc x y z px py pz
        · exact .inl rfl
        · right
          cases h2 : (foldedForSure 8 ea && foldedForSure 8 eb && foldedForSure 8 ec)
          · exact absurd ⟨h1, h2⟩ hs
          · rfl
      exact ps_imp (ps_asg (pe_tup pa) (pg_tup F.good.calm (pgs_cons (pg_name F.good.nd a1 a2 a3) (pgs_cons (pg_name F.good.nd b1 b2 b3) (pgs_cons (pg_name F.good.nd d1 d2 d3) pgs_nil)))) rfl (three_no F.toFits F.scE t1 t2 t3 hno)) fun D σ H hh => par3_cell hij hil hjl s1 s2 s3 hh
  · cases h
theorem sub_assign {o k : Expr} {p : Pos} {env : Env} (h : noSlc k = true) (v : Value) : assign (.Subscript o k p) env v = (do
      let ov ← holding [v] (eval o env)
      let iv ← holding [v, ov] (eval k env)
      standAt p
      holding [v, ov, iv] (setItem ov iv v)
      release [v, ov, iv] []) := by
  cases k <;> first | rfl | (cases h; done)
theorem sub_sw {tg : Expr} {env : Env} (h : notTup tg = true) (hl : (match tg with | .List .. => false | _ => true) = true) : swappedStores [tg] ex env = pure none := by
  unfold swappedStores
  cases tg <;> first | rfl | (cases h; done) | (cases hl; done)
theorem ss_sto {am : Nat} {k e : E} (F : FitsS X C fn sc) (h : chkS C rm.2 (.sto i am k e) sc s = true) : SS X fn L rm (.sto i am k e) s := by
  simp only [chkS] at h
  split at h
  · simp only [Bool.and_eq_true] at h
    obtain ⟨⟨⟨⟨h1, h2⟩, h3⟩, h4⟩, h5⟩ := h
    have hv := fun p => F.toFits.var (pos := p) h1
    have hk := (chkE_ok k _ F.toFits h4).1 .br
    exact ps_stoE (by have := F.good.un; omega) (hv _) ((chkE_ok e _ F.toFits h5).1 (.tk am)) hk (pg_sub (hv _) hk (set_x (by have := F.good.un; omega)) (sub_assign h2)) (sole_no h3) (sub_sw rfl rfl) rfl
  · cases h
theorem ss_sto2 {k l e : E} (F : FitsS X C fn sc) (h : chkS C rm.2 (.sto2 i k l e) sc s = true) : SS X fn L rm (.sto2 i k l e) s := by
  simp only [chkS] at h
  split at h
  · simp only [Bool.and_eq_true] at h
    obtain ⟨⟨⟨⟨⟨⟨h1, h2⟩, h3⟩, h4⟩, h5⟩, h6⟩, h7⟩ := h
    exact ps_sto2E (by have := F.good.un; omega) (pe_idxE (w := .br) (q := false) (qa := true) (qb := quiet k) (by have := F.good.un; omega) (plainIx_of h2) (fun z => by cases z) (pe_varE (w := .br) (F.toFits.var h1)) ((chkE_ok k _ F.toFits h5).1 .br)) ((chkE_ok e _ F.toFits h7).1 (.tk 0)) ((chkE_ok l _ F.toFits h6).1 .br) (sub_assign h3) (sole_no h4) (sub_sw rfl rfl) rfl
  · cases h
theorem ss_aug {s : Stmt} {i : Nat} {o : Bop} {e : E} (F : FitsS X C fn sc) (h : chkS C rm.2 (.aug i o e) sc s = true) : SS X fn L rm (.aug i o e) s := by
  simp only [chkS] at h
  split at h
  · simp only [Bool.and_eq_true] at h
    obtain ⟨⟨⟨⟨⟨h1, h2⟩, h3⟩, h4⟩, h5⟩, h6⟩ := h
    have h2 := of_decide_eq_true h2
    subst h2
    obtain ⟨n1, n2, n3⟩ := F.name rfl h4 h5
    exact ps_augE h1 h3 F.good.nd n1 n2 ((chkE_ok e _ F.toFits h6).1 .br) n3
  · cases h
end
mutual
theorem chkS_ok : ∀ (s : S) {X : Cx} {C : Ck} {fn : Fn} {sc : Scope} {rm : Nat × List Nat} {L : Nat} (st : Stmt), FitsS X C fn sc → chkS C rm.2 s sc st = true → SS X fn L rm s st
  | .asg i m e, X, C, fn, sc, rm, L, st, F, h => ss_asg F h
  | .unp ts e, X, C, fn, sc, rm, L, st, F, h => ss_unp F h
  | .par2 i m j m2 a b, X, C, fn, sc, rm, L, st, F, h => ss_par2 F h
  | .par3 i m j m2 l m3 a b c, X, C, fn, sc, rm, L, st, F, h => ss_par3 F h
  | .sto i am k e, X, C, fn, sc, rm, L, st, F, h => ss_sto F h
  | .sto2 i k l e, X, C, fn, sc, rm, L, st, F, h => ss_sto2 F h
  | .aug i o e, X, C, fn, sc, rm, L, st, F, h => ss_aug F h
  | .ex e, X, C, fn, sc, rm, L, st, F, h => by
    simp only [chkS] at h
    split at h
    · rw [Bool.and_eq_true] at h
      exact ps_exE ((chkE_ok e _ F.toFits h.2).1 .br) (sw_no h.1)
    · cases h
  | .ret e, X, C, fn, sc, rm, L, st, F, h => by
    simp only [chkS] at h
    split at h
    · exact ps_retE ((chkE_ok e _ F.toFits h).1 (.tk rm.1))
    · cases h
  | .ret0, X, C, fn, sc, rm, L, st, F, h => by
    simp only [chkS] at h
    split at h
    · exact ps_ret0E
    · cases h
  | .ifs c a b, X, C, fn, sc, rm, L, st, F, h => by
    simp only [chkS] at h
    split at h
    · simp only [Bool.and_eq_true] at h
      exact ps_ifE ((chkE_ok c _ F.toFits h.1.1.2).2.1 h.1.1.1) (chkSs_ok a _ F h.1.2) (chkSs_ok b _ F h.2)
    · cases h
  | .loop tg it b, X, C, fn, sc, rm, L, st, F, h => by
    simp only [chkS] at h
    split at h
    · simp only [Bool.and_eq_true] at h
      obtain ⟨⟨⟨⟨⟨h1, h2⟩, h3⟩, h4⟩, h5⟩, h6⟩ := h
      exact ps_forE (inn := fun vs => tgIn vs tg) h2 (fold_of h1) F.pass F.good.calm (chkIt_ok it _ F.toFits h4 _ h3) (chkTg_ok tg _ F.toFits h5) (chkSs_ok b _ F h6)
    · cases h
  | .whl c b, X, C, fn, sc, rm, L, st, F, h => by
    simp only [chkS] at h
    split at h
    · simp only [Bool.and_eq_true] at h
      exact ps_whlE F.pass ((chkE_ok c _ F.toFits h.1.2).2.1 h.1.1) (chkSs_ok b _ F h.2)
    · cases h
  | .brk, X, C, fn, sc, rm, L, st, F, h => by
    simp only [chkS] at h
    split at h
    · exact ps_brkE
    · cases h
  | .cnt, X, C, fn, sc, rm, L, st, F, h => by
    simp only [chkS] at h
    split at h
    · exact ps_cntE
    · cases h
  | .pas, X, C, fn, sc, rm, L, st, F, h => by
    simp only [chkS] at h
    split at h
    · exact ps_passE
    · cases h
  | .bad, X, C, fn, sc, rm, L, st, F, h => ⟨fun pins s σ H D I ⟨_, _, _, _, _, _, _, _, e, _⟩ => by cases e⟩
theorem chkSs_ok : ∀ (s : Ss) {X : Cx} {C : Ck} {fn : Fn} {sc : Scope} {rm : Nat × List Nat} {L : Nat} (st : List Stmt), FitsS X C fn sc → chkSs C rm.2 s sc st = true → SSs X fn L rm s st
  | .nil, X, C, fn, sc, rm, L, [], F, h => pss_nilE
  | .nil, X, C, fn, sc, rm, L, _ :: _, F, h => by simp only [chkSs] at h; cases h
  | .cons s r, X, C, fn, sc, rm, L, [], F, h => by simp only [chkSs] at h; cases h
  | .cons s r, X, C, fn, sc, rm, L, x :: xs, F, h => by
    simp only [chkSs, Bool.and_eq_true] at h
    exact pss_consE (chkS_ok s x F h.1) (chkSs_ok r xs F h.2)
end
end RV

set_option maxRecDepth 100000
/-! Ev41: how a call binds: plain parameters, by place and by name. -/
namespace RV
open PySem L2 PySem.Spec PyProof.Rows
theorem forIn_yield {α β : Type} {f : α → β → Sem (ForInStep β)} {g : β → α → β} : ∀ (l : List α) (b : β), (∀ pre x post, l = pre ++ x :: post → f x (pre.foldl g b) = pure (.yield (g (pre.foldl g b) x))) → forIn l b f = pure (l.foldl g b)
  | [], b, h => by simp
  | x :: l, b, h => by
    have h0 := h [] x l rfl
    simp only [List.foldl_nil] at h0
    rw [List.forIn_cons, h0]
    simp only [pure_bind]
    exact forIn_yield l (g b x) fun pre y post e => h (x :: pre) y post (by rw [e]; rfl)
def permOf (ps ks : List Str) (n : Nat) : List Nat := (List.range ps.length).map fun j => if j < n then j else n + ks.findIdx fun k => decide (ps[j]? = some k)
/-- n values by place, the rest by these names -/
def shapeB (ps ks : List Str) (n : Nat) : Bool := ks.all (fun k => ps.contains k && !((ps.take n).contains k)) && decide ks.Nodup && decide ps.Nodup && decide (n + ks.length = ps.length)
def plainP (p : Arguments) (ps : List Str) : Bool := p.posonlyargs.isEmpty && decide (p.args.map (·.arg) = ps) && p.vararg.isNone && p.kwonlyargs.isEmpty && p.kwarg.isNone
theorem lookup_none_zip {α : Type} {x : Str} : ∀ {ps : List Str} {us : List α}, x ∉ ps.take us.length → (ps.zip us).lookup x = none
  | [], us, h => by simp
  | p :: ps, [], h => by simp
  | p :: ps, u :: us, h => by
    simp only [List.length_cons, List.take_succ_cons, List.mem_cons, not_or] at h
    rw [List.zip_cons_cons, List.lookup_cons]
    have : (x == p) = false := by simpa using h.1
    rw [this]
    exact lookup_none_zip h.2
theorem lookup_some_zip {α : Type} : ∀ {ps : List Str} {us : List α} {j : Nat} {x : Str} {u : α}, ps.Nodup → ps[j]? = some x → us[j]? = some u → (ps.zip us).lookup x = some u
  | [], us, j, x, u, nd, h1, h2 => by simp at h1
  | p :: ps, [], j, x, u, nd, h1, h2 => by simp at h2
  | p :: ps, v :: us, 0, x, u, nd, h1, h2 => by
    simp at h1 h2
    subst h1 h2
    simp [List.lookup_cons]
  | p :: ps, v :: us, j + 1, x, u, nd, h1, h2 => by
    rw [List.nodup_cons] at nd
    simp only [List.getElem?_cons_succ] at h1 h2
    have hx : (x == p) = false := by
      have : x ∈ ps := List.mem_of_getElem? h1
      rw [beq_eq_false_iff_ne]
      intro e
      subst e
      exact nd.1 this
    rw [List.zip_cons_cons, List.lookup_cons, hx]
    exact lookup_some_zip nd.2 h1 h2
theorem lookup_app {α : Type} {x : Str} : ∀ {l r : List (Str × α)}, (l ++ r).lookup x = ((l.lookup x).or (r.lookup x))
  | [], r => by simp
  | (k, v) :: l, r => by
    rw [List.cons_append, List.lookup_cons, List.lookup_cons]
    cases x == k
    · exact lookup_app
    · rfl
theorem filterMap_zip {α : Type} {f : Str → Option α} : ∀ {ps : List Str} {zs : List α}, ps.length = zs.length → (∀ (j : Nat) x z, ps[j]? = some x → zs[j]? = some z → f x = some z) → (ps.filterMap fun n => (f n).map (n, ·)) = ps.zip zs
  | [], [], _, _ => rfl
  | [], _ :: _, h, _ => by cases h
  | _ :: _, [], h, _ => by cases h
  | p :: ps, z :: zs, h, k => by
    have h0 := k 0 p z rfl rfl
    rw [List.filterMap_cons, h0]
    simp only [Option.map_some, List.zip_cons_cons]
    rw [filterMap_zip (by simpa using h) fun j x y h1 h2 => k (j + 1) x y (by simpa using h1) (by simpa using h2)]
theorem bind_plain {fd : FuncData} {ps ks : List Str} {us ws zs : List Value} {n : Nat} (hp : plainP fd.params ps = true) (h6 : fd.defaults = .none) (hs : shapeB ps ks n = true) (hn : us.length = n) (hm : ws.length = ks.length) (hz : permO (us ++ ws) (permOf ps ks n) = some zs) :
    bindArgs fd ⟨us, ks.zip ws⟩ = pure (ps.zip zs) := by
  unfold plainP at hp
  simp only [Bool.and_eq_true, decide_eq_true_eq, List.isEmpty_iff, Option.isNone_iff_eq_none] at hp
  obtain ⟨⟨⟨⟨h1, h2⟩, h3⟩, h4⟩, h5⟩ := hp
  unfold shapeB at hs
  simp only [Bool.and_eq_true, decide_eq_true_eq, List.all_eq_true, Bool.not_eq_true'] at hs
  obtain ⟨⟨⟨k1, k2⟩, k3⟩, k4⟩ := hs
  have kin : ∀ k ∈ ks, k ∈ ps ∧ k ∉ ps.take n := fun k hk => by
    have := k1 k hk
    simpa using this
  obtain ⟨zl, zg⟩ := permO_get hz
  have zl : zs.length = ps.length := by rw [zl]; simp [permOf]
  -- the values by name
  have lk : ∀ (j : Nat) x z, ps[j]? = some x → zs[j]? = some z → (ps.zip us ++ ks.zip ws).lookup x = some z := by
    intro j x z h1 h2
    obtain ⟨i, e1, e2⟩ := zg h2
    have hj : j < ps.length := (List.getElem?_eq_some_iff.mp h1).1
    unfold permOf at e1
    rw [List.getElem?_map, List.getElem?_range hj, Option.map_some, Option.some.injEq] at e1
    rw [lookup_app]
    by_cases hjn : j < n
    · rw [if_pos hjn] at e1
      subst e1
      rw [List.getElem?_append_left (by omega)] at e2
      rw [lookup_some_zip k3 h1 e2]
      rfl
    · rw [if_neg hjn] at e1
      subst e1
      have nx : x ∉ ps.take us.length := by
        rw [hn]
        intro hx
        obtain ⟨i, hi, e⟩ := List.getElem_of_mem hx
        rw [List.getElem_take] at e
        rw [List.length_take] at hi
        have hi2 : ps[i]? = some x := by rw [List.getElem?_eq_getElem (by omega), e]
        have := (List.getElem?_inj (by omega) k3).mp (hi2.trans h1.symm)
        omega
      rw [lookup_none_zip nx, Option.none_or]
      rw [List.getElem?_append_right (by omega), show n + ks.findIdx (fun k => decide (ps[j]? = some k)) - us.length = ks.findIdx (fun k => decide (ps[j]? = some k)) by omega] at e2
      have hlt : ks.findIdx (fun k => decide (ps[j]? = some k)) < ks.length := by rw [← hm]; exact (List.getElem?_eq_some_iff.mp e2).1
      have hk := List.findIdx_getElem (w := hlt)
      have hk := of_decide_eq_true hk
      have hk := h1.symm.trans hk
      exact lookup_some_zip k2 (by rw [List.getElem?_eq_getElem hlt]; exact hk.symm) e2
  unfold bindArgs
  simp only [h1, h2, h3, h4, h5, h6, List.map_nil, List.nil_append, List.append_nil]
  rw [forIn_yield (g := fun (s : List (Str × Value) × List (Str × Value)) x => (s.1 ++ [(x.1, x.2)], s.2)) (ks.zip ws) (ps.zip us, []) (fun pre x post e => ?_)]
  · have fl : ∀ (l : List (Str × Value)) (s : List (Str × Value) × List (Str × Value)), l.foldl (fun (s : List (Str × Value) × List (Str × Value)) x => (s.1 ++ [(x.1, x.2)], s.2)) s = (s.1 ++ l, s.2) := by
      intro l
      induction l with
      | nil => intro s; simp
      | cons x l ih => intro s; rw [List.foldl_cons, ih]; simp
    rw [fl]
    have sq : seqItems? Value.none = pure none := rfl
    have nm : ((ps.take ps.length).filter fun n => ((ps.zip us ++ ks.zip ws).lookup n).isNone) = [] := by
      rw [List.take_length, List.filter_eq_nil_iff]
      intro x hx
      obtain ⟨j, hj, e⟩ := List.getElem_of_mem hx
      have hz : zs[j]? = some zs[j] := List.getElem?_eq_getElem (by omega)
      rw [lk j x _ (by rw [List.getElem?_eq_getElem hj, e]) hz]
      simp
    have hgt : ¬ us.length > ps.length := by omega
    simp only [pure_bind, sq, hgt, decide_false, Bool.false_and, if_neg Bool.false_ne_true, Option.getD_none, List.drop_nil, List.length_nil, Nat.sub_zero, nm, List.isEmpty_nil, Bool.not_true, List.zip_nil_right, List.forIn_nil, List.drop_length]
    rw [filterMap_zip zl.symm lk]
  · have hx : x.1 ∈ ks := by
      have : x ∈ ks.zip ws := by rw [e]; simp
      exact (List.of_mem_zip this).1
    have hc : (ps.contains x.1 || ([] : List Str).contains x.1) = true := by simp [(kin _ hx).1]
    rw [if_pos hc]
    have fl : ∀ (l : List (Str × Value)) (s : List (Str × Value) × List (Str × Value)), l.foldl (fun (s : List (Str × Value) × List (Str × Value)) x => (s.1 ++ [(x.1, x.2)], s.2)) s = (s.1 ++ l, s.2) := by
      intro l
      induction l with
      | nil => intro s; simp
      | cons x l ih => intro s; rw [List.foldl_cons, ih]; simp
    have hno : (List.lookup x.1 (pre.foldl (fun (s : List (Str × Value) × List (Str × Value)) x => (s.1 ++ [(x.1, x.2)], s.2)) (ps.zip us, [])).1).isSome = false := by
      rw [fl]
      show (List.lookup x.1 (ps.zip us ++ pre)).isSome = false
      rw [lookup_app, lookup_none_zip (by rw [hn]; exact (kin _ hx).2), Option.none_or]
      have kz : (ks.zip ws).map (·.1) = ks := by rw [← List.unzip_fst, List.unzip_zip_left (by omega)]
      have nd : ((ks.zip ws).map (·.1)).Nodup := by rw [kz]; exact k2
      rw [e, List.map_append, List.map_cons] at nd
      have nin : x.1 ∉ pre.map (·.1) := fun hm => by
        rw [List.nodup_append] at nd
        exact nd.2.2 _ hm _ (by simp) rfl
      have : ∀ {l : List (Str × Value)}, x.1 ∉ l.map (·.1) → (l.lookup x.1).isSome = false := by
        intro l
        induction l with
        | nil => intro _; rfl
        | cons y l ih =>
          intro h
          obtain ⟨a, b⟩ := y
          simp only [List.map_cons, List.mem_cons, not_or] at h
          rw [List.lookup_cons, show (x.1 == a) = false by simpa using h.1]
          exact ih h.2
      exact this nin
    rw [if_neg (by rw [hno]; simp)]
end RV

set_option maxRecDepth 100000
/-! Ev42: all defs of a text at once. -/
namespace RV
open PySem L2 PySem.Spec PyProof.Rows
/-- a def: its text in the small language, or its meaning told -/
inductive Df where
  | fd (f : Fd)
  | told (g : List Sl → Option (Nat × D × List (Option Sl)))
structure Row where
  d : He.DefD
  ps : List Str
  df : Df
/-- the table's calls, to a depth -/
def callD (tab : List Df) (L : Nat) : Nat → Fn
  | 0, _, _ => none
  | n + 1, f, ss => match tab[f]? with
    | some (.fd d) => runFd (callD tab L n) L d ss
    | some (.told g) => g ss
    | none => none
def scopeB (N ps : List Str) (sc : Scope) : Bool := decide (sc.kind = .function) && !sc.isCoroutine && !sc.isGenerator && decide N.Nodup && decide (N.take ps.length = ps) && ps.all (fun x => locB sc x) && sc.names.all (fun y => decide (y.2 ≠ .free))
def callsB (rows : List Row) (cs : List CallSh) : Bool := cs.all fun c => match rows[c.f]? with
  | some r => decide (r.d.at_ = (c.nm, none)) && shapeB r.ps c.ks c.n && decide (c.perm = permOf r.ps c.ks c.n)
  | none => false
def rowB (cs : List (Str × D)) (calls : List CallSh) (r : Row) : Bool := plainP r.d.params r.ps && r.d.dfl.isEmpty && r.d.kwd.isEmpty && scopeB (match r.df with | .fd f => f.N | .told _ => r.ps) r.ps r.d.scope && (match r.df with
  | .fd f => decide (f.np = r.ps.length) && chkSs ⟨f.N, cs, calls⟩ f.st f.body r.d.scope r.d.body
  | .told _ => true)
def tabB (rows : List Row) (cs : List (Str × D)) (calls : List CallSh) : Bool := callsB rows calls && rows.all (rowB cs calls)
/-- what is looked up of the module's names -/
def csFa : List (Str × D) → List He.Fa
  | [] => []
  | (x, .int i) :: r => .int x i :: csFa r
  | (x, .str z) :: r => .str x z :: csFa r
  | (x, _) :: r => .free x :: csFa r
def csB : List (Str × D) → Bool
  | [] => true
  | (x, .int i) :: r => csB r
  | (x, .str z) :: r => csB r
  | (x, _) :: r => false
def faOf (rows : List Row) (cs : List (Str × D)) : List He.Fa := (rows.map fun r => He.Fa.glo r.d.at_.1) ++ biNames.map He.Fa.free ++ csFa cs
theorem scope_of {N ps : List Str} {sc : Scope} (h : scopeB N ps sc = true) : FnScope N ps sc := by
  unfold scopeB at h
  simp only [Bool.and_eq_true, decide_eq_true_eq, Bool.not_eq_true', List.all_eq_true] at h
  obtain ⟨⟨⟨⟨⟨⟨h1, h2⟩, h3⟩, h4⟩, h5⟩, h6⟩, h7⟩ := h
  refine ⟨h1, h2, h3, h4, h5, fun x hx => ?_, h7⟩
  have := h6 x hx
  unfold locB at this
  split at this
  · rename_i e; exact .inl e
  · rename_i e; exact .inr e
  · cases this
theorem csFa_ok {K : PySem.W.Frag} {h : Heap} {mg : Str → Option Value} (X : K.In h) (G : h.Ns mainGlobals mg) : ∀ {cs : List (Str × D)}, csB cs = true → (∀ f ∈ csFa cs, f.ok K = true) → ∀ p ∈ cs, ∃ (u : Value) (v : V), mg p.1 = some u ∧ RelV v u ∧ ∀ H, Im K H p.2 v
  | [], _, _, p, hp => absurd hp (by simp)
  | (x, d) :: r, hb, hf, p, hp => by
    rcases List.mem_cons.mp hp with rfl | hp
    · cases d with
      | int i =>
        obtain ⟨t, e⟩ := He.int_ok X G (hf (.int x i) (by simp [csFa]))
        exact ⟨_, .int i, e, ⟨t, rfl⟩, fun H => im_int i⟩
      | str z =>
        obtain ⟨t, e⟩ := He.str_ok X G (hf (.str x z) (by simp [csFa]))
        exact ⟨_, .str z, e, ⟨t, rfl⟩, fun H => im_str z⟩
      | _ => cases hb
    · refine csFa_ok X G (cs := r) ?_ (fun f hm => hf f ?_) p hp
      · cases d <;> first | exact hb | cases hb
      · cases d <;> exact List.mem_cons_of_mem _ hm
section
variable {P : Program} {w : World} {K : PySem.W.Frag} {mg : Str → Option Value} {base : Heap} {rows : List Row} {cs : List (Str × D)} {calls : List CallSh} {L : Nat}
theorem runFd_body {fn : Fn} {f : Fd} : runFd fn L f = bodyG f (execs fn L f.rm f.body) := rfl
/-- a told def keeps its promise -/
def ToldOk (P : Program) (w : World) (K : PySem.W.Frag) (mg : Str → Option Value) (base : Heap) (rows : List Row) : Prop := ∀ (i : Nat) (r : Row) (g : List Sl → Option (Nat × D × List (Option Sl))), rows[i]? = some r → r.df = .told g → ∀ (k : Nat) (fd : FuncData),
  FunD K r.d.name r.d.qual r.d.params r.d.body r.d.scope [] [] (He.fAd K r.d.at_) fd → FnG P w K mg base (k + 1) (He.fAd K r.d.at_) fd r.ps (spT K g)
theorem tab_ok (hK : K.In base) (hG : base.Ns mainGlobals mg) (hsys : ∃ o, base.get? sysModules = some o) (c : He.SaysD (faOf rows cs) (rows.map (·.d)) K) (hcs : csB cs = true) (ck : tabB rows cs calls = true) (told : ToldOk P w K mg base rows) :
    ∀ (n i : Nat) (r : Row), rows[i]? = some r → ∀ fd : FuncData, FunD K r.d.name r.d.qual r.d.params r.d.body r.d.scope [] [] (He.fAd K r.d.at_) fd → FnG P w K mg base n (He.fAd K r.d.at_) fd r.ps (spT K (callD (rows.map Row.df) L n i)) := by
  have fact : ∀ f ∈ faOf rows cs, f.ok K = true := fun f hf => by
    obtain ⟨i, hi, e⟩ := List.getElem_of_mem hf
    exact c.fact i (by rw [List.getElem?_eq_getElem hi, e])
  have hbl : ∀ x ∈ biNames, mg x = none := fun x hx => He.free_ok hK hG (fact (.free x) (by unfold faOf; simp only [List.mem_append, List.mem_map]; exact .inl (.inr ⟨x, hx, rfl⟩)))
  have hcst := csFa_ok hK hG hcs fun f hf => fact f (by unfold faOf; simp only [List.mem_append]; exact .inr hf)
  have hglo : ∀ r ∈ rows, mg r.d.at_.1 = some (.ref (He.ga K r.d.at_.1)) := fun r hr => He.glo_ok hK hG (fact (.glo r.d.at_.1) (by unfold faOf; simp only [List.mem_append, List.mem_map]; exact .inl (.inl ⟨r, hr, rfl⟩)))
  unfold tabB at ck
  rw [Bool.and_eq_true] at ck
  have rowOk : ∀ r ∈ rows, rowB cs calls r = true := fun r hr => List.all_eq_true.mp ck.2 r hr
  intro n
  induction n with
  | zero =>
    intro i r hr fd F A outer s H args us vs Q _ _ _ _ _ _ hsp
    obtain ⟨ss, χ, m, d, back, e, _⟩ := hsp
    cases e
  | succ n ih =>
    intro i r hr fd F
    have hrm : r ∈ rows := List.mem_of_getElem? hr
    have rk := rowOk r hrm
    unfold rowB at rk
    simp only [Bool.and_eq_true, List.isEmpty_iff] at rk
    obtain ⟨⟨⟨⟨r1, r2⟩, r3⟩, r4⟩, r5⟩ := rk
    have hd : (rows.map Row.df)[i]? = some r.df := by rw [List.getElem?_map, hr]; rfl
    cases hdf : r.df with
    | told g =>
      have e : callD (rows.map Row.df) L (n + 1) i = g := by
        funext ss
        show (match (rows.map Row.df)[i]? with
          | some (.fd d) => runFd (callD (rows.map Row.df) L n) L d ss
          | some (.told g) => g ss
          | none => none) = g ss
        rw [hd, hdf]
      rw [e]
      exact told i r g hr hdf n fd F
    | fd f =>
      rw [hdf] at r4 r5
      simp only [Bool.and_eq_true, decide_eq_true_eq] at r5
      obtain ⟨np, ck5⟩ := r5
      have e : callD (rows.map Row.df) L (n + 1) i = bodyG f (execs (callD (rows.map Row.df) L n) L f.rm f.body) := by
        funext ss
        show (match (rows.map Row.df)[i]? with
          | some (.fd d) => runFd (callD (rows.map Row.df) L n) L d ss
          | some (.told g) => g ss
          | none => none) = _
        rw [hd, hdf]
        rfl
      rw [e]
      obtain ⟨oc, od, dV, kV, doc, pm, an, cdv, ct, osl, rfl, lk, hcd, _, _⟩ := F.ex
      have S : FnScope f.N r.ps r.d.scope := scope_of r4
      refine fnG_of lk hcd S fun A outer s H vs Q hr2 hgd hl hsp => ⟨tS K (f.rm, f.st) (execs (callD (rows.map Row.df) L n) L f.rm f.body), ?_, ?_⟩
      · have hun : (A.deeper (envOfC r.d.qual r.d.scope s.heap.objs.size (He.fAd K r.d.at_) cdv)).units + 66 < cLine := by have := hr2.un; omega
        refine chkSs_ok (C := ⟨f.N, cs, calls⟩) (fn := callD (rows.map Row.df) L n) (sc := r.d.scope) (rm := (f.rm, f.st)) f.body r.d.body ⟨⟨⟨S.nd, rfl, hun, hgd, hsys, hbl⟩, rfl, fun x k h => .inl h, fun _ _ => rfl, S.kind, hcst, fun cl hcl => ?_⟩, rfl, passes_of rfl⟩ ck5
        have hc := List.all_eq_true.mp (show callsB rows calls = true from ck.1) cl hcl
        split at hc
        · rename_i r' hr'
          simp only [Bool.and_eq_true, decide_eq_true_eq] at hc
          obtain ⟨⟨c1, c2⟩, c3⟩ := hc
          have hrm' : r' ∈ rows := List.mem_of_getElem? hr'
          have rk' := rowOk r' hrm'
          unfold rowB at rk'
          simp only [Bool.and_eq_true, List.isEmpty_iff] at rk'
          obtain ⟨⟨⟨⟨p1, p2⟩, p3⟩, _⟩, _⟩ := rk'
          obtain ⟨fd', F'⟩ := c.def_ cl.f (d := r'.d) (by rw [List.getElem?_map, hr']; rfl)
          have F' : FunD K r'.d.name r'.d.qual r'.d.params r'.d.body r'.d.scope [] [] (He.fAd K r'.d.at_) fd' := by
            have e1 : r'.d.dvs K = [] := by unfold He.DefD.dvs; rw [p2]; rfl
            have e2 : r'.d.kws K = [] := by unfold He.DefD.kws; rw [p3]; rfl
            rw [e1, e2] at F'
            exact F'
          have ea : He.fAd K r'.d.at_ = He.ga K cl.nm := by rw [c1]; rfl
          have hm := hglo r' hrm'
          rw [c1] at hm
          refine ⟨n, He.fAd K r'.d.at_, fd', r'.ps, ih cl.f r' hr' fd' F', hr2, by rw [ea]; exact hm, F'.kp, ?_, ?_⟩
          · rw [c3]; simp [permOf]
          · intro us ws zs h1 h2 h3
            obtain ⟨oc', od', dV', kV', doc', pm', an', cdv', ct', osl', e', _, _, hdv, _⟩ := F'.ex
            rw [c3] at h3
            have hp' : plainP fd'.params r'.ps = true := by rw [e']; exact p1
            have hd' : fd'.defaults = .none := by
              rcases hdv with ⟨_, z⟩ | ⟨z, _⟩
              · rw [e']; exact z
              · exact absurd rfl z
            exact bind_plain hp' hd' c2 h1 h2 h3
        · cases hc
      · exact body_run (f := f) (by rw [hl, np]) hsp
end
end RV

set_option maxRecDepth 100000
/-! Ev43: the law's call, and its end. -/
namespace RV
open PySem L2 PySem.Spec PyProof.Rows
/-- the script as a slot -/
def scriptSl (ns : List Int) : Sl := ⟨99, true, .list (ns.map PyData.int)⟩
/-- the law's meaning at a script: true -/
def TrueAt (g : List Sl → Option (Nat × D × List (Option Sl))) (ns : List Int) : Prop := ∃ m back, g [scriptSl ns] = some (m, .bool true, back)
section
variable {P : Program} {w : World} {K : PySem.W.Frag} {mg mb : Str → Option Value} {k : Nat} {fa a : Addr} {fd : FuncData} {x : Str} {s1 : Shared} {vs : List Value} {ns : List Int} {g : List Sl → Option (Nat × D × List (Option Sl))}
theorem law_run (KX : K.In s1.heap) (hns : s1.heap.Ns mainGlobals mg) (hb : s1.heap.Ns builtinsNs mb) (hbb : ∀ x : Str, x ≠ "__name__" → mb x = bootBuiltins x) (hlim : s1.heap.NoLimit) (hg : s1.gens = #[])
    (hmods : ∃ m, s1.heap.Ns sysModules m) (ha : s1.heap.get? a = some { cls := .type "list", data := .seq vs.toArray }) (hi : IntsAre vs ns) (hl : ns.length ≤ sizeLine) (hr : Room k callerA)
    (F : ∀ base : Heap, K.In base → base.Ns mainGlobals mg → (∃ o, base.get? sysModules = some o) → FnG P w K mg base k fa fd [x] (spT K g)) (hbind : ∀ (s : Shared) (u : Value), BindsTo s fd ⟨[u], []⟩ [(x, u)]) (ht : TrueAt g ns) :
    codeAny (model P w) callerA (.call (.ref fa) ⟨[.ref a], []⟩) (fun r s' => r = .ok (.ret (.bool true)) ∧ OldK s1.heap s'.heap ∧ s'.os = s1.os ∧ AllBare s'.gens) s1 := by
  have rv : Vals (ns.map V.int) vs := vals_ints hi
  have lv : vs.length = ns.length := hi.length
  suffices core : ∀ H : Hp, Only H → FoL K H a (ns.map V.int) → HOk P w H s1.heap → (∀ b, H b ≠ none → b = a) → (H a ≠ none → K.lookup a = none) →
      codeAny (model P w) callerA (.call (.ref fa) ⟨[.ref a], []⟩) (fun r s' => r = .ok (.ret (.bool true)) ∧ OldK s1.heap s'.heap ∧ s'.os = s1.os ∧ AllBare s'.gens) s1 by
    cases hk : K.lookup a with
    | some o =>
      have e := KX a o hk
      have eo : o = { cls := .type "list", data := .seq vs.toArray } := Option.some.inj (e.symm.trans ha)
      subst eo
      refine core (fun _ => none) (fun _ => .inl rfl) (.inr ⟨_, vs.toArray, _, hk, rfl, rfl, rfl, ?_, ?_⟩) (fun b u z => ?_) (fun b z => absurd rfl z) fun z => absurd rfl z
      · rw [List.size_toArray, lv]; exact hl
      · simpa using rv
      · have z : (none : Option HO) = some u := z
        cases z
    | none =>
      let Ha : Hp := fun b => if b = a then some (.frz { cls := .type "list", data := .seq vs.toArray } (.lst (ns.map V.int))) else none
      have Hat : Ha a = some (.frz { cls := .type "list", data := .seq vs.toArray } (.lst (ns.map V.int))) := if_pos rfl
      have Hno : ∀ {b}, b ≠ a → Ha b = none := fun h => if_neg h
      refine core Ha (fun b => ?_) (.inl ⟨_, Hat⟩) (fun b u z => ?_) (fun b z => ?_) fun _ => hk
      · by_cases h : b = a
        · subst h; exact .inr ⟨_, _, Hat⟩
        · exact .inl (Hno h)
      · by_cases h : b = a
        · subst h
          have z2 := Hat.symm.trans z
          cases z2
          exact ⟨ha, by rw [List.length_map]; exact hl, vs, _, rv, ha⟩
        · have z2 := (Hno h).symm.trans z
          cases z2
      · by_cases h : b = a
        · exact h
        · exact absurd (Hno h) z
  intro H hO hS hok hA hK
  have noD : ∀ {b : Addr} {o : Obj} {es : Array DictEntry} {ep : Nat}, s1.heap.get? b = some o → o.data = .dict es ep → H b = none := by
    intro b o es ep e d
    by_cases h : H b = none
    · exact h
    · have hb : b = a := hA b h
      subst hb
      rw [ha] at e
      cases e
      exact absurd (show Data.seq vs.toArray _ = Data.dict es ep from d) (by intro z; cases z)
  have up : ∀ {b : Addr} {m : Str → Option Value}, s1.heap.Ns b m → (hidT s1.heap H).Ns b m := by
    rintro b m ⟨o, es, ep, e, d, r⟩
    exact ⟨o, es, ep, hidT_get e (noD e d), d, r⟩
  have inB : K.In (hidT s1.heap H) := by
    intro b o e
    refine hidT_get (KX b o e) ?_
    by_cases h : H b = none
    · exact h
    · have hb : b = a := hA b h
      subst hb
      rw [hK h] at e
      cases e
  have md : Mod K mg (hidT s1.heap H) := by
    obtain ⟨mc, h1, h2⟩ := hlim
    exact ⟨inB, up hns, ⟨mb, up hb, hbb⟩, ⟨mc, up h1, h2⟩⟩
  have e0 : Env0 P w K mg (hidT s1.heap H) callerA [] s1 H := by
    refine ⟨rfl, md, fun b o e => of_hidT e, Nat.le_of_eq (hidT_size _ _), trivial, fun b hb => ?_, hok, .of_eq hg⟩
    exact absurd (show b ∈ ([] : List Addr) from hb) (by simp)
  obtain ⟨mm, hmm⟩ := hmods
  obtain ⟨o, es, ep, em, _, _⟩ := up hmm
  obtain ⟨m, back, ht⟩ := ht
  have sp : spT K g [.ref a] H (fun v _ => v = .bl true) := by
    refine ⟨[scriptSl ns], fun _ => none, m, .bool true, back, ht, rfl, fun i s v h1 h2 => ?_, fun b i z => (by cases z), fun v H' χ' _ _ _ own _ _ => own_bool own⟩
    cases i with
    | succ i => simp at h1
    | zero =>
      simp at h1 h2
      subst h1 h2
      exact .inr (.inr (.inr ⟨rfl, rfl, a, ns, rfl, rfl, hS⟩))
  refine codeAny_mono (F _ inB (up hns) ⟨o, em⟩ callerA [] s1 H ⟨[.ref a], []⟩ [.ref a] [.ref a] _ hr rfl e0 (hbind s1 (.ref a)) (.cons rfl .nil) rfl sp) fun r s' h => ?_
  cases r with
  | error e => exact (show False from h).elim
  | ok fl =>
    cases fl with
    | next => exact (show False from h).elim
    | brk => exact (show False from h).elim
    | cont => exact (show False from h).elim
    | ret u =>
      obtain ⟨v, H', os, bare, un, hok', r', q⟩ := h
      have q : v = .bl true := q
      subst q
      have r' : u = Value.bool true := r'
      subst r'
      refine ⟨rfl, OldK.of_keep fun b o e => ?_, os, bare⟩
      rcases hO b with z | ⟨ob, xs, z⟩
      · exact un.keep b o e z (by intro z; exact absurd (show b ∈ ([] : List Addr) from z) (by simp)) (by simp)
      · have z2 := un.frzs b ob _ z
        have e1 := (hok b _ z).1
        have e2 := (hok' b _ z2).1
        exact (e.symm.trans e1) ▸ e2
/-- the walk that the head leaves -/
theorem law_walk {l : PySem.W.OpenLaw} {q : Program} {loose : List Str} {XP : (Str → Option Value) → Heap → Prop} {d : DefRec} {rows : List Row} {cs : List (Str × D)} {calls : List CallSh} {L k i n : Nat} {r : Row} {x : Str}
    (hn : l.most = some n) (hn2 : n ≤ sizeLine) (hdf : d.params.defaults = []) (hq : importsNone q = true) (hr : rows[i]? = some r) (hat : r.d.at_ = (d.name, none)) (hps : r.ps = [x]) (hroom : Room k callerA) (hcs : csB cs = true) (ck : tabB rows cs calls = true)
    (told : ∀ (w : World) (K : PySem.W.Frag) (mg : Str → Option Value) (base : Heap), K.In base → base.Ns mainGlobals mg → (∃ o, base.get? sysModules = some o) → He.SaysD (faOf rows cs) (rows.map (·.d)) K → ToldOk l.prog w K mg base rows)
    (ht : ∀ ns : List Int, ns.length ≤ n → TrueAt (callD (rows.map Row.df) L k i) ns) :
    PySem.W.WalkO q loose XP (He.hookD 4 (faOf rows cs) (rows.map (·.d))).says l.row.toRowW d [] (fun f vs => PySem.call f vs) := by
  refine Att.attach_call hn hdf fun w s0 s1 mg mb fa o pm cd doc a vs ns G Y ho hd hcd hmg hobj hints hlen hg => ?_
  obtain ⟨K, KX, c⟩ := Y
  have hrm : r ∈ rows := List.mem_of_getElem? hr
  have ck2 := ck
  unfold tabB at ck2
  rw [Bool.and_eq_true] at ck2
  have rk := List.all_eq_true.mp ck2.2 r hrm
  unfold rowB at rk
  simp only [Bool.and_eq_true, List.isEmpty_iff] at rk
  obtain ⟨⟨⟨⟨p1, p2⟩, p3⟩, p4⟩, _⟩ := rk
  obtain ⟨fd, F⟩ := c.def_ i (d := r.d) (by rw [List.getElem?_map, hr]; rfl)
  have e1 : r.d.dvs K = [] := by unfold He.DefD.dvs; rw [p2]; rfl
  have e2 : r.d.kws K = [] := by unfold He.DefD.kws; rw [p3]; rfl
  rw [e1, e2] at F
  have hglo : mg d.name = some (.ref (He.ga K d.name)) := by
    have hm : He.Fa.glo r.d.at_.1 ∈ faOf rows cs := by
      unfold faOf
      simp only [List.mem_append, List.mem_map]
      exact .inl (.inl ⟨r, hrm, rfl⟩)
    rw [hat] at hm
    obtain ⟨j, hj, e⟩ := List.getElem_of_mem hm
    exact He.glo_ok KX G.T.g (c.fact j (by rw [List.getElem?_eq_getElem hj, e]))
  have efa : He.fAd K r.d.at_ = fa := by
    have h2 := hmg.symm.trans hglo
    have h3 : fa = He.ga K d.name := Value.ref.inj (Option.some.inj h2)
    rw [hat, h3]
    rfl
  rw [efa] at F
  have hfd : ∀ (s : Shared) (u : Value), BindsTo s fd ⟨[u], []⟩ [(x, u)] := by
    intro s u
    obtain ⟨oc, od, dV, kV, doc, pm, an, cdv, ct, osl, e, _, _, hdv, _⟩ := F.ex
    have hp : plainP fd.params r.ps = true := by rw [e]; exact p1
    have hdn : fd.defaults = .none := by
      rcases hdv with ⟨_, z⟩ | ⟨z, _⟩
      · rw [e]; exact z
      · exact absurd rfl z
    have hb := bind_plain (ks := []) (us := [u]) (ws := []) (zs := [u]) (n := 1) hp hdn (by rw [hps]; simp [shapeB]) rfl rfl (by rw [hps]; simp [permOf, permO])
    rw [hps] at hb
    exact .of_eq hb
  refine law_run (K := K) (k := k) (g := callD (rows.map Row.df) L k i) KX G.T.g G.T.b G.T.builtins G.T.nolimit hg ?_ hobj hints (Nat.le_trans hlen hn2) hroom (fun base hK hG hsys => ?_) hfd (ht ns hlen)
  · obtain ⟨mm, h, _⟩ := (G.T.seer hq).mods
    exact ⟨mm, h⟩
  · have T := tab_ok (P := l.prog) (w := w) (L := L) hK hG hsys c hcs ck (told w K mg base hK hG hsys c) k i r hr fd (by rw [efa]; exact F)
    rw [efa, hps] at T
    exact T
/-- no def's meaning is told -/
def allFd (rows : List Row) : Bool := rows.all fun r => match r.df with
  | .fd _ => true
  | .told _ => false
theorem told_none {P : Program} {w : World} {K : PySem.W.Frag} {mg : Str → Option Value} {base : Heap} {rows : List Row} (h : allFd rows = true) : ToldOk P w K mg base rows := by
  intro i r g hr hg
  have := List.all_eq_true.mp h r (List.mem_of_getElem? hr)
  rw [hg] at this
  cases this
end
end RV

set_option maxRecDepth 100000
/-! Ev44: what must hold ahead of an evaluation (weakest conditions), as rules for simp. -/
namespace RV
open PySem
def WE (r : REv) (a : A) (Q : Opd → A → Prop) : Prop := ∃ o a', r a = some (o, a') ∧ Q o a'
def WAs (r : RAs) (a : A) (Q : List Opd → A → Prop) : Prop := ∃ o a', r a = some (o, a') ∧ Q o a'
def WT (r : RTe) (a : A) (Q : Bool → A → Prop) : Prop := ∃ o a', r a = some (o, a') ∧ Q o a'
def WI (r : RIt) (a : A) (Q : List D → A → Lks → Prop) : Prop := ∃ ds a' lk, r a = some (ds, a', lk) ∧ Q ds a' lk
def WO (r : RO) (a : A) (Q : Option Int → A → Prop) : Prop := ∃ o a', r a = some (o, a') ∧ Q o a'
def WS (r : RSt) (a : A) (Q : Fl → A → Prop) : Prop := ∃ o a', r a = some (o, a') ∧ Q o a'
def WC (g : List Sl → Option (Nat × D × List (Option Sl))) (ss : List Sl) (R : Nat → D → List (Option Sl) → Prop) : Prop := ∃ m d back, g ss = some (m, d, back) ∧ R m d back
theorem WE.mono {r : REv} {a : A} {Q Q' : Opd → A → Prop} (h : WE r a Q) (k : ∀ o a', Q o a' → Q' o a') : WE r a Q' := let ⟨o, a', e, q⟩ := h; ⟨o, a', e, k _ _ q⟩
theorem WAs.mono {r : RAs} {a : A} {Q Q' : List Opd → A → Prop} (h : WAs r a Q) (k : ∀ o a', Q o a' → Q' o a') : WAs r a Q' := let ⟨o, a', e, q⟩ := h; ⟨o, a', e, k _ _ q⟩
theorem WT.mono {r : RTe} {a : A} {Q Q' : Bool → A → Prop} (h : WT r a Q) (k : ∀ o a', Q o a' → Q' o a') : WT r a Q' := let ⟨o, a', e, q⟩ := h; ⟨o, a', e, k _ _ q⟩
theorem WS.mono {r : RSt} {a : A} {Q Q' : Fl → A → Prop} (h : WS r a Q) (k : ∀ o a', Q o a' → Q' o a') : WS r a Q' := let ⟨o, a', e, q⟩ := h; ⟨o, a', e, k _ _ q⟩
theorem WC.mono {g : List Sl → Option (Nat × D × List (Option Sl))} {ss : List Sl} {R R' : Nat → D → List (Option Sl) → Prop} (h : WC g ss R) (k : ∀ m d b, R m d b → R' m d b) : WC g ss R' := let ⟨m, d, b, e, q⟩ := h; ⟨m, d, b, e, k _ _ _ q⟩
/-! ### expressions -/
/-- a variable taken -/
def VTk (i m : Nat) (s : Sl) (a : A) (Q : Opd → A → Prop) : Prop := if flat s.d = true then Q (.val m s.d) a else if m = 0 then (if s.m = 0 then Q (.val 0 s.d) a else s.lk = false ∧ Q (.val 0 s.d) (a.set i (some ⟨0, false, s.d⟩))) else s.m = m ∧ s.lk = false ∧ Q (.val m s.d) (a.set i none)
section
variable {fn : Fn} {a : A} {Q : Opd → A → Prop} {i m w : Nat} {ra rb rc : REv} {rs rk : RAs} {qb : Bool} {rt ru : RTe} {d : D} {QT : Bool → A → Prop} {QA : List Opd → A → Prop}
theorem ex1 {α β : Type} {x : α} {y : β} {Q : α → β → Prop} : (∃ o a', some (x, y) = some (o, a') ∧ Q o a') ↔ Q x y := ⟨fun ⟨_, _, e, q⟩ => by cases e; exact q, fun q => ⟨_, _, rfl, q⟩⟩
theorem ex0 {α β : Type} {Q : α → β → Prop} : (∃ o a', (none : Option (α × β)) = some (o, a') ∧ Q o a') ↔ False := ⟨fun ⟨_, _, e, _⟩ => (by cases e), fun h => absurd h id⟩
theorem wmap {α β γ δ : Type} {x : Option (α × β)} {f : α × β → γ × δ} {Q : γ → δ → Prop} : (∃ o a', x.map f = some (o, a') ∧ Q o a') ↔ ∃ p b, x = some (p, b) ∧ Q (f (p, b)).1 (f (p, b)).2 := by
  cases x with
  | none => simp
  | some p => exact ⟨fun ⟨o, a', e, q⟩ => by have e := Option.some.inj e; exact ⟨p.1, p.2, rfl, by rw [show (p.1, p.2) = p from rfl, e]; exact q⟩, fun ⟨_, _, e, q⟩ => by obtain rfl := Option.some.inj e; exact ⟨_, _, rfl, q⟩⟩
theorem we_val : WE (fun a => some (.val m d, a)) a Q ↔ Q (.val m d) a := ex1
theorem we_glo : WE (fun a => if flat d then some (.val m d, a) else none) a Q ↔ flat d = true ∧ Q (.val m d) a := by
  unfold WE
  cases flat d with
  | false => simp
  | true => simpa using ex1
theorem we_var_br : WE (varEv i .br) a Q ↔ ∃ s, a[i]? = some (some s) ∧ Q (.ref i) a := by
  unfold WE varEv
  cases h : a[i]? with
  | none => simp
  | some x =>
    cases x with
    | none => simp
    | some s => exact ex1.trans ⟨fun q => ⟨s, rfl, q⟩, fun ⟨_, e, q⟩ => q⟩
theorem we_var_tk : WE (varEv i (.tk m)) a Q ↔ ∃ s, a[i]? = some (some s) ∧ VTk i m s a Q := by
  unfold WE varEv VTk
  cases h : a[i]? with
  | none => simp
  | some x =>
    cases x with
    | none => simp
    | some s =>
      have hs : ∀ P : Sl → Prop, (∃ s', some (some s) = some (some s') ∧ P s') ↔ P s := fun P => ⟨fun ⟨_, e, q⟩ => by cases e; exact q, fun q => ⟨s, rfl, q⟩⟩
      rw [hs]
      simp only
      by_cases h1 : flat s.d = true
      · simp only [h1, if_true]; exact ex1
      · by_cases h2 : m = 0
        · by_cases h3 : s.m = 0
          · rw [if_neg h1, if_pos h2, if_pos h3, if_neg h1, if_pos h2, if_pos h3]; exact ex1
          · by_cases h4 : s.lk = true
            · simp [h1, h2, h3, h4]
            · rw [if_neg h1, if_pos h2, if_neg h3, if_neg h4, if_neg h1, if_pos h2, if_neg h3]; exact ex1.trans (by simp [h4])
        · by_cases h3 : s.m = m
          · by_cases h4 : s.lk = true
            · simp [h1, h2, h3, h4]
            · rw [if_neg h1, if_neg h2, if_neg h1, if_neg h2]; simp only [h3, h4, decide_true, Bool.true_and, Bool.not_false, if_true, true_and]; exact ex1
          · simp [h1, h2, h3]
theorem wb {α β γ δ : Type} {x : Option (α × β)} {f : α × β → Option (γ × δ)} {Q : γ → δ → Prop} : (∃ o a', x.bind f = some (o, a') ∧ Q o a') ↔ ∃ p b, x = some (p, b) ∧ ∃ o a', f (p, b) = some (o, a') ∧ Q o a' := by
  cases x with
  | none => simp
  | some p => exact ⟨fun h => ⟨p.1, p.2, rfl, h⟩, fun ⟨_, _, e, h⟩ => by cases e; exact h⟩
theorem dp {p : Opd} {b : Bool} : ((p.deep && !b) = true) ↔ ¬ (p.deep = false ∨ b = true) := by cases p.deep <;> cases b <;> simp
theorem we_bin {f : Nat × D → Nat × D → Option D} : WE (binEv ra rb qb f w) a Q ↔ WE ra a fun p a1 => WE rb a1 fun q a2 => (p.deep = false ∨ qb = true) ∧ ∃ u v d, res a2 p = some u ∧ res a2 q = some v ∧ f u v = some d ∧ okRes true w d = true ∧ Q (.val w d) a2 := by
  unfold WE binEv
  rw [wb]
  refine exists_congr fun p => exists_congr fun a1 => and_congr_right fun _ => ?_
  rw [wb]
  refine exists_congr fun q => exists_congr fun a2 => and_congr_right fun _ => ?_
  by_cases h : p.deep = false ∨ qb = true
  · have h' : (p.deep && !qb) = false := by rw [← Bool.not_eq_true, dp]; exact fun k => k h
    simp only [h', Bool.false_eq_true, if_false, h, true_and]
    constructor
    · rintro ⟨o, a', e, q⟩
      simp only [Option.bind_eq_some_iff] at e
      obtain ⟨u, hu, v, hv, d, hd, e⟩ := e
      split at e
      · cases e; exact ⟨u, v, d, hu, hv, hd, by assumption, q⟩
      · cases e
    · rintro ⟨u, v, d, hu, hv, hd, ho, q⟩
      exact ⟨_, _, by simp [hu, hv, hd, ho], q⟩
  · have h' : (p.deep && !qb) = true := dp.mpr h
    simp [h', h]
theorem we_one {f : Nat × D → Option D} : WE (oneEv ra f w) a Q ↔ WE ra a fun p a1 => ∃ u d, res a1 p = some u ∧ f u = some d ∧ okRes true w d = true ∧ Q (.val w d) a1 := by
  unfold WE oneEv
  rw [wb]
  refine exists_congr fun p => exists_congr fun a1 => and_congr_right fun _ => ?_
  constructor
  · rintro ⟨o, a', e, q⟩
    simp only [Option.bind_eq_some_iff] at e
    obtain ⟨u, hu, d, hd, e⟩ := e
    split at e
    · cases e; exact ⟨u, d, hu, hd, by assumption, q⟩
    · cases e
  · rintro ⟨u, d, hu, hd, ho, q⟩
    exact ⟨_, _, by simp [hu, hd, ho], q⟩
theorem we_tV : WE (tV rt m) a Q ↔ WT rt a fun b a1 => Q (.val m (.bool b)) a1 := by
  unfold WE WT tV
  rw [wmap]
theorem wt_tst {r : REv} : WT (tst r) a QT ↔ WE r a fun p a1 => ∃ k b, res a1 p = some (k, .bool b) ∧ QT b a1 := by
  unfold WE WT tst
  rw [wb]
  refine exists_congr fun p => exists_congr fun a1 => and_congr_right fun _ => ?_
  constructor
  · rintro ⟨o, a', e, q⟩
    simp only [Option.bind_eq_some_iff, Option.map_eq_some_iff] at e
    obtain ⟨u, hu, b, hb, e⟩ := e
    have := bTest_eq hb
    obtain ⟨k, d⟩ := u
    cases e
    simp only at this
    subst this
    exact ⟨k, _, hu, q⟩
  · rintro ⟨k, b, hu, q⟩
    exact ⟨_, _, by simp [hu, bTest], q⟩
theorem wt_tV {r : RTe} : WT (tst (tV r m)) a QT ↔ WT r a QT := by rw [tst_tV]
theorem wt_n : WT (nTe rt) a QT ↔ WT rt a fun b a1 => QT (!b) a1 := by
  unfold WT nTe
  rw [wmap]
theorem wt_a : WT (aTe rt ru) a QT ↔ WT rt a fun b a1 => if b = true then WT ru a1 QT else QT false a1 := by
  unfold WT aTe
  rw [wb]
  refine exists_congr fun p => exists_congr fun a1 => and_congr_right fun _ => ?_
  cases p with
  | true => exact Iff.rfl
  | false => exact ex1
theorem wt_o : WT (oTe rt ru) a QT ↔ WT rt a fun b a1 => if b = true then QT true a1 else WT ru a1 QT := by
  unfold WT oTe
  rw [wb]
  refine exists_congr fun p => exists_congr fun a1 => and_congr_right fun _ => ?_
  cases p with
  | false => exact Iff.rfl
  | true => exact ex1
theorem wt_yes : WT (fun a => some (true, a)) a QT ↔ QT true a := ex1
theorem we_ife : WE (iEv rt ra rb) a Q ↔ WT rt a fun b a1 => if b = true then WE ra a1 Q else WE rb a1 Q := by
  unfold WT WE iEv
  rw [wb]
  refine exists_congr fun p => exists_congr fun a1 => and_congr_right fun _ => ?_
  cases p <;> exact Iff.rfl
theorem wt_c {f : D → D → Option Bool} : WT (cTe ra rb qb f) a QT ↔ WE ra a fun p a1 => WE rb a1 fun q a2 => (p.deep = false ∨ qb = true) ∧ ∃ u v b, res a2 p = some u ∧ res a2 q = some v ∧ f u.2 v.2 = some b ∧ QT b a2 := by
  unfold WE WT cTe
  rw [wb]
  refine exists_congr fun p => exists_congr fun a1 => and_congr_right fun _ => ?_
  rw [wb]
  refine exists_congr fun q => exists_congr fun a2 => and_congr_right fun _ => ?_
  by_cases h : p.deep = false ∨ qb = true
  · have h' : (p.deep && !qb) = false := by rw [← Bool.not_eq_true, dp]; exact fun k => k h
    simp only [h', Bool.false_eq_true, if_false, h, true_and]
    constructor
    · rintro ⟨o, a', e, q⟩
      simp only [Option.bind_eq_some_iff, Option.map_eq_some_iff] at e
      obtain ⟨u, hu, v, hv, d, hd, e⟩ := e
      cases e
      exact ⟨u, v, _, hu, hv, hd, q⟩
    · rintro ⟨u, v, d, hu, hv, hd, q⟩
      exact ⟨_, _, by simp [hu, hv, hd], q⟩
  · have h' : (p.deep && !qb) = true := dp.mpr h
    simp [h', h]
theorem wt_isN {o : Cop} : WT (nTest ra o) a QT ↔ WE ra a fun p a1 => ∃ u b, res a1 p = some u ∧ cmpD o u.2 .none = some b ∧ QT b a1 := by
  unfold WE WT nTest
  rw [wb]
  refine exists_congr fun p => exists_congr fun a1 => and_congr_right fun _ => ?_
  constructor
  · rintro ⟨o, a', e, q⟩
    simp only [Option.bind_eq_some_iff, Option.map_eq_some_iff] at e
    obtain ⟨u, hu, d, hd, e⟩ := e
    cases e
    exact ⟨u, _, hu, hd, q⟩
  · rintro ⟨u, d, hu, hd, q⟩
    exact ⟨_, _, by simp [hu, hd], q⟩
theorem wt_ch {f g : D → D → Option Bool} : WT (chTe ra rb rc f g) a QT ↔ WE ra a fun p a1 => WE rb a1 fun q a2 => p.deep = false ∧ q.deep = false ∧ ∃ u v b, res a2 p = some u ∧ res a2 q = some v ∧ f u.2 v.2 = some b ∧
    if b = true then WE rc a2 fun r a3 => ∃ v2 t c, res a3 q = some v2 ∧ res a3 r = some t ∧ g v2.2 t.2 = some c ∧ QT c a3 else QT false a2 := by
  unfold WE WT chTe
  rw [wb]
  refine exists_congr fun p => exists_congr fun a1 => and_congr_right fun _ => ?_
  rw [wb]
  refine exists_congr fun q => exists_congr fun a2 => and_congr_right fun _ => ?_
  by_cases h : p.deep = false ∧ q.deep = false
  · have h' : (p.deep || q.deep) = false := by rw [h.1, h.2]; rfl
    rw [if_neg (show ¬ (p.deep || q.deep) = true by rw [h']; simp)]
    refine Iff.trans ?_ (show _ ↔ _ from ⟨fun z => ⟨h.1, h.2, z⟩, fun z => z.2.2⟩)
    constructor
    · rintro ⟨o, a', e, qq⟩
      simp only [Option.bind_eq_some_iff] at e
      obtain ⟨u, hu, v, hv, b, hb, e⟩ := e
      refine ⟨u, v, b, hu, hv, hb, ?_⟩
      cases b with
      | false =>
        rw [if_neg (by simp)] at e
        cases e
        rw [if_neg (by simp)]
        exact qq
      | true =>
        rw [if_pos rfl] at e
        rw [if_pos rfl]
        simp only [Option.bind_eq_some_iff, Option.map_eq_some_iff] at e
        obtain ⟨r, hr, v2, hv2, t, ht, c, hc, e⟩ := e
        cases e
        exact ⟨r.1, r.2, hr, v2, t, _, hv2, ht, hc, qq⟩
    · rintro ⟨u, v, b, hu, hv, hb, z⟩
      cases b with
      | false => simp only [Bool.false_eq_true, if_false] at z; exact ⟨_, _, by simp [hu, hv, hb], z⟩
      | true =>
        simp only [if_true] at z
        obtain ⟨r, a3, hr, v2, t, c, hv2, ht, hc, qq⟩ := z
        exact ⟨_, _, by simp [hu, hv, hb, hr, hv2, ht, hc], qq⟩
  · have h' : (p.deep || q.deep) = true := by
      cases h1 : p.deep <;> cases h2 : q.deep <;> simp_all
    simp only [h', if_true]
    constructor
    · rintro ⟨_, _, e, _⟩; cases e
    · rintro ⟨h1, h2, _⟩; exact absurd ⟨h1, h2⟩ h
theorem wa_nil : WAs nilAs a QA ↔ QA [] a := ex1
theorem wa_cons {qs : Bool} : WAs (consAs ra rs qs) a QA ↔ WE ra a fun p a1 => WAs rs a1 fun ps a2 => (p.deep = false ∨ qs = true) ∧ QA (p :: ps) a2 := by
  unfold WE WAs consAs
  rw [wb]
  refine exists_congr fun p => exists_congr fun a1 => and_congr_right fun _ => ?_
  rw [wb]
  refine exists_congr fun q => exists_congr fun a2 => and_congr_right fun _ => ?_
  by_cases h : p.deep = false ∨ qs = true
  · have h' : (p.deep && !qs) = false := by rw [← Bool.not_eq_true, dp]; exact fun k => k h
    rw [h', if_neg (by simp)]
    exact ex1.trans (by simp [h])
  · have h' : (p.deep && !qs) = true := dp.mpr h
    simp [h', h]
theorem we_tup : WE (tupEv rs m) a Q ↔ WAs rs a fun os a1 => ∃ ds, valsOf 0 os = some ds ∧ fitL ds.length = true ∧ Q (.val m (.tuple ds)) a1 := by
  unfold WE WAs tupEv
  rw [wb]
  refine exists_congr fun p => exists_congr fun a1 => and_congr_right fun _ => ?_
  constructor
  · rintro ⟨o, a', e, q⟩
    simp only [Option.bind_eq_some_iff] at e
    obtain ⟨ds, hd, e⟩ := e
    split at e
    · cases e; exact ⟨ds, hd, by assumption, q⟩
    · cases e
  · rintro ⟨ds, hd, hf, q⟩
    exact ⟨_, _, by simp [hd, hf], q⟩
theorem we_lst : WE (lstEv rs m) a Q ↔ WAs rs a fun os a1 => ∃ ds, valsOf (m - 1) os = some ds ∧ fitL ds.length = true ∧ Q (.val m (.list ds)) a1 := by
  unfold WE WAs lstEv
  rw [wb]
  refine exists_congr fun p => exists_congr fun a1 => and_congr_right fun _ => ?_
  constructor
  · rintro ⟨o, a', e, q⟩
    simp only [Option.bind_eq_some_iff] at e
    obtain ⟨ds, hd, e⟩ := e
    split at e
    · cases e; exact ⟨ds, hd, by assumption, q⟩
    · cases e
  · rintro ⟨ds, hd, hf, q⟩
    exact ⟨_, _, by simp [hd, hf], q⟩
theorem we_dis {ks : List D} : WE (disEv ks rs m) a Q ↔ WAs rs a fun os a1 => ∃ ds, valsOf (m - 1) os = some ds ∧ (decide (ds.length = ks.length) && ks.all keyOk && keysNd ks) = true ∧ Q (.val m (.dict (ks.zip ds))) a1 := by
  unfold WE WAs disEv
  rw [wb]
  refine exists_congr fun p => exists_congr fun a1 => and_congr_right fun _ => ?_
  constructor
  · rintro ⟨o, a', e, q⟩
    simp only [Option.bind_eq_some_iff] at e
    obtain ⟨ds, hd, e⟩ := e
    split at e
    · cases e; exact ⟨ds, hd, by assumption, q⟩
    · cases e
  · rintro ⟨ds, hd, hf, q⟩
    exact ⟨_, _, by rw [hd]; simp only [Option.bind_some, hf, if_true], q⟩
theorem we_call {f : List (Nat × D) → Option D} : WE (callEv rs f m) a Q ↔ WAs rs a fun os a1 => ∃ us d, resAll a1 os = some us ∧ f us = some d ∧ okRes true m d = true ∧ Q (.val m d) a1 := by
  unfold WE WAs callEv
  rw [wb]
  refine exists_congr fun p => exists_congr fun a1 => and_congr_right fun _ => ?_
  constructor
  · rintro ⟨o, a', e, q⟩
    simp only [Option.bind_eq_some_iff] at e
    obtain ⟨us, hu, d, hd, e⟩ := e
    split at e
    · cases e; exact ⟨us, d, hu, hd, by assumption, q⟩
    · cases e
  · rintro ⟨us, d, hu, hd, hf, q⟩
    exact ⟨_, _, by simp [hu, hd, hf], q⟩
theorem we_callF {g : List Sl → Option (Nat × D × List (Option Sl))} {perm : List Nat} : WE (callEvF g rs rk perm w) a Q ↔ WAs rs a fun os a1 => WAs rk a1 fun ks a2 => ((os ++ ks).any Opd.deep = false) ∧ nodupN perm = true ∧ ∃ os', permO (os ++ ks) perm = some os' ∧ os'.any Opd.deep = false ∧ nodupN (lent a2 os') = true ∧
    ∃ ss, argsOf a2 os' = some ss ∧ WC g ss fun m d back => outOk w m d = true ∧ back.length = os'.length ∧ Q (.val w d) (backs a2 os' back) := by
  unfold WE WAs WC callEvF
  rw [wb]
  refine exists_congr fun p => exists_congr fun a1 => and_congr_right fun _ => ?_
  rw [wb]
  refine exists_congr fun q => exists_congr fun a2 => and_congr_right fun _ => ?_
  constructor
  · rintro ⟨o, a', e, qq⟩
    simp only [Option.bind_eq_some_iff] at e
    obtain ⟨os, h1, e⟩ := e
    split at e
    · cases e
    · rename_i hc
      simp only [Option.bind_eq_some_iff] at e
      obtain ⟨ss, h2, r, h3, e⟩ := e
      split at e
      · rename_i ho
        simp only [Bool.and_eq_true, decide_eq_true_eq] at ho
        cases e
        simp only [Bool.or_eq_true, not_or, Bool.not_eq_true', Bool.not_eq_true, Bool.not_eq_false] at hc
        obtain ⟨⟨⟨c1, c2⟩, c3⟩, c4⟩ := hc
        exact ⟨c1, c4, os, h1, c2, c3, ss, h2, r.1, r.2.1, r.2.2, h3, ho.1, ho.2, qq⟩
      · cases e
  · rintro ⟨c1, c4, os, h1, c2, c3, ss, h2, m, d, back, h3, o1, o2, qq⟩
    refine ⟨_, _, ?_, qq⟩
    rw [h1]
    simp only [Option.bind_some, c1, c2, c3, c4, Bool.not_true, Bool.or_false, Bool.false_eq_true, if_false, h2, h3, o1, o2, decide_true, Bool.and_true, if_true]
/-- a[k], its parts known -/
def WIx (p q : Opd) (a : A) (w : Wt) (Q : Opd → A → Prop) : Prop := ∃ u kd d, res a p = some u ∧ res a q = some kd ∧ idxD u.2 kd.2 = some d ∧
  if (flat d || decide (u.1 ≤ 1) || flat u.2) = true then okRes false w.m d = true ∧ Q (.val w.m d) a else ∃ i, p = .ref i ∧ w = .br ∧ Q (.sub i kd.2) a
theorem we_idx {w : Wt} : WE (idxEv ra rb qb w) a Q ↔ WE ra a fun p a1 => WE rb a1 fun q a2 => (p.deep = false ∨ qb = true) ∧ WIx p q a2 w Q := by
  unfold WE WIx idxEv
  rw [wb]
  refine exists_congr fun p => exists_congr fun a1 => and_congr_right fun _ => ?_
  rw [wb]
  refine exists_congr fun q => exists_congr fun a2 => and_congr_right fun _ => ?_
  by_cases h : p.deep = false ∨ qb = true
  · have h' : (p.deep && !qb) = false := by rw [← Bool.not_eq_true, dp]; exact fun k => k h
    simp only [h', Bool.false_eq_true, if_false, h, true_and]
    unfold idxStep
    constructor
    · rintro ⟨o, a', e, qq⟩
      simp only [Option.bind_eq_some_iff] at e
      obtain ⟨u, hu, v, hv, d, hd, e⟩ := e
      refine ⟨u, v, d, hu, hv, hd, ?_⟩
      split at e
      · rename_i hc
        rw [if_pos hc]
        split at e
        · cases e; exact ⟨by assumption, qq⟩
        · cases e
      · rename_i hc
        rw [if_neg hc]
        split at e
        · cases e; exact ⟨_, rfl, rfl, qq⟩
        · cases e
    · rintro ⟨u, v, d, hu, hv, hd, z⟩
      split at z
      · rename_i hc
        refine ⟨_, _, ?_, z.2⟩
        rw [hu]
        simp only [Option.bind_some, hv, hd]
        rw [if_pos hc, if_pos z.1]
      · rename_i hc
        obtain ⟨i, rfl, rfl, z⟩ := z
        refine ⟨_, _, ?_, z⟩
        rw [hu]
        simp only [Option.bind_some, hv, hd]
        rw [if_neg hc]
  · have h' : (p.deep && !qb) = true := dp.mpr h
    simp [h', h]
variable {QO : Option Int → A → Prop}
theorem wo_none : WO (fun a => some (none, a)) a QO ↔ QO none a := ex1
theorem wo_some : WO (partEv ra) a QO ↔ WE ra a fun p a1 => ∃ k i, p = .val k (.int i) ∧ QO (some i) a1 := by
  unfold WE WO partEv
  rw [wb]
  refine exists_congr fun p => exists_congr fun a1 => and_congr_right fun _ => ?_
  constructor
  · rintro ⟨o, a', e, q⟩
    split at e
    · rename_i k i hp
      cases e
      exact ⟨k, i, hp, q⟩
    · cases e
  · rintro ⟨k, i, rfl, q⟩
    exact ⟨_, _, rfl, q⟩
theorem we_slc {rl rh : RO} : WE (slcEv ra rl rh m) a Q ↔ WE ra a fun p a1 => WO rl a1 fun lo a2 => WO rh a2 fun hi a3 => p.deep = false ∧ ∃ u d, res a3 p = some u ∧ slcD u lo hi = some d ∧ okRes true m d = true ∧ Q (.val m d) a3 := by
  unfold WE WO slcEv
  rw [wb]
  refine exists_congr fun p => exists_congr fun a1 => and_congr_right fun _ => ?_
  rw [wb]
  refine exists_congr fun lo => exists_congr fun a2 => and_congr_right fun _ => ?_
  rw [wb]
  refine exists_congr fun hi => exists_congr fun a3 => and_congr_right fun _ => ?_
  cases h : p.deep with
  | true => simp
  | false =>
    simp only [Bool.false_eq_true, if_false, true_and]
    constructor
    · rintro ⟨o, a', e, q⟩
      simp only [Option.bind_eq_some_iff] at e
      obtain ⟨u, hu, d, hd, e⟩ := e
      split at e
      · cases e; exact ⟨u, d, hu, hd, by assumption, q⟩
      · cases e
    · rintro ⟨u, d, hu, hd, ho, q⟩
      exact ⟨_, _, by simp [hu, hd, ho], q⟩
/-- a method that changes its object -/
def WMu (f : Mu) (am i : Nat) (w : Wt) (os : List Opd) (a : A) (Q : Opd → A → Prop) : Prop := ∃ s, a[i]? = some (some s) ∧ s.lk = false ∧ s.m ≠ 0 ∧ (isApp f || kidsIm s.m s.d) = true ∧ ∃ us, muArgs f am a os = some us ∧ putOk f (s.m - 1) us = true ∧ ∃ d x, muD f s.d us = some (d, x) ∧ (flat d || (decide (s.m = 1) && decide (w.m = 0))) = true ∧ Q (.val w.m d) (a.set i (some ⟨s.m, false, x⟩))
theorem we_mu {f : Mu} {am : Nat} {w : Wt} : WE (muEv rs f am i w) a Q ↔ lstAt a i = true ∧ WAs rs a fun os a1 => WMu f am i w os a1 Q := by
  unfold WE WAs muEv WMu
  cases hl : lstAt a i with
  | false => simp
  | true =>
    simp only [Bool.not_true, Bool.false_eq_true, if_false, true_and]
    rw [wb]
    refine exists_congr fun p => exists_congr fun a1 => and_congr_right fun _ => ?_
    unfold muStep
    constructor
    · rintro ⟨o, a', e, q⟩
      cases hs : a1[i]? with
      | none => rw [hs] at e; cases e
      | some x =>
        cases x with
        | none => rw [hs] at e; cases e
        | some s =>
          rw [hs] at e
          simp only at e
          split at e
          · cases e
          · rename_i hc
            simp only [Bool.or_eq_true, not_or, Bool.not_eq_true, decide_eq_true_eq, Bool.not_eq_true'] at hc
            simp only [Option.bind_eq_some_iff] at e
            obtain ⟨us, hu, e⟩ := e
            split at e
            · cases e
            · rename_i hp
              simp only [Option.bind_eq_some_iff] at e
              obtain ⟨r, hr, e⟩ := e
              split at e
              · cases e
                refine ⟨s, rfl, hc.1.1, hc.1.2, ?_, us, hu, ?_, r.1, r.2, hr, by assumption, q⟩
                · cases h : (isApp f || kidsIm s.m s.d)
                  · exact absurd h (by simpa using hc.2)
                  · rfl
                · simpa using hp
              · cases e
    · rintro ⟨s, hs, h1, h2, h3, us, hu, hp, d, x, hr, hf, q⟩
      refine ⟨_, _, ?_, q⟩
      rw [hs]
      simp only [h1, h2, h3, decide_false, Bool.or_false, Bool.false_or, Bool.not_true, Bool.false_eq_true, if_false, hu, Option.bind_some, hp, hr, hf, if_true]
end
end RV

set_option maxRecDepth 100000
/-! Ev45: weakest conditions of walks, comprehensions, statements, loops, bodies. -/
namespace RV
open PySem
/-! ### walks -/
def WWalk (o : Opd) (a : A) (Q : List D → A → Lks → Prop) : Prop := ∃ ds a' lk, walkO a o = some (ds, a', lk) ∧ Q ds a' lk
def WSl (i : Nat) (s : Sl) (a : A) (Q : List D → A → Lks → Prop) : Prop := match s.d with
  | .tuple ds => Q ds a []
  | .list ds => if s.m = 0 then Q ds a [] else kidsIm s.m s.d = true ∧ if s.lk = true then Q ds a [(i, false)] else Q ds (a.set i (some ⟨s.m, true, s.d⟩)) [(i, true)]
  | _ => False
section
variable {a : A} {i m w : Nat} {QI : List D → A → Lks → Prop} {rs : RAs} {Q : Opd → A → Prop}
theorem ex3 {α β γ : Type} {x : α} {y : β} {z : γ} {Q : α → β → γ → Prop} : (∃ o a' b', some (x, y, z) = some (o, a', b') ∧ Q o a' b') ↔ Q x y z := ⟨fun ⟨_, _, _, e, q⟩ => by cases e; exact q, fun q => ⟨_, _, _, rfl, q⟩⟩
theorem ww_tup {ds : List D} : WWalk (.val m (.tuple ds)) a QI ↔ QI ds a [] := ex3
theorem ww_lst {ds : List D} : WWalk (.val m (.list ds)) a QI ↔ kidsIm m (.list ds) = true ∧ QI ds a [] := by
  have e : walkO a (.val m (.list ds)) = if kidsIm m (.list ds) = true then some (ds, a, []) else none := rfl
  unfold WWalk
  rw [e]
  by_cases h : kidsIm m (.list ds) = true
  · rw [if_pos h]; exact ex3.trans (by simp [h])
  · rw [if_neg h]; simp [h]
theorem ww_ref : WWalk (.ref i) a QI ↔ ∃ s, a[i]? = some (some s) ∧ WSl i s a QI := by
  unfold WWalk WSl
  cases h : a[i]? with
  | none =>
    have e : walkO a (.ref i) = none := by unfold walkO; simp only [h]
    rw [e]; simp
  | some x =>
    cases x with
    | none =>
      have e : walkO a (.ref i) = none := by unfold walkO; simp only [h]
      rw [e]; simp
    | some s =>
      have hs : ∀ P : Sl → Prop, (∃ s', some (some s) = some (some s') ∧ P s') ↔ P s := fun P => ⟨fun ⟨_, e, q⟩ => by cases e; exact q, fun q => ⟨s, rfl, q⟩⟩
      rw [hs]
      obtain ⟨sm, sl, sd⟩ := s
      have no : ∀ {o : Option (List D × A × Lks)}, o = none → ((∃ ds a' lk, o = some (ds, a', lk) ∧ QI ds a' lk) ↔ False) := fun e => by subst e; simp
      cases sd with
      | tuple ds =>
        have e0 : walkO a (.ref i) = some (ds, a, []) := by unfold walkO; simp only [h]
        rw [e0]; exact ex3
      | list ds =>
        have e0 : walkO a (.ref i) = if sm = 0 then some (ds, a, []) else if kidsIm sm (.list ds) = true then (if sl = true then some (ds, a, [(i, false)]) else some (ds, a.set i (some ⟨sm, true, .list ds⟩), [(i, true)])) else none := by unfold walkO; simp only [h]
        rw [e0]
        by_cases h0 : sm = 0
        · simp only [if_pos h0]; exact ex3
        · simp only [if_neg h0]
          by_cases hk : kidsIm sm (.list ds) = true
          · simp only [if_pos hk]
            cases sl with
            | true => simp only [if_true]; exact ex3.trans (by simp [hk])
            | false => simp only [Bool.false_eq_true, if_false]; exact ex3.trans (by simp [hk])
          · rw [if_neg hk]; simp [hk]
      | none => exact no (by unfold walkO; simp only [h])
      | bool b => exact no (by unfold walkO; simp only [h])
      | int n => exact no (by unfold walkO; simp only [h])
      | str x => exact no (by unfold walkO; simp only [h])
      | dict kvs => exact no (by unfold walkO; simp only [h])
theorem wi_one {f : List D → List D} : WI (itOne rs f) a QI ↔ WAs rs a fun os a1 => ∃ o, os = [o] ∧ WWalk o a1 fun ds a2 lk => QI (f ds) a2 lk := by
  unfold WI WAs WWalk itOne
  constructor
  · rintro ⟨ds, a', lk, e, q⟩
    simp only [Option.bind_eq_some_iff] at e
    obtain ⟨p, hp, e⟩ := e
    refine ⟨p.1, p.2, hp, ?_⟩
    split at e
    · rename_i o ho
      simp only [Option.map_eq_some_iff] at e
      obtain ⟨u, hu, e⟩ := e
      cases e
      exact ⟨o, ho, u.1, u.2.1, u.2.2, hu, q⟩
    · cases e
  · rintro ⟨os, a1, hp, o, rfl, ds, a2, lk, hw, q⟩
    exact ⟨_, _, _, by simp only [hp, Option.bind_some, hw, Option.map_some], q⟩
theorem wi_two {f : List D → List D → List D} : WI (itTwo rs f) a QI ↔ WAs rs a fun os a1 => ∃ o o2, os = [o, o2] ∧ WWalk o a1 fun ds a2 lk => WWalk o2 a2 fun es a3 lk2 => QI (f ds es) a3 (lk ++ lk2) := by
  unfold WI WAs WWalk itTwo
  constructor
  · rintro ⟨ds, a', lk, e, q⟩
    simp only [Option.bind_eq_some_iff] at e
    obtain ⟨p, hp, e⟩ := e
    refine ⟨p.1, p.2, hp, ?_⟩
    split at e
    · rename_i o o2 ho
      simp only [Option.bind_eq_some_iff, Option.map_eq_some_iff] at e
      obtain ⟨u, hu, v, hv, e⟩ := e
      cases e
      exact ⟨o, o2, ho, u.1, u.2.1, u.2.2, hu, v.1, v.2.1, v.2.2, hv, q⟩
    · cases e
  · rintro ⟨os, a1, hp, o, o2, rfl, ds, a2, lk, hw, es, a3, lk2, hw2, q⟩
    exact ⟨_, _, _, by simp only [hp, Option.bind_some, hw, hw2, Option.map_some], q⟩
theorem wi_rng1 : WI (itRng1 rs) a QI ↔ WAs rs a fun os a1 => ∃ m n, resAll a1 os = some [(m, .int n)] ∧ rngOk n = true ∧ QI (rngD 0 n.toNat) a1 [] := by
  unfold WI WAs itRng1
  constructor
  · rintro ⟨ds, a', lk, e, q⟩
    simp only [Option.bind_eq_some_iff] at e
    obtain ⟨p, hp, us, hu, e⟩ := e
    split at e
    · rename_i m n
      split at e
      · cases e; exact ⟨p.1, p.2, hp, m, n, hu, by assumption, q⟩
      · cases e
    · cases e
  · rintro ⟨os, a1, hp, m, n, hu, hr, q⟩
    exact ⟨_, _, _, by simp only [hp, Option.bind_some, hu, hr, if_true], q⟩
theorem wi_rng : WI (itRng rs) a QI ↔ WAs rs a fun os a1 => ∃ m l k n, resAll a1 os = some [(m, .int l), (k, .int n)] ∧ rngOk l = true ∧ rngOk n = true ∧ QI (rngD l (n - l).toNat) a1 [] := by
  unfold WI WAs itRng
  constructor
  · rintro ⟨ds, a', lk, e, q⟩
    simp only [Option.bind_eq_some_iff] at e
    obtain ⟨p, hp, us, hu, e⟩ := e
    split at e
    · rename_i m l k n
      split at e
      · rename_i hc
        rw [Bool.and_eq_true] at hc
        cases e; exact ⟨p.1, p.2, hp, m, l, k, n, hu, hc.1, hc.2, q⟩
      · cases e
    · cases e
  · rintro ⟨os, a1, hp, m, l, k, n, hu, hr, hr2, q⟩
    exact ⟨_, _, _, by simp only [hp, Option.bind_some, hu, hr, hr2, Bool.and_self, if_true], q⟩
/-! ### comprehensions -/
def WL (lk : Lks) (turn : D → A → Option (Option D × A)) (ds : List D) (a : A) (Q : List D → A → Prop) : Prop := ∃ out a', lcLoop lk turn ds a = some (out, a') ∧ Q out a'
def WTurn (turn : D → A → Option (Option D × A)) (x : D) (a : A) (P : Option D → A → Prop) : Prop := ∃ o a', turn x a = some (o, a') ∧ P o a'
theorem we_lc {own : List Nat} {re : REv} {tg : Tg} {ri : RIt} {rc : RTe} : WE (lcEv own re tg ri rc w) a Q ↔ WI ri a fun ds a1 lk => ownFine a1 own = true ∧ fitL ds.length = true ∧ WL lk (lcTurn tg rc re own (w - 1)) ds (wipeA a1 own) fun out a2 => Q (.val w (.list out)) (unlockA (backA a1 a2 own) lk) := by
  unfold WE WI WL lcEv
  constructor
  · rintro ⟨o, a', e, q⟩
    simp only [Option.bind_eq_some_iff] at e
    obtain ⟨p, hp, e⟩ := e
    split at e
    · cases e
    · rename_i hc
      simp only [Bool.or_eq_true, Bool.not_eq_true', not_or, Bool.not_eq_false] at hc
      simp only [Option.map_eq_some_iff] at e
      obtain ⟨u, hu, e⟩ := e
      cases e
      exact ⟨p.1, p.2.1, p.2.2, hp, hc.1, hc.2, u.1, u.2, hu, q⟩
  · rintro ⟨ds, a1, lk, hp, h1, h2, out, a2, hl, q⟩
    exact ⟨_, _, by simp only [hp, Option.bind_some, h1, h2, Bool.not_true, Bool.or_self, Bool.false_eq_true, if_false, hl, Option.map_some], q⟩
theorem wturn {own : List Nat} {re : REv} {tg : Tg} {rc : RTe} {x : D} {P : Option D → A → Prop} : WTurn (lcTurn tg rc re own m) x a P ↔ ∃ b1, bindT tg x a = some b1 ∧ WT rc b1 fun c a2 => if c = true then WE re a2 fun r a3 => ∃ d, r = .val m d ∧ P (some d) (wipeA a3 own) else P none (wipeA a2 own) := by
  unfold WTurn WT WE lcTurn
  constructor
  · rintro ⟨o, a', e, q⟩
    simp only [Option.bind_eq_some_iff] at e
    obtain ⟨b1, h1, c, h2, e⟩ := e
    refine ⟨b1, h1, c.1, c.2, h2, ?_⟩
    split at e
    · rename_i hc
      rw [if_pos hc]
      simp only [Option.bind_eq_some_iff, Option.map_eq_some_iff] at e
      obtain ⟨r, h3, ds, h4, e⟩ := e
      refine ⟨r.1, r.2, h3, ?_⟩
      obtain ⟨r1, r2⟩ := r
      cases r1 with
      | val k d =>
        simp only [valsOf] at h4
        split at h4
        · rename_i hk
          cases h4
          cases e
          exact ⟨d, by rw [hk], q⟩
        · cases h4
      | ref _ => cases h4
      | sub _ _ => cases h4
    · rename_i hc
      rw [if_neg hc]
      cases e
      exact q
  · rintro ⟨b1, h1, c, a2, h2, e⟩
    split at e
    · rename_i hc
      obtain ⟨r, a3, h3, d, rfl, q⟩ := e
      refine ⟨_, _, ?_, q⟩
      simp only [h1, Option.bind_some, h2, hc, if_true, h3, valsOf, Option.map_some, List.headD_cons]
    · rename_i hc
      exact ⟨_, _, by simp only [h1, Option.bind_some, h2, if_neg hc], e⟩
theorem wl_inv {lk : Lks} {turn : D → A → Option (Option D × A)} {Q : List D → A → Prop} (I : List D → List D → A → Prop) {ds : List D} (h0 : I ds [] a) (step : ∀ x r out a, I (x :: r) out a → WTurn turn x a fun o a' => holds lk a' = true ∧ I r (out ++ o.toList) a') (done : ∀ out a, I [] out a → Q out a) :
    WL lk turn ds a Q := by
  have key : ∀ (ds : List D) (acc : List D) (a : A), I ds acc a → ∃ out a', lcLoop lk turn ds a = some (out, a') ∧ I [] (acc ++ out) a' := by
    intro ds
    induction ds with
    | nil => intro acc a h; exact ⟨[], a, rfl, by simpa using h⟩
    | cons x r ih =>
      intro acc a h
      obtain ⟨o, a', e, hh, hi⟩ := step x r acc a h
      obtain ⟨out, a2, e2, h2⟩ := ih _ _ hi
      cases o with
      | some d => exact ⟨d :: out, a2, by unfold lcLoop; simp only [e, Option.bind_some, hh, if_true, e2, Option.map_some], by simpa using h2⟩
      | none => exact ⟨out, a2, by unfold lcLoop; simp only [e, Option.bind_some, hh, if_true, e2, Option.map_some], by simpa using h2⟩
  obtain ⟨out, a', e, hi⟩ := key ds [] a h0
  exact ⟨out, a', e, done _ _ (by simpa using hi)⟩
/-- each item's turn gives this and leaves the slots -/
theorem wl_fm {lk : Lks} {turn : D → A → Option (Option D × A)} {Q : List D → A → Prop} (f : D → Option D) {ds : List D} (hl : holds lk a = true) (step : ∀ x ∈ ds, WTurn turn x a fun o a' => o = f x ∧ a' = a) (done : Q (ds.filterMap f) a) : WL lk turn ds a Q := by
  refine wl_inv (fun r out b => b = a ∧ (∀ x ∈ r, x ∈ ds) ∧ out ++ r.filterMap f = ds.filterMap f) ⟨rfl, fun x h => h, by simp⟩ (fun x r out b ⟨hb, hm, he⟩ => ?_) fun out b ⟨hb, _, he⟩ => ?_
  · subst hb
    obtain ⟨o, a', e, ho, ha⟩ := step x (hm x (by simp))
    subst ho ha
    refine ⟨_, _, e, hl, rfl, fun y hy => hm y (by simp [hy]), ?_⟩
    rw [← he, List.filterMap_cons]
    cases f x <;> simp
  · subst hb
    simp only [List.filterMap_nil, List.append_nil] at he
    rw [he]; exact done
theorem wl_map {lk : Lks} {turn : D → A → Option (Option D × A)} {Q : List D → A → Prop} (f : D → D) {ds : List D} (hl : holds lk a = true) (step : ∀ x ∈ ds, WTurn turn x a fun o a' => o = some (f x) ∧ a' = a) (done : Q (ds.map f) a) : WL lk turn ds a Q :=
  wl_fm (fun x => some (f x)) hl step (by rw [show (ds.filterMap fun x => some (f x)) = ds.map f from by induction ds <;> simp_all]; exact done)
/-! ### kids' methods -/
def WMu2 (f : Mu) (i : Nat) (kd : D) (w : Wt) (os : List Opd) (a : A) (Q : Opd → A → Prop) : Prop := ∃ s, a[i]? = some (some s) ∧ s.lk = false ∧ 1 < s.m ∧ ∃ x, idxD s.d kd = some x ∧ isLst x = true ∧ kidsIm (s.m - 1) x = true ∧ ∃ us, resAll a os = some us ∧ putOk f (s.m - 2) us = true ∧ putOk0 (s.m - 2) us = true ∧
  ∃ d y, muD f x us = some (d, y) ∧ ∃ z, stoD s.d kd y = some z ∧ (flat d || (decide (s.m = 2) && decide (w.m = 0))) = true ∧ Q (.val w.m d) (a.set i (some ⟨s.m, false, z⟩))
theorem we_mu2 {f : Mu} {w : Wt} {rk : REv} {qk qs : Bool} : WE (muSubEv rk qk rs qs f i w) a Q ↔ qs = true ∧ WE (idxEv (varEv i .br) rk qk .br) a fun c a1 => ∃ j kd, c = .sub j kd ∧ (∃ k x, res a1 (.sub j kd) = some (k, x) ∧ isLst x = true) ∧ WAs rs a1 fun os a2 => WMu2 f j kd w os a2 Q := by
  unfold WE WAs WMu2 muSubEv
  constructor
  · rintro ⟨o, a', e, q⟩
    simp only [Option.bind_eq_some_iff] at e
    obtain ⟨c, hc, e⟩ := e
    split at e
    · rename_i j kd hj
      simp only [Option.bind_eq_some_iff] at e
      obtain ⟨u, hu, e⟩ := e
      split at e
      · cases e
      · rename_i hl
        simp only [Option.bind_eq_some_iff] at e
        obtain ⟨p, hp, e⟩ := e
        split at e
        · cases e
        · rename_i hq
          refine ⟨by simpa using hq, c.1, c.2, hc, j, kd, hj, ⟨u.1, u.2, hu, by simpa using hl⟩, p.1, p.2, hp, ?_⟩
          unfold muStep2 at e
          split at e
          · rename_i s hs
            split at e
            · cases e
            · rename_i h1
              simp only [Bool.or_eq_true, decide_eq_true_eq, not_or, Bool.not_eq_true] at h1
              simp only [Option.bind_eq_some_iff] at e
              obtain ⟨x, hx, e⟩ := e
              split at e
              · cases e
              · rename_i h2
                simp only [Bool.or_eq_true, Bool.not_eq_true', not_or, Bool.not_eq_false] at h2
                simp only [Option.bind_eq_some_iff] at e
                obtain ⟨us, hus, e⟩ := e
                split at e
                · cases e
                · rename_i h3
                  simp only [Bool.or_eq_true, Bool.not_eq_true', not_or, Bool.not_eq_false] at h3
                  simp only [Option.bind_eq_some_iff] at e
                  obtain ⟨r, hr, d2, hd2, e⟩ := e
                  split at e
                  · rename_i h4
                    cases e
                    exact ⟨s, hs, h1.1, by omega, x, hx, h2.1, h2.2, us, hus, h3.1, h3.2, r.1, r.2, hr, d2, hd2, h4, q⟩
                  · cases e
          · cases e
    · cases e
  · rintro ⟨hq, c, a1, hc, j, kd, rfl, ⟨k, x0, hu, hl⟩, os, a2, hp, s, hs, h1, h2, x, hx, h3, h4, us, hus, h5, h6, d, y, hr, z, hz, h7, q⟩
    refine ⟨_, _, ?_, q⟩
    simp only [hc, Option.bind_some, hu, hl, Bool.not_true, Bool.false_eq_true, if_false, hp, hq]
    unfold muStep2
    rw [hs]
    have h2' : ¬ s.m ≤ 1 := by omega
    simp only [h1, h2', decide_false, Bool.or_self, Bool.false_eq_true, if_false, hx, Option.bind_some, h3, h4, Bool.not_true, hus, h5, h6, hr, hz, h7, if_true]
/-! ### statements -/
variable {r u : RSt} {QS : Fl → A → Prop} {re rk rl : REv} {rt : RTe} {rm : Nat} {tg : Tg} {lk : Lks}
def SeqQ (u : RSt) (Q : Fl → A → Prop) : Fl → A → Prop
  | .nx, a => WS u a Q
  | f, a => Q f a
theorem seq_nx : SeqQ u QS .nx a ↔ WS u a QS := Iff.rfl
theorem seq_rt {d : D} : SeqQ u QS (.rt d) a ↔ QS (.rt d) a := Iff.rfl
theorem seq_bk : SeqQ u QS .bk a ↔ QS .bk a := Iff.rfl
theorem seq_ct : SeqQ u QS .ct a ↔ QS .ct a := Iff.rfl
theorem ws_seq : WS (seqS r u) a QS ↔ WS r a (SeqQ u QS) := by
  unfold WS seqS
  rw [wb]
  refine exists_congr fun f => exists_congr fun a1 => and_congr_right fun _ => ?_
  cases f <;> first | exact Iff.rfl | exact ex1
theorem ws_nx : WS nxS a QS ↔ QS .nx a := ex1
theorem ws_k {f : Fl} : WS (fun a => some (f, a)) a QS ↔ QS f a := ex1
theorem ws_ex : WS (exS re) a QS ↔ WE re a fun _ a1 => QS .nx a1 := by
  unfold WS WE exS
  rw [wmap]
theorem ws_ret : WS (retS re rm) a QS ↔ WE re a fun p a1 => ∃ d, p = .val rm d ∧ QS (.rt d) a1 := by
  unfold WS WE retS
  rw [wb]
  refine exists_congr fun p => exists_congr fun a1 => and_congr_right fun _ => ?_
  cases p with
  | val k d =>
    by_cases h : k = rm
    · subst h
      simp only [if_true]
      exact ex1.trans ⟨fun q => ⟨d, rfl, q⟩, fun ⟨_, e, q⟩ => by cases e; exact q⟩
    · simp only [if_neg h]
      exact ex0.trans ⟨False.elim, fun ⟨_, e, q⟩ => by cases e; exact h rfl⟩
  | ref i => exact ex0.trans ⟨False.elim, fun ⟨_, e, q⟩ => by cases e⟩
  | sub i k => exact ex0.trans ⟨False.elim, fun ⟨_, e, q⟩ => by cases e⟩
theorem ws_asg : WS (asgS re i m) a QS ↔ WE re a fun p a1 => ∃ d, p = .val m d ∧ QS .nx (a1.set i (some ⟨m, false, d⟩)) := by
  unfold WS WE asgS
  rw [wb]
  refine exists_congr fun p => exists_congr fun a1 => and_congr_right fun _ => ?_
  cases p with
  | val k d =>
    by_cases h : k = m
    · subst h
      simp only [if_true]
      exact ex1.trans ⟨fun q => ⟨d, rfl, q⟩, fun ⟨_, e, q⟩ => by cases e; exact q⟩
    · simp only [if_neg h]
      exact ex0.trans ⟨False.elim, fun ⟨_, e, q⟩ => by cases e; exact h rfl⟩
  | ref i => exact ex0.trans ⟨False.elim, fun ⟨_, e, q⟩ => by cases e⟩
  | sub i k => exact ex0.trans ⟨False.elim, fun ⟨_, e, q⟩ => by cases e⟩
theorem ws_if : WS (ifS rt r u) a QS ↔ WT rt a fun b a1 => if b = true then WS r a1 QS else WS u a1 QS := by
  unfold WS WT ifS
  rw [wb]
  refine exists_congr fun p => exists_congr fun a1 => and_congr_right fun _ => ?_
  cases p <;> exact Iff.rfl
theorem ws_unp {ts : Tgs} : WS (unpS re ts) a QS ↔ WE re a fun p a1 => ∃ ds a2, p = .val 0 (.tuple ds) ∧ bindTs ts ds a1 = some a2 ∧ QS .nx a2 := by
  unfold WS WE unpS
  rw [wb]
  refine exists_congr fun p => exists_congr fun a1 => and_congr_right fun _ => ?_
  constructor
  · rintro ⟨o, a', e, q⟩
    split at e
    · rename_i k ds hp
      split at e
      · rename_i hk
        subst hk
        simp only [Option.map_eq_some_iff] at e
        obtain ⟨a2, h2, e⟩ := e
        cases e
        exact ⟨ds, _, hp, h2, q⟩
      · cases e
    · cases e
  · rintro ⟨ds, a2, rfl, h2, q⟩
    exact ⟨_, _, by simp [h2], q⟩
theorem ws_par2 {j m2 : Nat} : WS (par2S i m j m2 rs) a QS ↔ WAs rs a fun os a1 => ∃ d d2, os = [.val m d, .val m2 d2] ∧ QS .nx ((a1.set i (some ⟨m, false, d⟩)).set j (some ⟨m2, false, d2⟩)) := by
  unfold WS WAs par2S
  rw [wb]
  refine exists_congr fun p => exists_congr fun a1 => and_congr_right fun _ => ?_
  constructor
  · rintro ⟨o, a', e, q⟩
    split at e
    · rename_i k d k2 d2 hp
      split at e
      · rename_i hk
        obtain ⟨rfl, rfl⟩ := hk
        cases e
        exact ⟨d, d2, hp, q⟩
      · cases e
    · cases e
  · rintro ⟨d, d2, rfl, q⟩
    exact ⟨_, _, by simp, q⟩
theorem ws_par3 {j m2 l m3 : Nat} : WS (par3S i m j m2 l m3 rs) a QS ↔ WAs rs a fun os a1 => ∃ d d2 d3, os = [.val m d, .val m2 d2, .val m3 d3] ∧ QS .nx (((a1.set i (some ⟨m, false, d⟩)).set j (some ⟨m2, false, d2⟩)).set l (some ⟨m3, false, d3⟩)) := by
  unfold WS WAs par3S
  rw [wb]
  refine exists_congr fun p => exists_congr fun a1 => and_congr_right fun _ => ?_
  constructor
  · rintro ⟨o, a', e, q⟩
    split at e
    · rename_i k d k2 d2 k3 d3 hp
      split at e
      · rename_i hk
        obtain ⟨rfl, rfl, rfl⟩ := hk
        cases e
        exact ⟨d, d2, d3, hp, q⟩
      · cases e
    · cases e
  · rintro ⟨d, d2, d3, rfl, q⟩
    exact ⟨_, _, by simp, q⟩
theorem ws_sto {am : Nat} : WS (stoS i am re rk) a QS ↔ WE re a fun p a1 => (∃ s, a1[i]? = some (some s)) ∧ WE rk a1 fun q a2 => ∃ v kd, p = .val am v ∧ res a2 q = some kd ∧ ∃ s, a2[i]? = some (some s) ∧ s.lk = false ∧ s.m ≠ 0 ∧ putV (s.m - 1) (am, v) = true ∧ ∃ x, stoD s.d kd.2 v = some x ∧ QS .nx (a2.set i (some ⟨s.m, false, x⟩)) := by
  unfold WS stoS
  constructor
  · rintro ⟨o, a', e, q⟩
    simp only [Option.bind_eq_some_iff] at e
    obtain ⟨p, hp, c, hc, k, hk, v, hv, kd, hkd, e⟩ := e
    have hc' : ∃ s, p.2[i]? = some (some s) ∧ c = (.ref i, p.2) := by
      unfold varEv at hc
      split at hc
      · rename_i s hs
        cases hc
        exact ⟨s, hs, rfl⟩
      · cases hc
    obtain ⟨s0, hs0, rfl⟩ := hc'
    refine ⟨p.1, p.2, hp, ⟨s0, hs0⟩, k.1, k.2, hk, ?_⟩
    obtain ⟨p1, p2⟩ := p
    cases p1 with
    | ref _ => cases hv
    | sub _ _ => cases hv
    | val m' d =>
      simp only [valsOf] at hv
      split at hv
      · rename_i hm
        subst hm
        cases hv
        unfold stoStep at e
        split at e
        · rename_i s hs
          split at e
          · cases e
          · rename_i h1
            simp only [Bool.or_eq_true, decide_eq_true_eq, not_or, Bool.not_eq_true] at h1
            split at e
            · rename_i h2
              simp only [Option.map_eq_some_iff] at e
              obtain ⟨x, hx, e⟩ := e
              cases e
              exact ⟨d, kd, rfl, hkd, s, hs, h1.1, h1.2, h2, x, hx, q⟩
            · cases e
        · cases e
      · cases hv
  · rintro ⟨p, a1, hp, ⟨s0, hs0⟩, k, a2, hk, v, kd, rfl, hkd, s, hs, h1, h2, h3, x, hx, q⟩
    refine ⟨_, _, ?_, q⟩
    have hc : varEv i .br a1 = some (.ref i, a1) := by unfold varEv; rw [hs0]
    simp only [hp, Option.bind_some, hc, hk, valsOf, if_true, Option.map_some, hkd, List.headD_cons]
    unfold stoStep
    rw [hs]
    simp only [h1, h2, decide_false, Bool.or_self, Bool.false_eq_true, if_false]
    rw [if_pos h3, hx]
    rfl
theorem ws_for {ri : RIt} {rb : RSt} : WS (forS tg ri rb) a QS ↔ WI ri a fun ds a1 lk => WS (forLoop tg lk rb ds) a1 fun fl a2 => QS fl (unlockA a2 lk) := by
  unfold WS WI forS
  constructor
  · rintro ⟨o, a', e, q⟩
    simp only [Option.bind_eq_some_iff, Option.map_eq_some_iff] at e
    obtain ⟨p, hp, u, hu, e⟩ := e
    cases e
    exact ⟨p.1, p.2.1, p.2.2, hp, u.1, u.2, hu, q⟩
  · rintro ⟨ds, a1, lk, hp, fl, a2, hu, q⟩
    exact ⟨_, _, by simp only [hp, Option.bind_some, hu, Option.map_some], q⟩
/-- a turn's end -/
def TurnQ (I : A → Prop) (lk : Lks) (Q : Fl → A → Prop) : Fl → A → Prop
  | .nx, a => holds lk a = true ∧ I a
  | .ct, a => holds lk a = true ∧ I a
  | .bk, a => Q .nx a
  | .rt d, a => Q (.rt d) a
theorem wf_inv {body : RSt} (I : List D → A → Prop) {ds : List D} (h0 : I ds a) (step : ∀ x r a, I (x :: r) a → ∃ a1, bindT tg x a = some a1 ∧ WS body a1 (TurnQ (I r) lk QS)) (done : ∀ a, I [] a → QS .nx a) : WS (forLoop tg lk body ds) a QS := by
  induction ds generalizing a with
  | nil => exact ⟨_, _, rfl, done a h0⟩
  | cons x r ih =>
    obtain ⟨a1, hb, fl, a2, e, q⟩ := step x r a h0
    cases fl with
    | nx =>
      obtain ⟨f', a', e', q'⟩ := ih q.2
      refine ⟨f', a', ?_, q'⟩
      unfold forLoop
      simp only [hb, Option.bind_some, e, q.1, if_true]
      exact e'
    | ct =>
      obtain ⟨f', a', e', q'⟩ := ih q.2
      refine ⟨f', a', ?_, q'⟩
      unfold forLoop
      simp only [hb, Option.bind_some, e, q.1, if_true]
      exact e'
    | bk =>
      refine ⟨_, _, ?_, q⟩
      unfold forLoop
      simp only [hb, Option.bind_some, e]
    | rt d =>
      refine ⟨_, _, ?_, q⟩
      unfold forLoop
      simp only [hb, Option.bind_some, e]
/-- a while's turn's end -/
def TurnW (I : Nat → A → Prop) (k : Nat) (Q : Fl → A → Prop) : Fl → A → Prop
  | .nx, a => ∃ j, j < k ∧ I j a
  | .ct, a => ∃ j, j < k ∧ I j a
  | .bk, a => Q .nx a
  | .rt d, a => Q (.rt d) a
theorem ww_inv {test : RTe} {body : RSt} (I : Nat → A → Prop) {n L : Nat} (h0 : I n a) (hn : n < L) (step : ∀ k a, I k a → WT test a fun b a1 => if b = true then WS body a1 (TurnW I k QS) else QS .nx a1) : WS (whlLoop test body L) a QS := by
  induction L generalizing a n with
  | zero => omega
  | succ L ih =>
    obtain ⟨b, a1, e, q⟩ := step n a h0
    cases b with
    | false =>
      rw [if_neg (by simp)] at q
      exact ⟨_, _, by unfold whlLoop; simp only [e, Option.bind_some, Bool.false_eq_true, if_false], q⟩
    | true =>
      rw [if_pos rfl] at q
      obtain ⟨fl, a2, e2, q⟩ := q
      cases fl with
      | nx =>
        obtain ⟨j, hj, hi⟩ := q
        obtain ⟨f', a', e', q'⟩ := ih hi (by omega)
        exact ⟨f', a', by unfold whlLoop; simp only [e, Option.bind_some, if_true, e2]; exact e', q'⟩
      | ct =>
        obtain ⟨j, hj, hi⟩ := q
        obtain ⟨f', a', e', q'⟩ := ih hi (by omega)
        exact ⟨f', a', by unfold whlLoop; simp only [e, Option.bind_some, if_true, e2]; exact e', q'⟩
      | bk => exact ⟨_, _, by unfold whlLoop; simp only [e, Option.bind_some, if_true, e2], q⟩
      | rt d => exact ⟨_, _, by unfold whlLoop; simp only [e, Option.bind_some, if_true, e2], q⟩
/-! ### a body -/
def bks (st : List Nat) (a : A) : Nat → Nat → List (Option Sl)
  | _, 0 => []
  | i, n + 1 => (if st.contains i then none else (a[i]?).getD none) :: bks st a (i + 1) n
theorem bks_eq {st : List Nat} {a : A} : ∀ {n i : Nat}, bks st a i n = (List.range n).map fun j => if st.contains (i + j) then none else (a[i + j]?).getD none
  | 0, i => rfl
  | n + 1, i => by
    rw [List.range_succ_eq_map, List.map_cons, List.map_map]
    show _ :: _ = _
    rw [bks_eq]
    congr 1
    apply List.map_congr_left
    intro j _
    show _ = if st.contains (i + (j + 1)) then none else (a[i + (j + 1)]?).getD none
    rw [show i + 1 + j = i + (j + 1) by omega]
def BodyQ (rm np : Nat) (st : List Nat) (R : Nat → D → List (Option Sl) → Prop) : Fl → A → Prop
  | .rt d, a => R rm d (bks st a 0 np)
  | .nx, a => R rm .none (bks st a 0 np)
  | _, _ => False
theorem body_rt {rm np : Nat} {st : List Nat} {R : Nat → D → List (Option Sl) → Prop} {d : D} : BodyQ rm np st R (.rt d) a ↔ R rm d (bks st a 0 np) := Iff.rfl
theorem body_nx {rm np : Nat} {st : List Nat} {R : Nat → D → List (Option Sl) → Prop} : BodyQ rm np st R .nx a ↔ R rm .none (bks st a 0 np) := Iff.rfl
theorem wc_fd {fn : Fn} {L : Nat} {f : Fd} {ss : List Sl} {R : Nat → D → List (Option Sl) → Prop} (hn : ss.length = f.np) (h : WS (execs fn L f.rm f.body) (ss.map some ++ List.replicate (f.N.length - f.np) none) (BodyQ f.rm f.np f.st R)) : WC (runFd fn L f) ss R := by
  obtain ⟨fl, a, e, q⟩ := h
  have hb : ∀ n, bks f.st a 0 n = (List.range n).map fun i => if f.st.contains i then none else (a[i]?).getD none := fun n => by
    rw [bks_eq]; simp
  unfold WC runFd
  rw [if_pos hn, e]
  cases fl with
  | rt d => refine ⟨f.rm, d, _, rfl, ?_⟩; rw [← hb]; exact q
  | nx => refine ⟨f.rm, .none, _, rfl, ?_⟩; rw [← hb]; exact q
  | bk => exact absurd q id
  | ct => exact absurd q id
/-- a loop that looks for the first item at which it returns -/
theorem wf_find {body : RSt} (bad : D → Option D) (J : A → Prop) {ds : List D} (h0 : J a)
    (step : ∀ pre x post b, ds = pre ++ x :: post → (∀ y ∈ pre, bad y = none) → J b → ∃ b1, bindT tg x b = some b1 ∧ WS body b1 fun fl b2 => J b2 ∧ match bad x with
      | some d => fl = .rt d
      | none => (fl = .nx ∨ fl = .ct) ∧ holds lk b2 = true)
    (done : ∀ b, J b → (∀ x ∈ ds, bad x = none) → QS .nx b) (ret : ∀ b d, J b → ds.findSome? bad = some d → QS (.rt d) b) : WS (forLoop tg lk body ds) a QS := by
  refine wf_inv (fun r b => J b ∧ ∃ pre, ds = pre ++ r ∧ ∀ y ∈ pre, bad y = none) ⟨h0, [], rfl, by simp⟩ (fun x r b ⟨hj, pre, e, hp⟩ => ?_) fun b ⟨hj, pre, e, hp⟩ => ?_
  · obtain ⟨b1, hb, hw⟩ := step pre x r b e hp hj
    refine ⟨b1, hb, hw.mono fun fl b2 ⟨j2, q⟩ => ?_⟩
    cases hx : bad x with
    | some d =>
      rw [hx] at q
      simp only at q
      subst q
      refine ret b2 d j2 ?_
      rw [e, List.findSome?_append, List.findSome?_cons, hx, List.findSome?_eq_none_iff.mpr hp]
      rfl
    | none =>
      rw [hx] at q
      have hi : J b2 ∧ ∃ pre, ds = pre ++ r ∧ ∀ y ∈ pre, bad y = none := ⟨j2, pre ++ [x], by rw [e]; simp, fun y hy => by
        rcases List.mem_append.mp hy with h | h
        · exact hp y h
        · simp at h; subst h; exact hx⟩
      rcases q.1 with rfl | rfl
      · exact ⟨q.2, hi⟩
      · exact ⟨q.2, hi⟩
  · rw [List.append_nil] at e
    subst e
    exact done b hj hp
end
end RV

set_option maxRecDepth 100000
/-! Ev46: the rules again, in the form in which simp walks by them. -/
namespace RV
open PySem
def OkV {α : Type} (x : Option α) (P : α → Prop) : Prop := match x with
  | some u => P u
  | none => False
def OkS (x : Option (Option Sl)) (P : Sl → Prop) : Prop := match x with
  | some (some s) => P s
  | _ => False
def IsB (x : D) (P : Bool → Prop) : Prop := match x with
  | .bool b => P b
  | _ => False
def IsI (x : D) (P : Int → Prop) : Prop := match x with
  | .int b => P b
  | _ => False
def IsTup (x : D) (P : List D → Prop) : Prop := match x with
  | .tuple b => P b
  | _ => False
def IsVal (m : Nat) (p : Opd) (P : D → Prop) : Prop := match p with
  | .val k d => k = m ∧ P d
  | _ => False
def IsSub (p : Opd) (P : Nat → D → Prop) : Prop := match p with
  | .sub k d => P k d
  | _ => False
def One {α : Type} (os : List α) (P : α → Prop) : Prop := match os with
  | [o] => P o
  | _ => False
def Two {α : Type} (os : List α) (P : α → α → Prop) : Prop := match os with
  | [o, p] => P o p
  | _ => False
def Three {α : Type} (os : List α) (P : α → α → α → Prop) : Prop := match os with
  | [o, p, q] => P o p q
  | _ => False
section
variable {α : Type}
@[simp] theorem okV_some {u : α} {P : α → Prop} : OkV (some u) P ↔ P u := Iff.rfl
@[simp] theorem okV_none {P : α → Prop} : OkV none P ↔ False := Iff.rfl
@[simp] theorem okS_some {u : Sl} {P : Sl → Prop} : OkS (some (some u)) P ↔ P u := Iff.rfl
@[simp] theorem okS_none {P : Sl → Prop} : OkS (some none) P ↔ False := Iff.rfl
@[simp] theorem isB_b {b : Bool} {P : Bool → Prop} : IsB (.bool b) P ↔ P b := Iff.rfl
@[simp] theorem isI_i {b : Int} {P : Int → Prop} : IsI (.int b) P ↔ P b := Iff.rfl
@[simp] theorem isTup_t {b : List D} {P : List D → Prop} : IsTup (.tuple b) P ↔ P b := Iff.rfl
@[simp] theorem isVal_v {m k : Nat} {d : D} {P : D → Prop} : IsVal m (.val k d) P ↔ k = m ∧ P d := Iff.rfl
@[simp] theorem isSub_s {k : Nat} {d : D} {P : Nat → D → Prop} : IsSub (.sub k d) P ↔ P k d := Iff.rfl
@[simp] theorem one_1 {o : α} {P : α → Prop} : One [o] P ↔ P o := Iff.rfl
@[simp] theorem two_2 {o p : α} {P : α → α → Prop} : Two [o, p] P ↔ P o p := Iff.rfl
@[simp] theorem three_3 {o p q : α} {P : α → α → α → Prop} : Three [o, p, q] P ↔ P o p q := Iff.rfl
theorem okV_iff {x : Option α} {P : α → Prop} : OkV x P ↔ ∃ u, x = some u ∧ P u := by cases x <;> simp
theorem okS_iff {x : Option (Option Sl)} {P : Sl → Prop} : OkS x P ↔ ∃ u, x = some (some u) ∧ P u := by
  rcases x with _ | _ | s
  · simp [OkS]
  · simp
  · simp
theorem isB_iff {x : D} {P : Bool → Prop} : IsB x P ↔ ∃ b, x = .bool b ∧ P b := by
  cases x with
  | bool b => exact ⟨fun h => ⟨b, rfl, h⟩, fun ⟨_, e, h⟩ => by cases e; exact h⟩
  | _ => exact ⟨False.elim, fun ⟨_, e, _⟩ => by cases e⟩
theorem isI_iff {x : D} {P : Int → Prop} : IsI x P ↔ ∃ b, x = .int b ∧ P b := by
  cases x with
  | int b => exact ⟨fun h => ⟨b, rfl, h⟩, fun ⟨_, e, h⟩ => by cases e; exact h⟩
  | _ => exact ⟨False.elim, fun ⟨_, e, _⟩ => by cases e⟩
theorem isTup_iff {x : D} {P : List D → Prop} : IsTup x P ↔ ∃ b, x = .tuple b ∧ P b := by
  cases x with
  | tuple b => exact ⟨fun h => ⟨b, rfl, h⟩, fun ⟨_, e, h⟩ => by cases e; exact h⟩
  | _ => exact ⟨False.elim, fun ⟨_, e, _⟩ => by cases e⟩
theorem isVal_iff {m : Nat} {p : Opd} {P : D → Prop} : IsVal m p P ↔ ∃ d, p = .val m d ∧ P d := by
  cases p with
  | val k d => exact ⟨fun ⟨h, q⟩ => ⟨d, by rw [h], q⟩, fun ⟨_, e, h⟩ => by cases e; exact ⟨rfl, h⟩⟩
  | _ => exact ⟨False.elim, fun ⟨_, e, _⟩ => by cases e⟩
theorem isSub_iff {p : Opd} {P : Nat → D → Prop} : IsSub p P ↔ ∃ k d, p = .sub k d ∧ P k d := by
  cases p with
  | sub k d => exact ⟨fun q => ⟨k, d, rfl, q⟩, fun ⟨_, _, e, h⟩ => by cases e; exact h⟩
  | _ => exact ⟨False.elim, fun ⟨_, _, e, _⟩ => by cases e⟩
theorem one_iff {os : List α} {P : α → Prop} : One os P ↔ ∃ o, os = [o] ∧ P o := by
  rcases os with _ | ⟨o, _ | ⟨p, r⟩⟩ <;> simp [One]
theorem two_iff {os : List α} {P : α → α → Prop} : Two os P ↔ ∃ o p, os = [o, p] ∧ P o p := by
  rcases os with _ | ⟨o, _ | ⟨p, _ | ⟨q, r⟩⟩⟩ <;> simp [Two, and_assoc]
theorem three_iff {os : List α} {P : α → α → α → Prop} : Three os P ↔ ∃ o p q, os = [o, p, q] ∧ P o p q := by
  rcases os with _ | ⟨o, _ | ⟨p, _ | ⟨q, _ | ⟨q2, r⟩⟩⟩⟩ <;> simp [Three, and_assoc]
end
section
variable {fn : Fn} {a : A} {Q : Opd → A → Prop} {i m w : Nat} {ra rb rc : REv} {rs rk : RAs} {qb : Bool} {rt ru : RTe} {d : D} {QT : Bool → A → Prop} {QA : List Opd → A → Prop}
theorem xe_var_br : WE (varEv i .br) a Q ↔ OkS (a[i]?) fun _ => Q (.ref i) a := by rw [we_var_br, okS_iff]
theorem xe_var_tk : WE (varEv i (.tk m)) a Q ↔ OkS (a[i]?) fun s => VTk i m s a Q := by rw [we_var_tk, okS_iff]
theorem xe_bin {f : Nat × D → Nat × D → Option D} : WE (binEv ra rb qb f w) a Q ↔ WE ra a fun p a1 => WE rb a1 fun q a2 => (p.deep = false ∨ qb = true) ∧ OkV (res a2 p) fun u => OkV (res a2 q) fun v => OkV (f u v) fun d => okRes true w d = true ∧ Q (.val w d) a2 := by
  simp only [we_bin, okV_iff, exists_and_left]
theorem xe_one {f : Nat × D → Option D} : WE (oneEv ra f w) a Q ↔ WE ra a fun p a1 => OkV (res a1 p) fun u => OkV (f u) fun d => okRes true w d = true ∧ Q (.val w d) a1 := by
  simp only [we_one, okV_iff, exists_and_left]
theorem xt_tst {r : REv} : WT (tst r) a QT ↔ WE r a fun p a1 => OkV (res a1 p) fun u => IsB u.2 fun b => QT b a1 := by
  rw [wt_tst]
  refine iff_of_eq (congrArg _ (funext fun p => funext fun a1 => propext ?_))
  rw [okV_iff]
  constructor
  · rintro ⟨k, b, h, q⟩; exact ⟨_, h, q⟩
  · rintro ⟨⟨k, x⟩, h, q⟩
    obtain ⟨b, rfl, q⟩ := isB_iff.mp q
    exact ⟨k, b, h, q⟩
theorem xt_c {f : D → D → Option Bool} : WT (cTe ra rb qb f) a QT ↔ WE ra a fun p a1 => WE rb a1 fun q a2 => (p.deep = false ∨ qb = true) ∧ OkV (res a2 p) fun u => OkV (res a2 q) fun v => OkV (f u.2 v.2) fun b => QT b a2 := by
  simp only [wt_c, okV_iff, exists_and_left]
theorem xt_isN {o : Cop} : WT (nTest ra o) a QT ↔ WE ra a fun p a1 => OkV (res a1 p) fun u => OkV (cmpD o u.2 .none) fun b => QT b a1 := by
  simp only [wt_isN, okV_iff, exists_and_left]
theorem xt_ch {f g : D → D → Option Bool} : WT (chTe ra rb rc f g) a QT ↔ WE ra a fun p a1 => WE rb a1 fun q a2 => p.deep = false ∧ q.deep = false ∧ OkV (res a2 p) fun u => OkV (res a2 q) fun v => OkV (f u.2 v.2) fun b =>
    if b = true then WE rc a2 fun r a3 => OkV (res a3 q) fun v2 => OkV (res a3 r) fun t => OkV (g v2.2 t.2) fun c => QT c a3 else QT false a2 := by
  simp only [wt_ch, okV_iff, exists_and_left]
theorem xe_tup : WE (tupEv rs m) a Q ↔ WAs rs a fun os a1 => OkV (valsOf 0 os) fun ds => fitL ds.length = true ∧ Q (.val m (.tuple ds)) a1 := by
  simp only [we_tup, okV_iff]
theorem xe_lst : WE (lstEv rs m) a Q ↔ WAs rs a fun os a1 => OkV (valsOf (m - 1) os) fun ds => fitL ds.length = true ∧ Q (.val m (.list ds)) a1 := by
  simp only [we_lst, okV_iff]
theorem xe_dis {ks : List D} : WE (disEv ks rs m) a Q ↔ WAs rs a fun os a1 => OkV (valsOf (m - 1) os) fun ds => (decide (ds.length = ks.length) && ks.all keyOk && keysNd ks) = true ∧ Q (.val m (.dict (ks.zip ds))) a1 := by
  simp only [we_dis, okV_iff]
theorem xe_call {f : List (Nat × D) → Option D} : WE (callEv rs f m) a Q ↔ WAs rs a fun os a1 => OkV (resAll a1 os) fun us => OkV (f us) fun d => okRes true m d = true ∧ Q (.val m d) a1 := by
  simp only [we_call, okV_iff, exists_and_left]
theorem xe_callF {g : List Sl → Option (Nat × D × List (Option Sl))} {perm : List Nat} : WE (callEvF g rs rk perm w) a Q ↔ WAs rs a fun os a1 => WAs rk a1 fun ks a2 => ((os ++ ks).any Opd.deep = false) ∧ nodupN perm = true ∧ OkV (permO (os ++ ks) perm) fun os' => os'.any Opd.deep = false ∧ nodupN (lent a2 os') = true ∧
    OkV (argsOf a2 os') fun ss => WC g ss fun m d back => outOk w m d = true ∧ back.length = os'.length ∧ Q (.val w d) (backs a2 os' back) := by
  simp only [we_callF, okV_iff]
def XIx (p q : Opd) (a : A) (w : Wt) (Q : Opd → A → Prop) : Prop := OkV (res a p) fun u => OkV (res a q) fun kd => OkV (idxD u.2 kd.2) fun d =>
  if (flat d || decide (u.1 ≤ 1) || flat u.2) = true then okRes false w.m d = true ∧ Q (.val w.m d) a else (match p, w with
    | .ref i, .br => Q (.sub i kd.2) a
    | _, _ => False)
theorem xe_idx {w : Wt} : WE (idxEv ra rb qb w) a Q ↔ WE ra a fun p a1 => WE rb a1 fun q a2 => (p.deep = false ∨ qb = true) ∧ XIx p q a2 w Q := by
  rw [we_idx]
  unfold WIx XIx
  refine iff_of_eq (congrArg _ (funext fun p => funext fun a1 => congrArg _ (funext fun q => funext fun a2 => congrArg _ (propext ?_))))
  simp only [okV_iff]
  constructor
  · rintro ⟨u, kd, d, h1, h2, h3, h⟩
    refine ⟨u, h1, kd, h2, d, h3, ?_⟩
    split at h
    · rename_i hc; rw [if_pos hc]; exact h
    · rename_i hc; rw [if_neg hc]
      obtain ⟨i, rfl, rfl, q⟩ := h
      exact q
  · rintro ⟨u, h1, kd, h2, d, h3, h⟩
    refine ⟨u, kd, d, h1, h2, h3, ?_⟩
    split at h
    · rename_i hc; rw [if_pos hc]; exact h
    · rename_i hc; rw [if_neg hc]
      cases p with
      | ref i =>
        cases w with
        | br => exact ⟨i, rfl, rfl, h⟩
        | tk m => exact absurd h id
      | val _ _ => exact absurd h id
      | sub _ _ => exact absurd h id
variable {QO : Option Int → A → Prop}
theorem xo_some : WO (partEv ra) a QO ↔ WE ra a fun p a1 => (match p with
    | .val _ d => IsI d fun i => QO (some i) a1
    | _ => False) := by
  rw [wo_some]
  refine iff_of_eq (congrArg _ (funext fun p => funext fun a1 => propext ?_))
  cases p with
  | val k d =>
    simp only [isI_iff]
    constructor
    · rintro ⟨k, i, e, q⟩; cases e; exact ⟨i, rfl, q⟩
    · rintro ⟨i, rfl, q⟩; exact ⟨k, i, rfl, q⟩
  | ref _ => exact ⟨fun ⟨_, _, e, _⟩ => (by cases e), False.elim⟩
  | sub _ _ => exact ⟨fun ⟨_, _, e, _⟩ => (by cases e), False.elim⟩
theorem xe_slc {rl rh : RO} : WE (slcEv ra rl rh m) a Q ↔ WE ra a fun p a1 => WO rl a1 fun lo a2 => WO rh a2 fun hi a3 => p.deep = false ∧ OkV (res a3 p) fun u => OkV (slcD u lo hi) fun d => okRes true m d = true ∧ Q (.val m d) a3 := by
  simp only [we_slc, okV_iff, exists_and_left]
def XMu (f : Mu) (am i : Nat) (w : Wt) (os : List Opd) (a : A) (Q : Opd → A → Prop) : Prop := OkS (a[i]?) fun s => s.lk = false ∧ s.m ≠ 0 ∧ (isApp f || kidsIm s.m s.d) = true ∧ OkV (muArgs f am a os) fun us => putOk f (s.m - 1) us = true ∧ OkV (muD f s.d us) fun r => (flat r.1 || (decide (s.m = 1) && decide (w.m = 0))) = true ∧ Q (.val w.m r.1) (a.set i (some ⟨s.m, false, r.2⟩))
theorem xe_mu {f : Mu} {am : Nat} {w : Wt} : WE (muEv rs f am i w) a Q ↔ lstAt a i = true ∧ WAs rs a fun os a1 => XMu f am i w os a1 Q := by
  rw [we_mu]
  unfold WMu XMu
  simp only [okV_iff, okS_iff, Prod.exists]
def XMu2 (f : Mu) (i : Nat) (kd : D) (w : Wt) (os : List Opd) (a : A) (Q : Opd → A → Prop) : Prop := OkS (a[i]?) fun s => s.lk = false ∧ 1 < s.m ∧ OkV (idxD s.d kd) fun x => isLst x = true ∧ kidsIm (s.m - 1) x = true ∧ OkV (resAll a os) fun us => putOk f (s.m - 2) us = true ∧ putOk0 (s.m - 2) us = true ∧
  OkV (muD f x us) fun r => OkV (stoD s.d kd r.2) fun z => (flat r.1 || (decide (s.m = 2) && decide (w.m = 0))) = true ∧ Q (.val w.m r.1) (a.set i (some ⟨s.m, false, z⟩))
theorem xe_mu2 {f : Mu} {w : Wt} {rk : REv} {qk qs : Bool} : WE (muSubEv rk qk rs qs f i w) a Q ↔ qs = true ∧ WE (idxEv (varEv i .br) rk qk .br) a fun c a1 => IsSub c fun j kd => (OkV (res a1 (.sub j kd)) fun u => isLst u.2 = true) ∧ WAs rs a1 fun os a2 => XMu2 f j kd w os a2 Q := by
  rw [we_mu2]
  unfold WMu2 XMu2
  simp only [okV_iff, okS_iff, isSub_iff, Prod.exists]
variable {QI : List D → A → Lks → Prop}
theorem xw_ref : WWalk (.ref i) a QI ↔ OkS (a[i]?) fun s => WSl i s a QI := by rw [ww_ref, okS_iff]
theorem xi_one {f : List D → List D} : WI (itOne rs f) a QI ↔ WAs rs a fun os a1 => One os fun o => WWalk o a1 fun ds a2 lk => QI (f ds) a2 lk := by
  simp only [wi_one, one_iff]
theorem xi_two {f : List D → List D → List D} : WI (itTwo rs f) a QI ↔ WAs rs a fun os a1 => Two os fun o o2 => WWalk o a1 fun ds a2 lk => WWalk o2 a2 fun es a3 lk2 => QI (f ds es) a3 (lk ++ lk2) := by
  simp only [wi_two, two_iff]
theorem xi_rng1 : WI (itRng1 rs) a QI ↔ WAs rs a fun os a1 => OkV (resAll a1 os) fun us => One us fun u => IsI u.2 fun n => rngOk n = true ∧ QI (rngD 0 n.toNat) a1 [] := by
  rw [wi_rng1]
  refine iff_of_eq (congrArg _ (funext fun os => funext fun a1 => propext ?_))
  simp only [okV_iff, one_iff, isI_iff]
  constructor
  · rintro ⟨m, n, h, q⟩; exact ⟨_, h, _, rfl, n, rfl, q⟩
  · rintro ⟨_, h, ⟨k, x⟩, rfl, n, e, q⟩
    cases e
    exact ⟨k, n, h, q⟩
theorem xi_rng : WI (itRng rs) a QI ↔ WAs rs a fun os a1 => OkV (resAll a1 os) fun us => Two us fun u v => IsI u.2 fun l => IsI v.2 fun n => rngOk l = true ∧ rngOk n = true ∧ QI (rngD l (n - l).toNat) a1 [] := by
  rw [wi_rng]
  refine iff_of_eq (congrArg _ (funext fun os => funext fun a1 => propext ?_))
  simp only [okV_iff, two_iff, isI_iff]
  constructor
  · rintro ⟨m, l, k, n, h, q⟩; exact ⟨_, h, _, _, rfl, l, rfl, n, rfl, q⟩
  · rintro ⟨_, h, ⟨k, x⟩, ⟨k2, x2⟩, rfl, l, e, n, e2, q⟩
    cases e
    cases e2
    exact ⟨k, l, k2, n, h, q⟩
variable {r u : RSt} {QS : Fl → A → Prop} {re rl : REv} {rm : Nat} {tg : Tg} {lk : Lks}
theorem xs_ret : WS (retS re rm) a QS ↔ WE re a fun p a1 => IsVal rm p fun d => QS (.rt d) a1 := by simp only [ws_ret, isVal_iff]
theorem xs_asg : WS (asgS re i m) a QS ↔ WE re a fun p a1 => IsVal m p fun d => QS .nx (a1.set i (some ⟨m, false, d⟩)) := by simp only [ws_asg, isVal_iff]
theorem xs_unp {ts : Tgs} : WS (unpS re ts) a QS ↔ WE re a fun p a1 => IsVal 0 p fun d => IsTup d fun ds => OkV (bindTs ts ds a1) fun a2 => QS .nx a2 := by
  rw [ws_unp]
  refine iff_of_eq (congrArg _ (funext fun p => funext fun a1 => propext ?_))
  simp only [isVal_iff, isTup_iff, okV_iff]
  constructor
  · rintro ⟨ds, a2, h1, h2, q⟩; exact ⟨_, h1, ds, rfl, a2, h2, q⟩
  · rintro ⟨_, h1, ds, rfl, a2, h2, q⟩; exact ⟨ds, a2, h1, h2, q⟩
theorem xs_par2 {j m2 : Nat} : WS (par2S i m j m2 rs) a QS ↔ WAs rs a fun os a1 => Two os fun p q => IsVal m p fun d => IsVal m2 q fun d2 => QS .nx ((a1.set i (some ⟨m, false, d⟩)).set j (some ⟨m2, false, d2⟩)) := by
  rw [ws_par2]
  refine iff_of_eq (congrArg _ (funext fun p => funext fun a1 => propext ?_))
  simp only [isVal_iff, two_iff]
  constructor
  · rintro ⟨d, d2, h, q⟩; exact ⟨_, _, h, d, rfl, d2, rfl, q⟩
  · rintro ⟨_, _, h, d, rfl, d2, rfl, q⟩; exact ⟨d, d2, h, q⟩
theorem xs_par3 {j m2 l m3 : Nat} : WS (par3S i m j m2 l m3 rs) a QS ↔ WAs rs a fun os a1 => Three os fun p q t => IsVal m p fun d => IsVal m2 q fun d2 => IsVal m3 t fun d3 => QS .nx (((a1.set i (some ⟨m, false, d⟩)).set j (some ⟨m2, false, d2⟩)).set l (some ⟨m3, false, d3⟩)) := by
  rw [ws_par3]
  refine iff_of_eq (congrArg _ (funext fun p => funext fun a1 => propext ?_))
  simp only [isVal_iff, three_iff]
  constructor
  · rintro ⟨d, d2, d3, h, q⟩; exact ⟨_, _, _, h, d, rfl, d2, rfl, d3, rfl, q⟩
  · rintro ⟨_, _, _, h, d, rfl, d2, rfl, d3, rfl, q⟩; exact ⟨d, d2, d3, h, q⟩
theorem xs_sto {am : Nat} {rk : REv} : WS (stoS i am re rk) a QS ↔ WE re a fun p a1 => (OkS (a1[i]?) fun _ => True) ∧ WE rk a1 fun q a2 => IsVal am p fun v => OkV (res a2 q) fun kd => OkS (a2[i]?) fun s => s.lk = false ∧ s.m ≠ 0 ∧ putV (s.m - 1) (am, v) = true ∧ OkV (stoD s.d kd.2 v) fun x => QS .nx (a2.set i (some ⟨s.m, false, x⟩)) := by
  rw [ws_sto]
  refine iff_of_eq (congrArg _ (funext fun p => funext fun a1 => ?_))
  have e1 : (∃ s, a1[i]? = some (some s)) = OkS (a1[i]?) fun _ => True := propext (by simp only [okS_iff, and_true])
  rw [e1]
  refine congrArg _ (congrArg _ (funext fun q => funext fun a2 => propext ?_))
  simp only [isVal_iff, okV_iff, okS_iff]
  constructor
  · rintro ⟨v, kd, h1, h2, s, h3, h4⟩; exact ⟨v, h1, kd, h2, s, h3, h4⟩
  · rintro ⟨v, h1, kd, h2, s, h3, h4⟩; exact ⟨v, kd, h1, h2, s, h3, h4⟩
theorem xturn {own : List Nat} {tg : Tg} {rc : RTe} {x : D} {P : Option D → A → Prop} : WTurn (lcTurn tg rc re own m) x a P ↔ OkV (bindT tg x a) fun b1 => WT rc b1 fun c a2 => if c = true then WE re a2 fun r a3 => IsVal m r fun d => P (some d) (wipeA a3 own) else P none (wipeA a2 own) := by
  simp only [wturn, okV_iff, isVal_iff]
end
end RV

set_option maxRecDepth 100000
/-! Ev47: simp does not look into what comes after; operations at known data. -/
namespace RV
open PySem
section
variable {I : A → Prop} {lk : Lks} {Q : Fl → A → Prop} {a : A} {d : D} {J : Nat → A → Prop} {k : Nat}
theorem turn_nx : TurnQ I lk Q .nx a ↔ holds lk a = true ∧ I a := Iff.rfl
theorem turn_ct : TurnQ I lk Q .ct a ↔ holds lk a = true ∧ I a := Iff.rfl
theorem turn_bk : TurnQ I lk Q .bk a ↔ Q .nx a := Iff.rfl
theorem turn_rt : TurnQ I lk Q (.rt d) a ↔ Q (.rt d) a := Iff.rfl
theorem turnW_nx : TurnW J k Q .nx a ↔ ∃ j, j < k ∧ J j a := Iff.rfl
theorem turnW_ct : TurnW J k Q .ct a ↔ ∃ j, j < k ∧ J j a := Iff.rfl
theorem turnW_bk : TurnW J k Q .bk a ↔ Q .nx a := Iff.rfl
theorem turnW_rt : TurnW J k Q (.rt d) a ↔ Q (.rt d) a := Iff.rfl
end
theorem wc_iff {g : List Sl → Option (Nat × D × List (Option Sl))} {ss : List Sl} {m0 : Nat} {d0 : D} {b0 : List (Option Sl)} (h : WC g ss fun m d b => m = m0 ∧ d = d0 ∧ b = b0) {R : Nat → D → List (Option Sl) → Prop} : WC g ss R ↔ R m0 d0 b0 := by
  obtain ⟨m, d, b, e, rfl, rfl, rfl⟩ := h
  exact ⟨fun ⟨m', d', b', e', r⟩ => by rw [e] at e'; cases e'; exact r, fun r => ⟨_, _, _, e, r⟩⟩
/-! ### data -/
@[simp] theorem isKind_int {i : Int} {t : String} : isKind (.int i) t = (t == "int") := rfl
@[simp] theorem isKind_bool {b : Bool} {t : String} : isKind (.bool b) t = (t == "bool" || t == "int") := rfl
@[simp] theorem isKind_str {x : Str} {t : String} : isKind (.str x) t = (t == "str") := rfl
@[simp] theorem isKind_tuple {x : List D} {t : String} : isKind (.tuple x) t = (t == "tuple") := rfl
@[simp] theorem isKind_list {x : List D} {t : String} : isKind (.list x) t = (t == "list") := rfl
@[simp] theorem isKind_dict {x : List (D × D)} {t : String} : isKind (.dict x) t = (t == "dict") := rfl
@[simp] theorem isKind_none {t : String} : isKind .none t = false := rfl
section
variable {m n k : Nat} {i j : Int} {b c : Bool} {x y : Str} {ds es : List D} {kvs : List (D × D)} {d e : D}
@[simp] theorem flat_int : flat (.int i) = true := rfl
@[simp] theorem flat_bool : flat (.bool b) = true := rfl
@[simp] theorem flat_str : flat (.str x) = true := rfl
@[simp] theorem flat_none : flat .none = true := rfl
@[simp] theorem flat_tuple : flat (.tuple ds) = true := rfl
@[simp] theorem flat_list : flat (.list ds) = false := rfl
@[simp] theorem flat_dict : flat (.dict kvs) = false := rfl
@[simp] theorem okRes_int {f : Bool} : okRes f m (.int i) = true := rfl
@[simp] theorem okRes_bool {f : Bool} : okRes f m (.bool b) = true := rfl
@[simp] theorem okRes_str {f : Bool} : okRes f m (.str x) = true := rfl
@[simp] theorem okRes_none {f : Bool} : okRes f m .none = true := rfl
@[simp] theorem okRes_tuple {f : Bool} : okRes f m (.tuple ds) = true := rfl
@[simp] theorem okRes_zero {f : Bool} : okRes f 0 d = true := by simp [okRes]
@[simp] theorem okRes_one : okRes true 1 d = true := by simp [okRes]
@[simp] theorem kidsIm_zero : kidsIm 0 d = true := rfl
@[simp] theorem kidsIm_one : kidsIm 1 d = true := rfl
@[simp] theorem nodupN_ite {p : Prop} [Decidable p] {l l' : List Nat} : nodupN (if p then l else l') = if p then nodupN l else nodupN l' := by split <;> rfl
@[simp] theorem add_int : binD .add (m, .int i) (n, .int j) = some (.int (i + j)) := rfl
@[simp] theorem sub_int : binD .sub (m, .int i) (n, .int j) = some (.int (i - j)) := rfl
@[simp] theorem mul_int : binD .mul (m, .int i) (n, .int j) = if mulOk i j then some (.int (i * j)) else none := rfl
@[simp] theorem fdiv_int : binD .fdiv (m, .int i) (n, .int j) = if (decide (j ≠ 0) && decide (j.natAbs < 1073741824)) = true then some (.int (i.fdiv j)) else none := rfl
@[simp] theorem mod_int : binD .mod (m, .int i) (n, .int j) = if decide (j ≠ 0) = true then some (.int (i.fmod j)) else none := rfl
@[simp] theorem pow_int : binD .pow (m, .int i) (n, .int j) = if powOk i j = true then some (.int (i ^ j.toNat)) else none := rfl
@[simp] theorem add_tup : binD .add (m, .tuple ds) (n, .tuple es) = if fitL (ds.length + es.length) = true then some (.tuple (ds ++ es)) else none := rfl
@[simp] theorem add_lst : binD .add (m, .list ds) (n, .list es) = if (kidsIm m (.list ds) && kidsIm n (.list es) && own99 m && own99 n && fitL (ds.length + es.length)) = true then some (.list (ds ++ es)) else none := rfl
@[simp] theorem neg_int : negD (m, .int i) = some (.int (-i)) := rfl
@[simp] theorem lt_int : cmpD .lt (.int i) (.int j) = some (decide (i < j)) := rfl
@[simp] theorem le_int : cmpD .le (.int i) (.int j) = some (decide (i ≤ j)) := rfl
@[simp] theorem gt_int : cmpD .gt (.int i) (.int j) = some (decide (j < i)) := rfl
@[simp] theorem ge_int : cmpD .ge (.int i) (.int j) = some (decide (j ≤ i)) := rfl
@[simp] theorem eq_int : cmpD .eq (.int i) (.int j) = some (decide (i = j)) := by simp [cmpD, eqOk, SeqAt.shaped, PyData.canLay0, PyData.depth, PyData.eqv]; rfl
@[simp] theorem ne_int : cmpD .ne (.int i) (.int j) = some (!decide (i = j)) := by simp [cmpD, eqOk, SeqAt.shaped, PyData.canLay0, PyData.depth, PyData.eqv]; rfl
@[simp] theorem isN_d : cmpD .isN d .none = some (isNone d) := rfl
@[simp] theorem notN_d : cmpD .notN d .none = some (!isNone d) := rfl
@[simp] theorem isNone_int : isNone (.int i) = false := rfl
@[simp] theorem isNone_bool : isNone (.bool b) = false := rfl
@[simp] theorem isNone_str : isNone (.str x) = false := rfl
@[simp] theorem isNone_none : isNone .none = true := rfl
@[simp] theorem isNone_tuple : isNone (.tuple ds) = false := rfl
@[simp] theorem isNone_list : isNone (.list ds) = false := rfl
@[simp] theorem isNone_dict : isNone (.dict kvs) = false := rfl
@[simp] theorem idx_tup : idxD (.tuple ds) (.int i) = L2.atI ds i := rfl
@[simp] theorem idx_lst : idxD (.list ds) (.int i) = L2.atI ds i := rfl
theorem atI_nat {α : Type} {xs : List α} {n : Nat} : L2.atI xs (n : Int) = xs[n]? := by
  unfold L2.atI L2.ixN
  rw [if_pos (by omega)]
  by_cases h : (n : Int) < xs.length
  · rw [if_pos h]; simp
  · rw [if_neg h]
    have : xs.length ≤ n := by omega
    simp [this]
theorem atI_pos {α : Type} {xs : List α} {i : Int} (h : 0 ≤ i) : L2.atI xs i = xs[i.toNat]? := by
  obtain ⟨n, rfl⟩ := Int.eq_ofNat_of_zero_le h
  rw [Int.toNat_natCast]; exact atI_nat
@[simp] theorem atI_0 {α : Type} {xs : List α} : L2.atI xs 0 = xs[0]? := atI_nat (n := 0)
@[simp] theorem atI_1 {α : Type} {xs : List α} : L2.atI xs 1 = xs[1]? := atI_nat (n := 1)
theorem atI_last {α : Type} {xs : List α} {x : α} (h : xs.getLast? = some x) : L2.atI xs (-1) = some x := by
  have hn : xs ≠ [] := by intro e; rw [e] at h; cases h
  have hl : 0 < xs.length := List.length_pos_iff.mpr hn
  unfold L2.atI L2.ixN
  rw [if_neg (by omega), if_pos (by omega)]
  simp only [Option.bind_some]
  rw [show ((-1 : Int) + xs.length).toNat = xs.length - 1 by omega, ← List.getLast?_eq_getElem?]
  exact h
@[simp] theorem len_tup : biD .len [(m, .tuple ds)] = some (.int ds.length) := rfl
@[simp] theorem len_lst : biD .len [(m, .list ds)] = some (.int ds.length) := rfl
@[simp] theorem len_dict : biD .len [(m, .dict kvs)] = some (.int kvs.length) := rfl
@[simp] theorem int_int : biD .int [(m, .int i)] = some (.int i) := rfl
@[simp] theorem int_bool : biD .int [(m, .bool b)] = some (.int (i2d b)) := rfl
@[simp] theorem abs_int : biD .abs [(m, .int i)] = some (.int (if i < 0 then -i else i)) := rfl
@[simp] theorem tuple_lst : biD .tuple [(m, .list ds)] = if kidsIm m (.list ds) = true then some (.tuple ds) else none := rfl
@[simp] theorem tuple_tup : biD .tuple [(m, .tuple ds)] = some (.tuple ds) := rfl
@[simp] theorem list_lst : biD .list [(m, .list ds)] = if kidsIm m (.list ds) = true then some (.list ds) else none := rfl
@[simp] theorem list_tup : biD .list [(m, .tuple ds)] = some (.list ds) := rfl
@[simp] theorem max_2 : biD .max [(m, .int i), (n, .int j)] = some (.int (if j > i then j else i)) := rfl
@[simp] theorem min_2 : biD .min [(m, .int i), (n, .int j)] = some (.int (if j < i then j else i)) := rfl
@[simp] theorem repr_d : biD .repr [(m, d)] = if (showOk d && (own99 m || !d.hasDict)) = true then some (.str d.shown) else none := rfl
@[simp] theorem slc_tup {lo hi : Option Int} : slcD (m, .tuple ds) lo hi = some (.tuple (cutD ds lo hi)) := rfl
@[simp] theorem slc_lst {lo hi : Option Int} : slcD (m, .list ds) lo hi = if kidsIm m (.list ds) = true then some (.list (cutD ds lo hi)) else none := rfl
@[simp] theorem rev_tup : revD (m, .tuple ds) = some (.tuple ds.reverse) := rfl
@[simp] theorem own99_0 : own99 0 = true := rfl
@[simp] theorem own99_1 : own99 1 = true := rfl
@[simp] theorem own99_2 : own99 2 = true := rfl
@[simp] theorem isLst_l : isLst (.list ds) = true := rfl
@[simp] theorem isLst_t : isLst (.tuple ds) = false := rfl
theorem fitL_of {n : Nat} (h : n ≤ 16777216) : fitL n = true := decide_eq_true (p := n ≤ sizeLine) h
@[simp] theorem fitL_iff {n : Nat} : fitL n = true ↔ n ≤ 16777216 := decide_eq_true_iff (p := n ≤ sizeLine)
theorem asInts_map {ns : List Int} : asInts (ns.map PyData.int) = some ns := by
  induction ns with
  | nil => rfl
  | cons n r ih => rw [List.map_cons]; simp [asInts, ih]
theorem cut_to {n : Nat} (h : n ≤ ds.length) : cutD ds none (some (n : Int)) = ds.take n := by
  unfold cutD
  simp only [HT.sIx_none, HT.sIx_nat, List.drop_zero, Nat.sub_zero, Nat.min_eq_left h]
theorem cut_from {n : Nat} : cutD ds (some (n : Int)) none = ds.drop n := by
  unfold cutD
  simp only [HT.sIx_none, HT.sIx_nat]
  by_cases h : n ≤ ds.length
  · rw [Nat.min_eq_left h, List.take_of_length_le (by simp)]
  · rw [Nat.min_eq_right (by omega), List.drop_of_length_le (Nat.le_refl _), List.drop_of_length_le (by omega)]
    simp
end
end RV

set_option maxRecDepth 100000
/-! Ev48: the rules by the small language's own words: simp opens a text word by word. -/
namespace RV
open PySem
def IsV (p : Opd) (P : D → Prop) : Prop := match p with
  | .val _ d => P d
  | _ => False
@[simp] theorem isV_v {m : Nat} {d : D} {P : D → Prop} : IsV (.val m d) P ↔ P d := Iff.rfl
/-- an operand that may wait -/
def Dp (p : Opd) (qb : Bool) : Prop := p.deep = false ∨ qb = true
@[simp] theorem dp_val {m : Nat} {d : D} {q : Bool} : Dp (.val m d) q ↔ True := ⟨fun _ => trivial, fun _ => .inl rfl⟩
@[simp] theorem dp_ref {i : Nat} {q : Bool} : Dp (.ref i) q ↔ True := ⟨fun _ => trivial, fun _ => .inl rfl⟩
@[simp] theorem dp_sub {i : Nat} {d : D} {q : Bool} : Dp (.sub i d) q ↔ q = true := ⟨fun h => h.resolve_left (by intro z; cases z), .inr⟩
section
variable {fn : Fn} {L rm : Nat} {a : A} {Q : Opd → A → Prop} {i m w : Nat} {wt : Wt} {x y z e k l c : E} {es ks : Es} {b : Bool} {d : D} {QT : Bool → A → Prop} {QA : List Opd → A → Prop} {QI : List D → A → Lks → Prop} {QO : Option Int → A → Prop} {QS : Fl → A → Prop} {lo hi cond : Oe} {tg : Tg} {it : It} {ss tt : Ss} {s : S} {ts : Tgs} {o o2 : Cop}
theorem ye_var : WE (ev fn (.var i) .br) a Q ↔ OkS (a[i]?) fun _ => Q (.ref i) a := xe_var_br
theorem ye_vart : WE (ev fn (.var i) (.tk m)) a Q ↔ OkS (a[i]?) fun s => VTk i m s a Q := xe_var_tk
theorem ye_non : WE (ev fn .non wt) a Q ↔ Q (.val wt.m .none) a := we_val
theorem ye_bl : WE (ev fn (.bl b) wt) a Q ↔ Q (.val wt.m (.bool b)) a := we_val
theorem ye_int {n : Int} : WE (ev fn (.int n) wt) a Q ↔ Q (.val wt.m (.int n)) a := we_val
theorem ye_str {n : Str} : WE (ev fn (.str n) wt) a Q ↔ Q (.val wt.m (.str n)) a := we_val
theorem ye_glo {n : Str} : WE (ev fn (.glo n d) wt) a Q ↔ flat d = true ∧ Q (.val wt.m d) a := we_glo
theorem ye_tup : WE (ev fn (.tup es) wt) a Q ↔ WAs (evs fn es (.tk 0)) a fun os a1 => OkV (valsOf 0 os) fun ds => fitL ds.length = true ∧ Q (.val wt.m (.tuple ds)) a1 := xe_tup
theorem ye_lst : WE (ev fn (.lst es) wt) a Q ↔ WAs (evs fn es (.tk (wt.m - 1))) a fun os a1 => OkV (valsOf (wt.m - 1) os) fun ds => fitL ds.length = true ∧ Q (.val wt.m (.list ds)) a1 := xe_lst
theorem ye_dnew : WE (ev fn .dnew wt) a Q ↔ Q (.val wt.m (.dict [])) a := we_val
theorem ye_dis {kd : List D} : WE (ev fn (.dis kd es) wt) a Q ↔ WAs (evs fn es (.tk (wt.m - 1))) a fun os a1 => OkV (valsOf (wt.m - 1) os) fun ds => (decide (ds.length = kd.length) && kd.all keyOk && keysNd kd) = true ∧ Q (.val wt.m (.dict (kd.zip ds))) a1 := xe_dis
theorem ye_bin {o : Bop} : WE (ev fn (.bin o x y) wt) a Q ↔ WE (ev fn x .br) a fun p a1 => WE (ev fn y .br) a1 fun q a2 => Dp p (quiet y) ∧ OkV (res a2 p) fun u => OkV (res a2 q) fun v => OkV (binD o u v) fun d => okRes true wt.m d = true ∧ Q (.val wt.m d) a2 := xe_bin
theorem ye_me {f : Me} : WE (ev fn (.me f x y) wt) a Q ↔ WE (ev fn x .br) a fun p a1 => OkV (res a1 p) fun u0 => WE (ev fn y .br) a1 fun q a2 => Dp p (quiet y) ∧ OkV (res a2 p) fun u => seqK u0.2 = seqK u.2 ∧ OkV (res a2 q) fun v => OkV (meD f u v) fun d => okRes true wt.m d = true ∧ Q (.val wt.m d) a2 := by
  show WE (meEv _ _ _ _ _) a Q ↔ _
  simp only [WE, meEv, okV_iff]
  constructor
  · rintro ⟨o, a', e, q⟩
    simp only [Option.bind_eq_some_iff] at e
    obtain ⟨p, ep, u0, eu0, p2, e2, e⟩ := e
    split at e
    · cases e
    rename_i hd
    simp only [Option.bind_eq_some_iff] at e
    obtain ⟨u, eu, e⟩ := e
    split at e
    · rename_i hs
      simp only [Option.bind_eq_some_iff] at e
      obtain ⟨v, ev, d, ed, e⟩ := e
      split at e
      · rename_i hk
        cases e
        exact ⟨p.1, p.2, ep, u0, eu0, p2.1, p2.2, e2, deep_or hd, u, eu, of_decide_eq_true hs, v, ev, d, ed, hk, q⟩
      · cases e
    · cases e
  · rintro ⟨p, a1, ep, u0, eu0, p2, a2, e2, hd, u, eu, hs, v, ev, d, ed, hk, q⟩
    have hd' : ¬ ((p.deep && !quiet y) = true) := by
      rcases hd with h | h
      · rw [h]; simp
      · rw [h]; simp
    exact ⟨_, _, by simp only [ep, eu0, e2, Option.bind_some, if_neg hd', eu, hs, decide_true, if_true, ev, ed, hk], q⟩
theorem ye_cmp : WE (ev fn (.cmp o x y) wt) a Q ↔ WT (tst (ev fn (.cmp o x y) .br)) a fun b a1 => Q (.val wt.m (.bool b)) a1 := by
  show WE (tV _ _) a Q ↔ WT (tst (tV _ _)) a _
  rw [wt_tV]; exact we_tV
theorem yt_cmp : WT (tst (ev fn (.cmp o x y) .br)) a QT ↔ WE (ev fn x .br) a fun p a1 => WE (ev fn y .br) a1 fun q a2 => Dp p (quiet y) ∧ OkV (res a2 p) fun u => OkV (res a2 q) fun v => OkV (cmpD o u.2 v.2) fun b => QT b a2 := by
  show WT (tst (tV _ _)) a QT ↔ _
  rw [wt_tV]; exact xt_c
theorem ye_isn : WE (ev fn (.isn b x) wt) a Q ↔ WT (tst (ev fn (.isn b x) .br)) a fun b a1 => Q (.val wt.m (.bool b)) a1 := by
  show WE (tV _ _) a Q ↔ WT (tst (tV _ _)) a _
  rw [wt_tV]; exact we_tV
theorem yt_isn : WT (tst (ev fn (.isn b x) .br)) a QT ↔ WE (ev fn x .br) a fun p a1 => OkV (res a1 p) fun u => QT (b ^^ isNone u.2) a1 := by
  show WT (tst (tV _ _)) a QT ↔ _
  rw [wt_tV]
  refine xt_isN.trans ?_
  cases b <;> simp
theorem ye_chn : WE (ev fn (.chn o o2 x y z) wt) a Q ↔ WT (tst (ev fn (.chn o o2 x y z) .br)) a fun b a1 => Q (.val wt.m (.bool b)) a1 := by
  show WE (tV _ _) a Q ↔ WT (tst (tV _ _)) a _
  rw [wt_tV]; exact we_tV
theorem yt_chn : WT (tst (ev fn (.chn o o2 x y z) .br)) a QT ↔ WE (ev fn x .br) a fun p a1 => WE (ev fn y .br) a1 fun q a2 => Dp p false ∧ Dp q false ∧ OkV (res a2 p) fun u => OkV (res a2 q) fun v => OkV (cmpD o u.2 v.2) fun b =>
    if b = true then WE (ev fn z .br) a2 fun r a3 => OkV (res a3 q) fun v2 => OkV (res a3 r) fun t => OkV (cmpD o2 v2.2 t.2) fun c => QT c a3 else QT false a2 := by
  show WT (tst (tV _ _)) a QT ↔ _
  rw [wt_tV]
  refine xt_ch.trans ?_
  simp only [Dp, Bool.false_eq_true, or_false]
theorem ye_neg : WE (ev fn (.neg x) wt) a Q ↔ WE (ev fn x .br) a fun p a1 => OkV (res a1 p) fun u => OkV (negD u) fun d => okRes true wt.m d = true ∧ Q (.val wt.m d) a1 := xe_one
theorem ye_not : WE (ev fn (.not x) wt) a Q ↔ WT (tst (ev fn (.not x) .br)) a fun b a1 => Q (.val wt.m (.bool b)) a1 := by
  show WE (tV _ _) a Q ↔ WT (tst (tV _ _)) a _
  rw [wt_tV]; exact we_tV
theorem yt_not : WT (tst (ev fn (.not x) .br)) a QT ↔ WT (tst (ev fn x .br)) a fun b a1 => QT (!b) a1 := by
  show WT (tst (tV _ _)) a QT ↔ _
  rw [wt_tV]; exact wt_n
theorem ye_and : WE (ev fn (.and x y) wt) a Q ↔ WT (tst (ev fn (.and x y) .br)) a fun b a1 => Q (.val wt.m (.bool b)) a1 := by
  show WE (tV _ _) a Q ↔ WT (tst (tV _ _)) a _
  rw [wt_tV]; exact we_tV
theorem yt_and : WT (tst (ev fn (.and x y) .br)) a QT ↔ WT (tst (ev fn x .br)) a fun b a1 => if b = true then WT (tst (ev fn y .br)) a1 QT else QT false a1 := by
  show WT (tst (tV _ _)) a QT ↔ _
  rw [wt_tV]; exact wt_a
theorem ye_or : WE (ev fn (.or x y) wt) a Q ↔ WT (tst (ev fn (.or x y) .br)) a fun b a1 => Q (.val wt.m (.bool b)) a1 := by
  show WE (tV _ _) a Q ↔ WT (tst (tV _ _)) a _
  rw [wt_tV]; exact we_tV
theorem yt_or : WT (tst (ev fn (.or x y) .br)) a QT ↔ WT (tst (ev fn x .br)) a fun b a1 => if b = true then QT true a1 else WT (tst (ev fn y .br)) a1 QT := by
  show WT (tst (tV _ _)) a QT ↔ _
  rw [wt_tV]; exact wt_o
theorem yt_bl : WT (tst (ev fn (.bl b) .br)) a QT ↔ QT b a := xt_tst.trans (by rw [ye_bl]; simp [res])
theorem yt_var : WT (tst (ev fn (.var i) .br)) a QT ↔ OkS (a[i]?) fun s => IsB s.d fun b => QT b a := by
  refine xt_tst.trans ?_
  rw [ye_var]
  rcases h : a[i]? with _ | _ | s <;> simp [OkS, res, h]
theorem yt_isi {tys : List String} : WT (tst (ev fn (.isi x tys) .br)) a QT ↔ WE (ev fn x .br) a fun p a1 => OkV (res a1 p) fun u => QT (tys.any (isKind u.2)) a1 := by
  refine xt_tst.trans ?_
  show WE (oneEv _ _ _) a _ ↔ _
  rw [xe_one]
  refine iff_of_eq (congrArg _ (funext fun p => funext fun a1 => congrArg _ (funext fun u => propext ?_)))
  simp [isiD, res]
theorem yt_call {f : Nat} {perm : List Nat} : WT (tst (ev fn (.call f es ks perm) .br)) a QT ↔ WE (ev fn (.call f es ks perm) .br) a fun p a1 => OkV (res a1 p) fun u => IsB u.2 fun b => QT b a1 := xt_tst
theorem yt_bi {f : Bi} : WT (tst (ev fn (.bi f es) .br)) a QT ↔ WE (ev fn (.bi f es) .br) a fun p a1 => OkV (res a1 p) fun u => IsB u.2 fun b => QT b a1 := xt_tst
theorem yt_idx : WT (tst (ev fn (.idx x k) .br)) a QT ↔ WE (ev fn (.idx x k) .br) a fun p a1 => OkV (res a1 p) fun u => IsB u.2 fun b => QT b a1 := xt_tst
theorem ye_ife : WE (ev fn (.ife c x y) wt) a Q ↔ WT (tst (ev fn c .br)) a fun b a1 => if b = true then WE (ev fn x (.tk wt.m)) a1 Q else WE (ev fn y (.tk wt.m)) a1 Q := we_ife
theorem ye_idx : WE (ev fn (.idx x k) wt) a Q ↔ WE (ev fn x .br) a fun p a1 => WE (ev fn k .br) a1 fun q a2 => Dp p (quiet k) ∧ XIx p q a2 wt Q := xe_idx
theorem ye_slc : WE (ev fn (.slc x lo hi) wt) a Q ↔ WE (ev fn x .br) a fun p a1 => WO (evO fn lo) a1 fun lo a2 => WO (evO fn hi) a2 fun hi a3 => Dp p false ∧ OkV (res a3 p) fun u => OkV (slcD u lo hi) fun d => okRes true wt.m d = true ∧ Q (.val wt.m d) a3 := by
  refine xe_slc.trans ?_
  simp only [Dp, Bool.false_eq_true, or_false]
theorem yo_none : WO (evO fn .none) a QO ↔ QO none a := wo_none
theorem yo_some : WO (evO fn (.some e)) a QO ↔ WE (ev fn e (.tk 0)) a fun p a1 => IsV p fun d => IsI d fun i => QO (some i) a1 := xo_some
theorem ye_un {f : Un} : WE (ev fn (.un f x) wt) a Q ↔ WE (ev fn x .br) a fun p a1 => OkV (res a1 p) fun u => OkV (unD f u) fun d => okRes true wt.m d = true ∧ Q (.val wt.m d) a1 := xe_one
theorem ye_rev : WE (ev fn (.rev x) wt) a Q ↔ WE (ev fn x .br) a fun p a1 => OkV (res a1 p) fun u => OkV (revD u) fun d => okRes true wt.m d = true ∧ Q (.val wt.m d) a1 := xe_one
theorem ye_bi {f : Bi} : WE (ev fn (.bi f es) wt) a Q ↔ WAs (evs fn es .br) a fun os a1 => OkV (resAll a1 os) fun us => OkV (biD f us) fun d => okRes true wt.m d = true ∧ Q (.val wt.m d) a1 := xe_call
theorem ye_isi {tys : List String} : WE (ev fn (.isi x tys) wt) a Q ↔ WE (ev fn x .br) a fun p a1 => OkV (res a1 p) fun u => Q (.val wt.m (.bool (tys.any (isKind u.2)))) a1 := by
  refine xe_one.trans (iff_of_eq (congrArg _ (funext fun p => funext fun a1 => congrArg _ (funext fun u => propext ?_))))
  simp [isiD]
theorem ye_mu {f : Mu} {am : Nat} : WE (ev fn (.mu f am i .none es) wt) a Q ↔ lstAt a i = true ∧ WAs (evs fn es (muWt f am)) a fun os a1 => XMu f am i wt os a1 Q := xe_mu
theorem ye_mu2 {f : Mu} {am : Nat} : WE (ev fn (.mu f am i (.some k) es) wt) a Q ↔ quiets es = true ∧ WE (ev fn (.idx (.var i) k) .br) a fun c a1 => IsSub c fun j kd => (OkV (res a1 (.sub j kd)) fun u => isLst u.2 = true) ∧ WAs (evs fn es .br) a1 fun os a2 => XMu2 f j kd wt os a2 Q := xe_mu2
theorem ye_call {f : Nat} {perm : List Nat} : WE (ev fn (.call f es ks perm) wt) a Q ↔ WAs (evs fn es .br) a fun os a1 => WAs (evs fn ks .br) a1 fun ks a2 => ((os ++ ks).any Opd.deep = false) ∧ nodupN perm = true ∧ OkV (permO (os ++ ks) perm) fun os' => os'.any Opd.deep = false ∧ nodupN (lent a2 os') = true ∧
    OkV (argsOf a2 os') fun ss => WC (fn f) ss fun m d back => outOk wt.m m d = true ∧ back.length = os'.length ∧ Q (.val wt.m d) (backs a2 os' back) := xe_callF
theorem ye_lc {own : List Nat} : WE (ev fn (.lc own e tg it cond) wt) a Q ↔ WI (evIt fn it) a fun ds a1 lk => ownFine a1 own = true ∧ fitL ds.length = true ∧ WL lk (lcTurn tg (evC fn cond) (ev fn e (.tk (wt.m - 1))) own (wt.m - 1)) ds (wipeA a1 own) fun out a2 => Q (.val wt.m (.list out)) (unlockA (backA a1 a2 own) lk) := we_lc
theorem yturn {own : List Nat} {u : D} {P : Option D → A → Prop} : WTurn (lcTurn tg (evC fn cond) (ev fn e wt) own m) u a P ↔ OkV (bindT tg u a) fun b1 => WT (evC fn cond) b1 fun c a2 => if c = true then WE (ev fn e wt) a2 fun r a3 => IsVal m r fun d => P (some d) (wipeA a3 own) else P none (wipeA a2 own) := xturn
theorem yc_none : WT (evC fn .none) a QT ↔ QT true a := wt_yes
theorem yc_some : WT (evC fn (.some e)) a QT ↔ WT (tst (ev fn e .br)) a QT := Iff.rfl
theorem ya_nil : WAs (evs fn .nil wt) a QA ↔ QA [] a := wa_nil
theorem ya_cons : WAs (evs fn (.cons e es) wt) a QA ↔ WE (ev fn e wt) a fun p a1 => WAs (evs fn es wt) a1 fun ps a2 => Dp p (quietWs es wt) ∧ QA (p :: ps) a2 := wa_cons
theorem yi_of : WI (evIt fn (.of e)) a QI ↔ WE (ev fn e .br) a fun o a1 => WWalk o a1 QI := by
  refine xi_one.trans ?_
  rw [wa_cons]
  refine iff_of_eq (congrArg _ (funext fun o => funext fun a1 => propext ?_))
  rw [wa_nil]
  simp
theorem yi_enum : WI (evIt fn (.enum e)) a QI ↔ WE (ev fn e .br) a fun o a1 => WWalk o a1 fun ds a2 lk => QI (enumD ds) a2 lk := by
  refine xi_one.trans ?_
  rw [wa_cons]
  refine iff_of_eq (congrArg _ (funext fun o => funext fun a1 => propext ?_))
  rw [wa_nil]
  simp
theorem yi_zip {e2 : E} : WI (evIt fn (.zip2 e e2)) a QI ↔ WE (ev fn e .br) a fun o a1 => WE (ev fn e2 .br) a1 fun o2 a2 => Dp o (quiet e2) ∧ WWalk o a2 fun ds a2 lk => WWalk o2 a2 fun es a3 lk2 => QI (zipD ds es) a3 (lk ++ lk2) := by
  refine xi_two.trans ?_
  rw [wa_cons]
  refine iff_of_eq (congrArg _ (funext fun o => funext fun a1 => propext ?_))
  rw [wa_cons]
  refine iff_of_eq (congrArg _ (funext fun o => funext fun a1 => propext ?_))
  rw [wa_nil]
  simp [Dp]
theorem yi_zip3 {e2 e3 : E} : WI (evIt fn (.zip3 e e2 e3)) a QI ↔ WE (ev fn e .br) a fun o a1 => WE (ev fn e2 .br) a1 fun o2 a2 => WE (ev fn e3 .br) a2 fun o3 a3 => Dp o2 (quiet e3) ∧ Dp o (quiet e2 && quiet e3) ∧ WWalk o a3 fun ds a3 lk => WWalk o2 a3 fun es a4 lk2 => WWalk o3 a4 fun fs a5 lk3 => QI (zip3D ds es fs) a5 (lk ++ lk2 ++ lk3) := by
  have h0 : ∀ {rs : RAs}, WI (itThree rs zip3D) a QI ↔ WAs rs a fun os a1 => Three os fun o o2 o3 => WWalk o a1 fun ds a2 lk => WWalk o2 a2 fun es a3 lk2 => WWalk o3 a3 fun fs a4 lk3 => QI (zip3D ds es fs) a4 (lk ++ lk2 ++ lk3) := by
    intro rs
    simp only [three_iff]
    unfold WI WAs WWalk itThree
    constructor
    · rintro ⟨ds, a', lk, e, q⟩
      simp only [Option.bind_eq_some_iff] at e
      obtain ⟨p, hp, e⟩ := e
      refine ⟨p.1, p.2, hp, ?_⟩
      split at e
      · rename_i o o2 o3 ho
        simp only [Option.bind_eq_some_iff, Option.map_eq_some_iff] at e
        obtain ⟨u, hu, v, hv, w, hw, e⟩ := e
        cases e
        exact ⟨o, o2, o3, ho, u.1, u.2.1, u.2.2, hu, v.1, v.2.1, v.2.2, hv, w.1, w.2.1, w.2.2, hw, q⟩
      · cases e
    · rintro ⟨os, a1, hp, o, o2, o3, rfl, ds, a2, lk, hw, es, a3, lk2, hw2, fs, a4, lk3, hw3, q⟩
      exact ⟨_, _, _, by simp only [hp, Option.bind_some, hw, hw2, hw3, Option.map_some], q⟩
  refine h0.trans ?_
  rw [wa_cons]
  refine iff_of_eq (congrArg _ (funext fun o => funext fun a1 => propext ?_))
  rw [wa_cons]
  refine iff_of_eq (congrArg _ (funext fun o => funext fun a1 => propext ?_))
  rw [wa_cons]
  refine iff_of_eq (congrArg _ (funext fun o => funext fun a1 => propext ?_))
  rw [wa_nil]
  simp [Dp]
theorem yi_rng1 : WI (evIt fn (.rng1 e)) a QI ↔ WE (ev fn e .br) a fun o a1 => OkV (res a1 o) fun u => IsI u.2 fun n => rngOk n = true ∧ QI (rngD 0 n.toNat) a1 [] := by
  refine xi_rng1.trans ?_
  rw [wa_cons]
  refine iff_of_eq (congrArg _ (funext fun o => funext fun a1 => propext ?_))
  rw [wa_nil]
  cases h : res a1 o <;> simp [resAll, h]
theorem yi_rng {e2 : E} : WI (evIt fn (.rng e e2)) a QI ↔ WE (ev fn e .br) a fun o a1 => WE (ev fn e2 .br) a1 fun o2 a2 => Dp o (quiet e2) ∧ OkV (res a2 o) fun u => OkV (res a2 o2) fun v => IsI u.2 fun l => IsI v.2 fun n => rngOk l = true ∧ rngOk n = true ∧ QI (rngD l (n - l).toNat) a2 [] := by
  refine xi_rng.trans ?_
  rw [wa_cons]
  refine iff_of_eq (congrArg _ (funext fun o => funext fun a1 => propext ?_))
  rw [wa_cons]
  refine iff_of_eq (congrArg _ (funext fun o2 => funext fun a2 => propext ?_))
  rw [wa_nil]
  cases h : res a2 o <;> cases h2 : res a2 o2 <;> simp [resAll, h, h2, Dp]
/-! statements -/
theorem ys_nil : WS (execs fn L rm .nil) a QS ↔ QS .nx a := ws_nx
theorem ys_cons : WS (execs fn L rm (.cons s ss)) a QS ↔ WS (exec fn L rm s) a (SeqQ (execs fn L rm ss) QS) := ws_seq
theorem ys_asg : WS (exec fn L rm (.asg i m e)) a QS ↔ WE (ev fn e (.tk m)) a fun p a1 => IsVal m p fun d => QS .nx (a1.set i (some ⟨m, false, d⟩)) := xs_asg
theorem ys_unp : WS (exec fn L rm (.unp ts e)) a QS ↔ WE (ev fn e (.tk 0)) a fun p a1 => IsVal 0 p fun d => IsTup d fun ds => OkV (bindTs ts ds a1) fun a2 => QS .nx a2 := xs_unp
theorem ys_par2 {j m2 : Nat} : WS (exec fn L rm (.par2 i m j m2 x y)) a QS ↔ WE (ev fn x (.tk m)) a fun p a1 => WE (ev fn y (.tk m2)) a1 fun q a2 => IsVal m p fun d => IsVal m2 q fun d2 => QS .nx ((a2.set i (some ⟨m, false, d⟩)).set j (some ⟨m2, false, d2⟩)) := by
  refine xs_par2.trans ?_
  rw [wa_cons]
  constructor
  · rintro ⟨p, a1, e1, h⟩
    rw [wa_cons] at h
    obtain ⟨q, a2, e2, h⟩ := h
    rw [wa_nil] at h
    exact ⟨p, a1, e1, q, a2, e2, h.2.2⟩
  · rintro ⟨p, a1, e1, q, a2, e2, h⟩
    refine ⟨p, a1, e1, wa_cons.mpr ⟨q, a2, e2, wa_nil.mpr ?_⟩⟩
    refine ⟨.inr rfl, .inl ?_, h⟩
    cases p with
    | sub _ _ => exact absurd h id
    | _ => rfl
theorem ys_par3 {j m2 n m3 : Nat} : WS (exec fn L rm (.par3 i m j m2 n m3 x y z)) a QS ↔ WE (ev fn x (.tk m)) a fun p a1 => WE (ev fn y (.tk m2)) a1 fun q a2 => WE (ev fn z (.tk m3)) a2 fun t a3 => IsVal m p fun d => IsVal m2 q fun d2 => IsVal m3 t fun d3 => QS .nx (((a3.set i (some ⟨m, false, d⟩)).set j (some ⟨m2, false, d2⟩)).set n (some ⟨m3, false, d3⟩)) := by
  refine xs_par3.trans ?_
  rw [wa_cons]
  constructor
  · rintro ⟨p, a1, e1, h⟩
    rw [wa_cons] at h
    obtain ⟨q, a2, e2, h⟩ := h
    rw [wa_cons] at h
    obtain ⟨t, a3, e3, h⟩ := h
    rw [wa_nil] at h
    exact ⟨p, a1, e1, q, a2, e2, t, a3, e3, h.2.2.2⟩
  · rintro ⟨p, a1, e1, q, a2, e2, t, a3, e3, h⟩
    refine ⟨p, a1, e1, wa_cons.mpr ⟨q, a2, e2, wa_cons.mpr ⟨t, a3, e3, wa_nil.mpr ?_⟩⟩⟩
    refine ⟨.inr rfl, .inl ?_, .inl ?_, h⟩
    · obtain ⟨d, hp, h2⟩ := isVal_iff.mp h
      obtain ⟨d2, hq, h3⟩ := isVal_iff.mp h2
      rw [hq]; rfl
    · cases p with
      | sub _ _ => exact absurd h id
      | _ => rfl
theorem ys_sto {am : Nat} : WS (exec fn L rm (.sto i am k e)) a QS ↔ WE (ev fn e (.tk am)) a fun p a1 => (OkS (a1[i]?) fun _ => True) ∧ WE (ev fn k .br) a1 fun q a2 => IsVal am p fun v => OkV (res a2 q) fun kd => OkS (a2[i]?) fun s => s.lk = false ∧ s.m ≠ 0 ∧ putV (s.m - 1) (am, v) = true ∧ OkV (stoD s.d kd.2 v) fun x => QS .nx (a2.set i (some ⟨s.m, false, x⟩)) := xs_sto
theorem ys_aug {o : Bop} : WS (exec fn L rm (.aug i o e)) a QS ↔ OkS (a[i]?) fun s => IsI s.d fun x => WE (ev fn e .br) a fun p a1 => OkV (res a1 p) fun u => IsI u.2 fun y => OkV (binD o (0, .int x) (0, .int y)) fun d => QS .nx (a1.set i (some ⟨0, false, d⟩)) := by
  show WS (augS _ _ _) a QS ↔ _
  simp only [WS, WE, augS, okS_iff, okV_iff, isI_iff]
  constructor
  · rintro ⟨fl, a', e, q⟩
    split at e
    · rename_i sm sl x hs
      simp only [Option.bind_eq_some_iff] at e
      obtain ⟨p, ep, u, eu, e⟩ := e
      split at e
      · rename_i y hy
        simp only [Option.map_eq_some_iff] at e
        obtain ⟨d, ed, e⟩ := e
        cases e
        exact ⟨_, hs, x, rfl, p.1, p.2, ep, u, eu, y, hy, d, ed, q⟩
      · cases e
    · cases e
  · rintro ⟨⟨sm, sl, sd⟩, hs, x, rfl, p, a1, ep, ⟨um, ud⟩, eu, y, rfl, d, ed, q⟩
    exact ⟨_, _, by simp only [hs, ep, Option.bind_some, eu, ed, Option.map_some], q⟩
theorem ys_ex : WS (exec fn L rm (.ex e)) a QS ↔ WE (ev fn e .br) a fun _ a1 => QS .nx a1 := ws_ex
theorem ys_ret : WS (exec fn L rm (.ret e)) a QS ↔ WE (ev fn e (.tk rm)) a fun p a1 => IsVal rm p fun d => QS (.rt d) a1 := xs_ret
theorem ys_ret0 : WS (exec fn L rm .ret0) a QS ↔ QS (.rt .none) a := ws_k
theorem ys_if : WS (exec fn L rm (.ifs c ss tt)) a QS ↔ WT (tst (ev fn c .br)) a fun b a1 => if b = true then WS (execs fn L rm ss) a1 QS else WS (execs fn L rm tt) a1 QS := ws_if
theorem ys_for : WS (exec fn L rm (.loop tg it ss)) a QS ↔ WI (evIt fn it) a fun ds a1 lk => WS (forLoop tg lk (execs fn L rm ss) ds) a1 fun fl a2 => QS fl (unlockA a2 lk) := ws_for
theorem ys_whl : WS (exec fn L rm (.whl c ss)) a QS ↔ WS (whlLoop (tst (ev fn c .br)) (execs fn L rm ss) L) a QS := Iff.rfl
theorem ys_brk : WS (exec fn L rm .brk) a QS ↔ QS .bk a := ws_k
theorem ys_cnt : WS (exec fn L rm .cnt) a QS ↔ QS .ct a := ws_k
theorem ys_pas : WS (exec fn L rm .pas) a QS ↔ QS .nx a := ws_nx
end
end RV

set_option maxRecDepth 100000
/-! Ev49: the rules with marked ends (printed by mark.py from Ev48). -/
namespace RV
open PySem
class Mk {α : Sort u} (Q : α) : Type where
instance mkAll {α : Sort u} {Q : α} : Mk Q := ⟨⟩
def VE (r : REv) (a : A) (Q : Opd → A → Prop) [Mk r] [Mk Q] : Prop := WE r a Q
def VAs (r : RAs) (a : A) (Q : List Opd → A → Prop) [Mk r] [Mk Q] : Prop := WAs r a Q
def VT (r : RTe) (a : A) (Q : Bool → A → Prop) [Mk r] [Mk Q] : Prop := WT r a Q
def VI (r : RIt) (a : A) (Q : List D → A → Lks → Prop) [Mk r] [Mk Q] : Prop := WI r a Q
def VO (r : RO) (a : A) (Q : Option Int → A → Prop) [Mk r] [Mk Q] : Prop := WO r a Q
def VS (r : RSt) (a : A) (Q : Fl → A → Prop) [Mk r] [Mk Q] : Prop := WS r a Q
def VC (g : List Sl → Option (Nat × D × List (Option Sl))) (ss : List Sl) (R : Nat → D → List (Option Sl) → Prop) [Mk R] : Prop := WC g ss R
def VL (lk : Lks) (turn : D → A → Option (Option D × A)) (ds : List D) (a : A) (Q : List D → A → Prop) [Mk turn] [Mk Q] : Prop := WL lk turn ds a Q
def VTu (turn : D → A → Option (Option D × A)) (x : D) (a : A) (P : Option D → A → Prop) [Mk turn] [Mk P] : Prop := WTurn turn x a P
def VW (o : Opd) (a : A) (Q : List D → A → Lks → Prop) [Mk Q] : Prop := WWalk o a Q
def KV {α : Type} (x : Option α) (P : α → Prop) [Mk P] : Prop := OkV x P
def KS (x : Option (Option Sl)) (P : Sl → Prop) [Mk P] : Prop := OkS x P
def KB (x : D) (P : Bool → Prop) [Mk P] : Prop := IsB x P
def KI (x : D) (P : Int → Prop) [Mk P] : Prop := IsI x P
def KT (x : D) (P : List D → Prop) [Mk P] : Prop := IsTup x P
def KL (m : Nat) (p : Opd) (P : D → Prop) [Mk P] : Prop := IsVal m p P
def KU (p : Opd) (P : Nat → D → Prop) [Mk P] : Prop := IsSub p P
def KW (p : Opd) (P : D → Prop) [Mk P] : Prop := IsV p P
def VQ (u : RSt) (Q : Fl → A → Prop) [Mk u] [Mk Q] (f : Fl) (a : A) : Prop := SeqQ u Q f a
def VB (rm np : Nat) (st : List Nat) (R : Nat → D → List (Option Sl) → Prop) [Mk R] (f : Fl) (a : A) : Prop := BodyQ rm np st R f a
def VU (I : A → Prop) (lk : Lks) (Q : Fl → A → Prop) [Mk I] [Mk Q] (f : Fl) (a : A) : Prop := TurnQ I lk Q f a
def VX (I : Nat → A → Prop) (k : Nat) (Q : Fl → A → Prop) [Mk I] [Mk Q] (f : Fl) (a : A) : Prop := TurnW I k Q f a
def VTm (i m : Nat) (s : Sl) (a : A) (Q : Opd → A → Prop) [Mk Q] : Prop := VTk i m s a Q
def ZIx (p q : Opd) (a : A) (w : Wt) (Q : Opd → A → Prop) [Mk Q] : Prop := XIx p q a w Q
def ZMu (f : Mu) (am i : Nat) (w : Wt) (os : List Opd) (a : A) (Q : Opd → A → Prop) [Mk Q] : Prop := XMu f am i w os a Q
def ZMu2 (f : Mu) (i : Nat) (kd : D) (w : Wt) (os : List Opd) (a : A) (Q : Opd → A → Prop) [Mk Q] : Prop := XMu2 f i kd w os a Q
def ZSl (i : Nat) (s : Sl) (a : A) (Q : List D → A → Lks → Prop) [Mk Q] : Prop := WSl i s a Q
/-- one of two ways, neither opened before it is known which -/
def VIf (c : Prop) [Decidable c] (p q : Prop) [Mk p] [Mk q] : Prop := if c then p else q
section
variable {α : Type}
theorem vif_t {p q : Prop} : VIf True p q ↔ p := by simp [VIf]
theorem vif_f {p q : Prop} : VIf False p q ↔ q := by simp [VIf]
theorem vif_intro {c : Prop} [Decidable c] {p q : Prop} (h1 : c → p) (h2 : ¬ c → q) : VIf c p q := by unfold VIf; split <;> simp_all
theorem vif_tt {p q : Prop} : VIf (true = true) p q ↔ p := by simp [VIf]
theorem vif_ff {p q : Prop} : VIf (false = true) p q ↔ q := by simp [VIf]
theorem kV_some {u : α} {P : α → Prop} : KV (some u) P ↔ P u := Iff.rfl
theorem kV_none {P : α → Prop} : KV none P ↔ False := Iff.rfl
theorem kS_some {u : Sl} {P : Sl → Prop} : KS (some (some u)) P ↔ P u := Iff.rfl
theorem kS_none {P : Sl → Prop} : KS (some none) P ↔ False := Iff.rfl
theorem kB_b {b : Bool} {P : Bool → Prop} : KB (.bool b) P ↔ P b := Iff.rfl
theorem kI_i {b : Int} {P : Int → Prop} : KI (.int b) P ↔ P b := Iff.rfl
theorem kT_t {b : List D} {P : List D → Prop} : KT (.tuple b) P ↔ P b := Iff.rfl
theorem kL_v {m k : Nat} {d : D} {P : D → Prop} : KL m (.val k d) P ↔ k = m ∧ P d := Iff.rfl
theorem kL_vs {m : Nat} {d : D} {P : D → Prop} : KL m (.val m d) P ↔ P d := by rw [kL_v]; simp
theorem kU_s {k : Nat} {d : D} {P : Nat → D → Prop} : KU (.sub k d) P ↔ P k d := Iff.rfl
theorem kW_v {m : Nat} {d : D} {P : D → Prop} : KW (.val m d) P ↔ P d := Iff.rfl
end
section
variable {i m : Nat} {s : Sl} {d : D} {a : A} {Q : Opd → A → Prop} {lk : Bool} {ds : List D} {QI : List D → A → Lks → Prop} {w : Wt}
theorem vtm_flat (h : flat s.d = true) : VTm i m s a Q ↔ Q (.val m s.d) a := by unfold VTm VTk; rw [if_pos h]
theorem vtm_int {k : Int} : VTm i m ⟨i', lk, .int k⟩ a Q ↔ Q (.val m (.int k)) a := vtm_flat rfl
theorem vtm_bool {k : Bool} : VTm i m ⟨i', lk, .bool k⟩ a Q ↔ Q (.val m (.bool k)) a := vtm_flat rfl
theorem vtm_str {k : Str} : VTm i m ⟨i', lk, .str k⟩ a Q ↔ Q (.val m (.str k)) a := vtm_flat rfl
theorem vtm_non : VTm i m ⟨i', lk, .none⟩ a Q ↔ Q (.val m .none) a := vtm_flat rfl
theorem vtm_tuple : VTm i m ⟨i', lk, .tuple ds⟩ a Q ↔ Q (.val m (.tuple ds)) a := vtm_flat rfl
/-- at mode 0 -/
theorem vtm_00 : VTm i 0 ⟨0, lk, d⟩ a Q ↔ Q (.val 0 d) a := by unfold VTm VTk; simp
theorem vtm_0 : VTm i 0 ⟨m + 1, false, d⟩ a Q ↔ VIf (flat d = true) (Q (.val 0 d) a) (Q (.val 0 d) (a.set i (some ⟨0, false, d⟩))) := by unfold VTm VTk VIf; simp
theorem vtm_list0 : VTm i 0 ⟨m + 1, false, .list ds⟩ a Q ↔ Q (.val 0 (.list ds)) (a.set i (some ⟨0, false, .list ds⟩)) := by unfold VTm VTk; simp
theorem vtm_lists : VTm i (m + 1) ⟨m + 1, false, .list ds⟩ a Q ↔ Q (.val (m + 1) (.list ds)) (a.set i none) := by unfold VTm VTk; simp
theorem vtm_dicts {kvs : List (D × D)} : VTm i (m + 1) ⟨m + 1, false, .dict kvs⟩ a Q ↔ Q (.val (m + 1) (.dict kvs)) (a.set i none) := by unfold VTm VTk; simp
theorem vtm_own (h : flat d = false) : VTm i (m + 1) ⟨m + 1, false, d⟩ a Q ↔ Q (.val (m + 1) d) (a.set i none) := by unfold VTm VTk; simp [h]
theorem zsl_tup : ZSl i ⟨m, lk, .tuple ds⟩ a QI ↔ QI ds a [] := Iff.rfl
theorem zsl_lst0 : ZSl i ⟨0, lk, .list ds⟩ a QI ↔ QI ds a [] := by unfold ZSl WSl; simp
theorem zsl_lst : ZSl i ⟨m + 1, false, .list ds⟩ a QI ↔ kidsIm (m + 1) (.list ds) = true ∧ QI ds (a.set i (some ⟨m + 1, true, .list ds⟩)) [(i, true)] := by unfold ZSl WSl; simp
theorem zsl_lstk : ZSl i ⟨m + 1, true, .list ds⟩ a QI ↔ kidsIm (m + 1) (.list ds) = true ∧ QI ds a [(i, false)] := by unfold ZSl WSl; simp
theorem zix {p q : Opd} : ZIx p q a w Q ↔ KV (res a p) fun u => KV (res a q) fun kd => KV (idxD u.2 kd.2) fun d => VIf ((flat d || decide (u.1 ≤ 1) || flat u.2) = true) (okRes false w.m d = true ∧ Q (.val w.m d) a) (match p, w with
    | .ref i, .br => Q (.sub i kd.2) a
    | _, _ => False) := Iff.rfl
theorem zmu {f : Mu} {am : Nat} {os : List Opd} : ZMu f am i w os a Q ↔ KS (a[i]?) fun s => s.lk = false ∧ s.m ≠ 0 ∧ (isApp f || kidsIm s.m s.d) = true ∧ KV (muArgs f am a os) fun us => putOk f (s.m - 1) us = true ∧ KV (muD f s.d us) fun r => (flat r.1 || (decide (s.m = 1) && decide (w.m = 0))) = true ∧ Q (.val w.m r.1) (a.set i (some ⟨s.m, false, r.2⟩)) := Iff.rfl
theorem zmu2 {f : Mu} {kd : D} {os : List Opd} : ZMu2 f i kd w os a Q ↔ KS (a[i]?) fun s => s.lk = false ∧ 1 < s.m ∧ KV (idxD s.d kd) fun x => isLst x = true ∧ kidsIm (s.m - 1) x = true ∧ KV (resAll a os) fun us => putOk f (s.m - 2) us = true ∧ putOk0 (s.m - 2) us = true ∧
  KV (muD f x us) fun r => KV (stoD s.d kd r.2) fun z => (flat r.1 || (decide (s.m = 2) && decide (w.m = 0))) = true ∧ Q (.val w.m r.1) (a.set i (some ⟨s.m, false, z⟩)) := Iff.rfl
end
section
variable {u : RSt} {QS : Fl → A → Prop} {a : A} {d : D} {i : Nat} {o : Opd} {ds : List D} {m k : Nat} {QI : List D → A → Lks → Prop} {I : A → Prop} {J : Nat → A → Prop} {lk : Lks}
theorem zq_nx : VQ u QS .nx a ↔ VS u a QS := Iff.rfl
theorem zq_rt : VQ u QS (.rt d) a ↔ QS (.rt d) a := Iff.rfl
theorem zq_bk : VQ u QS .bk a ↔ QS .bk a := Iff.rfl
theorem zq_ct : VQ u QS .ct a ↔ QS .ct a := Iff.rfl
theorem zw_tup : VW (.val m (.tuple ds)) a QI ↔ QI ds a [] := ww_tup
theorem zw_lst : VW (.val m (.list ds)) a QI ↔ kidsIm m (.list ds) = true ∧ QI ds a [] := ww_lst
theorem zw_ref : VW (.ref i) a QI ↔ KS (a[i]?) fun s => ZSl i s a QI := xw_ref
theorem zb_rt {rm np : Nat} {st : List Nat} {R : Nat → D → List (Option Sl) → Prop} : VB rm np st R (.rt d) a ↔ R rm d (bks st a 0 np) := Iff.rfl
theorem zb_nx {rm np : Nat} {st : List Nat} {R : Nat → D → List (Option Sl) → Prop} : VB rm np st R .nx a ↔ R rm .none (bks st a 0 np) := Iff.rfl
theorem zu_nx : VU I lk QS .nx a ↔ holds lk a = true ∧ I a := Iff.rfl
theorem zu_ct : VU I lk QS .ct a ↔ holds lk a = true ∧ I a := Iff.rfl
theorem zu_bk : VU I lk QS .bk a ↔ QS .nx a := Iff.rfl
theorem zu_rt : VU I lk QS (.rt d) a ↔ QS (.rt d) a := Iff.rfl
theorem zx_nx : VX J k QS .nx a ↔ ∃ j, j < k ∧ J j a := Iff.rfl
theorem zx_ct : VX J k QS .ct a ↔ ∃ j, j < k ∧ J j a := Iff.rfl
theorem zx_bk : VX J k QS .bk a ↔ QS .nx a := Iff.rfl
theorem zx_rt : VX J k QS (.rt d) a ↔ QS (.rt d) a := Iff.rfl
end
section
variable {fn : Fn} {L rm : Nat} {a : A} {Q : Opd → A → Prop} {i m w : Nat} {wt : Wt} {x y z e k l c : E} {es ks : Es} {b : Bool} {d : D} {QT : Bool → A → Prop} {QA : List Opd → A → Prop} {QI : List D → A → Lks → Prop} {QO : Option Int → A → Prop} {QS : Fl → A → Prop} {lo hi cond : Oe} {tg : Tg} {it : It} {ss tt : Ss} {s : S} {ts : Tgs} {o o2 : Cop}
theorem ze_var : VE (ev fn (.var i) .br) a Q ↔ KS (a[i]?) fun _ => Q (.ref i) a := ye_var
theorem ze_vart : VE (ev fn (.var i) (.tk m)) a Q ↔ KS (a[i]?) fun s => VTm i m s a Q := ye_vart
theorem ze_non : VE (ev fn .non wt) a Q ↔ Q (.val wt.m .none) a := ye_non
theorem ze_bl : VE (ev fn (.bl b) wt) a Q ↔ Q (.val wt.m (.bool b)) a := ye_bl
theorem ze_int {n : Int} : VE (ev fn (.int n) wt) a Q ↔ Q (.val wt.m (.int n)) a := ye_int
theorem ze_str {n : Str} : VE (ev fn (.str n) wt) a Q ↔ Q (.val wt.m (.str n)) a := ye_str
theorem ze_glo {n : Str} : VE (ev fn (.glo n d) wt) a Q ↔ flat d = true ∧ Q (.val wt.m d) a := ye_glo
theorem ze_tup : VE (ev fn (.tup es) wt) a Q ↔ VAs (evs fn es (.tk 0)) a fun os a1 => KV (valsOf 0 os) fun ds => fitL ds.length = true ∧ Q (.val wt.m (.tuple ds)) a1 := ye_tup
theorem ze_lst : VE (ev fn (.lst es) wt) a Q ↔ VAs (evs fn es (.tk (wt.m - 1))) a fun os a1 => KV (valsOf (wt.m - 1) os) fun ds => fitL ds.length = true ∧ Q (.val wt.m (.list ds)) a1 := ye_lst
theorem ze_dnew : VE (ev fn .dnew wt) a Q ↔ Q (.val wt.m (.dict [])) a := ye_dnew
theorem ze_dis {kd : List D} : VE (ev fn (.dis kd es) wt) a Q ↔ VAs (evs fn es (.tk (wt.m - 1))) a fun os a1 => KV (valsOf (wt.m - 1) os) fun ds => (decide (ds.length = kd.length) && kd.all keyOk && keysNd kd) = true ∧ Q (.val wt.m (.dict (kd.zip ds))) a1 := ye_dis
theorem ze_bin {o : Bop} : VE (ev fn (.bin o x y) wt) a Q ↔ VE (ev fn x .br) a fun p a1 => VE (ev fn y .br) a1 fun q a2 => Dp p (quiet y) ∧ KV (res a2 p) fun u => KV (res a2 q) fun v => KV (binD o u v) fun d => okRes true wt.m d = true ∧ Q (.val wt.m d) a2 := ye_bin
theorem ze_me {f : Me} : VE (ev fn (.me f x y) wt) a Q ↔ VE (ev fn x .br) a fun p a1 => KV (res a1 p) fun u0 => VE (ev fn y .br) a1 fun q a2 => Dp p (quiet y) ∧ KV (res a2 p) fun u => seqK u0.2 = seqK u.2 ∧ KV (res a2 q) fun v => KV (meD f u v) fun d => okRes true wt.m d = true ∧ Q (.val wt.m d) a2 := ye_me
theorem ze_cmp : VE (ev fn (.cmp o x y) wt) a Q ↔ VT (tst (ev fn (.cmp o x y) .br)) a fun b a1 => Q (.val wt.m (.bool b)) a1 := ye_cmp
theorem zt_cmp : VT (tst (ev fn (.cmp o x y) .br)) a QT ↔ VE (ev fn x .br) a fun p a1 => VE (ev fn y .br) a1 fun q a2 => Dp p (quiet y) ∧ KV (res a2 p) fun u => KV (res a2 q) fun v => KV (cmpD o u.2 v.2) fun b => QT b a2 := yt_cmp
theorem ze_isn : VE (ev fn (.isn b x) wt) a Q ↔ VT (tst (ev fn (.isn b x) .br)) a fun b a1 => Q (.val wt.m (.bool b)) a1 := ye_isn
theorem zt_isn : VT (tst (ev fn (.isn b x) .br)) a QT ↔ VE (ev fn x .br) a fun p a1 => KV (res a1 p) fun u => QT (b ^^ isNone u.2) a1 := yt_isn
theorem ze_chn : VE (ev fn (.chn o o2 x y z) wt) a Q ↔ VT (tst (ev fn (.chn o o2 x y z) .br)) a fun b a1 => Q (.val wt.m (.bool b)) a1 := ye_chn
theorem zt_chn : VT (tst (ev fn (.chn o o2 x y z) .br)) a QT ↔ VE (ev fn x .br) a fun p a1 => VE (ev fn y .br) a1 fun q a2 => Dp p false ∧ Dp q false ∧ KV (res a2 p) fun u => KV (res a2 q) fun v => KV (cmpD o u.2 v.2) fun b =>
    VIf (b = true) (VE (ev fn z .br) a2 fun r a3 => KV (res a3 q) fun v2 => KV (res a3 r) fun t => KV (cmpD o2 v2.2 t.2) fun c => QT c a3) (QT false a2) := yt_chn
theorem ze_neg : VE (ev fn (.neg x) wt) a Q ↔ VE (ev fn x .br) a fun p a1 => KV (res a1 p) fun u => KV (negD u) fun d => okRes true wt.m d = true ∧ Q (.val wt.m d) a1 := ye_neg
theorem ze_not : VE (ev fn (.not x) wt) a Q ↔ VT (tst (ev fn (.not x) .br)) a fun b a1 => Q (.val wt.m (.bool b)) a1 := ye_not
theorem zt_not : VT (tst (ev fn (.not x) .br)) a QT ↔ VT (tst (ev fn x .br)) a fun b a1 => QT (!b) a1 := yt_not
theorem ze_and : VE (ev fn (.and x y) wt) a Q ↔ VT (tst (ev fn (.and x y) .br)) a fun b a1 => Q (.val wt.m (.bool b)) a1 := ye_and
theorem zt_and : VT (tst (ev fn (.and x y) .br)) a QT ↔ VT (tst (ev fn x .br)) a fun b a1 => VIf (b = true) (VT (tst (ev fn y .br)) a1 QT) (QT false a1) := yt_and
theorem ze_or : VE (ev fn (.or x y) wt) a Q ↔ VT (tst (ev fn (.or x y) .br)) a fun b a1 => Q (.val wt.m (.bool b)) a1 := ye_or
theorem zt_or : VT (tst (ev fn (.or x y) .br)) a QT ↔ VT (tst (ev fn x .br)) a fun b a1 => VIf (b = true) (QT true a1) (VT (tst (ev fn y .br)) a1 QT) := yt_or
theorem zt_bl : VT (tst (ev fn (.bl b) .br)) a QT ↔ QT b a := yt_bl
theorem zt_var : VT (tst (ev fn (.var i) .br)) a QT ↔ KS (a[i]?) fun s => KB s.d fun b => QT b a := yt_var
theorem zt_isi {tys : List String} : VT (tst (ev fn (.isi x tys) .br)) a QT ↔ VE (ev fn x .br) a fun p a1 => KV (res a1 p) fun u => QT (tys.any (isKind u.2)) a1 := yt_isi
theorem zt_call {f : Nat} {perm : List Nat} : VT (tst (ev fn (.call f es ks perm) .br)) a QT ↔ VE (ev fn (.call f es ks perm) .br) a fun p a1 => KV (res a1 p) fun u => KB u.2 fun b => QT b a1 := yt_call
theorem zt_bi {f : Bi} : VT (tst (ev fn (.bi f es) .br)) a QT ↔ VE (ev fn (.bi f es) .br) a fun p a1 => KV (res a1 p) fun u => KB u.2 fun b => QT b a1 := yt_bi
theorem zt_idx : VT (tst (ev fn (.idx x k) .br)) a QT ↔ VE (ev fn (.idx x k) .br) a fun p a1 => KV (res a1 p) fun u => KB u.2 fun b => QT b a1 := yt_idx
theorem ze_ife : VE (ev fn (.ife c x y) wt) a Q ↔ VT (tst (ev fn c .br)) a fun b a1 => VIf (b = true) (VE (ev fn x (.tk wt.m)) a1 Q) (VE (ev fn y (.tk wt.m)) a1 Q) := ye_ife
theorem ze_idx : VE (ev fn (.idx x k) wt) a Q ↔ VE (ev fn x .br) a fun p a1 => VE (ev fn k .br) a1 fun q a2 => Dp p (quiet k) ∧ ZIx p q a2 wt Q := ye_idx
theorem ze_slc : VE (ev fn (.slc x lo hi) wt) a Q ↔ VE (ev fn x .br) a fun p a1 => VO (evO fn lo) a1 fun lo a2 => VO (evO fn hi) a2 fun hi a3 => Dp p false ∧ KV (res a3 p) fun u => KV (slcD u lo hi) fun d => okRes true wt.m d = true ∧ Q (.val wt.m d) a3 := ye_slc
theorem zo_none : VO (evO fn .none) a QO ↔ QO none a := yo_none
theorem zo_some : VO (evO fn (.some e)) a QO ↔ VE (ev fn e (.tk 0)) a fun p a1 => KW p fun d => KI d fun i => QO (some i) a1 := yo_some
theorem ze_un {f : Un} : VE (ev fn (.un f x) wt) a Q ↔ VE (ev fn x .br) a fun p a1 => KV (res a1 p) fun u => KV (unD f u) fun d => okRes true wt.m d = true ∧ Q (.val wt.m d) a1 := ye_un
theorem ze_rev : VE (ev fn (.rev x) wt) a Q ↔ VE (ev fn x .br) a fun p a1 => KV (res a1 p) fun u => KV (revD u) fun d => okRes true wt.m d = true ∧ Q (.val wt.m d) a1 := ye_rev
theorem ze_bi {f : Bi} : VE (ev fn (.bi f es) wt) a Q ↔ VAs (evs fn es .br) a fun os a1 => KV (resAll a1 os) fun us => KV (biD f us) fun d => okRes true wt.m d = true ∧ Q (.val wt.m d) a1 := ye_bi
theorem ze_isi {tys : List String} : VE (ev fn (.isi x tys) wt) a Q ↔ VE (ev fn x .br) a fun p a1 => KV (res a1 p) fun u => Q (.val wt.m (.bool (tys.any (isKind u.2)))) a1 := ye_isi
theorem ze_mu {f : Mu} {am : Nat} : VE (ev fn (.mu f am i .none es) wt) a Q ↔ lstAt a i = true ∧ VAs (evs fn es (muWt f am)) a fun os a1 => ZMu f am i wt os a1 Q := ye_mu
theorem ze_mu2 {f : Mu} {am : Nat} : VE (ev fn (.mu f am i (.some k) es) wt) a Q ↔ quiets es = true ∧ VE (ev fn (.idx (.var i) k) .br) a fun c a1 => KU c fun j kd => (KV (res a1 (.sub j kd)) fun u => isLst u.2 = true) ∧ VAs (evs fn es .br) a1 fun os a2 => ZMu2 f j kd wt os a2 Q := ye_mu2
theorem ze_call {f : Nat} {perm : List Nat} : VE (ev fn (.call f es ks perm) wt) a Q ↔ VAs (evs fn es .br) a fun os a1 => VAs (evs fn ks .br) a1 fun ks a2 => ((os ++ ks).any Opd.deep = false) ∧ nodupN perm = true ∧ KV (permO (os ++ ks) perm) fun os' => os'.any Opd.deep = false ∧ nodupN (lent a2 os') = true ∧
    KV (argsOf a2 os') fun ss => VC (fn f) ss fun m d back => outOk wt.m m d = true ∧ back.length = os'.length ∧ Q (.val wt.m d) (backs a2 os' back) := ye_call
theorem ze_lc {own : List Nat} : VE (ev fn (.lc own e tg it cond) wt) a Q ↔ VI (evIt fn it) a fun ds a1 lk => ownFine a1 own = true ∧ fitL ds.length = true ∧ VL lk (lcTurn tg (evC fn cond) (ev fn e (.tk (wt.m - 1))) own (wt.m - 1)) ds (wipeA a1 own) fun out a2 => Q (.val wt.m (.list out)) (unlockA (backA a1 a2 own) lk) := ye_lc
theorem zturn {own : List Nat} {u : D} {P : Option D → A → Prop} : VTu (lcTurn tg (evC fn cond) (ev fn e wt) own m) u a P ↔ KV (bindT tg u a) fun b1 => VT (evC fn cond) b1 fun c a2 => VIf (c = true) (VE (ev fn e wt) a2 fun r a3 => KL m r fun d => P (some d) (wipeA a3 own)) (P none (wipeA a2 own)) := yturn
theorem zc_none : VT (evC fn .none) a QT ↔ QT true a := yc_none
theorem zc_some : VT (evC fn (.some e)) a QT ↔ VT (tst (ev fn e .br)) a QT := yc_some
theorem za_nil : VAs (evs fn .nil wt) a QA ↔ QA [] a := ya_nil
theorem za_cons : VAs (evs fn (.cons e es) wt) a QA ↔ VE (ev fn e wt) a fun p a1 => VAs (evs fn es wt) a1 fun ps a2 => Dp p (quietWs es wt) ∧ QA (p :: ps) a2 := ya_cons
theorem zi_of : VI (evIt fn (.of e)) a QI ↔ VE (ev fn e .br) a fun o a1 => VW o a1 QI := yi_of
theorem zi_enum : VI (evIt fn (.enum e)) a QI ↔ VE (ev fn e .br) a fun o a1 => VW o a1 fun ds a2 lk => QI (enumD ds) a2 lk := yi_enum
theorem zi_zip {e2 : E} : VI (evIt fn (.zip2 e e2)) a QI ↔ VE (ev fn e .br) a fun o a1 => VE (ev fn e2 .br) a1 fun o2 a2 => Dp o (quiet e2) ∧ VW o a2 fun ds a2 lk => VW o2 a2 fun es a3 lk2 => QI (zipD ds es) a3 (lk ++ lk2) := yi_zip
theorem zi_zip3 {e2 e3 : E} : VI (evIt fn (.zip3 e e2 e3)) a QI ↔ VE (ev fn e .br) a fun o a1 => VE (ev fn e2 .br) a1 fun o2 a2 => VE (ev fn e3 .br) a2 fun o3 a3 => Dp o2 (quiet e3) ∧ Dp o (quiet e2 && quiet e3) ∧ VW o a3 fun ds a3 lk => VW o2 a3 fun es a4 lk2 => VW o3 a4 fun fs a5 lk3 => QI (zip3D ds es fs) a5 (lk ++ lk2 ++ lk3) := yi_zip3
theorem zi_rng1 : VI (evIt fn (.rng1 e)) a QI ↔ VE (ev fn e .br) a fun o a1 => KV (res a1 o) fun u => KI u.2 fun n => rngOk n = true ∧ QI (rngD 0 n.toNat) a1 [] := yi_rng1
theorem zi_rng {e2 : E} : VI (evIt fn (.rng e e2)) a QI ↔ VE (ev fn e .br) a fun o a1 => VE (ev fn e2 .br) a1 fun o2 a2 => Dp o (quiet e2) ∧ KV (res a2 o) fun u => KV (res a2 o2) fun v => KI u.2 fun l => KI v.2 fun n => rngOk l = true ∧ rngOk n = true ∧ QI (rngD l (n - l).toNat) a2 [] := yi_rng
theorem zs_nil : VS (execs fn L rm .nil) a QS ↔ QS .nx a := ys_nil
theorem zs_cons : VS (execs fn L rm (.cons s ss)) a QS ↔ VS (exec fn L rm s) a (VQ (execs fn L rm ss) QS) := ys_cons
theorem zs_asg : VS (exec fn L rm (.asg i m e)) a QS ↔ VE (ev fn e (.tk m)) a fun p a1 => KL m p fun d => QS .nx (a1.set i (some ⟨m, false, d⟩)) := ys_asg
theorem zs_unp : VS (exec fn L rm (.unp ts e)) a QS ↔ VE (ev fn e (.tk 0)) a fun p a1 => KL 0 p fun d => KT d fun ds => KV (bindTs ts ds a1) fun a2 => QS .nx a2 := ys_unp
theorem zs_par2 {j m2 : Nat} : VS (exec fn L rm (.par2 i m j m2 x y)) a QS ↔ VE (ev fn x (.tk m)) a fun p a1 => VE (ev fn y (.tk m2)) a1 fun q a2 => KL m p fun d => KL m2 q fun d2 => QS .nx ((a2.set i (some ⟨m, false, d⟩)).set j (some ⟨m2, false, d2⟩)) := ys_par2
theorem zs_par3 {j m2 n m3 : Nat} : VS (exec fn L rm (.par3 i m j m2 n m3 x y z)) a QS ↔ VE (ev fn x (.tk m)) a fun p a1 => VE (ev fn y (.tk m2)) a1 fun q a2 => VE (ev fn z (.tk m3)) a2 fun t a3 => KL m p fun d => KL m2 q fun d2 => KL m3 t fun d3 => QS .nx (((a3.set i (some ⟨m, false, d⟩)).set j (some ⟨m2, false, d2⟩)).set n (some ⟨m3, false, d3⟩)) := ys_par3
theorem zs_sto {am : Nat} : VS (exec fn L rm (.sto i am k e)) a QS ↔ VE (ev fn e (.tk am)) a fun p a1 => (KS (a1[i]?) fun _ => True) ∧ VE (ev fn k .br) a1 fun q a2 => KL am p fun v => KV (res a2 q) fun kd => KS (a2[i]?) fun s => s.lk = false ∧ s.m ≠ 0 ∧ putV (s.m - 1) (am, v) = true ∧ KV (stoD s.d kd.2 v) fun x => QS .nx (a2.set i (some ⟨s.m, false, x⟩)) := ys_sto
theorem zs_aug {o : Bop} : VS (exec fn L rm (.aug i o e)) a QS ↔ KS (a[i]?) fun s => KI s.d fun x => VE (ev fn e .br) a fun p a1 => KV (res a1 p) fun u => KI u.2 fun y => KV (binD o (0, .int x) (0, .int y)) fun d => QS .nx (a1.set i (some ⟨0, false, d⟩)) := ys_aug
theorem zs_ex : VS (exec fn L rm (.ex e)) a QS ↔ VE (ev fn e .br) a fun _ a1 => QS .nx a1 := ys_ex
theorem zs_ret : VS (exec fn L rm (.ret e)) a QS ↔ VE (ev fn e (.tk rm)) a fun p a1 => KL rm p fun d => QS (.rt d) a1 := ys_ret
theorem zs_ret0 : VS (exec fn L rm .ret0) a QS ↔ QS (.rt .none) a := ys_ret0
theorem zs_if : VS (exec fn L rm (.ifs c ss tt)) a QS ↔ VT (tst (ev fn c .br)) a fun b a1 => VIf (b = true) (VS (execs fn L rm ss) a1 QS) (VS (execs fn L rm tt) a1 QS) := ys_if
theorem zs_for : VS (exec fn L rm (.loop tg it ss)) a QS ↔ VI (evIt fn it) a fun ds a1 lk => VS (forLoop tg lk (execs fn L rm ss) ds) a1 fun fl a2 => QS fl (unlockA a2 lk) := ys_for
theorem zs_whl : VS (exec fn L rm (.whl c ss)) a QS ↔ VS (whlLoop (tst (ev fn c .br)) (execs fn L rm ss) L) a QS := ys_whl
theorem zs_brk : VS (exec fn L rm .brk) a QS ↔ QS .bk a := ys_brk
theorem zs_cnt : VS (exec fn L rm .cnt) a QS ↔ QS .ct a := ys_cnt
theorem zs_pas : VS (exec fn L rm .pas) a QS ↔ QS .nx a := ys_pas
end
theorem vc_iff {g : List Sl → Option (Nat × D × List (Option Sl))} {ss : List Sl} {m0 : Nat} {d0 : D} {b0 : List (Option Sl)} (h : VC g ss fun m d b => m = m0 ∧ d = d0 ∧ b = b0) {R : Nat → D → List (Option Sl) → Prop} : VC g ss R ↔ R m0 d0 b0 := wc_iff h
theorem vc_fd {fn : Fn} {L : Nat} {f : Fd} {ss : List Sl} {R : Nat → D → List (Option Sl) → Prop} (hn : ss.length = f.np) (h : VS (execs fn L f.rm f.body) (ss.map some ++ List.replicate (f.N.length - f.np) none) (VB f.rm f.np f.st R)) : VC (runFd fn L f) ss R := wc_fd hn h
theorem VC.mono {g : List Sl → Option (Nat × D × List (Option Sl))} {ss : List Sl} {R R' : Nat → D → List (Option Sl) → Prop} (h : VC g ss R) (k : ∀ m d b, R m d b → R' m d b) : VC g ss R' := WC.mono h k
theorem VS.mono {r : RSt} {a : A} {Q Q' : Fl → A → Prop} (h : VS r a Q) (k : ∀ o a', Q o a' → Q' o a') : VS r a Q' := WS.mono h k
theorem vf_find {tg : Tg} {lk : Lks} {body : RSt} {QS : Fl → A → Prop} {a : A} (bad : D → Option D) (J : A → Prop) {ds : List D} (h0 : J a)
    (step : ∀ pre x post b, ds = pre ++ x :: post → (∀ y ∈ pre, bad y = none) → J b → ∃ b1, bindT tg x b = some b1 ∧ VS body b1 fun fl b2 => J b2 ∧ match bad x with
      | some d => fl = .rt d
      | none => (fl = .nx ∨ fl = .ct) ∧ holds lk b2 = true)
    (done : ∀ b, J b → (∀ x ∈ ds, bad x = none) → QS .nx b) (ret : ∀ b d, J b → ds.findSome? bad = some d → QS (.rt d) b) : VS (forLoop tg lk body ds) a QS := wf_find bad J h0 step done ret
theorem vf_inv {tg : Tg} {lk : Lks} {QS : Fl → A → Prop} {a : A} {body : RSt} (I : List D → A → Prop) {ds : List D} (h0 : I ds a) (step : ∀ x r a, I (x :: r) a → ∃ a1, bindT tg x a = some a1 ∧ VS body a1 (VU (I r) lk QS)) (done : ∀ a, I [] a → QS .nx a) : VS (forLoop tg lk body ds) a QS := wf_inv I h0 step done
theorem vw_inv {QS : Fl → A → Prop} {a : A} {test : RTe} {body : RSt} (I : Nat → A → Prop) {n L : Nat} (h0 : I n a) (hn : n < L) (step : ∀ k a, I k a → VT test a fun b a1 => VIf (b = true) (VS body a1 (VX I k QS)) (QS .nx a1)) : VS (whlLoop test body L) a QS := ww_inv I h0 hn step
theorem vl_inv {a : A} {lk : Lks} {turn : D → A → Option (Option D × A)} {Q : List D → A → Prop} (I : List D → List D → A → Prop) {ds : List D} (h0 : I ds [] a) (step : ∀ x r out a, I (x :: r) out a → VTu turn x a fun o a' => holds lk a' = true ∧ I r (out ++ o.toList) a') (done : ∀ out a, I [] out a → Q out a) : VL lk turn ds a Q := wl_inv I h0 step done
theorem vl_fm {a : A} {lk : Lks} {turn : D → A → Option (Option D × A)} {Q : List D → A → Prop} (f : D → Option D) {ds : List D} (hl : holds lk a = true) (step : ∀ x ∈ ds, VTu turn x a fun o a' => o = f x ∧ a' = a) (done : Q (ds.filterMap f) a) : VL lk turn ds a Q := wl_fm f hl step done
theorem vl_map {a : A} {lk : Lks} {turn : D → A → Option (Option D × A)} {Q : List D → A → Prop} (f : D → D) {ds : List D} (hl : holds lk a = true) (step : ∀ x ∈ ds, VTu turn x a fun o a' => o = some (f x) ∧ a' = a) (done : Q (ds.map f) a) : VL lk turn ds a Q := wl_map f hl step done
end RV

set_option maxRecDepth 100000
set_option exponentiation.threshold 5000
/-! Ev50: data that may be shown; equality of data. -/
namespace RV
open PySem PySem.PyData
def sOk (x : Str) : Bool := PyData.strOk x
theorem sOk_iff {x : Str} : sOk x = true ↔ ∀ c ∈ x.cps.toList, c < 0x110000 := by
  unfold sOk PyData.strOk
  rw [← Array.all_toList, List.all_eq_true]
  simp
theorem sOk_of (s : String) : sOk (Str.ofString s) = true := by
  rw [sOk_iff, PyProof.Rows.signs_ofString]
  intro c hc
  obtain ⟨ch, _, rfl⟩ := List.mem_map.mp hc
  have := ch.valid
  rcases this with h | ⟨_, h⟩
  · exact Nat.lt_trans (show ch.toNat < 0xd800 from h) (by decide)
  · exact h
theorem sOk_app {x y : Str} (h : sOk x = true) (k : sOk y = true) : sOk (x ++ y) = true := by
  rw [sOk_iff] at h k ⊢
  intro c hc
  have e : (x ++ y).cps.toList = x.cps.toList ++ y.cps.toList := Array.toList_append
  rw [e] at hc
  rcases List.mem_append.mp hc with z | z
  · exact h c z
  · exact k c z
theorem sOk_from : ∀ (ts : List Str) (k : Nat) (acc : Str), (∀ t ∈ ts, sOk t = true) → sOk acc = true → sOk (textFrom k acc ts) = true
  | [], _, _, _, h => h
  | t :: r, k, acc, h, ha => by
    refine sOk_from r (k + 1) _ (fun u hu => h u (by simp [hu])) (sOk_app (sOk_app ha ?_) (h t (by simp)))
    split <;> exact sOk_of _
theorem sOk_join : ∀ (ts : List Str), (∀ t ∈ ts, sOk t = true) → sOk (Str.join ", " ts) = true
  | [], _ => sOk_iff.mpr fun c hc => by cases hc
  | [t], h => h t (by simp)
  | t :: u :: r, h => sOk_app (sOk_app (h t (by simp)) (sOk_of _)) (sOk_join (u :: r) fun x hx => h x (by simp [hx]))
/-- may be shown: so deep at most, so long at most -/
structure Sm (e n : Nat) (d : D) : Prop where
  sh : d.showable = true
  dp : d.depth ≤ e
  ln : d.shown.length ≤ n
  ok : sOk d.shown = true
theorem Sm.mono {e n e' n' : Nat} {d : D} (h : Sm e n d) (he : e ≤ e') (hn : n ≤ n') : Sm e' n' d := ⟨h.sh, Nat.le_trans h.dp he, Nat.le_trans h.ln hn, h.ok⟩
theorem sm_none : Sm 0 4 .none := ⟨rfl, Nat.le_refl _, by decide, sOk_of _⟩
theorem sm_bool {b : Bool} : Sm 0 5 (.bool b) := by cases b <;> exact ⟨rfl, Nat.le_refl _, by decide, sOk_of _⟩
theorem sm_int {i : Int} (h : i.natAbs < 10 ^ 40) : Sm 0 41 (.int i) := by
  refine ⟨?_, Nat.le_refl _, ?_, sOk_of _⟩
  · simp only [PyData.showable, decide_eq_true_eq]
    by_cases h0 : i.natAbs = 0
    · rw [h0]; decide
    · rw [Nat.log2_lt h0]
      exact Nat.lt_of_lt_of_le h (by decide)
  · show (Str.ofString (toString i)).length ≤ 41
    rw [ofString_length]
    exact int_text_length_le10 (k := 40) (by decide) h
theorem sm_all {e n : Nat} : ∀ {ds : List D}, (∀ d ∈ ds, Sm e n d) → showableAll ds = true ∧ depthAll ds ≤ e ∧ ((shownAll ds).map (·.length)).sum ≤ ds.length * n ∧ (∀ t ∈ shownAll ds, sOk t = true) ∧ (shownAll ds).length = ds.length
  | [], _ => ⟨rfl, Nat.zero_le _, by simp [shownAll], by simp [shownAll], rfl⟩
  | d :: r, h => by
    obtain ⟨a, b, c, f, g⟩ := sm_all (ds := r) fun x hx => h x (by simp [hx])
    have hd := h d (by simp)
    refine ⟨by simp [showableAll, hd.sh, a], by simp only [depthAll]; have := hd.dp; omega, ?_, ?_, by simp [shownAll, g]⟩
    · simp only [shownAll, List.map_cons, List.sum_cons, List.length_cons, Nat.add_mul]
      have := hd.ln
      omega
    · intro t ht
      simp only [shownAll, List.mem_cons] at ht
      rcases ht with rfl | ht
      · exact hd.ok
      · exact f t ht
theorem sm_tuple {e n L : Nat} {ds : List D} (h : ∀ d ∈ ds, Sm e n d) (hl : ds.length ≤ L) : Sm (e + 1) (L * (n + 2) + 3) (.tuple ds) := by
  obtain ⟨a, b, c, f, g⟩ := sm_all h
  refine ⟨by simpa [PyData.showable] using a, by simp only [PyData.depth]; omega, ?_, ?_⟩
  · have := tupleText_len_le (shownAll ds)
    rw [g] at this
    show (tupleText (shownAll ds)).length ≤ _
    have h1 : ds.length * (n + 2) ≤ L * (n + 2) := Nat.mul_le_mul_right _ hl
    have h2 : ds.length * (n + 2) = ds.length * n + ds.length * 2 := Nat.mul_add ..
    omega
  · show sOk (tupleText (shownAll ds)) = true
    unfold tupleText
    refine sOk_app (sOk_app (sOk_of _) (sOk_join _ f)) ?_
    split <;> exact sOk_of _
theorem sm_list {e n L : Nat} {ds : List D} (h : ∀ d ∈ ds, Sm e n d) (hl : ds.length ≤ L) : Sm (e + 1) (L * (n + 2) + 3) (.list ds) := by
  obtain ⟨a, b, c, f, g⟩ := sm_all h
  refine ⟨by simpa [PyData.showable] using a, by simp only [PyData.depth]; omega, ?_, ?_⟩
  · have := listText_len_le (shownAll ds)
    rw [g] at this
    show (listText (shownAll ds)).length ≤ _
    have h1 : ds.length * (n + 2) ≤ L * (n + 2) := Nat.mul_le_mul_right _ hl
    have h2 : ds.length * (n + 2) = ds.length * n + ds.length * 2 := Nat.mul_add ..
    omega
  · show sOk (listText (shownAll ds)) = true
    unfold listText
    exact sOk_app (sOk_from _ _ _ f (sOk_of _)) (sOk_of _)
theorem sm_dict0 : Sm 1 2 (.dict []) := ⟨rfl, by decide, by decide, sOk_app (sOk_app (sOk_of _) (sOk_join [] (by simp))) (sOk_of _)⟩
theorem Sm.showOk {e n : Nat} {d : D} (h : Sm e n d) (he : e ≤ 60) (hn : n ≤ 16777216) : showOk d = true := by
  unfold RV.showOk
  rw [h.sh, decide_eq_true (Nat.le_trans h.dp he), fitL_of (Nat.le_trans h.ln hn)]
  rfl
/-- the texts of two data -/
theorem eq_shown {e n e' n' : Nat} {d d' : D} (h : Sm e n d) (h' : Sm e' n' d') : cmpD .eq (.str d.shown) (.str d'.shown) = some (decide (d.shown = d'.shown)) := by
  have k : ∀ {x : Str}, sOk x = true → eqOk (.str x) = true := fun hx => by
    simp only [eqOk, SeqAt.shaped, PyData.canLay0, PyData.depth]
    unfold sOk at hx
    simp [hx]
  simp only [cmpD, k h.ok, k h'.ok, Bool.and_self, if_true, PyData.eqv]
  congr 1
theorem ne_shown {e n e' n' : Nat} {d d' : D} (h : Sm e n d) (h' : Sm e' n' d') : cmpD .ne (.str d.shown) (.str d'.shown) = some (!decide (d.shown = d'.shown)) := by
  have k : ∀ {x : Str}, sOk x = true → eqOk (.str x) = true := fun hx => by
    simp only [eqOk, SeqAt.shaped, PyData.canLay0, PyData.depth]
    unfold sOk at hx
    simp [hx]
  simp only [cmpD, k h.ok, k h'.ok, Bool.and_self, if_true, PyData.eqv]
  congr 1
/-! ### equality of ints in lists -/
theorem lay_ints : ∀ ns : List Int, canLayAll0 (ns.map PyData.int) = true ∧ depthAll (ns.map PyData.int) = 0
  | [] => ⟨rfl, rfl⟩
  | n :: r => by
    obtain ⟨a, b⟩ := lay_ints r
    exact ⟨by simp [canLayAll0, canLay0, a], by simp [depthAll, depth, b]⟩
theorem eqOk_list_ints {ns : List Int} : eqOk (.list (ns.map .int)) = true := by
  obtain ⟨a, b⟩ := lay_ints ns
  simp [eqOk, SeqAt.shaped, canLay0, depth, a, b]
theorem eqOk_tuple_ints {ns : List Int} : eqOk (.tuple (ns.map .int)) = true := by
  obtain ⟨a, b⟩ := lay_ints ns
  simp [eqOk, SeqAt.shaped, canLay0, depth, a, b]
@[simp] theorem eqOk_int {i : Int} : eqOk (.int i) = true := by simp [eqOk, SeqAt.shaped, canLay0, depth]
@[simp] theorem ne_ints_nil {ns : List Int} : cmpD .ne (.list (ns.map .int)) (.list []) = some (!ns.isEmpty) := by
  have h := eqOk_list_ints (ns := ns)
  have h0 : eqOk (.list []) = true := rfl
  simp only [cmpD, h, h0, Bool.and_self, if_true]
  cases ns <;> simp [PyData.eqv, PyData.eqvAll]
theorem eqv_int {i j : Int} : PyData.eqv (.int i) (.int j) = decide (i = j) := by
  simp only [PyData.eqv]; rfl
end RV

set_option maxRecDepth 100000
/-! Ev51: more operations at known data. -/
namespace RV
open PySem PySem.PyData
section
variable {m n k : Nat} {i j : Int} {b c : Bool} {x y : Str} {ds es : List D} {kvs : List (D × D)} {d e : D} {a : A}
theorem pop_last : muD .pop (.list (ds ++ [d])) [] = some (d, .list ds) := by
  simp only [muD, popD]
  rw [show (ds ++ [d]).length - 1 = ds.length by simp]
  simp
theorem app_list (h : ds.length ≤ 1000000) : muD .append (.list ds) [(m, d)] = some (.none, .list (ds ++ [d])) := by
  simp only [muD, appendD]
  rw [if_pos (decide_eq_true (show ds.length < sizeLine by show _ < 2 ^ 24; omega))]
theorem ext_list (h : kidsIm m (.list es) = true) (h1 : own99 m = true) (h2 : ds.length + es.length ≤ 1000000) : muD .extend (.list ds) [(m, .list es)] = some (.none, .list (ds ++ es)) := by
  simp only [muD, extendD]
  rw [h, h1, fitL_of (by omega)]
  rfl
@[simp] theorem sto_list : stoD (.list ds) (.int i) d = (L2.ixN ds.length i).map fun j => .list (ds.set j d) := rfl
theorem mulOk_r (h : j.natAbs < 2 ^ 64) : mulOk i j = true := by
  unfold mulOk
  simp only [Bool.or_eq_true, Bool.and_eq_true, decide_eq_true_eq]
  right
  omega
theorem mulOk_l (h : i.natAbs < 2 ^ 64) : mulOk i j = true := by
  unfold mulOk
  simp only [Bool.or_eq_true, Bool.and_eq_true, decide_eq_true_eq]
  left
  omega
theorem fmod_lt {i j : Int} (h : 0 < j) : 0 ≤ i.fmod j ∧ i.fmod j < j := ⟨Int.fmod_nonneg_of_pos _ h, Int.fmod_lt_of_pos _ h⟩
theorem mulOk_fm {a y c : Int} (h0 : 0 < c) (h : c < 2 ^ 64) : mulOk (a.fmod c) y = true := by
  refine mulOk_l ?_
  have := fmod_lt (i := a) h0
  omega
theorem mul_tup : binD .mul (m, .tuple ds) (n, .int i) = if (decide (-(2 ^ 62) ≤ i) && decide (i ≤ 1000) && decide (ds.length ≤ 1000)) = true then some (.tuple (List.replicate i.toNat ds).flatten) else none := rfl
theorem mul_lst : binD .mul (m, .list ds) (n, .int i) = if (kidsIm m (.list ds) && own99 m && decide (-(2 ^ 62) ≤ i) && decide (i < 2 ^ 62) && fitL (ds.length * i.toNat)) = true then some (.list (List.replicate i.toNat ds).flatten) else none := rfl
theorem enum_len : (enumD ds).length = ds.length := by simp [enumD]
theorem enum_get {i : Nat} : (enumD ds)[i]? = (ds[i]?).map fun x => .tuple [.int i, x] := by simp [enumD]
theorem enum_nil : enumD [] = [] := rfl
theorem enum_app : enumD (ds ++ [d]) = enumD ds ++ [.tuple [.int ds.length, d]] := by simp [enumD, List.mapIdx_append]
theorem enum_mem {x : D} (h : x ∈ enumD ds) : ∃ (i : Nat) (d : D), ds[i]? = some d ∧ x = .tuple [.int i, d] := by
  obtain ⟨i, hi, e⟩ := List.getElem_of_mem h
  have h2 : (enumD ds)[i]? = some x := by rw [List.getElem?_eq_getElem hi, e]
  rw [enum_get] at h2
  cases hd : ds[i]? with
  | none => rw [hd] at h2; cases h2
  | some d => rw [hd] at h2; cases h2; exact ⟨i, d, hd, rfl⟩
/-- a split of a walk by its places -/
theorem enum_split {pre post : List D} {x : D} (h : enumD ds = pre ++ x :: post) : ∃ d, ds[pre.length]? = some d ∧ x = .tuple [.int pre.length, d] := by
  have h2 : (enumD ds)[pre.length]? = some x := by rw [h]; simp
  rw [enum_get] at h2
  cases hd : ds[pre.length]? with
  | none => rw [hd] at h2; cases h2
  | some d => rw [hd] at h2; cases h2; exact ⟨d, rfl, rfl⟩
theorem mem_rng {x : D} {lo : Int} {n : Nat} (h : x ∈ rngD lo n) : ∃ i : Nat, i < n ∧ x = .int (lo + i) := by
  unfold rngD at h
  obtain ⟨i, hi, e⟩ := List.mem_map.mp h
  exact ⟨i, List.mem_range.mp hi, e.symm⟩
theorem rng_len {lo : Int} {n : Nat} : (rngD lo n).length = n := by simp [rngD]
theorem lent_val {os : List Opd} : lent a (.val m d :: os) = lent a os := rfl
/-- a comprehension over typed items -/
theorem vl_fmT {α : Type} {lk : Lks} {turn : D → A → Option (Option D × A)} {Q : List D → A → Prop} (enc : α → D) (g : α → Option D) (xs : List α) (hd : ds = xs.map enc) (hl : holds lk a = true) (step : ∀ x ∈ xs, VTu turn (enc x) a fun o a' => o = g x ∧ a' = a) (done : Q (xs.filterMap g) a) : VL lk turn ds a Q := by
  subst hd
  refine vl_inv (fun r out b => b = a ∧ ∃ pre post, xs = pre ++ post ∧ r = post.map enc ∧ out = pre.filterMap g) ⟨rfl, [], xs, rfl, rfl, rfl⟩ (fun x r out b ⟨hb, pre, post, e1, e2, e3⟩ => ?_) fun out b ⟨hb, pre, post, e1, e2, e3⟩ => ?_
  · cases post with
    | nil => cases e2
    | cons y post =>
      simp only [List.map_cons, List.cons.injEq] at e2
      obtain ⟨rfl, rfl⟩ := e2
      subst hb e3
      obtain ⟨o, a', e, ho, ha⟩ := step y (by rw [e1]; simp)
      subst ho ha
      refine ⟨_, _, e, hl, rfl, pre ++ [y], post, by rw [e1]; simp, rfl, ?_⟩
      rw [List.filterMap_append]
      congr 1
  · cases post with
    | cons _ _ => cases e2
    | nil =>
      rw [List.append_nil] at e1
      subst hb e1 e3
      exact done
theorem vl_mapT {α : Type} {lk : Lks} {turn : D → A → Option (Option D × A)} {Q : List D → A → Prop} (enc : α → D) (g : α → D) (xs : List α) (hd : ds = xs.map enc) (hl : holds lk a = true) (step : ∀ x ∈ xs, VTu turn (enc x) a fun o a' => o = some (g x) ∧ a' = a) (done : Q (xs.map g) a) : VL lk turn ds a Q :=
  vl_fmT enc (fun x => some (g x)) xs hd hl step (by rw [show (xs.filterMap fun x => some (g x)) = xs.map g from by induction xs <;> simp_all]; exact done)
theorem zip_map {α β : Type} {f : α → D} {g : β → D} {xs : List α} {ys : List β} : zipD (xs.map f) (ys.map g) = (xs.zip ys).map fun p => .tuple [f p.1, g p.2] := by
  unfold zipD
  rw [List.zip_map, List.map_map]
  rfl
@[simp] theorem sum_lst {ns : List Int} : biD .sum [(m, .list (ns.map .int))] = some (.int ns.sum) := by
  show (asInts _).map _ = _
  rw [asInts_map]; rfl
@[simp] theorem sum_tup {ns : List Int} : biD .sum [(m, .tuple (ns.map .int))] = some (.int ns.sum) := by
  show (asInts _).map _ = _
  rw [asInts_map]; rfl
@[simp] theorem seqK_l : seqK (.list ds) = 1 := rfl
@[simp] theorem seqK_t : seqK (.tuple ds) = 2 := rfl
theorem me_idx_l {k : Nat} {y : D} : meD .index (m, .list ds) (k, y) = if (eqOk y && eqOk (.list ds) && fitL ds.length) = true then indexD ds y else Option.none := rfl
theorem me_idx_t {k : Nat} {y : D} : meD .index (m, .tuple ds) (k, y) = if (eqOk y && eqOk (.tuple ds) && fitL ds.length) = true then indexD ds y else Option.none := rfl
theorem me_cnt_l {k : Nat} {y : D} : meD .count (m, .list ds) (k, y) = if (eqOk y && eqOk (.list ds) && fitL ds.length) = true then some (.int (ds.countP fun z => PyData.eqv z y)) else Option.none := rfl
theorem me_cnt_t {k : Nat} {y : D} : meD .count (m, .tuple ds) (k, y) = if (eqOk y && eqOk (.tuple ds) && fitL ds.length) = true then some (.int (ds.countP fun z => PyData.eqv z y)) else Option.none := rfl
end
end RV

set_option maxRecDepth 100000
/-! Ev52: rows of ints, worlds; lemmas for laws. -/
namespace RV
open PySem (PyData Str)
section
variable {n m m2 m3 k : Nat} {lk lk2 lk3 : Bool} {d v : D} {lo hi i j : Int} {ds : List D} {a : A} {Q : Opd → A → Prop} {QI : List D → A → Lks → Prop}
def isInt (d : D) : Bool := isKind d "int" && !isKind d "bool"
@[simp] theorem isInt_int : isInt (.int i) = true := rfl
theorem isInt_eq (d : D) (h : isInt d = true) : ∃ i, d = .int i := by
  cases d <;> first | exact ⟨_, rfl⟩ | (exact absurd h (by simp [isInt, isKind]))
def wholeB (d : D) (lo hi : Int) : Bool := match d with
  | .int i => decide (lo ≤ i) && decide (i ≤ hi)
  | _ => false
theorem whole_no (h : isInt d = false) : wholeB d lo hi = false := by
  cases d <;> first | rfl | (exact absurd h (by simp [isInt, isKind]))
theorem whole_int (h : wholeB d lo hi = true) : ∃ i, d = .int i ∧ lo ≤ i ∧ i ≤ hi := by
  cases d <;> first | (simp [wholeB] at h; done) | skip
  simp [wholeB] at h
  exact ⟨_, rfl, h.1, h.2⟩
/-! rows -/
def rowD (r : List Int) : D := .tuple (r.map .int)
def wD (rows : List (List Int)) : D := .tuple (rows.map rowD)
def tysD (ty : List (List (List Int))) : D := .tuple (ty.map wD)
def worldD (m : Int) (ty : List (List (List Int))) : D := .tuple [.int m, tysD ty]
@[simp] theorem zsl_row {r : List Int} : ZSl k ⟨m, lk, rowD r⟩ a QI ↔ QI (r.map .int) a [] := Iff.rfl
@[simp] theorem zsl_w {r : List (List Int)} : ZSl k ⟨m, lk, wD r⟩ a QI ↔ QI (r.map rowD) a [] := Iff.rfl
@[simp] theorem zsl_tys {r : List (List (List Int))} : ZSl k ⟨m, lk, tysD r⟩ a QI ↔ QI (r.map wD) a [] := Iff.rfl
@[simp] theorem zw_row {r : List Int} : VW (.val m (rowD r)) a QI ↔ QI (r.map .int) a [] := ww_tup
@[simp] theorem zw_w {r : List (List Int)} : VW (.val m (wD r)) a QI ↔ QI (r.map rowD) a [] := ww_tup
@[simp] theorem zw_tys {r : List (List (List Int))} : VW (.val m (tysD r)) a QI ↔ QI (r.map wD) a [] := ww_tup
@[simp] theorem flat_row {r : List Int} : flat (rowD r) = true := rfl
@[simp] theorem flat_w {r : List (List Int)} : flat (wD r) = true := rfl
@[simp] theorem flat_tys {r : List (List (List Int))} : flat (tysD r) = true := rfl
@[simp] theorem flat_world {r : List (List (List Int))} : flat (worldD i r) = true := rfl
@[simp] theorem vtm_row {r : List Int} : VTm k m2 ⟨m, lk, rowD r⟩ a Q ↔ Q (.val m2 (rowD r)) a := vtm_flat rfl
@[simp] theorem vtm_w {r : List (List Int)} : VTm k m2 ⟨m, lk, wD r⟩ a Q ↔ Q (.val m2 (wD r)) a := vtm_flat rfl
@[simp] theorem vtm_tys {r : List (List (List Int))} : VTm k m2 ⟨m, lk, tysD r⟩ a Q ↔ Q (.val m2 (tysD r)) a := vtm_flat rfl
@[simp] theorem vtm_world {r : List (List (List Int))} : VTm k m2 ⟨m, lk, worldD i r⟩ a Q ↔ Q (.val m2 (worldD i r)) a := vtm_flat rfl
@[simp] theorem okRes_row {f : Bool} {r : List Int} : okRes f m (rowD r) = true := rfl
@[simp] theorem okRes_w {f : Bool} {r : List (List Int)} : okRes f m (wD r) = true := rfl
@[simp] theorem okRes_tys {f : Bool} {r : List (List (List Int))} : okRes f m (tysD r) = true := rfl
@[simp] theorem okRes_world {f : Bool} {r : List (List (List Int))} : okRes f m (worldD i r) = true := rfl
@[simp] theorem idx_row {r : List Int} : idxD (rowD r) (.int i) = L2.atI (r.map PyData.int) i := rfl
@[simp] theorem idx_w {r : List (List Int)} : idxD (wD r) (.int i) = L2.atI (r.map rowD) i := rfl
@[simp] theorem idx_tys {r : List (List (List Int))} : idxD (tysD r) (.int i) = L2.atI (r.map wD) i := rfl
@[simp] theorem idx_world0 {r : List (List (List Int))} : idxD (worldD i r) (.int 0) = some (.int i) := rfl
@[simp] theorem idx_world1 {r : List (List (List Int))} : idxD (worldD i r) (.int 1) = some (tysD r) := rfl
@[simp] theorem len_row {r : List Int} : biD .len [(m, rowD r)] = some (.int r.length) := by
  show some (PyData.int _) = _
  simp
@[simp] theorem len_w {r : List (List Int)} : biD .len [(m, wD r)] = some (.int r.length) := by
  show some (PyData.int _) = _
  simp
@[simp] theorem len_tys {r : List (List (List Int))} : biD .len [(m, tysD r)] = some (.int r.length) := by
  show some (PyData.int _) = _
  simp
theorem add_rows {r s : List Int} : binD .add (m, rowD r) (n, rowD s) = if fitL (r.length + s.length) = true then some (rowD (r ++ s)) else none := by
  show (if fitL ((r.map PyData.int).length + (s.map PyData.int).length) then some (PyData.tuple (r.map .int ++ s.map .int)) else none) = _
  simp [rowD]
theorem add_row1 {r : List Int} (h : r.length ≤ 1000000) : binD .add (m, rowD r) (n, .tuple [.int i]) = some (rowD (r ++ [i])) := by
  show binD .add (m, .tuple _) _ = _
  rw [add_tup, if_pos (fitL_of (by simp; omega))]
  simp [rowD]
theorem row_of {r : List Int} : PyData.tuple (r.map .int) = rowD r := rfl
theorem w_of {r : List (List Int)} : PyData.tuple (r.map rowD) = wD r := rfl
theorem tys_of {r : List (List (List Int))} : PyData.tuple (r.map wD) = tysD r := rfl
theorem world_of {r : List (List (List Int))} : PyData.tuple [.int i, tysD r] = worldD i r := rfl
theorem eqOk_row {r : List Int} : eqOk (rowD r) = true := eqOk_tuple_ints
theorem lay_rows : ∀ rs : List (List Int), PyData.canLayAll0 (rs.map rowD) = true ∧ PyData.depthAll (rs.map rowD) ≤ 1
  | [] => ⟨rfl, by simp [PyData.depthAll]⟩
  | r :: rs => by
    obtain ⟨x, y⟩ := lay_rows rs
    obtain ⟨z, w⟩ := lay_ints r
    refine ⟨by simp [PyData.canLayAll0, PyData.canLay0, rowD, z, x], ?_⟩
    simp only [List.map_cons, PyData.depthAll, rowD, PyData.depth, w]
    omega
theorem eqOk_list_rows {rs : List (List Int)} : eqOk (.list (rs.map rowD)) = true := by
  obtain ⟨x, y⟩ := lay_rows rs
  simp [eqOk, PySem.SeqAt.shaped, PyData.canLay0, PyData.depth, x]
  omega
theorem eqOk_w {rs : List (List Int)} : eqOk (wD rs) = true := by
  obtain ⟨x, y⟩ := lay_rows rs
  simp [wD, eqOk, PySem.SeqAt.shaped, PyData.canLay0, PyData.depth, x]
  omega
theorem notin_rows {r : List Int} {rs : List (List Int)} : cmpD .notin (rowD r) (.list (rs.map rowD)) = some (!((rs.map rowD).any fun z => PyData.eqv z (rowD r))) := by
  show (inD _ _).map _ = _
  unfold inD
  simp only [eqOk_row, eqOk_list_rows, Bool.and_self, if_true, Option.map_some]
/-! sorted rows -/
def leR (x y : List Int) : Bool := !PySem.W.dataLt (rowD y) (rowD x)
def sortR (rs : List (List Int)) : List (List Int) := rs.mergeSort leR
theorem sortR_perm (rs : List (List Int)) : (sortR rs).Perm rs := List.mergeSort_perm _ _
theorem alike_ints : ∀ (r s : List Int), PySem.W.alikeAll (r.map PyData.int) (s.map PyData.int) = true
  | [], _ => by simp [PySem.W.alikeAll]
  | _ :: _, [] => by simp [PySem.W.alikeAll]
  | x :: r, y :: s => by simp [PySem.W.alikeAll, PySem.W.alike, alike_ints r s]
theorem tups_rows : ∀ {rs : List (List Int)}, (∀ r ∈ rs, r ≠ []) → tupsOk (rs.map rowD) = true
  | [], _ => rfl
  | r :: rs, h => by
    cases r with
    | nil => exact absurd rfl (h [] (by simp))
    | cons x r =>
      have hd : PyData.depth (.tuple (.int x :: r.map .int)) = 1 := by
        have := (lay_ints (x :: r)).2
        simp only [List.map_cons] at this
        simp [PyData.depth, this]
      simp only [List.map_cons, tupsOk, rowD, hd, Bool.and_eq_true, true_and]
      exact ⟨by decide, tups_rows fun z hz => h z (by simp [hz])⟩
theorem sorted_rows {rs : List (List Int)} (h : ∀ r ∈ rs, r ≠ []) (hm : m ≠ 99) : biD .sorted [(m, .list (rs.map rowD))] = some (.list ((sortR rs).map rowD)) := by
  have hk : kidsIm m (.list (rs.map rowD)) = true := by simp [kidsIm, kidsFlat]
  have ha : allAlike (rs.map rowD) = true := by
    unfold allAlike
    simp only [List.all_map, List.all_eq_true, Function.comp]
    intro x _ y _
    simp only [rowD, PySem.W.alike]
    exact alike_ints x y
  have hs : sortOk (rs.map rowD) = true := by
    unfold sortOk
    rw [tups_rows h, ha]
    simp
  show (if kidsIm m (.list (rs.map rowD)) && own99 m then (sortD (rs.map rowD)).map PyData.list else none) = _
  rw [hk, show own99 m = true by simp [own99, hm]]
  simp only [Bool.and_self, if_true, sortD, hs, Option.map_some]
  congr 2
  unfold sortR
  exact (List.map_mergeSort (f := rowD) (fun a _ b _ => rfl)).symm
/-! slices -/
theorem cutTo {c : Nat} : cutD ds none (some (c : Int)) = ds.take c := by
  unfold cutD
  simp only [HT.sIx_none, HT.sIx_nat, List.drop_zero, Nat.sub_zero]
  by_cases h : c ≤ ds.length
  · rw [Nat.min_eq_left h]
  · rw [Nat.min_eq_right (by omega), List.take_of_length_le (Nat.le_refl _), List.take_of_length_le (by omega)]
theorem slc_to {c : Nat} : slcD (m, .tuple ds) none (some (c : Int)) = some (.tuple (ds.take c)) := by
  show some (PyData.tuple (cutD _ _ _)) = _
  rw [cutTo]
theorem slc_from {c : Nat} : slcD (m, .tuple ds) (some (c : Int)) none = some (.tuple (ds.drop c)) := by
  show some (PyData.tuple (cutD _ _ _)) = _
  rw [cut_from]
theorem slc_mid {b c : Nat} : slcD (m, .tuple ds) (some (b : Int)) (some (c : Int)) = some (.tuple ((ds.drop b).take (c - b))) := by
  show some (PyData.tuple (cutD _ _ _)) = _
  congr 2
  unfold cutD
  simp only [HT.sIx_nat]
  by_cases hb : b ≤ ds.length
  · rw [Nat.min_eq_left hb]
    by_cases hc : c ≤ ds.length
    · rw [Nat.min_eq_left hc]
    · rw [Nat.min_eq_right (by omega), List.take_of_length_le (by simp), List.take_of_length_le (by simp; omega)]
  · rw [List.drop_of_length_le (l := ds) (i := b) (by omega), List.drop_of_length_le (l := ds) (i := min b ds.length) (by omega)]
    simp
theorem slc_w {t : List (List Int)} {c : Nat} : slcD (m, wD t) none (some (c : Int)) = some (wD (t.take c)) := by
  show slcD (m, .tuple _) _ _ = _
  rw [slc_to, ← List.map_take]
  rfl
theorem slc_row {t : List Int} {c : Nat} : slcD (m, rowD t) none (some (c : Int)) = some (rowD (t.take c)) := by
  show slcD (m, .tuple _) _ _ = _
  rw [slc_to, ← List.map_take]
  rfl
theorem slc_rowf {t : List Int} {c : Nat} : slcD (m, rowD t) (some (c : Int)) none = some (rowD (t.drop c)) := by
  show slcD (m, .tuple _) _ _ = _
  rw [slc_from, ← List.map_drop]
  rfl
theorem sto_ln {k : Nat} (h : k < ds.length) : stoD (.list ds) (.int (k : Int)) d = some (.list (ds.set k d)) := by
  show (L2.ixN _ _).map _ = _
  simp [L2.ixN, h]
theorem max_nat {p q : Nat} : (if (p : Int) < (q : Int) then (q : Int) else (p : Int)) = ((max p q : Nat) : Int) := by
  split <;> omega
theorem max1_nat {q : Nat} : (if 1 < (q : Int) then (q : Int) else 1) = ((max 1 q : Nat) : Int) := by
  split <;> omega
theorem min_nat {p q : Nat} : (if (q : Int) < (p : Int) then (q : Int) else (p : Int)) = ((min p q : Nat) : Int) := by
  split <;> omega
/-! small things -/
theorem kids_ints {ns : List Int} : kidsIm m (.list (ns.map .int)) = true := by simp [kidsIm, kidsFlat]
theorem kids_rows {ns : List (List Int)} : kidsIm m (.list (ns.map rowD)) = true := by simp [kidsIm, kidsFlat]
theorem kids_ws {ns : List (List (List Int))} : kidsIm m (.list (ns.map wD)) = true := by simp [kidsIm, kidsFlat]
theorem drop_cons {l r : List D} {x : D} (h : x :: r = l.drop k) : l[k]? = some x ∧ r = l.drop (k + 1) := by
  refine ⟨?_, by rw [← List.drop_drop, ← h]; rfl⟩
  have : (l.drop k)[0]? = some x := by rw [← h]; rfl
  rw [List.getElem?_drop] at this
  exact this
theorem ixN_last (h : 0 < k) : L2.ixN k (-1) = some (k - 1) := by
  unfold L2.ixN
  rw [if_neg (by omega), if_pos (by omega)]
  congr 1
  omega
theorem rng_ints {lo : Int} {k : Nat} : ∀ x ∈ rngD lo k, ∃ i, x = .int i := fun x hx => by
  obtain ⟨i, _, rfl⟩ := mem_rng hx; exact ⟨_, rfl⟩
@[simp] theorem rngOk_nat {k : Nat} : rngOk (k : Int) = true ↔ (k : Int) < 2 ^ 62 := by
  unfold rngOk; simp
theorem rngOk_of {i : Int} (h0 : 0 ≤ i) (h : i < 2 ^ 62) : rngOk i = true := by
  unfold rngOk; simp; omega
theorem ints_of {P : Int → Prop} : ∀ {ds : List D}, (∀ d ∈ ds, ∃ i, d = .int i ∧ P i) → ∃ ts : List Int, ds = ts.map .int ∧ ∀ t ∈ ts, P t
  | [], _ => ⟨[], rfl, by simp⟩
  | d :: r, h => by
    obtain ⟨i, rfl, hi⟩ := h d (by simp)
    obtain ⟨ts, rfl, ht⟩ := ints_of (ds := r) fun x hx => h x (by simp [hx])
    exact ⟨i :: ts, rfl, by simp [hi]; exact ht⟩
end
section
variable {fn : Fn} {a : A} {Q : Opd → A → Prop} {es : Es} {am i : Nat} {wt : Wt}
theorem ze_mu_app : VE (ev fn (.mu .append am i .none es) wt) a Q ↔ lstAt a i = true ∧ VAs (evs fn es (.tk am)) a fun os a1 => ZMu .append am i wt os a1 Q := ze_mu
theorem ze_mu_ext : VE (ev fn (.mu .extend am i .none es) wt) a Q ↔ lstAt a i = true ∧ VAs (evs fn es .br) a fun os a1 => ZMu .extend am i wt os a1 Q := ze_mu
theorem ze_mu_pop : VE (ev fn (.mu .pop am i .none es) wt) a Q ↔ lstAt a i = true ∧ VAs (evs fn es .br) a fun os a1 => ZMu .pop am i wt os a1 Q := ze_mu
theorem ze_mu_popat : VE (ev fn (.mu .popAt am i .none es) wt) a Q ↔ lstAt a i = true ∧ VAs (evs fn es .br) a fun os a1 => ZMu .popAt am i wt os a1 Q := ze_mu
theorem ze_mu_ins : VE (ev fn (.mu .insert am i .none es) wt) a Q ↔ lstAt a i = true ∧ VAs (evs fn es .br) a fun os a1 => ZMu .insert am i wt os a1 Q := ze_mu
end
/-- the first bad one, what is carried hanging on what is past -/
theorem vf_findP {tg : Tg} {lk : Lks} {body : RSt} {QS : Fl → A → Prop} {a : A} (bad : D → Option D) (J : List D → A → Prop) (K : A → Prop) {ds : List D} (h0 : J [] a)
    (step : ∀ pre x post b, ds = pre ++ x :: post → (∀ y ∈ pre, bad y = none) → J pre b → ∃ b1, bindT tg x b = some b1 ∧ VS body b1 fun fl b2 => match bad x with
      | some d => fl = .rt d ∧ K b2
      | none => (fl = .nx ∨ fl = .ct) ∧ holds lk b2 = true ∧ J (pre ++ [x]) b2)
    (done : ∀ b, J ds b → (∀ x ∈ ds, bad x = none) → QS .nx b) (ret : ∀ b d, K b → ds.findSome? bad = some d → QS (.rt d) b) : VS (forLoop tg lk body ds) a QS := by
  refine vf_inv (fun r b => ∃ pre, ds = pre ++ r ∧ (∀ y ∈ pre, bad y = none) ∧ J pre b) ⟨[], rfl, by simp, h0⟩ (fun x r b ⟨pre, e, hp, hj⟩ => ?_) fun b ⟨pre, e, hp, hj⟩ => ?_
  · obtain ⟨b1, h1, h2⟩ := step pre x r b e hp hj
    refine ⟨b1, h1, h2.mono fun fl b2 h => ?_⟩
    cases hx : bad x with
    | some d =>
      rw [hx] at h
      obtain ⟨rfl, hk⟩ := h
      refine ret b2 d hk ?_
      rw [e, List.findSome?_append, List.findSome?_eq_none_iff.mpr hp]
      simp [hx]
    | none =>
      rw [hx] at h
      obtain ⟨hf, hl, hj⟩ := h
      have hI : ∃ p, ds = p ++ r ∧ (∀ y ∈ p, bad y = none) ∧ J p b2 := ⟨pre ++ [x], by rw [e]; simp, fun y hy => by
        rcases List.mem_append.mp hy with z | z
        · exact hp y z
        · simp at z; subst z; exact hx, hj⟩
      rcases hf with rfl | rfl
      · exact ⟨hl, hI⟩
      · exact ⟨hl, hI⟩
  · rw [List.append_nil] at e
    subst e
    exact done b hj hp
/-! all rows of places -/
def stepS (rows : List (List Int)) (c : Int) : List (List Int) := rows.flatMap fun row => (List.range c.toNat).map fun (k : Nat) => row ++ [(k : Int)]
def sendL (cs : List Int) : List (List Int) := cs.foldl stepS [[]]
theorem sendL_app (cs : List Int) (c : Int) : sendL (cs ++ [c]) = stepS (sendL cs) c := by simp [sendL]
theorem stepS_len {rows : List (List Int)} {c : Int} : (stepS rows c).length = rows.length * c.toNat := by
  unfold stepS
  induction rows with
  | nil => simp
  | cons r rs ih => simp [List.flatMap_cons, ih, Nat.add_mul, Nat.add_comm]
theorem stepS_row {rows : List (List Int)} {c : Int} {k : Nat} (h : ∀ r ∈ rows, r.length = k) : ∀ r ∈ stepS rows c, r.length = k + 1 := by
  intro r hr
  unfold stepS at hr
  obtain ⟨x, hx, hr⟩ := List.mem_flatMap.mp hr
  obtain ⟨i, _, rfl⟩ := List.mem_map.mp hr
  simp [h x hx]
theorem snoc_ind {α : Type} {P : List α → Prop} (h0 : P []) (h1 : ∀ l a, P l → P (l ++ [a])) (l : List α) : P l := by
  have h : ∀ r : List α, P r.reverse := fun r => by
    induction r with
    | nil => simpa using h0
    | cons a r ih => simpa using h1 _ a ih
  simpa using h l.reverse
theorem sendL_row : ∀ (cs : List Int), ∀ r ∈ sendL cs, r.length = cs.length := by
  refine snoc_ind (by simp [sendL]) fun cs c ih => ?_
  · rw [sendL_app]
    intro r hr
    rw [stepS_row ih r hr]
    simp
theorem sendL_len (B : Nat) : ∀ (cs : List Int), (∀ c ∈ cs, c ≤ B) → (sendL cs).length ≤ B ^ cs.length := by
  refine snoc_ind (by simp [sendL]) fun cs c ih => ?_
  · intro h
    rw [sendL_app, stepS_len]
    have h1 := ih fun z hz => h z (by simp [hz])
    have h2 := h c (by simp)
    simp only [List.length_append, List.length_cons, List.length_nil, Nat.zero_add, Nat.pow_succ]
    exact Nat.mul_le_mul h1 (by omega)
end RV

set_option maxRecDepth 100000
/-! Ev53: places of profiles. -/
namespace RV
open PySem (PyData Str)
def lensI (ty : List (List (List Int))) : List Int := ty.map fun t => (t.length : Int)
def prodI0 (cs : List Int) : Int := cs.foldl (fun n c => n * c) 1
theorem prodI0_app (cs : List Int) (c : Int) : prodI0 (cs ++ [c]) = prodI0 cs * c := by simp [prodI0]
theorem prodI0_pos : ∀ (cs : List Int), (∀ c ∈ cs, 1 ≤ c) → 1 ≤ prodI0 cs := by
  refine snoc_ind (by simp [prodI0]) fun cs c ih h => ?_
  have a := ih fun z hz => h z (by simp [hz])
  have hc := h c (by simp)
  rw [prodI0_app]
  have := Int.mul_le_mul a hc (by omega) (by omega)
  omega
theorem prodI0_take : ∀ (cs : List Int), (∀ c ∈ cs, 1 ≤ c) → ∀ k, prodI0 (cs.take k) ≤ prodI0 cs := by
  refine snoc_ind (by simp [prodI0]) fun cs c ih h k => ?_
  have hc := h c (by simp)
  have hp := prodI0_pos cs fun z hz => h z (by simp [hz])
  have hm : prodI0 cs ≤ prodI0 cs * c := by
    have := Int.mul_le_mul_of_nonneg_left hc (show 0 ≤ prodI0 cs by omega)
    omega
  by_cases hk : k ≤ cs.length
  · rw [List.take_append_of_le_length hk, prodI0_app]
    exact Int.le_trans (ih (fun z hz => h z (by simp [hz])) k) hm
  · rw [List.take_of_length_le (by simp; omega)]
    exact Int.le_refl _
theorem sendL_prod0 : ∀ (cs : List Int), (∀ c ∈ cs, 1 ≤ c) → ((sendL cs).length : Int) = prodI0 cs := by
  refine snoc_ind (by simp [sendL, prodI0]) fun cs c ih h => ?_
  have h1 := ih fun z hz => h z (by simp [hz])
  have hc := h c (by simp)
  rw [sendL_app, stepS_len, prodI0_app, ← h1]
  obtain ⟨k, rfl⟩ := Int.eq_ofNat_of_zero_le (show 0 ≤ c by omega)
  simp
theorem sendL_small {cs : List Int} {B : Nat} (h : ∀ c ∈ cs, 1 ≤ c) (hB : prodI0 cs ≤ B) (k : Nat) : (sendL (cs.take k)).length ≤ B := by
  have h1 := sendL_prod0 (cs.take k) fun c hc => h c (List.mem_of_mem_take hc)
  have h2 := prodI0_take cs h k
  omega
def numI (ps : List (Int × Int)) : Int := ps.foldl (fun n p => n * p.1 + p.2) 0
theorem numI_app (ps : List (Int × Int)) (p : Int × Int) : numI (ps ++ [p]) = numI ps * p.1 + p.2 := by simp [numI]
theorem send_num0 : ∀ (cs : List Int), (∀ c ∈ cs, 1 ≤ c) → ∀ s ∈ sendL cs, s.length = cs.length ∧ (∀ p ∈ cs.zip s, 1 ≤ p.1 ∧ 0 ≤ p.2 ∧ p.2 < p.1) ∧ 0 ≤ numI (cs.zip s) ∧ numI (cs.zip s) < prodI0 cs := by
  refine snoc_ind (fun _ s hs => ?_) fun cs c ih h s hs => ?_
  · simp [sendL] at hs
    subst hs
    simp [numI, prodI0]
  · rw [sendL_app] at hs
    unfold stepS at hs
    obtain ⟨row, hrow, hs⟩ := List.mem_flatMap.mp hs
    obtain ⟨t, ht, rfl⟩ := List.mem_map.mp hs
    have ht := List.mem_range.mp ht
    obtain ⟨a1, a2, a3, a4⟩ := ih (fun z hz => h z (by simp [hz])) row hrow
    have hc := h c (by simp)
    have hz : (cs ++ [c]).zip (row ++ [(t : Int)]) = cs.zip row ++ [(c, (t : Int))] := by
      rw [List.zip_append a1.symm]
      rfl
    refine ⟨by simp [a1], ?_, ?_⟩
    · rw [hz]
      intro p hp
      rcases List.mem_append.mp hp with hp | hp
      · exact a2 p hp
      · simp at hp; subst hp; exact ⟨hc, by simp, by simp; omega⟩
    · rw [hz, prodI0_app, numI_app]
      dsimp only
      have h1 : 0 ≤ numI (cs.zip row) * c := Int.mul_nonneg a3 (by omega)
      have h2 : (numI (cs.zip row) + 1) * c ≤ prodI0 cs * c := Int.mul_le_mul_of_nonneg_right (by omega) (by omega)
      rw [Int.add_mul] at h2
      omega
theorem stepS_get : ∀ {rows : List (List Int)} {c k : Nat} {s : List Int}, (stepS rows c)[k]? = some s → ∃ (row : List Int), 0 < c ∧ rows[k / c]? = some row ∧ s = row ++ [((k % c : Nat) : Int)]
  | [], c, k, s, h => by simp [stepS] at h
  | r :: rows, c, k, s, h => by
    have e : stepS (r :: rows) c = ((List.range c).map fun (t : Nat) => r ++ [(t : Int)]) ++ stepS rows c := by simp [stepS]
    rw [e] at h
    by_cases hk : k < c
    · rw [List.getElem?_append_left (by simpa using hk)] at h
      rw [List.getElem?_map, List.getElem?_eq_getElem (by simpa using hk)] at h
      simp at h
      exact ⟨r, by omega, by rw [Nat.div_eq_of_lt hk]; rfl, by rw [Nat.mod_eq_of_lt hk]; exact h.symm⟩
    · rw [List.getElem?_append_right (by simpa using hk)] at h
      simp at h
      obtain ⟨row, h0, h1, h2⟩ := stepS_get h
      refine ⟨row, h0, ?_, ?_⟩
      · have : k / c = (k - c) / c + 1 := by
          rw [Nat.div_eq k c, if_pos ⟨h0, by omega⟩]
        rw [this]
        exact h1
      · rw [h2, Nat.mod_eq_sub_mod (a := k) (b := c) (by omega)]
theorem send_at0 : ∀ (cs : List Int), (∀ c ∈ cs, 1 ≤ c) → ∀ (k : Nat) s, (sendL cs)[k]? = some s → numI (cs.zip s) = k := by
  refine snoc_ind (fun _ k s hs => ?_) fun cs c ih h k s hs => ?_
  · cases k with
    | zero => simp [sendL] at hs; subst hs; simp [numI]
    | succ k => simp [sendL] at hs
  · rw [sendL_app] at hs
    have hc := h c (by simp)
    obtain ⟨c', rfl⟩ := Int.eq_ofNat_of_zero_le (show 0 ≤ c by omega)
    obtain ⟨row, h0, h1, rfl⟩ := stepS_get hs
    have hl : cs.length = row.length := (sendL_row cs row (List.mem_of_getElem? h1)).symm
    rw [List.zip_append hl, List.zip_cons_cons, List.zip_nil_left, numI_app, ih (fun z hz => h z (by simp [hz])) _ _ h1]
    simp only
    have := Nat.div_add_mod k c'
    rw [Nat.mul_comm] at this
    exact_mod_cast this
theorem numI_small : ∀ (ps : List (Int × Int)), (∀ p ∈ ps, 1 ≤ p.1 ∧ 0 ≤ p.2 ∧ p.2 < p.1) → 0 ≤ numI ps ∧ numI ps < prodI0 (ps.map (·.1)) := by
  refine snoc_ind (by simp [numI, prodI0]) fun ps p ih h => ?_
  obtain ⟨a, b⟩ := ih fun z hz => h z (by simp [hz])
  obtain ⟨p1, p3, p4⟩ := h p (by simp)
  rw [numI_app, List.map_append]
  simp only [List.map_cons, List.map_nil]
  rw [prodI0_app]
  have h1 : 0 ≤ numI ps * p.1 := Int.mul_nonneg a (by omega)
  have h2 : (numI ps + 1) * p.1 ≤ prodI0 (ps.map (·.1)) * p.1 := Int.mul_le_mul_of_nonneg_right (by omega) (by omega)
  rw [Int.add_mul] at h2
  omega
end RV

set_option maxRecDepth 100000
/-! Ev54: loops told by what they change. -/
namespace RV
open PySem
/-- a with some slots changed -/
def upd (a : A) : List (Nat × Sl) → A
  | [] => a
  | p :: r => upd (a.set p.1 (some p.2)) r
/-- a slot that a comprehension may take -/
def fineB : Option Sl → Bool
  | some s => (flat s.d || decide (s.m = 0)) && !s.lk
  | none => true
abbrev Fine := { x : Option Sl // fineB x = true }
theorem ownFine_eq {a : A} {vs : List Nat} : ownFine a vs = vs.all fun v => fineB ((a[v]?).getD none) := by
  unfold ownFine
  congr 1
  funext v
  cases h : a[v]? with
  | none => rfl
  | some x => cases x <;> rfl
theorem fine_0 {d : D} : fineB (some ⟨0, false, d⟩) = true := by simp [fineB]
theorem fine_flat {m : Nat} {d : D} (h : flat d = true) : fineB (some ⟨m, false, d⟩) = true := by simp [fineB, h]
theorem fine_int {m : Nat} {i : Int} : fineB (some ⟨m, false, .int i⟩) = true := rfl
theorem fine_tup {m : Nat} {i : List D} : fineB (some ⟨m, false, .tuple i⟩) = true := rfl
theorem fine_none : fineB none = true := rfl
theorem fine_g {x : Fine} : fineB x.1 = true := x.2
/-- junk slots are open: fine ones, and (told by 1000 more) any -/
def mask (js : List Nat) (g : Nat → Fine) (w : Nat → Option Sl) : Nat → A → A
  | _, [] => []
  | i, x :: r => (if js.contains i = true then (g i).1 else if js.contains (i + 1000) = true then w i else x) :: mask js g w (i + 1) r
/-- alike but for junk -/
def Agr (js : List Nat) : Nat → A → A → Prop
  | _, [], [] => True
  | i, x :: b, y :: c => (if js.contains i = true then fineB x = true else js.contains (i + 1000) = true ∨ x = y) ∧ Agr js (i + 1) b c
  | _, [], _ :: _ => False
  | _, _ :: _, [] => False
/-- the junk slots are fine -/
def fines (js : List Nat) : Nat → A → Bool
  | _, [] => true
  | i, x :: a => (!js.contains i || fineB x) && fines js (i + 1) a
section
variable {js : List Nat} {g : Nat → Fine} {w : Nat → Option Sl} {i : Nat} {x y : Option Sl} {a b c : A} {p : Nat × Sl} {ps : List (Nat × Sl)}
theorem upd_nil : upd a [] = a := rfl
theorem upd_cons : upd a (p :: ps) = upd (a.set p.1 (some p.2)) ps := rfl
theorem mask_nil : mask js g w i [] = [] := rfl
theorem mask_cons : mask js g w i (x :: a) = (if js.contains i = true then (g i).1 else if js.contains (i + 1000) = true then w i else x) :: mask js g w (i + 1) a := rfl
theorem agr_nil : Agr js i [] [] ↔ True := Iff.rfl
theorem agr_cons : Agr js i (x :: b) (y :: c) ↔ (if js.contains i = true then fineB x = true else js.contains (i + 1000) = true ∨ x = y) ∧ Agr js (i + 1) b c := Iff.rfl
theorem fines_nil : fines js i [] = true := rfl
theorem fines_cons : fines js i (x :: a) = ((!js.contains i || fineB x) && fines js (i + 1) a) := rfl
theorem agr_mask : ∀ {b c : A} {i : Nat}, Agr js i b c → ∃ g w, b = mask js g w i c
  | [], [], i, _ => ⟨fun _ => ⟨none, rfl⟩, fun _ => none, rfl⟩
  | [], _ :: _, i, h => h.elim
  | _ :: _, [], i, h => h.elim
  | x :: b, y :: c, i, ⟨h1, h2⟩ => by
    obtain ⟨g, w, hg⟩ := agr_mask h2
    have ext : ∀ {c : A} {k : Nat} {g' : Nat → Fine} {w' : Nat → Option Sl}, (∀ j, k ≤ j → g' j = g j) → (∀ j, k ≤ j → w' j = w j) → mask js g' w' k c = mask js g w k c := by
      intro c
      induction c with
      | nil => intros; rfl
      | cons z c ih =>
        intro k g' w' h h'
        rw [mask_cons, mask_cons, h k (Nat.le_refl _), h' k (Nat.le_refl _), ih (fun j hj => h j (by omega)) fun j hj => h' j (by omega)]
    by_cases hc : js.contains i = true
    · rw [if_pos hc] at h1
      refine ⟨fun j => if j = i then ⟨x, h1⟩ else g j, w, ?_⟩
      rw [mask_cons, if_pos hc, ext (fun j hj => by rw [if_neg (by omega)]) fun _ _ => rfl, ← hg]
      simp
    · rw [if_neg hc] at h1
      refine ⟨g, fun j => if j = i then x else w j, ?_⟩
      rw [mask_cons, if_neg hc, ext (fun _ _ => rfl) (fun j hj => by rw [if_neg (by omega)]), ← hg]
      by_cases hd : js.contains (i + 1000) = true
      · rw [if_pos hd]; simp
      · rw [if_neg hd]
        rcases h1 with h | h
        · exact absurd h hd
        · rw [h]
theorem agr_refl : ∀ {a : A} {i : Nat}, fines js i a = true → Agr js i a a
  | [], _, _ => trivial
  | x :: a, i, h => by
    rw [fines_cons, Bool.and_eq_true] at h
    refine ⟨?_, agr_refl h.2⟩
    by_cases hc : js.contains i = true
    · rw [if_pos hc]
      have := h.1
      rw [hc] at this
      simpa using this
    · rw [if_neg hc]; exact .inr rfl
theorem agr_of (h : a = b) (hf : fines js i a = true) : Agr js i a b := by rw [← h]; exact agr_refl hf
end
section
variable {α σ : Type} {tg : Tg} {lk : Lks} {body : RSt} {QS : Fl → A → Prop} {a : A} {ds : List D}
/-- the end of a turn -/
def StEnd (js : List Nat) (a : A) (ch : σ → List (Nat × Sl)) (I : σ → Prop) [Mk a] [Mk ch] [Mk I] (b : A) : Prop := ∃ s', I s' ∧ Agr js 0 b (upd a (ch s'))
def DrEnd {β : Type} (a : A) (ch : σ → List (Nat × Sl)) (encB : β → D) (P : β → Prop) [Mk a] [Mk ch] [Mk encB] [Mk P] (o : Option D) (b : A) : Prop := ∃ y s', o = some (encB y) ∧ P y ∧ b = upd a (ch s')
def LsEnd (a : A) (ch : σ → List (Nat × Sl)) (I : List D → σ → Prop) (out : List D) [Mk a] [Mk ch] [Mk I] [Mk out] (o : Option D) (b : A) : Prop := ∃ s', I (out ++ o.toList) s' ∧ b = upd a (ch s')
/-- a loop: what it has changed after the items pre, but for junk -/
theorem vf_st (enc : α → D) (xs : List α) (js : List Nat) (ch : σ → List (Nat × Sl)) (I : List α → σ → Prop) (hd : ds = xs.map enc) (s0 : σ) (h0 : I [] s0) (ha : Agr js 0 a (upd a (ch s0)))
    (step : ∀ pre x post s g w, xs = pre ++ x :: post → I pre s → KV (bindT tg (enc x) (mask js g w 0 (upd a (ch s)))) fun a1 => VS body a1 (VU (StEnd js a ch (I (pre ++ [x]))) lk QS))
    (done : ∀ s g w, I xs s → QS .nx (mask js g w 0 (upd a (ch s)))) : VS (forLoop tg lk body ds) a QS := by
  refine vf_inv (fun r b => ∃ pre post s, xs = pre ++ post ∧ r = post.map enc ∧ I pre s ∧ Agr js 0 b (upd a (ch s))) ?_ ?_ ?_
  · exact ⟨[], xs, s0, rfl, hd, h0, ha⟩
  · rintro x r b ⟨pre, post, s, e, hr, hI, hb⟩
    cases post with
    | nil => cases hr
    | cons y post =>
      cases hr
      obtain ⟨g, w, rfl⟩ := agr_mask hb
      have h := step pre y post s g w e hI
      unfold KV at h
      rw [okV_iff] at h
      obtain ⟨a1, h1, h2⟩ := h
      refine ⟨a1, h1, VS.mono h2 ?_⟩
      have fin : ∀ a', (∃ s', I (pre ++ [y]) s' ∧ Agr js 0 a' (upd a (ch s'))) → ∃ pre post' s, xs = pre ++ post' ∧ post.map enc = post'.map enc ∧ I pre s ∧ Agr js 0 a' (upd a (ch s)) := fun a' ⟨s', h3, h4⟩ => ⟨pre ++ [y], post, s', by simp [e], rfl, h3, h4⟩
      intro o a' h
      cases o with
      | nx => exact ⟨h.1, fin _ h.2⟩
      | ct => exact ⟨h.1, fin _ h.2⟩
      | bk => exact h
      | rt d => exact h
  · rintro b ⟨pre, post, s, e, hr, hI, hb⟩
    cases post with
    | cons y post => cases hr
    | nil =>
      rw [List.append_nil] at e
      subst e
      obtain ⟨g, w, rfl⟩ := agr_mask hb
      exact done s g w hI
/-- the same where the state hangs on the items alone -/
theorem vf_pre (enc : α → D) (xs : List α) (js : List Nat) (ch : List α → List (Nat × Sl)) (I : List α → Prop) (hd : ds = xs.map enc) (h0 : I []) (ha : Agr js 0 a (upd a (ch [])))
    (step : ∀ pre x post g w, xs = pre ++ x :: post → I pre → KV (bindT tg (enc x) (mask js g w 0 (upd a (ch pre)))) fun a1 => VS body a1 (VU (StEnd js a (fun _ : Unit => ch (pre ++ [x])) fun _ => I (pre ++ [x])) lk QS))
    (done : ∀ g w, I xs → QS .nx (mask js g w 0 (upd a (ch xs)))) : VS (forLoop tg lk body ds) a QS := by
  refine vf_st enc xs js ch (fun pre s => s = pre ∧ I pre) hd [] ⟨rfl, h0⟩ ha ?_ ?_
  · rintro pre x post s g w e ⟨rfl, hI⟩
    have h := step s x post g w e hI
    unfold KV at h ⊢
    rw [okV_iff] at h ⊢
    obtain ⟨a1, h1, h2⟩ := h
    refine ⟨a1, h1, VS.mono h2 ?_⟩
    intro o a' h
    cases o with
    | nx => obtain ⟨h1, _, h2, h3⟩ := h; exact ⟨h1, _, ⟨rfl, h2⟩, h3⟩
    | ct => obtain ⟨h1, _, h2, h3⟩ := h; exact ⟨h1, _, ⟨rfl, h2⟩, h3⟩
    | bk => exact h
    | rt d => exact h
  · rintro s g w ⟨rfl, hI⟩
    exact done g w hI
/-- by the place -/
theorem vf_ix (enc : α → D) (xs : List α) (js : List Nat) (ch : σ → List (Nat × Sl)) (I : Nat → σ → Prop) (hd : ds = xs.map enc) (s0 : σ) (h0 : I 0 s0) (ha : Agr js 0 a (upd a (ch s0)))
    (step : ∀ k x s g w, xs[k]? = some x → k < xs.length → I k s → KV (bindT tg (enc x) (mask js g w 0 (upd a (ch s)))) fun a1 => VS body a1 (VU (StEnd js a ch (I (k + 1))) lk QS))
    (done : ∀ s g w, I xs.length s → QS .nx (mask js g w 0 (upd a (ch s)))) : VS (forLoop tg lk body ds) a QS := by
  refine vf_st enc xs js ch (fun pre s => I pre.length s) hd s0 h0 ha (fun pre x post s g w e hI => ?_) done
  have h := step pre.length x s g w (by rw [e]; simp) (by rw [e]; simp) hI
  have e2 : (fun s => I (pre ++ [x]).length s) = I (pre.length + 1) := by simp
  rw [e2]
  exact h
/-- over range(n) -/
theorem vf_rng (n : Nat) (js : List Nat) (ch : σ → List (Nat × Sl)) (I : Nat → σ → Prop) (hd : ds = rngD 0 n) (s0 : σ) (h0 : I 0 s0) (ha : Agr js 0 a (upd a (ch s0)))
    (step : ∀ (k : Nat) s g w, k < n → I k s → KV (bindT tg (.int (k : Int)) (mask js g w 0 (upd a (ch s)))) fun a1 => VS body a1 (VU (StEnd js a ch (I (k + 1))) lk QS))
    (done : ∀ s g w, I n s → QS .nx (mask js g w 0 (upd a (ch s)))) : VS (forLoop tg lk body ds) a QS := by
  refine vf_ix (fun (i : Nat) => PyData.int (i : Int)) (List.range n) js ch I ?_ s0 h0 ha (fun k x s g w e hk hI => ?_) (by simpa using done)
  · rw [hd]; unfold rngD; simp
  · rw [List.length_range] at hk
    rw [List.getElem?_range hk] at e
    cases e
    exact step k s g w hk hI
variable {turn : D → A → Option (Option D × A)} {Q : List D → A → Prop} {β : Type}
theorem VTu.mono {x : D} {a : A} {P P' : Option D → A → Prop} (h : VTu turn x a P) (k : ∀ o a', P o a' → P' o a') : VTu turn x a P' := by
  obtain ⟨o, a', e, p⟩ := h
  exact ⟨o, a', e, k _ _ p⟩
/-- a list of drawn things -/
theorem vl_draw (enc : α → D) (encB : β → D) (xs : List α) (ch : σ → List (Nat × Sl)) (P : β → Prop) (s0 : σ) (hd : ds = xs.map enc) (h0 : a = upd a (ch s0))
    (step : ∀ x ∈ xs, ∀ s, VTu turn (enc x) (upd a (ch s)) fun o a' => holds lk a' = true ∧ DrEnd a ch encB P o a')
    (done : ∀ (s : σ) (ys : List β), ys.length = xs.length → (∀ y ∈ ys, P y) → Q (ys.map encB) (upd a (ch s))) : VL lk turn ds a Q := by
  refine vl_inv (fun r out b => ∃ (pre post : List α) (ys : List β) (s : σ), xs = pre ++ post ∧ r = post.map enc ∧ out = ys.map encB ∧ ys.length = pre.length ∧ (∀ y ∈ ys, P y) ∧ b = upd a (ch s)) ?_ ?_ ?_
  · exact ⟨[], xs, [], s0, rfl, hd, rfl, rfl, by simp, h0⟩
  · rintro x r out b ⟨pre, post, ys, s, e, hr, ho, hl, hP, rfl⟩
    cases post with
    | nil => cases hr
    | cons y post =>
      cases hr
      refine VTu.mono (step y (by simp [e]) s) ?_
      rintro o a' ⟨h1, z, s', rfl, hz, rfl⟩
      exact ⟨h1, pre ++ [y], post, ys ++ [z], s', by simp [e], rfl, by simp [ho], by simp [hl], fun w hw => by
        rcases List.mem_append.mp hw with h | h
        · exact hP w h
        · simp at h; subst h; exact hz, rfl⟩
  · rintro out b ⟨pre, post, ys, s, e, hr, ho, hl, hP, rfl⟩
    cases post with
    | cons y post => cases hr
    | nil =>
      subst ho
      exact done s ys (by rw [hl, e]; simp) hP
/-- a list told by the items and a state -/
theorem vl_st (enc : α → D) (xs : List α) (ch : σ → List (Nat × Sl)) (I : List α → List D → σ → Prop) (hd : ds = xs.map enc) (s0 : σ) (h0 : I [] [] s0) (ha : a = upd a (ch s0))
    (step : ∀ pre x post out s, xs = pre ++ x :: post → I pre out s → VTu turn (enc x) (upd a (ch s)) fun o a' => holds lk a' = true ∧ LsEnd a ch (I (pre ++ [x])) out o a')
    (done : ∀ out s, I xs out s → Q out (upd a (ch s))) : VL lk turn ds a Q := by
  refine vl_inv (fun r out b => ∃ pre post s, xs = pre ++ post ∧ r = post.map enc ∧ I pre out s ∧ b = upd a (ch s)) ?_ ?_ ?_
  · exact ⟨[], xs, s0, rfl, hd, h0, ha⟩
  · rintro x r out b ⟨pre, post, s, e, hr, hI, rfl⟩
    cases post with
    | nil => cases hr
    | cons y post =>
      cases hr
      refine VTu.mono (step pre y post out s e hI) ?_
      rintro o a' ⟨h1, s', h2, rfl⟩
      exact ⟨h1, pre ++ [y], post, s', by simp [e], rfl, h2, rfl⟩
  · rintro out b ⟨pre, post, s, e, hr, hI, rfl⟩
    cases post with
    | cons y post => cases hr
    | nil =>
      rw [List.append_nil] at e
      subst e
      exact done out s hI
end
/-- where two ways join -/
def JoinQ (J : A → Prop) (QS : Fl → A → Prop) [Mk J] [Mk QS] (f : Fl) (b : A) : Prop := match f with
  | .nx => J b
  | f => QS f b
section
variable {σ : Type} {J : A → Prop} {QS : Fl → A → Prop} {a b : A} {d : D} {c : Prop} [Decidable c] {r1 r2 u : RSt}
theorem zj_nx : JoinQ J QS .nx b ↔ J b := Iff.rfl
theorem zj_rt : JoinQ J QS (.rt d) b ↔ QS (.rt d) b := Iff.rfl
theorem zj_bk : JoinQ J QS .bk b ↔ QS .bk b := Iff.rfl
theorem zj_ct : JoinQ J QS .ct b ↔ QS .ct b := Iff.rfl
theorem vs_join (J : A → Prop) (h1 : VS r1 a (JoinQ J QS)) (h2 : ∀ b, J b → VS u b QS) : VS r1 a (VQ u QS) := by
  refine VS.mono h1 fun o b h => ?_
  cases o with
  | nx => exact h2 b h
  | _ => exact h
theorem vif_join (js : List Nat) (ch : σ → List (Nat × Sl)) (I : σ → Prop) (h1 : c → VS r1 a (JoinQ (StEnd js a ch I) QS)) (h2 : ¬ c → VS r2 a (JoinQ (StEnd js a ch I) QS))
    (h3 : ∀ s g w, I s → VS u (mask js g w 0 (upd a (ch s))) QS) : VIf c (VS r1 a (VQ u QS)) (VS r2 a (VQ u QS)) := by
  have h4 : ∀ b, StEnd js a ch I b → VS u b QS := fun b ⟨s, h5, h6⟩ => by
    obtain ⟨g, w, rfl⟩ := agr_mask h6
    exact h3 s g w h5
  exact vif_intro (fun h => vs_join _ (h1 h) h4) fun h => vs_join _ (h2 h) h4
end
theorem find_at {α β : Type} {xs pre post : List α} {x : α} {f : α → Option β} {d : β} (e : xs = pre ++ x :: post) (h1 : ∀ y ∈ pre, f y = none) (h2 : f x = some d) : xs.findSome? f = some d := by
  subst e
  rw [List.findSome?_append, List.findSome?_eq_none_iff.mpr h1]
  simp [h2]
theorem range_at {n k : Nat} {pre post : List Nat} (e : List.range n = pre ++ k :: post) : k = pre.length := by
  have h : (List.range n)[pre.length]? = some k := by rw [e]; simp
  rw [List.getElem?_range] at h
  · exact (Option.some.inj h).symm
  · have := congrArg List.length e
    simp at this
    omega
theorem range_lt {n k : Nat} {pre post : List Nat} (e : List.range n = pre ++ k :: post) : pre.length < n := by
  have := congrArg List.length e
  simp at this
  omega
theorem rngD_nat {k : Nat} : rngD 0 k = (List.range k).map fun (i : Nat) => PyData.int (i : Int) := by
  unfold rngD
  simp
end RV

set_option maxRecDepth 100000
set_option exponentiation.threshold 5000
/-! Ev55: data that may be shown, by adding up. -/
namespace RV
open PySem PySem.PyData
section
variable {e n e1 n1 e2 n2 L : Nat} {a b c d x : D} {ds es : List D} {m : Nat}
theorem sm_str {x : Str} {k : Nat} (h : (PyData.str x).shown.length ≤ k) (h2 : sOk (PyData.str x).shown = true) : Sm 0 k (.str x) := ⟨rfl, Nat.le_refl _, h, h2⟩
/-- data whose texts together have so many signs -/
structure SmA (e n : Nat) (ds : List D) : Prop where
  sh : showableAll ds = true
  dp : depthAll ds ≤ e
  ln : ((shownAll ds).map (·.length)).sum ≤ n
  ok : ∀ t ∈ shownAll ds, sOk t = true
  le : (shownAll ds).length = ds.length
theorem sma_nil : SmA 0 0 [] := ⟨rfl, Nat.zero_le _, by simp [shownAll], by simp [shownAll], rfl⟩
theorem sma_cons (hd : Sm e1 n1 d) (h : SmA e2 n2 ds) : SmA (max e1 e2) (n1 + n2) (d :: ds) := by
  obtain ⟨a, b, c, f, g⟩ := h
  refine ⟨by simp [showableAll, hd.sh, a], by simp only [depthAll]; have := hd.dp; omega, ?_, ?_, by simp [shownAll, g]⟩
  · simp only [shownAll, List.map_cons, List.sum_cons]
    have := hd.ln
    omega
  · intro t ht
    simp only [shownAll, List.mem_cons] at ht
    rcases ht with rfl | ht
    · exact hd.ok
    · exact f t ht
theorem sma_all (h : ∀ d ∈ ds, Sm e n d) (hl : ds.length ≤ L) : SmA e (L * n) ds := by
  obtain ⟨a, b, c, f, g⟩ := sm_all h
  exact ⟨a, b, Nat.le_trans c (Nat.mul_le_mul_right _ hl), f, g⟩
theorem sma_one (hd : Sm e1 n1 d) : SmA e1 n1 [d] := by
  have h := sma_cons hd sma_nil
  simpa using h
theorem sma_app (h : SmA e1 n1 ds) (h2 : SmA e2 n2 es) : SmA (max e1 e2) (n1 + n2) (ds ++ es) := by
  induction ds generalizing n1 e1 with
  | nil => exact ⟨h2.sh, by have := h2.dp; simp; omega, by have := h2.ln; simp; omega, h2.ok, h2.le⟩
  | cons d r ih =>
    obtain ⟨a, b, c, f, g⟩ := h
    simp only [showableAll, Bool.and_eq_true, depthAll, shownAll, List.map_cons, List.sum_cons, List.mem_cons, List.length_cons, Nat.add_right_cancel_iff] at a b c f g
    have hr := ih (e1 := depthAll r) (n1 := ((shownAll r).map (·.length)).sum) ⟨a.2, Nat.le_refl _, Nat.le_refl _, fun t ht => f t (.inr ht), g⟩
    have := sma_cons (d := d) (e1 := d.depth) (n1 := d.shown.length) ⟨a.1, Nat.le_refl _, Nat.le_refl _, f _ (.inl rfl)⟩ hr
    exact ⟨this.sh, Nat.le_trans this.dp (by omega), Nat.le_trans this.ln (by omega), this.ok, this.le⟩
theorem SmA.mono (h : SmA e n ds) (he : e ≤ e1) (hn : n ≤ n1) : SmA e1 n1 ds := ⟨h.sh, Nat.le_trans h.dp he, Nat.le_trans h.ln hn, h.ok, h.le⟩
theorem SmA.tupleL (h : SmA e n ds) (hl : ds.length ≤ L) : Sm (e + 1) (n + 2 * L + 3) (.tuple ds) := by
  obtain ⟨a, b, c, f, g⟩ := h
  refine ⟨by simpa [PyData.showable] using a, by simp only [PyData.depth]; omega, ?_, ?_⟩
  · have := tupleText_len_le (shownAll ds)
    rw [g] at this
    show (tupleText (shownAll ds)).length ≤ _
    omega
  · show sOk (tupleText (shownAll ds)) = true
    unfold tupleText
    refine sOk_app (sOk_app (sOk_of _) (sOk_join _ f)) ?_
    split <;> exact sOk_of _
theorem SmA.listL (h : SmA e n ds) (hl : ds.length ≤ L) : Sm (e + 1) (n + 2 * L + 3) (.list ds) := by
  obtain ⟨a, b, c, f, g⟩ := h
  refine ⟨by simpa [PyData.showable] using a, by simp only [PyData.depth]; omega, ?_, ?_⟩
  · have := listText_len_le (shownAll ds)
    rw [g] at this
    show (listText (shownAll ds)).length ≤ _
    omega
  · show sOk (listText (shownAll ds)) = true
    unfold listText
    exact sOk_app (sOk_from _ _ _ f (sOk_of _)) (sOk_of _)
theorem SmA.list (h : SmA e n ds) : Sm (e + 1) (n + 2 * ds.length + 3) (.list ds) := h.listL (Nat.le_refl _)
theorem SmA.tuple (h : SmA e n ds) : Sm (e + 1) (n + 2 * ds.length + 3) (.tuple ds) := h.tupleL (Nat.le_refl _)
theorem sm_row {ts : List Int} (h : ∀ t ∈ ts, t.natAbs < 10 ^ 40) (hl : ts.length ≤ L) : Sm 1 (L * 43 + 3) (rowD ts) :=
  (sm_tuple (e := 0) (n := 41) (L := L) (fun d hd => by
    obtain ⟨t, ht, rfl⟩ := List.mem_map.mp hd
    exact sm_int (h t ht)) (by simpa using hl))
theorem sm_rowl {ts : List Int} (h : ∀ t ∈ ts, t.natAbs < 10 ^ 40) (hl : ts.length ≤ L) : Sm 1 (L * 43 + 3) (.list (ts.map .int)) :=
  (sm_list (e := 0) (n := 41) (L := L) (fun d hd => by
    obtain ⟨t, ht, rfl⟩ := List.mem_map.mp hd
    exact sm_int (h t ht)) (by simpa using hl))
theorem sm_w {K : Nat} {ts : List (List Int)} (h : ∀ r ∈ ts, r.length ≤ K ∧ ∀ t ∈ r, t.natAbs < 10 ^ 40) (hl : ts.length ≤ L) : Sm 2 (L * (K * 43 + 5) + 3) (wD ts) :=
  (sm_tuple (e := 1) (n := K * 43 + 3) (L := L) (fun d hd => by
    obtain ⟨t, ht, rfl⟩ := List.mem_map.mp hd
    exact sm_row (h t ht).2 (h t ht).1) (by simpa using hl))
theorem ne_same (h : Sm e n d) : cmpD .ne (.str d.shown) (.str d.shown) = some false := by
  rw [ne_shown h h]
  simp
theorem eq_same (h : Sm e n d) : cmpD .eq (.str d.shown) (.str d.shown) = some true := by
  rw [eq_shown h h]
  simp
/-- 0, 1, .. -/
def rngI (n : Nat) : List Int := (List.range n).map fun (i : Nat) => (i : Int)
theorem rngI_len {k : Nat} : (rngI k).length = k := by simp [rngI]
theorem rngI_get {k i : Nat} (h : i < k) : (rngI k)[i]? = some (i : Int) := by simp [rngI, h]
theorem rngI_map {k : Nat} : rngD 0 k = (rngI k).map .int := by unfold rngI; rw [rngD_nat, List.map_map]; rfl
theorem mem_rngI {k : Nat} {x : Int} : x ∈ rngI k ↔ 0 ≤ x ∧ x < k := by
  unfold rngI
  rw [List.mem_map]
  constructor
  · rintro ⟨i, hi, rfl⟩
    have := List.mem_range.mp hi
    omega
  · rintro ⟨h1, h2⟩
    obtain ⟨i, rfl⟩ := Int.eq_ofNat_of_zero_le h1
    exact ⟨i, List.mem_range.mpr (by omega), rfl⟩
theorem rangeD_nat {k : Nat} : rangeD (k : Int) = (rngI k).map .int := by
  unfold rangeD rangeD.D.int' rngI
  rw [List.map_map]
  rfl
theorem un_rangeL {k : Nat} (h : k ≤ 1000000) : unD .rangeL (m, .int (k : Int)) = some (.list ((rngI k).map .int)) := by
  simp only [unD, rangeLD]
  rw [if_pos (by simp; omega), rangeD_nat]
theorem un_rangeT {k : Nat} (h : k ≤ 1000000) : unD .rangeT (m, .int (k : Int)) = some (rowD (rngI k)) := by
  simp only [unD, rangeTD]
  rw [if_pos (by simp; omega), rangeD_nat]
  rfl
theorem ixN_nat {n k : Nat} (h : k < n) : L2.ixN n (k : Int) = some k := by simp [L2.ixN, h]
theorem pop_at {k : Nat} (h : k < ds.length) (hl : ds.length ≤ 1000000) : muD .popAt (.list ds) [(m, .int (k : Int))] = some (ds[k], .list (ds.eraseIdx k)) := by
  have e : muD .popAt (.list ds) [(m, .int (k : Int))] = popAtD (.list ds) [(m, .int (k : Int))] := rfl
  rw [e]
  unfold popAtD
  simp only [ixN_nat h, fitL_of (show ds.length ≤ 16777216 by omega), List.getElem?_eq_getElem h]
  rfl
end
/-! sets of ints, sorted -/
section
variable {m : Nat} {ns ks : List Int}
theorem mem_dedupI : ∀ {ns : List Int} {x : Int}, x ∈ dedupI ns ↔ x ∈ ns
  | [], x => by simp [dedupI]
  | y :: r, x => by
    simp only [dedupI, List.mem_cons, List.mem_filter, mem_dedupI (ns := r), decide_eq_true_eq]
    by_cases h : x = y <;> simp [h]
theorem dedupI_nodup : ∀ {ns : List Int}, (dedupI ns).Nodup
  | [] => by simp [dedupI]
  | y :: r => by
    simp only [dedupI, List.nodup_cons]
    exact ⟨by simp, List.Pairwise.filter _ dedupI_nodup⟩
theorem dedupI_len {k : Nat} (h : ∀ x ∈ ns, 0 ≤ x ∧ x < k) : (dedupI ns).length ≤ k := by
  have h2 := List.Nodup.length_le_of_subset (l₁ := dedupI ns) (l₂ := rngI k) dedupI_nodup fun x hx => mem_rngI.mpr (h x (mem_dedupI.mp hx))
  rwa [rngI_len] at h2
def leB (a b : Int) : Bool := decide (a ≤ b)
def sortI (ns : List Int) : List Int := ns.mergeSort leB
def setI (ns : List Int) : List Int := sortI (dedupI ns)
theorem sortI_perm : (sortI ns).Perm ns := List.mergeSort_perm _ _
theorem sortI_pair : (sortI ns).Pairwise fun a b => leB a b = true := List.pairwise_mergeSort (le := leB) (fun a b c h1 h2 => by simp only [leB, decide_eq_true_eq] at *; omega) (fun a b => by simp only [leB, Bool.or_eq_true, decide_eq_true_eq]; omega) ns
theorem sortI_eq {a b : List Int} (h : a.Perm b) : sortI a = sortI b := List.Perm.eq_of_pairwise (le := fun a b => leB a b = true) (fun a b _ _ h1 h2 => by simp only [leB, decide_eq_true_eq] at *; omega) sortI_pair sortI_pair (sortI_perm.trans (h.trans sortI_perm.symm))
theorem setI_len {k : Nat} (h : ∀ x ∈ ns, 0 ≤ x ∧ x < k) : (setI ns).length ≤ k := by
  unfold setI
  rw [sortI_perm.length_eq]
  exact dedupI_len h
theorem mem_setI {x : Int} : x ∈ setI ns ↔ x ∈ ns := by
  unfold setI
  rw [sortI_perm.mem_iff, mem_dedupI]
theorem asInts_of (l : List Int) : asInts (l.map PyData.int) = some l := by
  induction l with
  | nil => rfl
  | cons x l ih => simp [asInts, ih]
theorem un_sortedSet (h1 : ns.length ≤ 4000) (h2 : (dedupI ns).length < 64) : unD .sortedSet (m, rowD ns) = some (.list ((setI ns).map .int)) := by
  simp only [unD, seqIntsD, rowD, asInts_of, Option.bind_some, decide_eq_true h1, decide_eq_true h2, Bool.and_self, if_true]
  rfl
theorem un_sortedSetL (h1 : ns.length ≤ 4000) (h2 : (dedupI ns).length < 64) : unD .sortedSet (m, .list (ns.map .int)) = some (.list ((setI ns).map .int)) := by
  simp only [unD, seqIntsD, asInts_of, Option.bind_some, decide_eq_true h1, decide_eq_true h2, Bool.and_self, if_true]
  rfl
theorem sortD_ints : sortD (ks.map PyData.int) = some ((sortI ks).map .int) := by
  have hs : sortOk (ks.map PyData.int) = true := by simp [sortOk, asInts_of]
  simp only [sortD, hs, if_true]
  congr 1
  unfold sortI
  refine (List.map_mergeSort (f := PyData.int) (fun a _ b _ => ?_)).symm
  rw [PySem.W.dataLt_int]
  unfold leB
  by_cases h : b < a
  · simp [h]; try omega
  · simp [h]; try omega
theorem sorted_ints (hm : m ≠ 99) : biD .sorted [(m, .list (ks.map .int))] = some (.list ((sortI ks).map .int)) := by
  have hk : kidsIm m (.list (ks.map PyData.int)) = true := by simp [kidsIm, kidsFlat]
  show (if kidsIm m (.list (ks.map PyData.int)) && own99 m then (sortD (ks.map PyData.int)).map PyData.list else Option.none) = _
  rw [hk, show own99 m = true by simp [own99, hm], sortD_ints]
  rfl
/-- ints as the keys of a dict -/
def kvB (i : Int) : D × D := (.int i, .bool true)
def addI (ks : List Int) (i : Int) : List Int := if i ∈ ks then ks else ks ++ [i]
theorem dput_ints (i : Int) : ∀ ks : List Int, dput (ks.map kvB) (.int i) (.bool true) = (addI ks i).map kvB
  | [] => by simp [dput, addI, kvB]
  | x :: ks => by
    have ih := dput_ints i ks
    have e : D.beqKey (.int x) (.int i) = decide (x = i) := rfl
    by_cases h : x = i
    · subst h
      simp [dput, kvB, e, addI]
    · have h2 : ¬ i = x := fun z => h z.symm
      simp only [List.map_cons]
      rw [show kvB x = (.int x, .bool true) from rfl, dput, e, decide_eq_false h, if_neg (by decide), ih]
      unfold addI
      by_cases hm : i ∈ ks
      · simp [hm, h2, kvB]
      · simp [hm, h2, kvB]
theorem dictOf_ints : ∀ (ns ks : List Int), dictOf (ks.map kvB) (ns.map fun i => .tuple [.int i, .bool true]) = some ((ns.foldl addI ks).map kvB)
  | [], ks => rfl
  | x :: ns, ks => by
    rw [List.map_cons, List.foldl_cons, dictOf, if_pos (by rfl), dput_ints, dictOf_ints ns]
theorem mem_addI {i x : Int} : x ∈ addI ks i ↔ x ∈ ks ∨ x = i := by
  unfold addI
  split
  · rename_i h
    exact ⟨.inl, fun z => z.elim id fun z => z ▸ h⟩
  · simp
theorem addI_nodup {i : Int} (h : ks.Nodup) : (addI ks i).Nodup := by
  unfold addI
  split
  · exact h
  · rename_i hn
    rw [List.nodup_append]
    refine ⟨h, by simp, fun a ha b hb e => hn ?_⟩
    simp at hb
    rw [← hb, ← e]; exact ha
theorem foldl_addI : ∀ (ns ks : List Int), ks.Nodup → (ns.foldl addI ks).Nodup ∧ ∀ x, x ∈ ns.foldl addI ks ↔ x ∈ ks ∨ x ∈ ns
  | [], ks, h => ⟨h, fun x => by simp⟩
  | y :: ns, ks, h => by
    obtain ⟨a, b⟩ := foldl_addI ns (addI ks y) (addI_nodup h)
    refine ⟨a, fun x => ?_⟩
    rw [List.foldl_cons, b, mem_addI, List.mem_cons]
    constructor
    · rintro ((h | h) | h)
      · exact .inl h
      · exact .inr (.inl h)
      · exact .inr (.inr h)
    · rintro (h | h | h)
      · exact .inl (.inl h)
      · exact .inl (.inr h)
      · exact .inr h
theorem dict_ints : biD .dict [(m, .list (ns.map fun i => .tuple [.int i, .bool true]))] = some (.dict ((ns.foldl addI []).map kvB)) := by
  have hk : kidsIm m (.list (ns.map fun i => PyData.tuple [.int i, .bool true])) = true := by simp [kidsIm, kidsFlat]
  show (if kidsIm m (.list (ns.map fun i => PyData.tuple [.int i, .bool true])) then (dictOf [] (ns.map fun i => PyData.tuple [.int i, .bool true])).map PyData.dict else Option.none) = _
  rw [hk, if_pos rfl]
  have := dictOf_ints ns []
  rw [List.map_nil] at this
  rw [this]
  rfl
theorem sorted_dint : biD .sorted [(m, .dict (ks.map kvB))] = some (.list ((sortI ks).map .int)) := by
  show (sortD ((ks.map kvB).map (·.1))).map PyData.list = _
  rw [List.map_map, show ((fun x : D × D => x.1) ∘ kvB) = PyData.int from rfl, sortD_ints]
  rfl
theorem sort_fold : sortI (ns.foldl addI []) = setI ns := by
  obtain ⟨a, b⟩ := foldl_addI ns [] (by simp)
  refine sortI_eq ((List.perm_ext_iff_of_nodup a dedupI_nodup).mpr fun x => ?_)
  rw [b, mem_dedupI]
  simp
end
end RV

set_option maxRecDepth 100000
/-! Ev56: the rules as simp rules. -/
namespace RV
namespace Z
@[simp] theorem z0 : type_of% @RV.app_list := @RV.app_list
@[simp] theorem z1 : type_of% @RV.mulOk_l := @RV.mulOk_l
@[simp] theorem z2 : type_of% @RV.mulOk_r := @RV.mulOk_r
@[simp] theorem z3 : type_of% @RV.zj_nx := @RV.zj_nx
@[simp] theorem z4 : type_of% @RV.zj_rt := @RV.zj_rt
@[simp] theorem z5 : type_of% @RV.zj_bk := @RV.zj_bk
@[simp] theorem z6 : type_of% @RV.zj_ct := @RV.zj_ct
@[simp] theorem z7 : type_of% @RV.ze_var := @RV.ze_var
@[simp] theorem z8 : type_of% @RV.ze_vart := @RV.ze_vart
@[simp] theorem z9 : type_of% @RV.ze_non := @RV.ze_non
@[simp] theorem z10 : type_of% @RV.ze_bl := @RV.ze_bl
@[simp] theorem z11 : type_of% @RV.ze_int := @RV.ze_int
@[simp] theorem z12 : type_of% @RV.ze_str := @RV.ze_str
@[simp] theorem z13 : type_of% @RV.ze_glo := @RV.ze_glo
@[simp] theorem z14 : type_of% @RV.ze_tup := @RV.ze_tup
@[simp] theorem z15 : type_of% @RV.ze_lst := @RV.ze_lst
@[simp] theorem z16 : type_of% @RV.ze_dnew := @RV.ze_dnew
@[simp] theorem z17 : type_of% @RV.ze_dis := @RV.ze_dis
@[simp] theorem z18 : type_of% @RV.ze_bin := @RV.ze_bin
@[simp] theorem z19 : type_of% @RV.ze_me := @RV.ze_me
@[simp] theorem z20 : type_of% @RV.ze_cmp := @RV.ze_cmp
@[simp] theorem z21 : type_of% @RV.zt_cmp := @RV.zt_cmp
@[simp] theorem z22 : type_of% @RV.ze_isn := @RV.ze_isn
@[simp] theorem z23 : type_of% @RV.zt_isn := @RV.zt_isn
@[simp] theorem z24 : type_of% @RV.ze_chn := @RV.ze_chn
@[simp] theorem z25 : type_of% @RV.zt_chn := @RV.zt_chn
@[simp] theorem z26 : type_of% @RV.ze_neg := @RV.ze_neg
@[simp] theorem z27 : type_of% @RV.ze_not := @RV.ze_not
@[simp] theorem z28 : type_of% @RV.zt_not := @RV.zt_not
@[simp] theorem z29 : type_of% @RV.ze_and := @RV.ze_and
@[simp] theorem z30 : type_of% @RV.zt_and := @RV.zt_and
@[simp] theorem z31 : type_of% @RV.ze_or := @RV.ze_or
@[simp] theorem z32 : type_of% @RV.zt_or := @RV.zt_or
@[simp] theorem z33 : type_of% @RV.zt_bl := @RV.zt_bl
@[simp] theorem z34 : type_of% @RV.zt_var := @RV.zt_var
@[simp] theorem z35 : type_of% @RV.zt_isi := @RV.zt_isi
@[simp] theorem z36 : type_of% @RV.zt_call := @RV.zt_call
@[simp] theorem z37 : type_of% @RV.zt_bi := @RV.zt_bi
@[simp] theorem z38 : type_of% @RV.zt_idx := @RV.zt_idx
@[simp] theorem z39 : type_of% @RV.ze_ife := @RV.ze_ife
@[simp] theorem z40 : type_of% @RV.ze_idx := @RV.ze_idx
@[simp] theorem z41 : type_of% @RV.ze_slc := @RV.ze_slc
@[simp] theorem z42 : type_of% @RV.zo_none := @RV.zo_none
@[simp] theorem z43 : type_of% @RV.zo_some := @RV.zo_some
@[simp] theorem z44 : type_of% @RV.ze_rev := @RV.ze_rev
@[simp] theorem z45 : type_of% @RV.ze_bi := @RV.ze_bi
@[simp] theorem z46 : type_of% @RV.ze_isi := @RV.ze_isi
@[simp] theorem z47 : type_of% @RV.ze_mu_app := @RV.ze_mu_app
@[simp] theorem z48 : type_of% @RV.ze_mu_ext := @RV.ze_mu_ext
@[simp] theorem z49 : type_of% @RV.ze_mu_pop := @RV.ze_mu_pop
@[simp] theorem z50 : type_of% @RV.ze_mu_popat := @RV.ze_mu_popat
@[simp] theorem z51 : type_of% @RV.ze_mu_ins := @RV.ze_mu_ins
@[simp] theorem z52 : type_of% @RV.ze_mu2 := @RV.ze_mu2
@[simp] theorem z53 : type_of% @RV.ze_call := @RV.ze_call
@[simp] theorem z54 : type_of% @RV.ze_lc := @RV.ze_lc
@[simp] theorem z55 : type_of% @RV.zturn := @RV.zturn
@[simp] theorem z56 : type_of% @RV.zc_none := @RV.zc_none
@[simp] theorem z57 : type_of% @RV.zc_some := @RV.zc_some
@[simp] theorem z58 : type_of% @RV.za_nil := @RV.za_nil
@[simp] theorem z59 : type_of% @RV.za_cons := @RV.za_cons
@[simp] theorem z60 : type_of% @RV.zi_of := @RV.zi_of
@[simp] theorem z61 : type_of% @RV.zi_enum := @RV.zi_enum
@[simp] theorem z62 : type_of% @RV.zi_zip := @RV.zi_zip
@[simp] theorem z63 : type_of% @RV.zi_zip3 := @RV.zi_zip3
@[simp] theorem z64 : type_of% @RV.zi_rng1 := @RV.zi_rng1
@[simp] theorem z65 : type_of% @RV.zi_rng := @RV.zi_rng
@[simp] theorem z66 : type_of% @RV.zs_nil := @RV.zs_nil
@[simp] theorem z67 : type_of% @RV.zs_cons := @RV.zs_cons
@[simp] theorem z68 : type_of% @RV.zs_asg := @RV.zs_asg
@[simp] theorem z69 : type_of% @RV.zs_unp := @RV.zs_unp
@[simp] theorem z70 : type_of% @RV.zs_par2 := @RV.zs_par2
@[simp] theorem z71 : type_of% @RV.zs_par3 := @RV.zs_par3
@[simp] theorem z72 : type_of% @RV.zs_sto := @RV.zs_sto
@[simp] theorem z73 : type_of% @RV.zs_aug := @RV.zs_aug
@[simp] theorem z74 : type_of% @RV.zs_ex := @RV.zs_ex
@[simp] theorem z75 : type_of% @RV.zs_ret := @RV.zs_ret
@[simp] theorem z76 : type_of% @RV.zs_ret0 := @RV.zs_ret0
@[simp] theorem z77 : type_of% @RV.zs_if := @RV.zs_if
@[simp] theorem z78 : type_of% @RV.zs_for := @RV.zs_for
@[simp] theorem z79 : type_of% @RV.zs_whl := @RV.zs_whl
@[simp] theorem z80 : type_of% @RV.zs_brk := @RV.zs_brk
@[simp] theorem z81 : type_of% @RV.zs_cnt := @RV.zs_cnt
@[simp] theorem z82 : type_of% @RV.zs_pas := @RV.zs_pas
@[simp] theorem z83 : type_of% @RV.vif_t := @RV.vif_t
@[simp] theorem z84 : type_of% @RV.vif_f := @RV.vif_f
@[simp] theorem z85 : type_of% @RV.kV_some := @RV.kV_some
@[simp] theorem z86 : type_of% @RV.kV_none := @RV.kV_none
@[simp] theorem z87 : type_of% @RV.kS_some := @RV.kS_some
@[simp] theorem z88 : type_of% @RV.kS_none := @RV.kS_none
@[simp] theorem z89 : type_of% @RV.kB_b := @RV.kB_b
@[simp] theorem z90 : type_of% @RV.kI_i := @RV.kI_i
@[simp] theorem z91 : type_of% @RV.kT_t := @RV.kT_t
@[simp] theorem z92 : type_of% @RV.kL_vs := @RV.kL_vs
@[simp] theorem z93 : type_of% @RV.kU_s := @RV.kU_s
@[simp] theorem z94 : type_of% @RV.kW_v := @RV.kW_v
@[simp] theorem z95 : type_of% @RV.vtm_int := @RV.vtm_int
@[simp] theorem z96 : type_of% @RV.vtm_bool := @RV.vtm_bool
@[simp] theorem z97 : type_of% @RV.vtm_str := @RV.vtm_str
@[simp] theorem z98 : type_of% @RV.vtm_non := @RV.vtm_non
@[simp] theorem z99 : type_of% @RV.vtm_tuple := @RV.vtm_tuple
@[simp] theorem z100 : type_of% @RV.vtm_00 := @RV.vtm_00
@[simp] theorem z101 : type_of% @RV.vtm_list0 := @RV.vtm_list0
@[simp] theorem z102 : type_of% @RV.vtm_lists := @RV.vtm_lists
@[simp] theorem z103 : type_of% @RV.vtm_dicts := @RV.vtm_dicts
@[simp] theorem z104 : type_of% @RV.zsl_tup := @RV.zsl_tup
@[simp] theorem z105 : type_of% @RV.zsl_lst0 := @RV.zsl_lst0
@[simp] theorem z106 : type_of% @RV.zsl_lst := @RV.zsl_lst
@[simp] theorem z107 : type_of% @RV.zsl_lstk := @RV.zsl_lstk
@[simp] theorem z108 : type_of% @RV.zix := @RV.zix
@[simp] theorem z109 : type_of% @RV.zmu := @RV.zmu
@[simp] theorem z110 : type_of% @RV.zmu2 := @RV.zmu2
@[simp] theorem z111 : type_of% @RV.zq_nx := @RV.zq_nx
@[simp] theorem z112 : type_of% @RV.zq_rt := @RV.zq_rt
@[simp] theorem z113 : type_of% @RV.zq_bk := @RV.zq_bk
@[simp] theorem z114 : type_of% @RV.zq_ct := @RV.zq_ct
@[simp] theorem z115 : type_of% @RV.zw_tup := @RV.zw_tup
@[simp] theorem z116 : type_of% @RV.zw_lst := @RV.zw_lst
@[simp] theorem z117 : type_of% @RV.zw_ref := @RV.zw_ref
@[simp] theorem z118 : type_of% @RV.zb_rt := @RV.zb_rt
@[simp] theorem z119 : type_of% @RV.zb_nx := @RV.zb_nx
@[simp] theorem z120 : type_of% @RV.zu_nx := @RV.zu_nx
@[simp] theorem z121 : type_of% @RV.zu_ct := @RV.zu_ct
@[simp] theorem z122 : type_of% @RV.zu_bk := @RV.zu_bk
@[simp] theorem z123 : type_of% @RV.zu_rt := @RV.zu_rt
@[simp] theorem z124 : type_of% @RV.zx_nx := @RV.zx_nx
@[simp] theorem z125 : type_of% @RV.zx_ct := @RV.zx_ct
@[simp] theorem z126 : type_of% @RV.zx_bk := @RV.zx_bk
@[simp] theorem z127 : type_of% @RV.zx_rt := @RV.zx_rt
@[simp] theorem z128 : type_of% @RV.bks.eq_1 := @RV.bks.eq_1
@[simp] theorem z129 : type_of% @RV.bks.eq_2 := @RV.bks.eq_2
@[simp] theorem z130 : type_of% @RV.Opd.deep.eq_1 := @RV.Opd.deep.eq_1
@[simp] theorem z131 : type_of% @RV.Opd.deep.eq_2 := @RV.Opd.deep.eq_2
@[simp] theorem z132 : type_of% @RV.res.eq_1 := @RV.res.eq_1
@[simp] theorem z133 : type_of% @RV.res.eq_2 := @RV.res.eq_2
@[simp] theorem z134 : type_of% @RV.res.eq_3 := @RV.res.eq_3
@[simp] theorem z135 : type_of% @RV.resAll.eq_1 := @RV.resAll.eq_1
@[simp] theorem z136 : type_of% @RV.resAll.eq_2 := @RV.resAll.eq_2
@[simp] theorem z137 : type_of% @RV.valsOf.eq_1 := @RV.valsOf.eq_1
@[simp] theorem z138 : type_of% @RV.valsOf.eq_2 := @RV.valsOf.eq_2
@[simp] theorem z139 : type_of% @RV.valsOf.eq_3 := @RV.valsOf.eq_3
@[simp] theorem z140 : type_of% @RV.argsOf.eq_1 := @RV.argsOf.eq_1
@[simp] theorem z141 : type_of% @RV.argsOf.eq_2 := @RV.argsOf.eq_2
@[simp] theorem z142 : type_of% @RV.argOf.eq_1 := @RV.argOf.eq_1
@[simp] theorem z143 : type_of% @RV.argOf.eq_2 := @RV.argOf.eq_2
@[simp] theorem z144 : type_of% @RV.argOf.eq_3 := @RV.argOf.eq_3
@[simp] theorem z145 : type_of% @RV.Wt.m.eq_1 := @RV.Wt.m.eq_1
@[simp] theorem z146 : type_of% @RV.Wt.m.eq_2 := @RV.Wt.m.eq_2
@[simp] theorem z147 : type_of% @RV.permO.eq_1 := @RV.permO.eq_1
@[simp] theorem z148 : type_of% @RV.permO.eq_2 := @RV.permO.eq_2
@[simp] theorem z149 : type_of% @RV.quiet.eq_1 := @RV.quiet.eq_1
@[simp] theorem z150 : type_of% @RV.quiet.eq_2 := @RV.quiet.eq_2
@[simp] theorem z151 : type_of% @RV.quiet.eq_3 := @RV.quiet.eq_3
@[simp] theorem z152 : type_of% @RV.quiet.eq_4 := @RV.quiet.eq_4
@[simp] theorem z153 : type_of% @RV.quiet.eq_5 := @RV.quiet.eq_5
@[simp] theorem z154 : type_of% @RV.quiet.eq_6 := @RV.quiet.eq_6
@[simp] theorem z155 : type_of% @RV.quiet.eq_7 := @RV.quiet.eq_7
@[simp] theorem z156 : type_of% @RV.quiet.eq_8 := @RV.quiet.eq_8
@[simp] theorem z157 : type_of% @RV.quiet.eq_9 := @RV.quiet.eq_9
@[simp] theorem z158 : type_of% @RV.quiet.eq_10 := @RV.quiet.eq_10
@[simp] theorem z159 : type_of% @RV.quiet.eq_11 := @RV.quiet.eq_11
@[simp] theorem z160 : type_of% @RV.quiet.eq_12 := @RV.quiet.eq_12
@[simp] theorem z161 : type_of% @RV.quiet.eq_13 := @RV.quiet.eq_13
@[simp] theorem z162 : type_of% @RV.quiet.eq_14 := @RV.quiet.eq_14
@[simp] theorem z163 : type_of% @RV.quiet.eq_15 := @RV.quiet.eq_15
@[simp] theorem z164 : type_of% @RV.quiet.eq_16 := @RV.quiet.eq_16
@[simp] theorem z165 : type_of% @RV.quiet.eq_17 := @RV.quiet.eq_17
@[simp] theorem z166 : type_of% @RV.quiets.eq_1 := @RV.quiets.eq_1
@[simp] theorem z167 : type_of% @RV.quiets.eq_2 := @RV.quiets.eq_2
@[simp] theorem z168 : type_of% @RV.quietTs.eq_1 := @RV.quietTs.eq_1
@[simp] theorem z169 : type_of% @RV.quietTs.eq_2 := @RV.quietTs.eq_2
@[simp] theorem z170 : type_of% @RV.quietTs.eq_3 := @RV.quietTs.eq_3
@[simp] theorem z171 : type_of% @RV.quietW.eq_1 := @RV.quietW.eq_1
@[simp] theorem z172 : type_of% @RV.quietW.eq_2 := @RV.quietW.eq_2
@[simp] theorem z173 : type_of% @RV.quietW.eq_3 := @RV.quietW.eq_3
@[simp] theorem z174 : type_of% @RV.quietWs.eq_1 := @RV.quietWs.eq_1
@[simp] theorem z175 : type_of% @RV.quietWs.eq_2 := @RV.quietWs.eq_2
@[simp] theorem z176 : type_of% @RV.nodupN.eq_1 := @RV.nodupN.eq_1
@[simp] theorem z177 : type_of% @RV.nodupN.eq_2 := @RV.nodupN.eq_2
@[simp] theorem z178 : type_of% @RV.lent.eq_1 := @RV.lent.eq_1
@[simp] theorem z179 : type_of% @RV.lent.eq_2 := @RV.lent.eq_2
@[simp] theorem z180 : type_of% @RV.lent.eq_3 := @RV.lent.eq_3
@[simp] theorem z181 : type_of% @RV.backs.eq_1 := @RV.backs.eq_1
@[simp] theorem z182 : type_of% @RV.backs.eq_2 := @RV.backs.eq_2
@[simp] theorem z183 : type_of% @RV.backs.eq_3 := @RV.backs.eq_3
@[simp] theorem z184 : type_of% @RV.outOk.eq_1 := @RV.outOk.eq_1
@[simp] theorem z185 : type_of% @RV.lstAt.eq_1 := @RV.lstAt.eq_1
@[simp] theorem z186 : type_of% @RV.muArgs.eq_1 := @RV.muArgs.eq_1
@[simp] theorem z187 : type_of% @RV.muArgs.eq_2 := @RV.muArgs.eq_2
@[simp] theorem z188 : type_of% @RV.putOk.eq_1 := @RV.putOk.eq_1
@[simp] theorem z189 : type_of% @RV.putOk.eq_2 := @RV.putOk.eq_2
@[simp] theorem z190 : type_of% @RV.putOk.eq_3 := @RV.putOk.eq_3
@[simp] theorem z191 : type_of% @RV.putOk.eq_4 := @RV.putOk.eq_4
@[simp] theorem z192 : type_of% @RV.putV.eq_1 := @RV.putV.eq_1
@[simp] theorem z193 : type_of% @RV.putOk0.eq_1 := @RV.putOk0.eq_1
@[simp] theorem z194 : type_of% @RV.isApp.eq_1 := @RV.isApp.eq_1
@[simp] theorem z195 : type_of% @RV.isApp.eq_2 := @RV.isApp.eq_2
@[simp] theorem z196 : type_of% @RV.bindT.eq_1 := @RV.bindT.eq_1
@[simp] theorem z197 : type_of% @RV.bindT.eq_2 := @RV.bindT.eq_2
@[simp] theorem z198 : type_of% @RV.bindT.eq_3 := @RV.bindT.eq_3
@[simp] theorem z199 : type_of% @RV.bindTs.eq_1 := @RV.bindTs.eq_1
@[simp] theorem z200 : type_of% @RV.bindTs.eq_2 := @RV.bindTs.eq_2
@[simp] theorem z201 : type_of% @RV.bindTs.eq_3 := @RV.bindTs.eq_3
@[simp] theorem z202 : type_of% @RV.holds.eq_1 := @RV.holds.eq_1
@[simp] theorem z203 : type_of% @RV.unlockA.eq_1 := @RV.unlockA.eq_1
@[simp] theorem z204 : type_of% @RV.unlockA.eq_2 := @RV.unlockA.eq_2
@[simp] theorem z205 : type_of% @RV.unlockA.eq_3 := @RV.unlockA.eq_3
@[simp] theorem z206 : type_of% @RV.wipeA.eq_1 := @RV.wipeA.eq_1
@[simp] theorem z207 : type_of% @RV.wipeA.eq_2 := @RV.wipeA.eq_2
@[simp] theorem z208 : type_of% @RV.backA.eq_1 := @RV.backA.eq_1
@[simp] theorem z209 : type_of% @RV.backA.eq_2 := @RV.backA.eq_2
@[simp] theorem z210 : type_of% @RV.ownFine_eq := @RV.ownFine_eq
@[simp] theorem z211 : type_of% @RV.muWt.eq_1 := @RV.muWt.eq_1
@[simp] theorem z212 : type_of% @RV.muWt.eq_2 := @RV.muWt.eq_2
@[simp] theorem z213 : type_of% @RV.lkAt.eq_1 := @RV.lkAt.eq_1
@[simp] theorem z214 : type_of% @RV.upd_nil := @RV.upd_nil
@[simp] theorem z215 : type_of% @RV.upd_cons := @RV.upd_cons
@[simp] theorem z216 : type_of% @RV.mask_nil := @RV.mask_nil
@[simp] theorem z217 : type_of% @RV.mask_cons := @RV.mask_cons
@[simp] theorem z218 : type_of% @RV.agr_nil := @RV.agr_nil
@[simp] theorem z219 : type_of% @RV.agr_cons := @RV.agr_cons
@[simp] theorem z220 : type_of% @RV.fine_0 := @RV.fine_0
@[simp] theorem z221 : type_of% @RV.fine_int := @RV.fine_int
@[simp] theorem z222 : type_of% @RV.fine_tup := @RV.fine_tup
@[simp] theorem z223 : type_of% @RV.fine_none := @RV.fine_none
@[simp] theorem z224 : type_of% @RV.fine_g := @RV.fine_g
@[simp] theorem z225 : type_of% @RV.fines_nil := @RV.fines_nil
@[simp] theorem z226 : type_of% @RV.fines_cons := @RV.fines_cons
@[simp] theorem zun : type_of% @RV.ze_un := @RV.ze_un
end Z
end RV

namespace LW
open RV
/-- profiles(world); names 0:world 1:found 2:wishes 3:longer 4:profile 5:place -/
def f0 : Fd where
  name := "profiles"
  N := ["world", "found", "wishes", "longer", "profile", "place"]
  np := 1
  st := [1, 2, 3, 4]
  body :=
    (.cons (.asg 1 0 (.lst
      (.cons (.tup .nil) .nil)))
      (.cons (.loop (.nm 2) (.of (.idx (.var 0) (.int 1)))
      (.cons (.asg 3 1 (.lst .nil))
      (.cons (.loop (.nm 4) (.of (.var 1))
      (.cons (.ex (.mu .extend 0 3 .none
      (.cons (.lc [5] (.bin .add (.var 4) (.tup
      (.cons (.var 5) .nil))) (.nm 5) (.rng1 (.bi .len
      (.cons (.var 2) .nil))) .none) .nil))) .nil))
      (.cons (.asg 1 0 (.var 3)) .nil))))
      (.cons (.ret (.bi .tuple
      (.cons (.var 1) .nil))) .nil)))
  rm := 0
/-- number_of(world, profile); names 0:world 1:profile 2:number 3:wishes 4:place -/
def f1 : Fd where
  name := "number_of"
  N := ["world", "profile", "number", "wishes", "place"]
  np := 2
  st := [2, 3, 4]
  body :=
    (.cons (.asg 2 0 (.int 0))
      (.cons (.loop (.tp
      (.cons (.nm 3)
      (.cons (.nm 4) .nil))) (.zip2 (.idx (.var 0) (.int 1)) (.var 1))
      (.cons (.asg 2 0 (.bin .add (.bin .mul (.var 2) (.bi .len
      (.cons (.var 3) .nil))) (.var 4))) .nil))
      (.cons (.ret (.var 2)) .nil)))
  rm := 0
/-- outcome_at(world, rule, profile); names 0:world 1:rule 2:profile -/
def f2 : Fd where
  name := "outcome_at"
  N := ["world", "rule", "profile"]
  np := 3
  st := []
  body :=
    (.cons (.ret (.idx (.var 1) (.call 1
      (.cons (.var 0)
      (.cons (.var 2) .nil)) .nil [0, 1]))) .nil)
  rm := 0
/-- worth_of(world, person, place, outcome); names 0:world 1:person 2:place 3:outcome -/
def f3 : Fd where
  name := "worth_of"
  N := ["world", "person", "place", "outcome"]
  np := 4
  st := []
  body :=
    (.cons (.ret (.idx (.idx (.idx (.idx (.var 0) (.int 1)) (.var 1)) (.var 2)) (.var 3))) .nil)
  rm := 0
/-- told(profile, person, place); names 0:profile 1:person 2:place -/
def f4 : Fd where
  name := "told"
  N := ["profile", "person", "place"]
  np := 3
  st := []
  body :=
    (.cons (.ret (.bin .add (.bin .add (.slc (.var 0) .none (.some (.var 1))) (.tup
      (.cons (.var 2) .nil))) (.slc (.var 0) (.some (.bin .add (.var 1) (.int 1))) .none))) .nil)
  rm := 0
/-- best_of(world, person, place); names 0:world 1:person 2:place 3:wish 4:outcome 5:worth -/
def f5 : Fd where
  name := "best_of"
  N := ["world", "person", "place", "wish", "outcome", "worth"]
  np := 3
  st := [3]
  body :=
    (.cons (.asg 3 0 (.idx (.idx (.idx (.var 0) (.int 1)) (.var 1)) (.var 2)))
      (.cons (.ret (.bi .tuple
      (.cons (.lc [4, 5] (.var 4) (.tp
      (.cons (.nm 4)
      (.cons (.nm 5) .nil))) (.enum (.var 3)) (.some (.cmp .eq (.var 5) (.bi .max
      (.cons (.var 3) .nil))))) .nil))) .nil))
  rm := 0
/-- outcomes_of(rule); names 0:rule 1:outcome -/
def f6 : Fd where
  name := "outcomes_of"
  N := ["rule", "outcome"]
  np := 1
  st := []
  body :=
    (.cons (.ret (.bi .tuple
      (.cons (.bi .sorted
      (.cons (.bi .dict
      (.cons (.lc [1] (.tup
      (.cons (.var 1)
      (.cons (.bl true) .nil))) (.nm 1) (.of (.var 0)) .none) .nil)) .nil)) .nil))) .nil)
  rm := 0
/-- _law_deck(script); names 0:script 1:deck 2:cell 3:own -/
def f7 : Fd where
  name := "_law_deck"
  N := ["script", "deck", "cell", "own"]
  np := 1
  st := [1, 2, 3]
  body :=
    (.cons (.asg 1 2 (.dis [(.str "great"), (.str "mixed"), (.str "turns")]
      (.cons (.lst .nil)
      (.cons (.bin .add (.int 16247) (.bin .mul (.int 7) (.bi .len
      (.cons (.slc (.var 0) .none (.some (.int 62))) .nil))))
      (.cons (.int 0) .nil)))))
      (.cons (.loop (.nm 2) (.of (.slc (.var 0) .none (.some (.int 62))))
      (.cons (.asg 3 0 (.bin .add (.bin .mul (.int 2) (.bi .abs
      (.cons (.var 2) .nil))) (.bi .int
      (.cons (.cmp .lt (.var 2) (.int 0)) .nil))))
      (.cons (.ifs (.cmp .ge (.var 3) (.bin .pow (.int 10) (.int 15)))
      (.cons (.ex (.mu .append 0 1 (.some (.str "great"))
      (.cons (.var 3) .nil))) .nil) .nil)
      (.cons (.sto 1 1 (.str "mixed") (.bin .mod (.bi .int
      (.cons (.bin .add (.bin .add (.bin .mul (.idx (.var 1) (.str "mixed")) (.int 48271)) (.var 3)) (.int 31)) .nil)) (.int 4294967291))) .nil))))
      (.cons (.ret (.var 1)) .nil)))
  rm := 2
/-- _law_draw(deck, many); names 0:deck 1:many 2:great 3:number -/
def f8 : Fd where
  name := "_law_draw"
  N := ["deck", "many", "great", "number"]
  np := 2
  st := [2, 3]
  body :=
    (.cons (.ifs (.cmp .lt (.var 1) (.int 2))
      (.cons (.ret (.int 0)) .nil) .nil)
      (.cons (.ifs (.cmp .ne (.idx (.var 0) (.str "great")) (.lst .nil))
      (.cons (.asg 2 0 (.mu .pop 0 0 (.some (.str "great")) .nil))
      (.cons (.ifs (.cmp .ge (.var 2) (.var 1))
      (.cons (.ex (.mu .append 0 0 (.some (.str "great"))
      (.cons (.bin .fdiv (.var 2) (.var 1)) .nil))) .nil) .nil)
      (.cons (.ret (.bin .mod (.bi .int
      (.cons (.var 2) .nil)) (.var 1))) .nil))) .nil)
      (.cons (.sto 0 1 (.str "turns") (.bin .add (.idx (.var 0) (.str "turns")) (.int 1)))
      (.cons (.asg 3 0 (.bin .mod (.bi .int
      (.cons (.bin .add (.idx (.var 0) (.str "mixed")) (.bin .mul (.int 2654435761) (.idx (.var 0) (.str "turns")))) .nil)) (.int 4294967279)))
      (.cons (.asg 3 0 (.bin .mod (.bi .int
      (.cons (.bin .add (.bin .add (.bin .mul (.var 3) (.var 3)) (.bin .mul (.int 30103) (.idx (.var 0) (.str "turns")))) (.int 23)) .nil)) (.int 4294967231)))
      (.cons (.asg 3 0 (.bin .mod (.bi .int
      (.cons (.bin .add (.bin .mul (.var 3) (.var 3)) (.bin .mul (.idx (.var 0) (.str "mixed")) (.int 11))) .nil)) (.int 4294967197)))
      (.cons (.ret (.bin .mod (.bi .int
      (.cons (.bin .fdiv (.var 3) (.int 64)) .nil)) (.var 1))) .nil)))))))
  rm := 0
/-- _law_pick(deck, row); names 0:deck 1:row -/
def f9 : Fd where
  name := "_law_pick"
  N := ["deck", "row"]
  np := 2
  st := []
  body :=
    (.cons (.ret (.idx (.var 1) (.call 8
      (.cons (.var 0)
      (.cons (.bi .len
      (.cons (.var 1) .nil)) .nil)) .nil [0, 1]))) .nil)
  rm := 0
/-- _law_wish(deck, many); names 0:deck 1:many 2:way 3:left 4:turn -/
def f10 : Fd where
  name := "_law_wish"
  N := ["deck", "many", "way", "left", "turn"]
  np := 2
  st := [2, 3]
  body :=
    (.cons (.par2 2 0 3 1 (.call 8
      (.cons (.var 0)
      (.cons (.int 4) .nil)) .nil [0, 1]) (.un .rangeL (.var 1)))
      (.cons (.ifs (.cmp .lt (.var 2) (.int 2))
      (.cons (.ret (.bi .tuple
      (.cons (.lc [4] (.mu .popAt 0 3 .none
      (.cons (.call 8
      (.cons (.var 0)
      (.cons (.bi .len
      (.cons (.var 3) .nil)) .nil)) .nil [0, 1]) .nil)) (.nm 4) (.rng1 (.var 1)) .none) .nil))) .nil) .nil)
      (.cons (.ifs (.cmp .eq (.var 2) (.int 2))
      (.cons (.ret (.bi .tuple
      (.cons (.lc [4] (.call 8
      (.cons (.var 0)
      (.cons (.int 2) .nil)) .nil [0, 1]) (.nm 4) (.rng1 (.var 1)) .none) .nil))) .nil) .nil)
      (.cons (.ret (.bi .tuple
      (.cons (.lc [4] (.call 9
      (.cons (.var 0)
      (.cons (.lst
      (.cons (.neg (.int 99))
      (.cons (.int 99)
      (.cons (.int 0)
      (.cons (.int 1)
      (.cons (.neg (.int 1))
      (.cons (.int 2)
      (.cons (.int 50)
      (.cons (.int 98) .nil))))))))) .nil)) .nil [0, 1]) (.nm 4) (.rng1 (.var 1)) .none) .nil))) .nil))))
  rm := 0
/-- _law_person(deck, many, most); names 0:deck 1:many 2:most 3:found 4:turn -/
def f11 : Fd where
  name := "_law_person"
  N := ["deck", "many", "most", "found", "turn"]
  np := 3
  st := [3, 4]
  body :=
    (.cons (.asg 3 1 .dnew)
      (.cons (.loop (.nm 4) (.rng1 (.bin .add (.int 1) (.call 8
      (.cons (.var 0)
      (.cons (.var 2) .nil)) .nil [0, 1])))
      (.cons (.sto 3 0 (.call 10
      (.cons (.var 0)
      (.cons (.var 1) .nil)) .nil [0, 1]) (.bl true)) .nil))
      (.cons (.ret (.bi .tuple
      (.cons (.bi .sorted
      (.cons (.var 3) .nil)) .nil))) .nil)))
  rm := 0
/-- _law_world(deck, most); names 0:deck 1:most 2:many 3:left 4:persons 5:turn -/
def f12 : Fd where
  name := "_law_world"
  N := ["deck", "most", "many", "left", "persons", "turn"]
  np := 2
  st := [2, 3, 4, 5]
  body :=
    (.cons (.par3 2 0 3 0 4 1 (.call 9
      (.cons (.var 0)
      (.cons (.lst
      (.cons (.int 2)
      (.cons (.int 2)
      (.cons (.int 3)
      (.cons (.int 3)
      (.cons (.int 3)
      (.cons (.int 4)
      (.cons (.int 5)
      (.cons (.int 6) .nil))))))))) .nil)) .nil [0, 1]) (.var 1) (.lst .nil))
      (.cons (.loop (.nm 5) (.rng1 (.call 9
      (.cons (.var 0)
      (.cons (.lst
      (.cons (.int 1)
      (.cons (.int 2)
      (.cons (.int 2)
      (.cons (.int 2)
      (.cons (.int 3) .nil)))))) .nil)) .nil [0, 1]))
      (.cons (.ex (.mu .append 0 4 .none
      (.cons (.call 11
      (.cons (.var 0)
      (.cons (.var 2)
      (.cons (.bi .min
      (.cons (.int 8)
      (.cons (.var 3) .nil))) .nil))) .nil [0, 1, 2]) .nil)))
      (.cons (.asg 3 0 (.bin .fdiv (.var 3) (.bi .len
      (.cons (.idx (.var 4) (.neg (.int 1))) .nil)))) .nil)))
      (.cons (.ret (.tup
      (.cons (.var 2)
      (.cons (.bi .tuple
      (.cons (.var 4) .nil)) .nil)))) .nil)))
  rm := 0
/-- _law_profiles(world); names 0:world 1:found 2:person 3:longer 4:row 5:place -/
def f13 : Fd where
  name := "_law_profiles"
  N := ["world", "found", "person", "longer", "row", "place"]
  np := 1
  st := [1, 2, 3, 4]
  body :=
    (.cons (.asg 1 0 (.lst
      (.cons (.tup .nil) .nil)))
      (.cons (.loop (.nm 2) (.of (.idx (.var 0) (.int 1)))
      (.cons (.asg 3 1 (.lst .nil))
      (.cons (.loop (.nm 4) (.of (.var 1))
      (.cons (.ex (.mu .extend 0 3 .none
      (.cons (.lc [5] (.bin .add (.var 4) (.tup
      (.cons (.var 5) .nil))) (.nm 5) (.rng1 (.bi .len
      (.cons (.var 2) .nil))) .none) .nil))) .nil))
      (.cons (.asg 1 0 (.bi .list
      (.cons (.var 3) .nil))) .nil))))
      (.cons (.ret (.var 1)) .nil)))
  rm := 0
/-- _law_number(world, profile); names 0:world 1:profile 2:found 3:person 4:place -/
def f14 : Fd where
  name := "_law_number"
  N := ["world", "profile", "found", "person", "place"]
  np := 2
  st := [2, 3, 4]
  body :=
    (.cons (.asg 2 0 (.int 0))
      (.cons (.loop (.tp
      (.cons (.nm 3)
      (.cons (.nm 4) .nil))) (.zip2 (.idx (.var 0) (.int 1)) (.var 1))
      (.cons (.asg 2 0 (.bin .add (.bin .mul (.var 2) (.bi .len
      (.cons (.var 3) .nil))) (.var 4))) .nil))
      (.cons (.ret (.var 2)) .nil)))
  rm := 0
/-- _law_rule(deck, world); names 0:deck 1:world 2:way 3:rows 4:person 5:constant 6:rule 7:profile -/
def f15 : Fd where
  name := "_law_rule"
  N := ["deck", "world", "way", "rows", "person", "constant", "rule", "profile"]
  np := 2
  st := [2, 3, 4, 5, 6]
  body :=
    (.cons (.par2 2 0 3 0 (.call 8
      (.cons (.var 0)
      (.cons (.int 5) .nil)) .nil [0, 1]) (.call 13
      (.cons (.var 1) .nil) .nil [0]))
      (.cons (.par2 4 0 5 0 (.call 8
      (.cons (.var 0)
      (.cons (.bi .len
      (.cons (.idx (.var 1) (.int 1)) .nil)) .nil)) .nil [0, 1]) (.call 8
      (.cons (.var 0)
      (.cons (.idx (.var 1) (.int 0)) .nil)) .nil [0, 1]))
      (.cons (.asg 6 1 (.lc [7] (.var 5) (.nm 7) (.of (.var 3)) .none))
      (.cons (.ifs (.cmp .eq (.var 2) (.int 1))
      (.cons (.asg 6 1 (.lc [7] (.call 8
      (.cons (.var 0)
      (.cons (.idx (.var 1) (.int 0)) .nil)) .nil [0, 1]) (.nm 7) (.of (.var 3)) .none)) .nil) .nil)
      (.cons (.ifs (.cmp .eq (.var 2) (.int 2))
      (.cons (.asg 6 1 (.lc [7] (.call 16
      (.cons (.idx (.idx (.idx (.var 1) (.int 1)) (.var 4)) (.idx (.var 7) (.var 4))) .nil) .nil [0]) (.nm 7) (.of (.var 3)) .none)) .nil) .nil)
      (.cons (.ifs (.cmp .gt (.var 2) (.int 2))
      (.cons (.asg 6 1 (.lc [7] (.call 16
      (.cons (.call 17
      (.cons (.var 1)
      (.cons (.var 7) .nil)) .nil [0, 1]) .nil) .nil [0]) (.nm 7) (.of (.var 3)) .none)) .nil) .nil)
      (.cons (.ifs (.cmp .eq (.call 8
      (.cons (.var 0)
      (.cons (.int 3) .nil)) .nil [0, 1]) (.int 0))
      (.cons (.sto 6 0 (.call 8
      (.cons (.var 0)
      (.cons (.bi .len
      (.cons (.var 6) .nil)) .nil)) .nil [0, 1]) (.call 8
      (.cons (.var 0)
      (.cons (.idx (.var 1) (.int 0)) .nil)) .nil [0, 1])) .nil) .nil)
      (.cons (.ret (.bi .tuple
      (.cons (.var 6) .nil))) .nil))))))))
  rm := 0
/-- _law_top(worths); names 0:worths -/
def f16 : Fd where
  name := "_law_top"
  N := ["worths"]
  np := 1
  st := []
  body :=
    (.cons (.ret (.me .index (.bi .list
      (.cons (.var 0) .nil)) (.bi .max
      (.cons (.var 0) .nil)))) .nil)
  rm := 0
/-- _law_sums(world, profile); names 0:world 1:profile 2:person 3:place 4:outcome -/
def f17 : Fd where
  name := "_law_sums"
  N := ["world", "profile", "person", "place", "outcome"]
  np := 2
  st := []
  body :=
    (.cons (.ret (.lc [4] (.bi .sum
      (.cons (.lc [2, 3] (.idx (.idx (.var 2) (.var 3)) (.var 4)) (.tp
      (.cons (.nm 2)
      (.cons (.nm 3) .nil))) (.zip2 (.idx (.var 0) (.int 1)) (.var 1)) .none) .nil)) (.nm 4) (.rng1 (.idx (.var 0) (.int 0))) .none)) .nil)
  rm := 0
/-- _law_dues(world, rule, profile, person, place, outcome); names 0:world 1:rule 2:profile 3:person 4:place 5:outcome 6:wish 7:best 8:own 9:number 10:moved -/
def f18 : Fd where
  name := "_law_dues"
  N := ["world", "rule", "profile", "person", "place", "outcome", "wish", "best", "own", "number", "moved"]
  np := 6
  st := [6, 7, 9, 10]
  body :=
    (.cons (.asg 6 0 (.idx (.idx (.idx (.var 0) (.int 1)) (.var 3)) (.var 4)))
      (.cons (.asg 7 0 (.bi .tuple
      (.cons (.lc [8] (.var 8) (.nm 8) (.rng1 (.idx (.var 0) (.int 0))) (.some (.cmp .eq (.idx (.var 6) (.var 8)) (.bi .max
      (.cons (.var 6) .nil))))) .nil)))
      (.cons (.asg 9 0 (.call 14
      (.cons (.var 0)
      (.cons (.var 2) .nil)) .nil [0, 1]))
      (.cons (.asg 10 0 (.bin .add (.bin .add (.slc (.var 2) .none (.some (.var 3))) (.tup
      (.cons (.var 4) .nil))) (.slc (.var 2) (.some (.bin .add (.var 3) (.int 1))) .none)))
      (.cons (.ret (.lst
      (.cons (.var 9)
      (.cons (.idx (.var 1) (.var 9))
      (.cons (.idx (.var 6) (.var 5))
      (.cons (.var 10)
      (.cons (.var 7)
      (.cons (.bi .tuple
      (.cons (.un .sortedSet (.var 1)) .nil)) .nil)))))))) .nil)))))
  rm := 0
/-- _law_is_right(deck, world, rule); names 0:deck 1:world 2:rule 3:profile 4:person 5:outcome 6:place 7:dues 8:kept 9:found 10:named -/
def f19 : Fd where
  name := "_law_is_right"
  N := ["deck", "world", "rule", "profile", "person", "outcome", "place", "dues", "kept", "found", "named"]
  np := 3
  st := [3, 4, 5, 6, 7, 8, 9, 10]
  body :=
    (.cons (.asg 3 0 (.bi .tuple
      (.cons (.lc [4] (.call 8
      (.cons (.var 0)
      (.cons (.bi .len
      (.cons (.var 4) .nil)) .nil)) .nil [0, 1]) (.nm 4) (.of (.idx (.var 1) (.int 1))) .none) .nil)))
      (.cons (.par2 4 0 5 0 (.call 8
      (.cons (.var 0)
      (.cons (.bi .len
      (.cons (.var 3) .nil)) .nil)) .nil [0, 1]) (.call 8
      (.cons (.var 0)
      (.cons (.idx (.var 1) (.int 0)) .nil)) .nil [0, 1]))
      (.cons (.asg 6 0 (.call 8
      (.cons (.var 0)
      (.cons (.bi .len
      (.cons (.idx (.idx (.var 1) (.int 1)) (.var 4)) .nil)) .nil)) .nil [0, 1]))
      (.cons (.par2 7 0 8 0 (.call 18
      (.cons (.var 1)
      (.cons (.var 2)
      (.cons (.var 3)
      (.cons (.var 4)
      (.cons (.var 6)
      (.cons (.var 5) .nil)))))) .nil [0, 1, 2, 3, 4, 5]) (.bi .repr
      (.cons (.lst
      (.cons (.var 1)
      (.cons (.var 2)
      (.cons (.var 3) .nil)))) .nil)))
      (.cons (.asg 9 1 (.lst
      (.cons (.call 1
      (.cons (.var 1)
      (.cons (.var 3) .nil)) .nil [0, 1])
      (.cons (.call 2
      (.cons (.var 1)
      (.cons (.var 2)
      (.cons (.var 3) .nil))) .nil [0, 1, 2])
      (.cons (.call 3
      (.cons (.var 1)
      (.cons (.var 4)
      (.cons (.var 6)
      (.cons (.var 5) .nil)))) .nil [0, 1, 2, 3]) .nil)))))
      (.cons (.ex (.mu .extend 0 9 .none
      (.cons (.lst
      (.cons (.call 4
      (.cons (.var 3)
      (.cons (.var 4)
      (.cons (.var 6) .nil))) .nil [0, 1, 2])
      (.cons (.call 5
      (.cons (.var 1)
      (.cons (.var 4)
      (.cons (.var 6) .nil))) .nil [0, 1, 2])
      (.cons (.call 6
      (.cons (.var 2) .nil) .nil [0]) .nil)))) .nil)))
      (.cons (.asg 10 1 (.lst
      (.cons (.call 1 .nil
      (.cons (.var 3)
      (.cons (.var 1) .nil)) [1, 0])
      (.cons (.call 2 .nil
      (.cons (.var 3)
      (.cons (.var 2)
      (.cons (.var 1) .nil))) [2, 1, 0]) .nil))))
      (.cons (.ex (.mu .append 0 10 .none
      (.cons (.call 3 .nil
      (.cons (.var 5)
      (.cons (.var 6)
      (.cons (.var 4)
      (.cons (.var 1) .nil)))) [3, 2, 1, 0]) .nil)))
      (.cons (.ex (.mu .append 0 10 .none
      (.cons (.call 4 .nil
      (.cons (.var 6)
      (.cons (.var 4)
      (.cons (.var 3) .nil))) [2, 1, 0]) .nil)))
      (.cons (.ex (.mu .extend 0 10 .none
      (.cons (.lst
      (.cons (.call 5 .nil
      (.cons (.var 6)
      (.cons (.var 4)
      (.cons (.var 1) .nil))) [2, 1, 0])
      (.cons (.call 6 .nil
      (.cons (.var 2) .nil) [0]) .nil))) .nil)))
      (.cons (.ret (.and (.cmp .eq (.bi .repr
      (.cons (.lst
      (.cons (.var 9)
      (.cons (.var 10) .nil))) .nil)) (.bi .repr
      (.cons (.lst
      (.cons (.var 7)
      (.cons (.var 7) .nil))) .nil))) (.cmp .eq (.bi .repr
      (.cons (.lst
      (.cons (.var 1)
      (.cons (.var 2)
      (.cons (.var 3) .nil)))) .nil)) (.var 8)))) .nil)))))))))))
  rm := 0
/-- law(script); names 0:script 1:deck 2:person 3:own 4:world 5:turn 6:due 7:rule 8:again -/
def f20 : Fd where
  name := "law"
  N := ["script", "deck", "person", "own", "world", "turn", "due", "rule", "again"]
  np := 1
  st := [1, 2, 4, 5, 6, 7, 8]
  body :=
    (.cons (.asg 1 2 (.call 7
      (.cons (.var 0) .nil) .nil [0]))
      (.cons (.ifs (.cmp .eq (.call 8
      (.cons (.var 1)
      (.cons (.int 12) .nil)) .nil [0, 1]) (.int 0))
      (.cons (.asg 2 0 (.bi .tuple
      (.cons (.lc [3] (.tup
      (.cons (.int 0)
      (.cons (.var 3) .nil))) (.nm 3) (.rng1 (.int 6)) .none) .nil)))
      (.cons (.asg 4 0 (.tup
      (.cons (.int 2)
      (.cons (.call 9
      (.cons (.var 1)
      (.cons (.lst
      (.cons (.tup
      (.cons (.var 2)
      (.cons (.var 2)
      (.cons (.var 2) .nil))))
      (.cons (.bin .mul (.tup
      (.cons (.bin .add (.var 2) (.tup
      (.cons (.tup
      (.cons (.int 1)
      (.cons (.int 0) .nil)))
      (.cons (.tup
      (.cons (.int 2)
      (.cons (.int 0) .nil))) .nil)))) .nil)) (.int 2)) .nil))) .nil)) .nil [0, 1]) .nil))))
      (.cons (.ifs (.cmp .ne (.bi .repr
      (.cons (.call 0
      (.cons (.var 4) .nil) .nil [0]) .nil)) (.bi .repr
      (.cons (.bi .tuple
      (.cons (.call 13
      (.cons (.var 4) .nil) .nil [0]) .nil)) .nil)))
      (.cons (.ret (.bl false)) .nil) .nil)
      (.cons (.ret (.call 19
      (.cons (.var 1)
      (.cons (.var 4)
      (.cons (.call 15
      (.cons (.var 1)
      (.cons (.var 4) .nil)) .nil [0, 1]) .nil))) .nil [0, 1, 2])) .nil)))) .nil)
      (.cons (.loop (.nm 5) (.rng1 (.int 3))
      (.cons (.asg 4 0 (.call 12
      (.cons (.var 1)
      (.cons (.idx (.lst
      (.cons (.int 64)
      (.cons (.int 36)
      (.cons (.int 12) .nil)))) (.var 5)) .nil)) .nil [0, 1]))
      (.cons (.par2 6 0 7 0 (.bi .tuple
      (.cons (.call 13
      (.cons (.var 4) .nil) .nil [0]) .nil)) (.call 15
      (.cons (.var 1)
      (.cons (.var 4) .nil)) .nil [0, 1]))
      (.cons (.ifs (.cmp .ne (.bi .repr
      (.cons (.lst
      (.cons (.call 0
      (.cons (.var 4) .nil) .nil [0])
      (.cons (.call 0 .nil
      (.cons (.var 4) .nil) [0]) .nil))) .nil)) (.bi .repr
      (.cons (.lst
      (.cons (.var 6)
      (.cons (.var 6) .nil))) .nil)))
      (.cons (.ret (.bl false)) .nil) .nil)
      (.cons (.loop (.nm 8) (.rng1 (.int 4))
      (.cons (.ifs (.not (.call 19
      (.cons (.var 1)
      (.cons (.var 4)
      (.cons (.var 7) .nil))) .nil [0, 1, 2]))
      (.cons (.ret (.bl false)) .nil) .nil) .nil)) .nil)))))
      (.cons (.ret (.bl true)) .nil))))
  rm := 0

def tab : List Df := [.fd f0, .fd f1, .fd f2, .fd f3, .fd f4, .fd f5, .fd f6, .fd f7, .fd f8, .fd f9, .fd f10, .fd f11, .fd f12, .fd f13, .fd f14, .fd f15, .fd f16, .fd f17, .fd f18, .fd f19, .fd f20]
abbrev LL : Nat := 1000000
abbrev F (n : Nat) : Fn := callD tab LL n
theorem F0 (n : Nat) : callD tab LL (n + 1) 0 = runFd (callD tab LL n) LL f0 := rfl
theorem F1 (n : Nat) : callD tab LL (n + 1) 1 = runFd (callD tab LL n) LL f1 := rfl
theorem F2 (n : Nat) : callD tab LL (n + 1) 2 = runFd (callD tab LL n) LL f2 := rfl
theorem F3 (n : Nat) : callD tab LL (n + 1) 3 = runFd (callD tab LL n) LL f3 := rfl
theorem F4 (n : Nat) : callD tab LL (n + 1) 4 = runFd (callD tab LL n) LL f4 := rfl
theorem F5 (n : Nat) : callD tab LL (n + 1) 5 = runFd (callD tab LL n) LL f5 := rfl
theorem F6 (n : Nat) : callD tab LL (n + 1) 6 = runFd (callD tab LL n) LL f6 := rfl
theorem F7 (n : Nat) : callD tab LL (n + 1) 7 = runFd (callD tab LL n) LL f7 := rfl
theorem F8 (n : Nat) : callD tab LL (n + 1) 8 = runFd (callD tab LL n) LL f8 := rfl
theorem F9 (n : Nat) : callD tab LL (n + 1) 9 = runFd (callD tab LL n) LL f9 := rfl
theorem F10 (n : Nat) : callD tab LL (n + 1) 10 = runFd (callD tab LL n) LL f10 := rfl
theorem F11 (n : Nat) : callD tab LL (n + 1) 11 = runFd (callD tab LL n) LL f11 := rfl
theorem F12 (n : Nat) : callD tab LL (n + 1) 12 = runFd (callD tab LL n) LL f12 := rfl
theorem F13 (n : Nat) : callD tab LL (n + 1) 13 = runFd (callD tab LL n) LL f13 := rfl
theorem F14 (n : Nat) : callD tab LL (n + 1) 14 = runFd (callD tab LL n) LL f14 := rfl
theorem F15 (n : Nat) : callD tab LL (n + 1) 15 = runFd (callD tab LL n) LL f15 := rfl
theorem F16 (n : Nat) : callD tab LL (n + 1) 16 = runFd (callD tab LL n) LL f16 := rfl
theorem F17 (n : Nat) : callD tab LL (n + 1) 17 = runFd (callD tab LL n) LL f17 := rfl
theorem F18 (n : Nat) : callD tab LL (n + 1) 18 = runFd (callD tab LL n) LL f18 := rfl
theorem F19 (n : Nat) : callD tab LL (n + 1) 19 = runFd (callD tab LL n) LL f19 := rfl
theorem F20 (n : Nat) : callD tab LL (n + 1) 20 = runFd (callD tab LL n) LL f20 := rfl
end LW
set_option maxRecDepth 100000
namespace LW
open RV
open PySem (PyData Str)
variable {n m m2 m3 : Nat} {lk lk2 lk3 : Bool} {d v : D} {lo hi i j : Int} {R : Nat → D → List (Option Sl) → Prop}
/-- the deck -/
structure Deck where
  gs : List Int
  mx : Int
  tn : Int
  hl : gs.length ≤ 63
def deckD (g : Deck) : D := .dict [(.str "great", .list (g.gs.map .int)), (.str "mixed", .int g.mx), (.str "turns", .int g.tn)]
abbrev dk (g : Deck) : Sl := ⟨2, false, deckD g⟩
section
variable {g : Deck} {gs : List Int}
@[simp] theorem flat_deck : flat (deckD g) = false := rfl
@[simp] theorem idx_great : idxD (deckD g) (.str "great") = some (.list (g.gs.map .int)) := rfl
@[simp] theorem idx_mixed : idxD (deckD g) (.str "mixed") = some (.int g.mx) := rfl
@[simp] theorem idx_turns : idxD (deckD g) (.str "turns") = some (.int g.tn) := rfl
theorem sto_great (h : gs.length ≤ 63) : stoD (deckD g) (.str "great") (.list (gs.map .int)) = some (deckD ⟨gs, g.mx, g.tn, h⟩) := rfl
@[simp] theorem sto_mixed : stoD (deckD g) (.str "mixed") (.int i) = some (deckD { g with mx := i }) := rfl
@[simp] theorem sto_turns : stoD (deckD g) (.str "turns") (.int i) = some (deckD { g with tn := i }) := rfl
@[simp] theorem vtm_deck {a : A} {Q : Opd → A → Prop} {k : Nat} : VTm k 2 ⟨2, false, deckD g⟩ a Q ↔ Q (.val 2 (deckD g)) (a.set k none) := vtm_own (m := 1) flat_deck
end
theorem sto_great2 {g : Deck} {gs : List Int} (h : (gs ++ [i]).length ≤ 63) : stoD (deckD g) (.str "great") (.list (gs.map .int ++ [.int i])) = some (deckD ⟨gs ++ [i], g.mx, g.tn, h⟩) := by
  simp only [show gs.map PyData.int ++ [PyData.int i] = (gs ++ [i]).map .int by simp]
  exact sto_great h
theorem c8 {g : Deck} {K : Int} (k : Nat) (hK : K = k) (h1 : 1 ≤ k) (hk : k < 1073741824) (h : ∀ g' (v : Nat), v < k → R 0 (.int v) [some (dk g'), some ⟨m, lk, .int K⟩]) : VC (callD tab LL (n + 1) 8) [dk g, ⟨m, lk, .int K⟩] R := by
  subst hK
  have h0 : ∀ g' (v : Int), 0 ≤ v → v < k → R 0 (.int v) [some (dk g'), some ⟨m, lk, .int k⟩] := fun g' v v0 v1 => by
    obtain ⟨v, rfl⟩ := Int.eq_ofNat_of_zero_le v0
    exact h g' v (by omega)
  show WC _ _ _; rw [F8]; refine wc_fd rfl ?_; simp only [f8, List.map_cons, List.map_nil, List.length_cons, List.length_nil, Nat.reduceAdd, Nat.reduceSub, List.replicate, List.cons_append, List.nil_append]; show VS _ _ (VB _ _ _ _)
  simp (dsimp := false) [dk]
  refine vif_intro (fun h2 => ?_) (fun h2 => ?_)
  · simp (dsimp := false)
    exact h g 0 (by omega)
  · simp (dsimp := false)
    have k0 : ¬ k = 0 := by omega
    have kn : (k : Int).natAbs < 1073741824 := by omega
    have fm : ∀ z : Int, 0 ≤ z.fmod k ∧ z.fmod k < k := fun z => fmod_lt (by omega)
    have hg := g.hl
    refine vif_intro (fun h3 => ?_) (fun h3 => ?_)
    · obtain ⟨init, z, hz⟩ : ∃ init z, g.gs = init ++ [z] := by
        have : g.gs ≠ [] := by simpa using h3
        exact ⟨g.gs.dropLast, g.gs.getLast this, (List.dropLast_concat_getLast this).symm⟩
      have hl : init.length + 1 = g.gs.length := by rw [hz]; simp
      simp (dsimp := false) [hz, List.map_append, pop_last]
      have e1 : init.length ≤ 63 := by omega
      simp (dsimp := false) [sto_great e1]
      refine vif_intro (fun h4 => ?_) (fun h4 => ?_)
      · have e2 : (init ++ [z.fdiv k]).length ≤ 63 := by simp; omega
        simp (dsimp := false) [k0, kn, hk, app_list (show (init.map PyData.int).length ≤ 1000000 by simp; omega), sto_great2 e2]
        exact h0 _ _ (fm z).1 (fm z).2
      · simp (dsimp := false) [k0]
        exact h0 _ _ (fm z).1 (fm z).2
    · simp (dsimp := false) [k0, mulOk_l, mulOk_r, mulOk_fm]
      exact h0 _ _ (fm _).1 (fm _).2
theorem c9 {α : Type} {g : Deck} (enc : α → D) (xs : List α) (hn : xs ≠ []) (hl : xs.length < 1073741824) (hv : v = .tuple (xs.map enc) ∨ v = .list (xs.map enc) ∧ m2 ≤ 1) (h : ∀ g' x, x ∈ xs → R 0 (enc x) [some (dk g'), some ⟨m2, lk2, v⟩]) : VC (callD tab LL (n + 2) 9) [dk g, ⟨m2, lk2, v⟩] R := by
  have hp : 0 < xs.length := List.length_pos_iff.mpr hn
  show WC _ _ _; rw [F9]; refine wc_fd rfl ?_; simp only [f9, List.map_cons, List.map_nil, List.length_cons, List.length_nil, Nat.reduceAdd, Nat.reduceSub, List.replicate, List.cons_append, List.nil_append]; show VS _ _ (VB _ _ _ _)
  rcases hv with rfl | ⟨rfl, hm⟩
  · simp (dsimp := false) [dk]
    refine c8 xs.length (by simp) hp hl fun g' k hk => ?_
    have ha : (xs.map enc)[k]? = some (enc xs[k]) := by rw [List.getElem?_map, List.getElem?_eq_getElem hk]; rfl
    simp (dsimp := false) [dk, atI_nat, ha]
    exact h g' _ (List.getElem_mem hk)
  · simp (dsimp := false) [dk]
    refine c8 xs.length (by simp) hp hl fun g' k hk => ?_
    have ha : (xs.map enc)[k]? = some (enc xs[k]) := by rw [List.getElem?_map, List.getElem?_eq_getElem hk]; rfl
    simp (dsimp := false) [dk, atI_nat, ha, hm]
    exact h g' _ (List.getElem_mem hk)
theorem deck_new {gs : List Int} {x : Int} (h : gs.length ≤ 63) : PyData.dict [(.str "great", .list (gs.map .int)), (.str "mixed", .int x), (.str "turns", .int 0)] = deckD ⟨gs, x, 0, h⟩ := rfl
theorem c7 {ns : List Int} (h : ∀ g, R 2 (deckD g) [some (scriptSl ns)]) : VC (callD tab LL (n + 1) 7) [scriptSl ns] R := by
  have hc : cutD (ns.map PyData.int) none (some 62) = (ns.take 62).map .int := by
    rw [show (62 : Int) = ((62 : Nat) : Int) from rfl, cutTo, List.map_take]
  have hl62 : (ns.take 62).length ≤ 62 := by simp; omega
  show WC _ _ _; rw [F7]; refine wc_fd rfl ?_; simp only [f7, List.map_cons, List.map_nil, List.length_cons, List.length_nil, Nat.reduceAdd, Nat.reduceSub, List.replicate, List.cons_append, List.nil_append]; show VS _ _ (VB _ _ _ _)
  simp (dsimp := false) [scriptSl, kids_ints, hc, mulOk_l, mulOk_r, keyOk, keysNd]
  refine ⟨⟨⟨by decide +kernel, by decide +kernel⟩, by decide +kernel⟩, ?_⟩
  refine vf_st PyData.int (ns.take 62) [2, 3] (fun g : Deck => [(1, dk g)]) (fun pre g => g.gs.length ≤ pre.length) (by rw [List.map_take]) ⟨[], _, 0, by simp⟩ (by simp) (agr_of rfl rfl) (fun pre x post g fg fw e hI => ?_) (fun g fg fw _ => ?_)
  · have hlen : pre.length < 62 := by have := congrArg List.length e; simp at this; omega
    simp (dsimp := false) [scriptSl, dk, powOk]
    refine vif_intro (fun h3 => ?_) (fun h3 => ?_)
    · have e2 : ∀ z : Int, (g.gs ++ [z]).length ≤ 63 := fun z => by simp; omega
      simp (dsimp := false) [app_list (show (g.gs.map PyData.int).length ≤ 1000000 by simp; omega), sto_great2 (e2 _)]
      refine ⟨_, ?_, (by first | exact agr_of rfl rfl | exact agr_of rfl (by simp (dsimp := false)) | (simp (dsimp := false); done) | (simp (dsimp := false); rfl))⟩
      show (g.gs ++ [_]).length ≤ _
      simp; omega
    · simp (dsimp := false)
      refine ⟨_, ?_, (by first | exact agr_of rfl rfl | exact agr_of rfl (by simp (dsimp := false)) | (simp (dsimp := false); done) | (simp (dsimp := false); rfl))⟩
      show g.gs.length ≤ _
      simp; omega
  · simp (dsimp := false) [dk]
    exact h g
end LW

set_option maxRecDepth 100000
namespace LW
open RV
open PySem (PyData Str)
variable {n m m2 m3 m4 m5 : Nat} {lk lk2 lk3 lk4 lk5 : Bool} {d v : D} {lo hi i j : Int} {R : Nat → D → List (Option Sl) → Prop}
structure Wishes (rows : List (List Int)) (M : Nat) (W : Nat) (F : Int) : Prop where
  l1 : 1 ≤ rows.length
  lw : rows.length ≤ W
  len : ∀ r ∈ rows, r.length = M
  val : ∀ r ∈ rows, ∀ x ∈ r, -F ≤ x ∧ x ≤ F
theorem Wishes.small {rows : List (List Int)} {M W : Nat} {F : Int} (h : Wishes rows M W F) (hF : F ≤ 99) : ∀ r ∈ rows, ∀ x ∈ r, x.natAbs ≤ 99 := fun r hr x hx => by
  have := h.val r hr x hx
  omega
/-- how many profiles -/
def prodL : List (List (List Int)) → Nat
  | [] => 1
  | t :: r => t.length * prodL r
theorem prodL_app (a b : List (List (List Int))) : prodL (a ++ b) = prodL a * prodL b := by
  induction a with
  | nil => simp [prodL]
  | cons t r ih => simp [prodL, ih, Nat.mul_assoc]
variable {M : Nat} {ty : List (List (List Int))}
structure WorldOk (M : Nat) (ty : List (List (List Int))) (P W O lim : Nat) : Prop where
  m2 : 2 ≤ M
  mO : M ≤ O
  p1 : 1 ≤ ty.length
  pP : ty.length ≤ P
  wi : ∀ t ∈ ty, Wishes t M W 99
  li : prodL ty ≤ lim
theorem Wishes.take {t : List (List Int)} {M W : Nat} {F : Int} {c : Nat} (h : Wishes t M W F) (hc : 1 ≤ c) : Wishes (t.take c) M W F :=
  ⟨by have := h.l1; simp; omega, by have := h.lw; simp; omega, fun r hr => h.len r (List.mem_of_mem_take hr), fun r hr => h.val r (List.mem_of_mem_take hr)⟩
theorem Wishes.wide {t : List (List Int)} {M W : Nat} {F G : Int} (h : Wishes t M W F) (hF : F ≤ G) : Wishes t M W G :=
  ⟨h.l1, h.lw, h.len, fun r hr x hx => by have := h.val r hr x hx; omega⟩
theorem prodL_set {ty : List (List (List Int))} {k : Nat} {t : List (List Int)} (hk : k < ty.length) : prodL ((ty.set k t).take (k + 1)) = prodL (ty.take k) * t.length := by
  have e : (ty.set k t).take (k + 1) = ty.take k ++ [t] := by
    rw [List.take_succ, List.take_set_of_le (Nat.le_refl _)]
    simp [List.getElem?_set_self hk]
  rw [e, prodL_app]
  simp [prodL]
theorem prodL_succ {ty : List (List (List Int))} {k : Nat} {t : List (List Int)} (hk : ty[k]? = some t) : prodL (ty.take (k + 1)) = prodL (ty.take k) * t.length := by
  rw [List.take_succ, hk, prodL_app]
  simp [prodL]
theorem wish_sm {t : List (List Int)} {W : Nat} {F : Int} (h : Wishes t M W F) (hF : F ≤ 99) (hM : M ≤ 6) (hW : W ≤ 8) : Sm 2 3000 (wD t) :=
  (sm_w (K := 6) (L := 8) (fun r hr => ⟨by have := h.len r hr; omega, fun x hx => by have := h.val r hr x hx; omega⟩) (by have := h.lw; omega)).mono (by omega) (by omega)
theorem tys_sm {P W O lim : Nat} (h : WorldOk M ty P W O lim) (hO : O ≤ 6) (hW : W ≤ 8) (hP : P ≤ 3) : Sm 3 10000 (tysD ty) := by
  have h1 := h.mO
  have h2 := h.pP
  exact (sm_tuple (e := 2) (n := 3000) (L := 3) (fun d hd => by
    obtain ⟨t, ht, rfl⟩ := List.mem_map.mp hd
    exact wish_sm (h.wi t ht) (by omega) (by omega) hW) (by rw [List.length_map]; omega)).mono (by omega) (by omega)
theorem world_sm {P W O lim : Nat} (h : WorldOk M ty P W O lim) (hO : O ≤ 6) (hW : W ≤ 8) (hP : P ≤ 3) : Sm 4 21000 (worldD M ty) := by
  have h1 := h.mO
  exact (sma_cons (sm_int (i := (M : Int)) (by omega)) (sma_cons (tys_sm h hO hW hP) sma_nil)).tuple.mono (by omega) (by simp)
end LW

set_option maxRecDepth 100000
namespace LW
open RV
open PySem (PyData Str)
variable {n m m2 m3 m4 m5 : Nat} {lk lk2 lk3 lk4 lk5 : Bool} {d v : D} {lo hi i j : Int} {R : Nat → D → List (Option Sl) → Prop}
theorem map_era {α β : Type} {f : α → β} {l : List α} {k : Nat} : (l.map f).eraseIdx k = (l.eraseIdx k).map f := by
  simp [List.eraseIdx_eq_take_drop_succ, List.map_append, List.map_take, List.map_drop]
theorem c10 {g : Deck} {M : Nat} (hM : 1 ≤ M) (hM2 : M ≤ 99) (h : ∀ g' (r : List Int), r.length = M → (∀ x ∈ r, -99 ≤ x ∧ x ≤ 99) → R 0 (rowD r) [some (dk g'), some ⟨m, lk, .int M⟩]) : VC (callD tab LL (n + 3) 10) [dk g, ⟨m, lk, .int M⟩] R := by
  show WC _ _ _; rw [F10]; refine wc_fd rfl ?_; simp only [f10, List.map_cons, List.map_nil, List.length_cons, List.length_nil, Nat.reduceAdd, Nat.reduceSub, List.replicate, List.cons_append, List.nil_append]; show VS _ _ (VB _ _ _ _)
  simp (dsimp := false)
  refine c8 4 rfl (by omega) (by omega) fun g1 w w1 => ?_
  simp (dsimp := false) [dk, un_rangeL (show M ≤ 1000000 by omega)]
  refine vif_intro (fun h3 => ?_) (fun h3 => ?_)
  · simp (dsimp := false)
    refine ⟨by omega, by rw [rng_len]; omega, ?_⟩
    refine vl_st (fun (i : Nat) => PyData.int i) (List.range M) (fun s : Deck × List Int => [(0, dk s.1), (3, ⟨1, false, .list (s.2.map .int)⟩)]) (fun pre out s => ∃ q : List Int, out = q.map .int ∧ q.length = pre.length ∧ s.2.length + pre.length = M ∧ (∀ x ∈ q, -99 ≤ x ∧ x ≤ 99) ∧ ∀ x ∈ s.2, -99 ≤ x ∧ x ≤ 99) rngD_nat (g1, rngI M) ⟨[], rfl, rfl, by simp [rngI_len], by simp, fun x hx => by have := mem_rngI.mp hx; omega⟩ rfl (fun pre x post out s e hI => ?_) (fun out s hI => ?_)
    · obtain ⟨g2, left⟩ := s
      obtain ⟨q, rfl, hq, hl, hv, hv2⟩ := hI
      simp only at hl hv2
      have hlen : pre.length + 1 ≤ M := by have := congrArg List.length e; simp at this; omega
      simp (dsimp := false) [dk]
      refine c8 left.length (by simp) (by omega) (by omega) fun g3 k hk => ?_
      have hp := pop_at (ds := left.map PyData.int) (m := 0) (k := k) (by simpa using hk) (by simp; omega)
      have he : (left.map PyData.int).eraseIdx k = (left.eraseIdx k).map .int := map_era
      simp only [List.getElem_map] at hp
      rw [he] at hp
      simp (dsimp := false) [dk, hp]
      refine ⟨(g3, left.eraseIdx k), ⟨q ++ [left[k]], by simp, by simp; omega, by simp [List.length_eraseIdx, hk]; omega, fun x hx => ?_, fun x hx => hv2 x (List.mem_of_mem_eraseIdx hx)⟩, rfl⟩
      rcases List.mem_append.mp hx with hx | hx
      · exact hv x hx
      · simp at hx; subst hx; exact hv2 _ (List.getElem_mem hk)
    · obtain ⟨g2, left⟩ := s
      obtain ⟨q, rfl, hq, hl, hv, hv2⟩ := hI
      simp (dsimp := false) [kids_ints, dk]
      exact h g2 q (by simpa using hq) hv
  · simp (dsimp := false)
    refine vif_intro (fun h4 => ?_) (fun h4 => ?_)
    · simp (dsimp := false)
      refine ⟨by omega, by rw [rng_len]; omega, ?_⟩
      refine vl_draw (fun (i : Nat) => PyData.int i) PyData.int (List.range M) (fun g : Deck => [(0, dk g)]) (fun x => -99 ≤ x ∧ x ≤ 99) g1 rngD_nat rfl (fun x _ g2 => ?_) (fun g2 q hl2 hq2 => ?_)
      · simp (dsimp := false) [dk]
        refine c8 2 rfl (by omega) (by omega) fun g3 y y1 => ?_
        simp (dsimp := false) [dk]
        exact ⟨y, g3, rfl, by omega, rfl⟩
      · simp (dsimp := false) [kids_ints, dk]
        exact h g2 q (by simpa using hl2) hq2
    · simp (dsimp := false)
      refine ⟨by omega, by rw [rng_len]; omega, ?_⟩
      refine vl_draw (fun (i : Nat) => PyData.int i) PyData.int (List.range M) (fun g : Deck => [(0, dk g)]) (fun x => -99 ≤ x ∧ x ≤ 99) g1 rngD_nat rfl (fun x _ g2 => ?_) (fun g2 q hl2 hq2 => ?_)
      · simp (dsimp := false) [dk]
        refine c9 PyData.int [-99, 99, 0, 1, -1, 2, 50, 98] (by simp) (by simp) (.inr ⟨rfl, by omega⟩) fun g3 y hy => ?_
        simp (dsimp := false) [dk]
        exact ⟨y, g3, rfl, by simp at hy; omega, rfl⟩
      · simp (dsimp := false) [kids_ints, dk]
        exact h g2 q (by simpa using hl2) hq2
/-- rows as the keys of a dict -/
def kvT (r : List Int) : D × D := (rowD r, .bool true)
def addR (rows : List (List Int)) (r : List Int) : List (List Int) := if r ∈ rows then rows else rows ++ [r]
theorem asInts_map2 (l : List Int) : asInts (l.map PyData.int) = some l := by
  induction l with
  | nil => rfl
  | cons x l ih => simp [asInts, ih]
theorem dput_rows (r : List Int) : ∀ rows : List (List Int), dput (rows.map kvT) (rowD r) (.bool true) = (addR rows r).map kvT
  | [] => by simp [dput, addR, kvT]
  | x :: rows => by
    have ih := dput_rows r rows
    have e : D.beqKey (rowD x) (rowD r) = decide (x = r) := by simp [rowD, D.beqKey, asInts_map2]
    by_cases h : x = r
    · subst h
      simp [dput, kvT, e, addR]
    · have h2 : ¬ r = x := fun z => h z.symm
      simp only [List.map_cons]
      rw [show kvT x = (rowD x, .bool true) from rfl, dput, e, decide_eq_false h, if_neg (by decide), ih]
      unfold addR
      by_cases hm : r ∈ rows
      · simp [hm, h2, kvT]
      · simp [hm, h2, kvT]
theorem sto_rows {rows : List (List Int)} {r : List Int} (hl : rows.length ≤ 1000000) : stoD (.dict (rows.map kvT)) (rowD r) (.bool true) = some (.dict ((addR rows r).map kvT)) := by
  have e1 : keyOk (rowD r) = false := rfl
  have e2 : (tkey (rowD r)).isSome = true := by simp [rowD, tkey, asInts_map2]
  have e3 : keysT (rows.map kvT) = true := by
    unfold keysT
    rw [List.all_eq_true]
    intro kv hkv
    obtain ⟨x, _, rfl⟩ := List.mem_map.mp hkv
    simp [kvT, rowD, tkey, asInts_map2]
  have e4 : decide ((rows.map kvT).length < PySem.sizeLine) = true := decide_eq_true (by rw [List.length_map]; exact Nat.lt_of_le_of_lt hl (by decide))
  simp only [stoD, e1, e2, e3, e4, Bool.false_and, Bool.and_self, if_true, dput_rows]
  rfl
theorem sorted_keys {rows : List (List Int)} (h : ∀ r ∈ rows, r ≠ []) : biD .sorted [(m, .dict (rows.map kvT))] = some (.list ((sortR rows).map rowD)) := by
  have e := sorted_rows (m := 0) h (by decide)
  have e1 : biD .sorted [(0, .list (rows.map rowD))] = (sortD (rows.map rowD)).map .list := by
    show (if kidsIm 0 (.list (rows.map rowD)) && own99 0 then (sortD (rows.map rowD)).map PyData.list else none) = _
    rw [kids_rows]
    rfl
  rw [e1] at e
  show (sortD ((rows.map kvT).map (·.1))).map PyData.list = _
  rw [List.map_map]
  exact e
theorem addR_len (rows : List (List Int)) (r : List Int) : (addR rows r).length ≤ rows.length + 1 ∧ 1 ≤ (addR rows r).length := by
  unfold addR
  split
  · rename_i h
    exact ⟨by omega, List.length_pos_of_mem h⟩
  · simp
theorem addR_nodup {rows : List (List Int)} (h : rows.Nodup) (r : List Int) : (addR rows r).Nodup := by
  unfold addR
  split
  · exact h
  · rename_i hn
    rw [List.nodup_append]
    refine ⟨h, by simp, fun a ha b hb e => hn ?_⟩
    simp at hb
    rw [← hb, ← e]; exact ha
theorem mem_addR {rows : List (List Int)} {r x : List Int} (h : x ∈ addR rows r) : x ∈ rows ∨ x = r := by
  unfold addR at h
  split at h
  · exact .inl h
  · simpa using h
theorem c11 {g : Deck} {M W : Nat} (hM : 1 ≤ M) (hM2 : M ≤ 99) (hW : 1 ≤ W) (hW2 : W ≤ 1000) (h : ∀ g' rows, Wishes rows M W 99 → rows.Nodup → R 0 (wD rows) [some (dk g'), some ⟨m, lk, .int M⟩, some ⟨m2, lk2, .int W⟩]) : VC (callD tab LL (n + 4) 11) [dk g, ⟨m, lk, .int M⟩, ⟨m2, lk2, .int W⟩] R := by
  show WC _ _ _; rw [F11]; refine wc_fd rfl ?_; simp only [f11, List.map_cons, List.map_nil, List.length_cons, List.length_nil, Nat.reduceAdd, Nat.reduceSub, List.replicate, List.cons_append, List.nil_append]; show VS _ _ (VB _ _ _ _)
  simp (dsimp := false) [dk]
  refine c8 W rfl hW (by omega) fun g1 t ht => ?_
  obtain ⟨T, hT⟩ : ∃ T : Nat, (1 : Int) + (t : Int) = (T : Int) := ⟨1 + t, by omega⟩
  simp (dsimp := false) [dk, hT]
  refine ⟨by omega, ?_⟩
  refine vf_rng T [4] (fun s : Deck × List (List Int) => [(0, dk s.1), (3, ⟨1, false, .dict (s.2.map kvT)⟩)]) (fun k s => s.2.length ≤ k ∧ (1 ≤ k → 1 ≤ s.2.length) ∧ s.2.Nodup ∧ (∀ q ∈ s.2, q.length = M) ∧ ∀ q ∈ s.2, ∀ x ∈ q, -99 ≤ x ∧ x ≤ 99) rfl (g1, []) (by simp) (by first | exact agr_of rfl rfl | exact agr_of rfl (by simp (dsimp := false)) | (simp (dsimp := false); done) | (simp (dsimp := false); rfl)) (fun k s fg fw hk hI => ?_) (fun s fg fw hI => ?_)
  · obtain ⟨g2, rows⟩ := s
    obtain ⟨i1, i2, i3, i4, i5⟩ := hI
    simp only at i1 i2 i3 i4 i5
    simp (dsimp := false) [dk]
    refine c10 hM hM2 fun g3 r hr hv => ?_
    have hs := sto_rows (rows := rows) (r := r) (by omega)
    simp (dsimp := false) [dk, hs]
    have al := addR_len rows r
    refine ⟨(g3, addR rows r), ⟨by simp only; omega, fun _ => al.2, addR_nodup i3 r, fun q hq => ?_, fun q hq => ?_⟩, (by first | exact agr_of rfl rfl | exact agr_of rfl (by simp (dsimp := false)) | (simp (dsimp := false); done) | (simp (dsimp := false); rfl))⟩
    · rcases mem_addR hq with z | z
      · exact i4 q z
      · rw [z]; exact hr
    · rcases mem_addR hq with z | z
      · exact i5 q z
      · rw [z]; exact hv
  · obtain ⟨g2, rows⟩ := s
    obtain ⟨i1, i2, i3, i4, i5⟩ := hI
    simp only at i1 i2 i3 i4 i5
    have hne : ∀ r ∈ rows, r ≠ [] := fun r hr e => by have := i4 r hr; rw [e] at this; simp at this; omega
    have pm := sortR_perm rows
    have h1 : 1 ≤ rows.length := i2 (by omega)
    simp (dsimp := false) [sorted_keys hne, kids_rows, dk]
    rw [w_of]
    exact h g2 (sortR rows) ⟨by rw [pm.length_eq]; exact h1, by rw [pm.length_eq]; omega, fun r hr => i4 r (pm.mem_iff.mp hr), fun r hr => i5 r (pm.mem_iff.mp hr)⟩ (pm.nodup_iff.mpr i3)
end LW

set_option maxRecDepth 100000
namespace LW
open RV
open PySem (PyData Str)
variable {n m m2 m3 m4 : Nat} {lk lk2 lk3 lk4 : Bool} {d v : D} {lo hi i j : Int} {R : Nat → D → List (Option Sl) → Prop} {ty : List (List (List Int))} {M P W O lim : Nat}
theorem prodL_int : ∀ (ty : List (List (List Int))), ((prodL ty : Nat) : Int) = prodI0 (lensI ty) := by
  refine snoc_ind (by simp [prodL, lensI, prodI0]) fun ty t ih => ?_
  have e : lensI (ty ++ [t]) = lensI ty ++ [(t.length : Int)] := by simp [lensI]
  rw [e, prodI0_app, prodL_app, ← ih]
  simp [prodL]
theorem WorldOk.lens (h : WorldOk M ty P W O lim) : ∀ c ∈ lensI ty, 1 ≤ c := fun c hc => by
  obtain ⟨t, ht, rfl⟩ := List.mem_map.mp hc
  have := (h.wi t ht).l1
  omega
theorem WorldOk.small (h : WorldOk M ty P W O lim) (k : Nat) : (sendL ((lensI ty).take k)).length ≤ lim :=
  sendL_small h.lens (by rw [← prodL_int]; exact_mod_cast h.li) k
theorem stepS_take {rows : List (List Int)} {c : Int} {k : Nat} {row : List Int} (h : rows[k]? = some row) : stepS (rows.take (k + 1)) c = stepS (rows.take k) c ++ (List.range c.toNat).map fun (k : Nat) => row ++ [(k : Int)] := by
  rw [List.take_succ, h]
  simp [stepS]
def IProf (ty : List (List (List Int))) (s0 : Option Sl) (r : List D) (b : A) : Prop := ∃ (k : Nat) (s2 s3 s4 : Option Sl), r = (ty.map wD).drop k ∧ b = [s0, some ⟨0, false, .list ((sendL ((lensI ty).take k)).map rowD)⟩, s2, s3, s4, none]
def IPRow (rows : List (List Int)) (t : List (List Int)) (s0 : Option Sl) (r : List D) (b : A) : Prop := ∃ (k : Nat) (s4 : Option Sl), r = (rows.map rowD).drop k ∧ b = [s0, some ⟨0, false, .list (rows.map rowD)⟩, some ⟨0, false, wD t⟩, some ⟨1, false, .list ((stepS (rows.take k) t.length).map rowD)⟩, s4, none]
theorem prof_loop (b : Bool) {s0 : Option Sl} {QS : Fl → A → Prop} {fn : Fn} {rm : Nat} (hw : WorldOk M ty P W O lim) (hP : P ≤ 10) (hlim : lim ≤ 10000) (h : ∀ s2 s3 s4, QS .nx [s0, some ⟨0, false, .list ((sendL (lensI ty)).map rowD)⟩, s2, s3, s4, none]) :
    VS (forLoop (.nm 2) [] (execs fn LL rm (.cons (.asg 3 1 (.lst .nil))
      (.cons (.loop (.nm 4) (.of (.var 1))
      (.cons (.ex (.mu .extend 0 3 .none
      (.cons (.lc [5] (.bin .add (.var 4) (.tup
      (.cons (.var 5) .nil))) (.nm 5) (.rng1 (.bi .len
      (.cons (.var 2) .nil))) .none) .nil))) .nil))
      (.cons (.asg 1 0 (match b with | false => .var 3 | true => .bi .list (.cons (.var 3) .nil))) .nil)))) (ty.map wD)) [s0, some ⟨0, false, .list [.tuple []]⟩, none, none, none, none] QS := by
  refine vf_inv (IProf ty s0) ⟨0, none, none, none, by simp, by simp [sendL, rowD]⟩ (fun x r b hb => ?_) (fun b hb => ?_)
  · obtain ⟨k, s2, s3, s4, hr, rfl⟩ := hb
    obtain ⟨hx, hr2⟩ := drop_cons hr
    obtain ⟨t, rfl, htk⟩ : ∃ t, x = wD t ∧ ty[k]? = some t := by
      rw [List.getElem?_map] at hx
      cases h : ty[k]? <;> rw [h] at hx <;> cases hx
      exact ⟨_, rfl, rfl⟩
    have hck : (lensI ty)[k]? = some (t.length : Int) := by unfold lensI; rw [List.getElem?_map, htk]; rfl
    have hsm := hw.small k
    have hsm2 := hw.small (k + 1)
    have hst : sendL ((lensI ty).take (k + 1)) = stepS (sendL ((lensI ty).take k)) t.length := by
      rw [List.take_succ, hck]
      simp only [Option.toList_some]
      exact sendL_app _ _
    have hrl := sendL_row ((lensI ty).take k)
    have hkl : ((lensI ty).take k).length ≤ 10 := by have := hw.pP; simp [lensI]; omega
    have htl := (hw.wi t (List.mem_of_getElem? htk)).l1
    rw [hst] at hsm2
    have htl2 : t.length ≤ lim := by
      have h1 := prodI0_take (lensI ty) hw.lens (k + 1)
      have h2 := prodI0_pos ((lensI ty).take k) fun c hc => hw.lens c (List.mem_of_mem_take hc)
      rw [List.take_succ, hck] at h1
      simp only [Option.toList_some] at h1
      rw [prodI0_app, ← prodL_int] at h1
      have h3 := hw.li
      have h4 := Int.mul_le_mul_of_nonneg_right h2 (show (0 : Int) ≤ t.length by omega)
      omega
    refine ⟨_, rfl, ?_⟩
    generalize hrows : sendL ((lensI ty).take k) = rows at hsm hsm2 hst hrl
    simp (dsimp := false)
    refine vf_inv (IPRow rows t s0) ⟨0, s4, by simp, by simp [stepS]⟩ (fun x r b hb => ?_) (fun b hb => ?_)
    · obtain ⟨k2, s4, hr, rfl⟩ := hb
      obtain ⟨hx, hr3⟩ := drop_cons hr
      obtain ⟨row, rfl, hrow⟩ : ∃ row, x = rowD row ∧ rows[k2]? = some row := by
        rw [List.getElem?_map] at hx
        cases h : rows[k2]? <;> rw [h] at hx <;> cases hx
        exact ⟨_, rfl, rfl⟩
      have hrowl := hrl row (List.mem_of_getElem? hrow)
      have hlt : (stepS (rows.take k2) t.length).length ≤ lim := by
        rw [stepS_len] at hsm2 ⊢
        refine Nat.le_trans (Nat.mul_le_mul_right _ ?_) hsm2
        simp; omega
      refine ⟨_, rfl, ?_⟩
      have ha : ∀ i : Int, binD .add (0, rowD row) (0, .tuple [.int i]) = some (rowD (row ++ [i])) := fun i => add_row1 (by omega)
      simp (dsimp := false)
      refine ⟨by omega, by rw [rng_len]; omega, ?_⟩
      refine vl_mapT (fun (u : Nat) => PyData.int (0 + (u : Int))) (fun u => rowD (row ++ [(u : Int)])) (List.range t.length) rfl rfl (fun u _ => ?_) ?_
      · simp (dsimp := false) [ha]
      · have e1 : ((List.range t.length).map fun (u : Nat) => rowD (row ++ [(u : Int)])) = ((List.range t.length).map fun (u : Nat) => row ++ [(u : Int)]).map rowD := by rw [List.map_map]; rfl
        rw [e1]
        have hst2 := stepS_take (c := t.length) hrow
        rw [Int.toNat_natCast] at hst2
        have hl2 : ((List.range t.length).map fun (u : Nat) => row ++ [(u : Int)]).length ≤ lim := by simp; omega
        generalize ((List.range t.length).map fun (u : Nat) => row ++ [(u : Int)]) = new at hst2 hl2
        have he := ext_list (m := 0) (es := new.map rowD) (ds := (stepS (rows.take k2) t.length).map rowD) kids_rows rfl (by simp; omega)
        simp (dsimp := false) [kids_rows, he]
        exact ⟨k2 + 1, some ⟨0, false, rowD row⟩, hr3, by rw [hst2, List.map_append]⟩
    · obtain ⟨k2, s4, hr, rfl⟩ := hb
      have hk2 : rows.length ≤ k2 := by
        have := congrArg List.length hr
        simp at this
        omega
      rw [List.take_of_length_le hk2]
      cases b
      · simp (dsimp := false)
        exact ⟨k + 1, some ⟨0, false, wD t⟩, some ⟨0, false, .list ((stepS rows t.length).map rowD)⟩, s4, hr2, by rw [hst]⟩
      · simp (dsimp := false) [kids_rows]
        exact ⟨k + 1, some ⟨0, false, wD t⟩, some ⟨1, false, .list ((stepS rows t.length).map rowD)⟩, s4, hr2, by rw [hst]⟩
  · obtain ⟨k, s2, s3, s4, hr, rfl⟩ := hb
    have hk2 : ty.length ≤ k := by
      have := congrArg List.length hr
      simp at this
      omega
    rw [List.take_of_length_le (by simpa [lensI] using hk2)]
    exact h s2 s3 s4
theorem c0 (hw : WorldOk M ty P W O lim) (hP : P ≤ 10) (hlim : lim ≤ 10000) : VC (callD tab LL (n + 1) 0) [⟨m, lk, worldD M ty⟩] R ↔ R 0 (wD (sendL (lensI ty))) [some ⟨m, lk, worldD M ty⟩] := by
  refine vc_iff ?_
  show WC _ _ _; rw [F0]; refine wc_fd rfl ?_; simp only [f0, List.map_cons, List.map_nil, List.length_cons, List.length_nil, Nat.reduceAdd, Nat.reduceSub, List.replicate, List.cons_append, List.nil_append]; show VS _ _ (VB _ _ _ _)
  simp (dsimp := false)
  refine prof_loop false hw hP hlim fun s2 s3 s4 => ?_
  simp (dsimp := false) [kids_rows]
  rfl
theorem c13 (hw : WorldOk M ty P W O lim) (hP : P ≤ 10) (hlim : lim ≤ 10000) : VC (callD tab LL (n + 1) 13) [⟨m, lk, worldD M ty⟩] R ↔ R 0 (.list ((sendL (lensI ty)).map rowD)) [some ⟨m, lk, worldD M ty⟩] := by
  refine vc_iff ?_
  show WC _ _ _; rw [F13]; refine wc_fd rfl ?_; simp only [f13, List.map_cons, List.map_nil, List.length_cons, List.length_nil, Nat.reduceAdd, Nat.reduceSub, List.replicate, List.cons_append, List.nil_append]; show VS _ _ (VB _ _ _ _)
  simp (dsimp := false)
  first | refine prof_loop false hw hP hlim fun s2 s3 s4 => ?_ | refine prof_loop true hw hP hlim fun s2 s3 s4 => ?_
  --  hw hP hlim fun s2 s3 s4 => ?_
  simp (dsimp := false) [kids_rows]
end LW

set_option maxRecDepth 100000
namespace LW
open RV
open PySem (PyData Str)
variable {n m m2 m3 m4 : Nat} {lk lk2 lk3 lk4 : Bool} {d v : D} {lo hi i j : Int} {R : Nat → D → List (Option Sl) → Prop} {ty : List (List (List Int))} {M P W O lim : Nat}
/-- a profile of the world -/
structure Prof (M : Nat) (ty : List (List (List Int))) (s : List Int) : Prop where
  len : s.length = ty.length
  at_ : ∀ p ∈ ty.zip s, ∃ (k : Nat) (w : List Int), p.2 = k ∧ p.1[k]? = some w ∧ w.length = M ∧ ∀ x ∈ w, -99 ≤ x ∧ x ≤ 99
theorem prof_of (hw : WorldOk M ty P W O lim) {s : List Int} (hs : s ∈ sendL (lensI ty)) : Prof M ty s := by
  obtain ⟨a1, a2, _⟩ := send_num0 _ hw.lens s hs
  refine ⟨by rw [a1]; simp [lensI], fun p hp => ?_⟩
  have hz : ((p.1.length : Int), p.2) ∈ (lensI ty).zip s := by
    unfold lensI
    rw [List.zip_map_left]
    exact List.mem_map.mpr ⟨p, hp, rfl⟩
  obtain ⟨b1, b2, b3⟩ := a2 _ hz
  simp only at b1 b2 b3
  obtain ⟨k, hk⟩ := Int.eq_ofNat_of_zero_le b2
  have hk2 : k < p.1.length := by omega
  have ht := hw.wi _ (List.of_mem_zip hp).1
  exact ⟨k, p.1[k], hk, List.getElem?_eq_getElem hk2, ht.len _ (List.getElem_mem hk2), ht.val _ (List.getElem_mem hk2)⟩
def valO (t : List (List Int)) (p o : Int) : Int := (((t[p.toNat]?).getD [])[o.toNat]?).getD 0
theorem valO_at {t : List (List Int)} {k o : Nat} {w : List Int} (h : t[k]? = some w) (ho : o < w.length) : valO t (k : Int) (o : Int) = w[o] := by
  simp [valO, h, List.getElem?_eq_getElem ho]
def lensZ (ps : List (List (List Int) × Int)) : List (Int × Int) := ps.map fun p => ((p.1.length : Int), p.2)
theorem lens_zip {s : List Int} : (lensI ty).zip s = lensZ (ty.zip s) := by
  unfold lensI lensZ
  rw [List.zip_map_left]
  rfl
def INum (ps : List (List (List Int) × Int)) (s0 s1 : Option Sl) (r : List D) (b : A) : Prop := ∃ (k : Nat) (s3 s4 : Option Sl), r = (ps.map fun p => PyData.tuple [wD p.1, .int p.2]).drop k ∧ b = [s0, s1, some ⟨0, false, .int (numI (lensZ (ps.take k)))⟩, s3, s4]
theorem c1 (hw : WorldOk M ty P W O lim) (hlim : lim ≤ 10000) {s : List Int} (hs : s ∈ sendL (lensI ty)) : VC (callD tab LL (n + 1) 1) [⟨m, lk, worldD M ty⟩, ⟨m2, lk2, rowD s⟩] R ↔ R 0 (.int (numI ((lensI ty).zip s))) [some ⟨m, lk, worldD M ty⟩, some ⟨m2, lk2, rowD s⟩] := by
  have hz : zipD (ty.map wD) (s.map .int) = (ty.zip s).map fun p => .tuple [wD p.1, .int p.2] := zip_map
  obtain ⟨a1, a2, a3, a4⟩ := send_num0 _ hw.lens s hs
  rw [lens_zip] at a2 a3 a4
  refine vc_iff ?_
  show WC _ _ _; rw [F1]; refine wc_fd rfl ?_; simp only [f1, List.map_cons, List.map_nil, List.length_cons, List.length_nil, Nat.reduceAdd, Nat.reduceSub, List.replicate, List.cons_append, List.nil_append]; show VS _ _ (VB _ _ _ _)
  rw [lens_zip]
  simp (dsimp := false)
  rw [hz]
  refine vf_inv (INum (ty.zip s) (some ⟨m, lk, worldD M ty⟩) (some ⟨m2, lk2, rowD s⟩)) ⟨0, none, none, by simp, by simp [numI, lensZ]⟩ (fun x r b hb => ?_) (fun b hb => ?_)
  · obtain ⟨k, s3, s4, hr, rfl⟩ := hb
    obtain ⟨hx, hr2⟩ := drop_cons hr
    obtain ⟨p, rfl, hp⟩ : ∃ p : List (List Int) × Int, x = .tuple [wD p.1, .int p.2] ∧ (ty.zip s)[k]? = some p := by
      rw [List.getElem?_map] at hx
      cases h : (ty.zip s)[k]? <;> rw [h] at hx <;> cases hx
      exact ⟨_, rfl, rfl⟩
    have hpm := List.mem_of_getElem? hp
    have hl : p.1.length ≤ W := (hw.wi _ (List.of_mem_zip hpm).1).lw
    have hm : mulOk (numI (lensZ ((ty.zip s).take k))) (p.1.length : Int) = true := by
      have hs2 := numI_small (lensZ ((ty.zip s).take k)) fun q hq => by
        unfold lensZ at hq
        rw [List.map_take] at hq
        exact a2 q (List.mem_of_mem_take hq)
      have e : (lensZ ((ty.zip s).take k)).map (·.1) = ((lensZ (ty.zip s)).map (·.1)).take k := by
        unfold lensZ
        rw [List.map_take, List.map_take]
      have hle : (lensZ (ty.zip s)).map (·.1) = lensI ty := by
        rw [← lens_zip]
        exact List.map_fst_zip (by omega)
      rw [e, hle] at hs2
      have h1 := prodI0_take (lensI ty) hw.lens k
      rw [← prodL_int] at h1
      have h3 := hw.li
      exact mulOk_l (by omega)
    have e : numI (lensZ ((ty.zip s).take (k + 1))) = numI (lensZ ((ty.zip s).take k)) * (p.1.length : Int) + p.2 := by
      rw [List.take_succ, hp]
      unfold lensZ
      rw [List.map_append]
      exact numI_app _ _
    refine ⟨_, rfl, ?_⟩
    simp (dsimp := false) [hm]
    exact ⟨k + 1, some ⟨0, false, wD p.1⟩, some ⟨0, false, .int p.2⟩, hr2, by rw [e]⟩
  · obtain ⟨k, s3, s4, hr, rfl⟩ := hb
    have hk2 : (ty.zip s).length ≤ k := by
      have := congrArg List.length hr
      rw [List.length_drop, List.length_map] at this
      simp only [List.length_nil] at this
      omega
    rw [List.take_of_length_le hk2]
    simp (dsimp := false)
theorem c14 (hw : WorldOk M ty P W O lim) (hlim : lim ≤ 10000) {s : List Int} (hs : s ∈ sendL (lensI ty)) : VC (callD tab LL (n + 1) 14) [⟨m, lk, worldD M ty⟩, ⟨m2, lk2, rowD s⟩] R ↔ R 0 (.int (numI ((lensI ty).zip s))) [some ⟨m, lk, worldD M ty⟩, some ⟨m2, lk2, rowD s⟩] := by
  have hz : zipD (ty.map wD) (s.map .int) = (ty.zip s).map fun p => .tuple [wD p.1, .int p.2] := zip_map
  obtain ⟨a1, a2, a3, a4⟩ := send_num0 _ hw.lens s hs
  rw [lens_zip] at a2 a3 a4
  refine vc_iff ?_
  show WC _ _ _; rw [F14]; refine wc_fd rfl ?_; simp only [f14, List.map_cons, List.map_nil, List.length_cons, List.length_nil, Nat.reduceAdd, Nat.reduceSub, List.replicate, List.cons_append, List.nil_append]; show VS _ _ (VB _ _ _ _)
  rw [lens_zip]
  simp (dsimp := false)
  rw [hz]
  refine vf_inv (INum (ty.zip s) (some ⟨m, lk, worldD M ty⟩) (some ⟨m2, lk2, rowD s⟩)) ⟨0, none, none, by simp, by simp [numI, lensZ]⟩ (fun x r b hb => ?_) (fun b hb => ?_)
  · obtain ⟨k, s3, s4, hr, rfl⟩ := hb
    obtain ⟨hx, hr2⟩ := drop_cons hr
    obtain ⟨p, rfl, hp⟩ : ∃ p : List (List Int) × Int, x = .tuple [wD p.1, .int p.2] ∧ (ty.zip s)[k]? = some p := by
      rw [List.getElem?_map] at hx
      cases h : (ty.zip s)[k]? <;> rw [h] at hx <;> cases hx
      exact ⟨_, rfl, rfl⟩
    have hpm := List.mem_of_getElem? hp
    have hl : p.1.length ≤ W := (hw.wi _ (List.of_mem_zip hpm).1).lw
    have hm : mulOk (numI (lensZ ((ty.zip s).take k))) (p.1.length : Int) = true := by
      have hs2 := numI_small (lensZ ((ty.zip s).take k)) fun q hq => by
        unfold lensZ at hq
        rw [List.map_take] at hq
        exact a2 q (List.mem_of_mem_take hq)
      have e : (lensZ ((ty.zip s).take k)).map (·.1) = ((lensZ (ty.zip s)).map (·.1)).take k := by
        unfold lensZ
        rw [List.map_take, List.map_take]
      have hle : (lensZ (ty.zip s)).map (·.1) = lensI ty := by
        rw [← lens_zip]
        exact List.map_fst_zip (by omega)
      rw [e, hle] at hs2
      have h1 := prodI0_take (lensI ty) hw.lens k
      rw [← prodL_int] at h1
      have h3 := hw.li
      exact mulOk_l (by omega)
    have e : numI (lensZ ((ty.zip s).take (k + 1))) = numI (lensZ ((ty.zip s).take k)) * (p.1.length : Int) + p.2 := by
      rw [List.take_succ, hp]
      unfold lensZ
      rw [List.map_append]
      exact numI_app _ _
    refine ⟨_, rfl, ?_⟩
    simp (dsimp := false) [hm]
    exact ⟨k + 1, some ⟨0, false, wD p.1⟩, some ⟨0, false, .int p.2⟩, hr2, by rw [e]⟩
  · obtain ⟨k, s3, s4, hr, rfl⟩ := hb
    have hk2 : (ty.zip s).length ≤ k := by
      have := congrArg List.length hr
      rw [List.length_drop, List.length_map] at this
      simp only [List.length_nil] at this
      omega
    rw [List.take_of_length_le hk2]
    simp (dsimp := false)
theorem c2 (hw : WorldOk M ty P W O lim) (hlim : lim ≤ 10000) {s rule : List Int} (hs : s ∈ sendL (lensI ty)) (hr : (rule.length : Int) = prodI0 (lensI ty)) (h : ∀ o, rule[(numI ((lensI ty).zip s)).toNat]? = some o → R 0 (.int o) [some ⟨m, lk, worldD M ty⟩, some ⟨m2, lk2, rowD rule⟩, some ⟨m3, lk3, rowD s⟩]) : VC (callD tab LL (n + 2) 2) [⟨m, lk, worldD M ty⟩, ⟨m2, lk2, rowD rule⟩, ⟨m3, lk3, rowD s⟩] R := by
  obtain ⟨a1, a2, a3, a4⟩ := send_num0 _ hw.lens s hs
  obtain ⟨k, hk⟩ := Int.eq_ofNat_of_zero_le a3
  have hlt : k < rule.length := by omega
  have ho := List.getElem?_eq_getElem hlt
  have ho2 : (rule.map PyData.int)[k]? = some (.int rule[k]) := by rw [List.getElem?_map, ho]; rfl
  show WC _ _ _; rw [F2]; refine wc_fd rfl ?_; simp only [f2, List.map_cons, List.map_nil, List.length_cons, List.length_nil, Nat.reduceAdd, Nat.reduceSub, List.replicate, List.cons_append, List.nil_append]; show VS _ _ (VB _ _ _ _)
  simp (dsimp := false)
  refine (c1 hw hlim hs).mpr ?_
  simp (dsimp := false) [hk, atI_nat, ho2]
  exact h _ (by rw [hk]; exact ho)
end LW

set_option maxRecDepth 100000
namespace LW
open RV
open PySem (PyData Str)
variable {n m m2 m3 m4 : Nat} {lk lk2 lk3 lk4 : Bool} {d v : D} {lo hi i j : Int} {R : Nat → D → List (Option Sl) → Prop} {ty : List (List (List Int))} {M P W O lim : Nat}
theorem zip3_map {α β γ : Type} {f : α → D} {g : β → D} {h : γ → D} {xs : List α} {ys : List β} {zs : List γ} : zip3D (xs.map f) (ys.map g) (zs.map h) = (xs.zip (ys.zip zs)).map fun p => .tuple [f p.1, g p.2.1, h p.2.2] := by
  unfold zip3D
  rw [List.zip_map, List.zip_map, List.map_map]
  rfl
/-- weighted sums -/
def wsum (ps : List (List (List Int) × (Int × Int))) (o : Nat) : Int := (ps.map fun p => p.2.2 * valO p.1 p.2.1 (o : Int)).sum
theorem wsum_app (ps : List (List (List Int) × (Int × Int))) (p : List (List Int) × (Int × Int)) (o : Nat) : wsum (ps ++ [p]) o = wsum ps o + p.2.2 * valO p.1 p.2.1 (o : Int) := by simp [wsum]
def IWs (ps : List (List (List Int) × (Int × Int))) (o : Nat) (S : Option Sl → Option Sl → Option Sl → Int → A) (r : List D) (b : A) : Prop := ∃ (k : Nat) (s5 s6 s7 : Option Sl), r = (ps.map fun p => PyData.tuple [wD p.1, .int p.2.1, .int p.2.2]).drop k ∧ b = S s5 s6 s7 (wsum (ps.take k) o)
theorem prof_at {s ws : List Int} (hp : Prof M ty s) {k : Nat} {p : List (List Int) × (Int × Int)} (h : (ty.zip (s.zip ws))[k]? = some p) : ∃ (q : Nat) (w : List Int), p.2.1 = q ∧ p.1[q]? = some w ∧ w.length = M ∧ ∀ x ∈ w, -99 ≤ x ∧ x ≤ 99 := by
  obtain ⟨h1, h2⟩ := List.getElem?_zip_eq_some.mp h
  obtain ⟨h3, h4⟩ := List.getElem?_zip_eq_some.mp h2
  have hm : (p.1, p.2.1) ∈ ty.zip s := List.mem_of_getElem? (i := k) (List.getElem?_zip_eq_some.mpr ⟨h1, h3⟩)
  obtain ⟨q, w, e, h5, h6, h7⟩ := hp.at_ _ hm
  exact ⟨q, w, e, h5, h6, h7⟩
/-- plain sums -/
def psum (ty : List (List (List Int))) (s : List Int) (o : Nat) : Int := ((ty.zip s).map fun p => valO p.1 p.2 (o : Int)).sum
theorem wsum_one : ∀ (ty : List (List (List Int))) (s : List Int) (o : Nat), wsum (ty.zip (s.zip (List.replicate s.length 1))) o = psum ty s o
  | [], s, o => by simp [wsum, psum]
  | t :: ty, [], o => by simp [wsum, psum]
  | t :: ty, x :: s, o => by
    have ih := wsum_one ty s o
    simp only [wsum, psum, List.length_cons, List.replicate_succ, List.zip_cons_cons, List.map_cons, List.sum_cons] at ih ⊢
    rw [ih]
    omega
/-- the sums at a profile, their greatest ones -/
def sumsL (M : Nat) (ty : List (List (List Int))) (s : List Int) : List Int := (List.range M).map fun o => psum ty s o
def mxI (r : List Int) : Int := (maxI r).getD 0
def bestL (M : Nat) (ty : List (List (List Int))) (s : List Int) : List Int := ((List.range M).filter fun o => decide (psum ty s o = mxI (sumsL M ty s))).map fun (o : Nat) => (o : Int)
theorem maxI_mem : ∀ (r : List Int) (x : Int), (r.foldl (fun m y => if m < y then y else m) x) ∈ x :: r ∧ ∀ y ∈ x :: r, y ≤ r.foldl (fun m y => if m < y then y else m) x
  | [], x => by simp
  | y :: r, x => by
    obtain ⟨a, b⟩ := maxI_mem r (if x < y then y else x)
    simp only [List.foldl_cons]
    refine ⟨?_, fun z hz => ?_⟩
    · rcases List.mem_cons.mp a with h | h
      · rw [h]; split <;> simp
      · simp [h]
    · have h0 := b (if x < y then y else x) (by simp)
      generalize hF : r.foldl (fun m y => if m < y then y else m) (if x < y then y else x) = F at h0 b ⊢
      rcases List.mem_cons.mp hz with h | h
      · subst h; split at h0 <;> omega
      · rcases List.mem_cons.mp h with h | h
        · subst h; split at h0 <;> omega
        · exact b z (by simp [h])
theorem maxI_some {r : List Int} (hne : r ≠ []) : maxI r = some (mxI r) ∧ mxI r ∈ r ∧ ∀ y ∈ r, y ≤ mxI r := by
  cases r with
  | nil => exact absurd rfl hne
  | cons x r => exact ⟨rfl, maxI_mem r x⟩
theorem max_list {r : List Int} (hne : r ≠ []) : biD .max [(m, .list (r.map .int))] = some (.int (mxI r)) := by
  show ((asInts _).bind maxI).map _ = _
  rw [asInts_map]
  simp [(maxI_some hne).1]
theorem best_ne (hM : 1 ≤ M) (s : List Int) : bestL M ty s ≠ [] := by
  have hne : sumsL M ty s ≠ [] := by intro e; have := congrArg List.length e; simp [sumsL] at this; omega
  obtain ⟨_, h2, _⟩ := maxI_some hne
  obtain ⟨o, ho, e⟩ := List.mem_map.mp h2
  intro z
  have : (o : Int) ∈ bestL M ty s := List.mem_map.mpr ⟨o, List.mem_filter.mpr ⟨ho, by simpa using e⟩, rfl⟩
  rw [z] at this
  cases this
theorem enum_range {f : Nat → Int} {M : Nat} : enumD ((List.range M).map fun o => PyData.int (f o)) = (List.range M).map fun (o : Nat) => PyData.tuple [.int (o : Int), .int (f o)] := by
  refine List.ext_getElem? fun k => ?_
  rw [enum_get, List.getElem?_map, List.getElem?_map]
  by_cases hk : k < M
  · rw [List.getElem?_eq_getElem (by simpa using hk)]
    simp
  · rw [List.getElem?_eq_none (by simpa using hk)]
    rfl
theorem fm_nat {p : Nat → Bool} : ∀ l : List Nat, (l.filterMap fun x => if p x = true then some (PyData.int (x : Int)) else none) = ((l.filter p).map fun (o : Nat) => (o : Int)).map .int
  | [] => rfl
  | x :: l => by
    have := fm_nat (p := p) l
    by_cases h : p x = true <;> simp [h, this]
end LW

set_option maxRecDepth 100000
namespace LW
open RV
open PySem (PyData Str)
variable {n m m2 m3 m4 : Nat} {lk lk2 lk3 lk4 : Bool} {d v : D} {lo hi i j : Int} {R : Nat → D → List (Option Sl) → Prop} {ty : List (List (List Int))} {M P W O lim : Nat}
def best0 (M : Nat) (ty : List (List (List Int))) (s : List Int) : Int := (bestL M ty s).headD 0
theorem best0_at (hM : 1 ≤ M) (s : List Int) : ((bestL M ty s).map PyData.int)[0]? = some (.int (best0 M ty s)) := by
  have h := best_ne (ty := ty) hM s
  unfold best0
  cases hb : bestL M ty s with
  | nil => exact absurd hb h
  | cons x r => simp
theorem best0_mem (hM : 1 ≤ M) (s : List Int) : ∃ o : Nat, best0 M ty s = o ∧ o < M ∧ psum ty s o = mxI (sumsL M ty s) := by
  have h := best_ne (ty := ty) hM s
  have hm : best0 M ty s ∈ bestL M ty s := by
    unfold best0
    cases hb : bestL M ty s with
    | nil => exact absurd hb h
    | cons x r => simp
  obtain ⟨o, ho, e⟩ := List.mem_map.mp hm
  obtain ⟨h1, h2⟩ := List.mem_filter.mp ho
  exact ⟨o, e.symm, List.mem_range.mp h1, by simpa using h2⟩
def sumR (M : Nat) (ty : List (List (List Int))) : List Int := (sendL (lensI ty)).map (best0 M ty)
/-- how much a rule loses at a profile -/
def lostF (M : Nat) (ty : List (List (List Int))) (f : Int) (q : List Int × Int) : Int := if f < mxI (sumsL M ty q.1) - psum ty q.1 q.2.toNat then mxI (sumsL M ty q.1) - psum ty q.1 q.2.toNat else f
def lost (M : Nat) (ty : List (List (List Int))) (rule : List Int) : Int := ((sendL (lensI ty)).zip rule).foldl (lostF M ty) 0
structure Rule (M : Nat) (ty : List (List (List Int))) (rule : List Int) : Prop where
  len : (rule.length : Int) = prodI0 (lensI ty)
  val : ∀ o ∈ rule, 0 ≤ o ∧ o < M
theorem Rule.len2 {rule : List Int} (hw : WorldOk M ty P W O lim) (h : Rule M ty rule) : rule.length = (sendL (lensI ty)).length := by
  have := sendL_prod0 (lensI ty) hw.lens
  have := h.len
  omega
def ILost (M : Nat) (ty : List (List (List Int))) (rule : List Int) (S : Int → Option Sl → Option Sl → A) (r : List D) (b : A) : Prop := ∃ (k : Nat) (s3 s4 : Option Sl), r = ((sendL (lensI ty)).map rowD).drop k ∧ b = S ((((sendL (lensI ty)).zip rule).take k).foldl (lostF M ty) 0) s3 s4
def ILostL (M : Nat) (ty : List (List (List Int))) (ps : List (List Int × Int)) (S : Int → Option Sl → Option Sl → Option Sl → A) (r : List D) (b : A) : Prop := ∃ (k : Nat) (s3 s4 s5 : Option Sl), r = (ps.map fun p => PyData.tuple [rowD p.1, .int p.2]).drop k ∧ b = S ((ps.take k).foldl (lostF M ty) 0) s3 s4 s5
theorem sums_get {s : List Int} {o : Nat} (ho : o < M) : ((sumsL M ty s).map PyData.int)[o]? = some (.int (psum ty s o)) := by
  unfold sumsL
  rw [List.map_map, List.getElem?_map, List.getElem?_eq_getElem (by simpa using ho)]
  simp
end LW

set_option maxRecDepth 100000
namespace LW
open RV
open PySem (PyData Str)
variable {n m m2 m3 m4 : Nat} {lk lk2 lk3 lk4 : Bool} {d v : D} {lo hi i j : Int} {R : Nat → D → List (Option Sl) → Prop} {ty : List (List (List Int))} {M P W O lim : Nat}
def argI (L : List Int) : Nat := (L.findIdx? fun z => decide (z = mxI L)).getD 0
theorem argI_at {L : List Int} (hne : L ≠ []) (hl : L.length ≤ 1000) : meD .index (m, .list (L.map .int)) (m2, .int (mxI L)) = some (.int (argI L : Nat)) := by
  rw [me_idx_l, if_pos (by rw [eqOk_int, eqOk_list_ints, fitL_of (by simp; omega)]; rfl)]
  unfold indexD firstAt
  rw [List.findIdx?_map]
  have e : ((fun y => PyData.eqv y (.int (mxI L))) ∘ PyData.int) = fun z => decide (z = mxI L) := by
    funext z
    exact eqv_int
  rw [e]
  obtain ⟨_, h2, _⟩ := maxI_some hne
  unfold argI
  cases h : L.findIdx? fun z => decide (z = mxI L) with
  | none =>
    have := List.findIdx?_eq_none_iff.mp h _ h2
    simp at this
  | some k => rfl
def wvals (M : Nat) (ty : List (List (List Int))) (ws : List Int) (f : Nat → Int) (s : List Int) : List Int := (List.range M).map fun o => wsum (ty.zip (s.zip ws)) o + f o
theorem wvals_ne (hM : 1 ≤ M) {ws : List Int} {f : Nat → Int} {s : List Int} : wvals M ty ws f s ≠ [] := by
  intro e; have := congrArg List.length e; simp [wvals] at this; omega
def wrule (M : Nat) (ty : List (List (List Int))) (ws : List Int) (f : Nat → Int) : List Int := (sendL (lensI ty)).map fun s => (argI (wvals M ty ws f s) : Int)
def exL (M : Nat) (f : Nat → Int) : List Int := (List.range M).map f
def IWr (M : Nat) (ty : List (List (List Int))) (ws : List Int) (f : Nat → Int) (S : List Int → Option Sl → Option Sl → A) (r : List D) (b : A) : Prop := ∃ (k : Nat) (s4 s5 : Option Sl), r = ((sendL (lensI ty)).map rowD).drop k ∧ k ≤ (sendL (lensI ty)).length ∧ b = S (((sendL (lensI ty)).take k).map fun s => (argI (wvals M ty ws f s) : Int)) s4 s5
end LW

set_option maxRecDepth 100000
namespace LW
open RV
open PySem (PyData Str)
variable {n m m2 m3 m4 : Nat} {lk lk2 lk3 lk4 : Bool} {d v : D} {lo hi i j : Int} {R : Nat → D → List (Option Sl) → Prop} {ty : List (List (List Int))} {M P W O lim : Nat}
theorem wsum_comm (ps : List (List (List Int) × (Int × Int))) (o : Nat) : (ps.map fun p => valO p.1 p.2.1 (o : Int) * p.2.2).sum = wsum ps o := by
  unfold wsum
  congr 1
  exact List.map_congr_left fun p _ => Int.mul_comm _ _
def IWl (M : Nat) (ty : List (List (List Int))) (ws : List Int) (f : Nat → Int) (S : List Int → Option Sl → Option Sl → Option Sl → Option Sl → A) (r : List D) (b : A) : Prop := ∃ (k : Nat) (s4 s5 s6 s7 : Option Sl), r = ((sendL (lensI ty)).map rowD).drop k ∧ k ≤ (sendL (lensI ty)).length ∧ b = S (((sendL (lensI ty)).take k).map fun s => (argI (wvals M ty ws f s) : Int)) s4 s5 s6 s7
def IWi (M : Nat) (g : Nat → Int) (S : List Int → Option Sl → Option Sl → A) (r : List D) (b : A) : Prop := ∃ (k : Nat) (s6 s7 : Option Sl), r = (rngD 0 M).drop k ∧ k ≤ M ∧ b = S ((List.range k).map g) s6 s7
theorem exL_of {ts : List Int} (h : ts.length = M) : ∃ f, ts = exL M f := by
  refine ⟨fun o => (ts[o]?).getD 0, ?_⟩
  subst h
  unfold exL
  refine List.ext_getElem? fun k => ?_
  rw [List.getElem?_map]
  by_cases hk : k < ts.length
  · rw [List.getElem?_range hk]
    simp [List.getElem?_eq_getElem hk]
  · rw [List.getElem?_eq_none (by omega), List.getElem?_eq_none (by simpa using hk)]
    rfl
theorem argI_lt {L : List Int} (hne : L ≠ []) : argI L < L.length := by
  unfold argI
  obtain ⟨_, h2, _⟩ := maxI_some hne
  cases h : L.findIdx? fun z => decide (z = mxI L) with
  | none =>
    have := List.findIdx?_eq_none_iff.mp h _ h2
    simp at this
  | some k =>
    obtain ⟨hk, _⟩ := List.findIdx?_eq_some_iff_getElem.mp h
    exact hk
theorem wrule_rule (hw : WorldOk M ty P W O lim) {ws : List Int} {f : Nat → Int} : Rule M ty (wrule M ty ws f) := by
  refine ⟨?_, fun o ho => ?_⟩
  · have := sendL_prod0 (lensI ty) hw.lens
    simpa [wrule] using this
  · obtain ⟨s, _, rfl⟩ := List.mem_map.mp ho
    have := argI_lt (wvals_ne (ty := ty) (ws := ws) (f := f) (s := s) (show 1 ≤ M by have := hw.m2; omega))
    have hl : (wvals M ty ws f s).length = M := by simp [wvals]
    omega
theorem flat_rep {k : Nat} {d : D} : (List.replicate k [d]).flatten = List.replicate k d := by simp
theorem rep_int {k : Nat} {i : Int} : List.replicate k (PyData.int i) = (List.replicate k i).map .int := by simp
theorem mul_tup1 {k : Nat} {a b : Nat} (h : k ≤ 1000) : binD .mul (a, .tuple [.int i]) (b, .int (k : Int)) = some (rowD (List.replicate k i)) := by
  rw [mul_tup, if_pos (by simp; omega), Int.toNat_natCast, flat_rep, rep_int]
  rfl
theorem mul_lst1 {k : Nat} {a b : Nat} (h : k ≤ 1000) (ha : a ≠ 99) : binD .mul (a, .list [.int i]) (b, .int (k : Int)) = some (.list ((List.replicate k i).map .int)) := by
  have hf : fitL k = true := fitL_of (by omega)
  rw [mul_lst, if_pos (by simp [kidsIm, kidsFlat, own99, ha, hf]; omega), Int.toNat_natCast, flat_rep, rep_int]
theorem slc_rowf1 {t : List Int} {k : Nat} : slcD (m, rowD t) (some ((k : Int) + 1)) none = some (rowD (t.drop (k + 1))) := slc_rowf (c := k + 1)
theorem rule_set (hw : WorldOk M ty P W O lim) {rule : List Int} (h : Rule M ty rule) {k v : Nat} (hk : k < rule.length) (hv : v < M) : Rule M ty (rule.take k ++ (v : Int) :: rule.drop (k + 1)) := by
  refine ⟨?_, fun o ho => ?_⟩
  · rw [← h.len]
    simp
    omega
  · simp only [List.mem_append, List.mem_cons] at ho
    rcases ho with z | z | z
    · exact h.val o (List.mem_of_mem_take z)
    · subst z; omega
    · exact h.val o (List.mem_of_mem_drop z)
end LW

set_option maxRecDepth 100000
namespace LW
open RV
open PySem (PyData Str)
variable {n m m2 m3 m4 : Nat} {lk lk2 lk3 lk4 : Bool} {d v : D} {lo hi i j : Int} {R : Nat → D → List (Option Sl) → Prop} {ty : List (List (List Int))} {M P W O lim : Nat}
theorem atI_last {α : Type} {ds : List α} {d : α} : L2.atI (ds ++ [d]) (-1) = some d := by
  unfold L2.atI
  simp only [List.length_append, List.length_cons, List.length_nil]
  rw [ixN_last (by omega)]
  simp
theorem c12 {g : Deck} {lim : Nat} (h1 : 1 ≤ lim) (h2 : lim ≤ 1000) (h : ∀ g' M ty, WorldOk M ty 3 8 6 lim → (∀ t ∈ ty, t.Nodup) → R 0 (worldD M ty) [some (dk g'), some ⟨m, lk, .int lim⟩]) : VC (callD tab LL (n + 5) 12) [dk g, ⟨m, lk, .int lim⟩] R := by
  show WC _ _ _; rw [F12]; refine wc_fd rfl ?_; simp only [f12, List.map_cons, List.map_nil, List.length_cons, List.length_nil, Nat.reduceAdd, Nat.reduceSub, List.replicate, List.cons_append, List.nil_append]; show VS _ _ (VB _ _ _ _)
  simp (dsimp := false) [dk]
  refine c9 PyData.int [2, 2, 3, 3, 3, 4, 5, 6] (by simp) (by simp) (.inr ⟨rfl, by omega⟩) fun g1 M0 hM => ?_
  have hM' : 2 ≤ M0 ∧ M0 ≤ 6 := by simp at hM; omega
  obtain ⟨M, rfl⟩ := Int.eq_ofNat_of_zero_le (show 0 ≤ M0 by omega)
  simp (dsimp := false) [dk]
  refine c9 PyData.int [1, 2, 2, 2, 3] (by simp) (by simp) (.inr ⟨rfl, by omega⟩) fun g2 T0 hT => ?_
  have hT' : 1 ≤ T0 ∧ T0 ≤ 3 := by simp at hT; omega
  obtain ⟨T, rfl⟩ := Int.eq_ofNat_of_zero_le (show 0 ≤ T0 by omega)
  simp (dsimp := false) [dk]
  refine ⟨by omega, ?_⟩
  refine vf_rng T [5] (fun s : Deck × Nat × List (List (List Int)) => [(0, dk s.1), (3, ⟨0, false, .int s.2.1⟩), (4, ⟨1, false, .list (s.2.2.map wD)⟩)]) (fun k s => 1 ≤ s.2.1 ∧ s.2.2.length = k ∧ prodL s.2.2 * s.2.1 ≤ lim ∧ 1 ≤ prodL s.2.2 ∧ (∀ t ∈ s.2.2, Wishes t M 8 99) ∧ ∀ t ∈ s.2.2, t.Nodup) rfl (g2, lim, []) (by simp [prodL]; omega) (by first | exact agr_of rfl rfl | exact agr_of rfl (by simp (dsimp := false)) | (simp (dsimp := false); done) | (simp (dsimp := false); rfl)) (fun k s fg fw hk hI => ?_) (fun s fg fw hI => ?_)
  · obtain ⟨g3, left, ty⟩ := s
    obtain ⟨i1, i2, i3, i3', i4, i5⟩ := hI
    simp only at i1 i2 i3 i3' i4 i5
    have hll : left ≤ lim := by
      have := Nat.mul_le_mul_right left i3'
      omega
    have e8 : (if (left : Int) < 8 then (left : Int) else 8) = ((min 8 left : Nat) : Int) := by
      have := min_nat (p := 8) (q := left)
      simpa using this
    simp (dsimp := false) [dk, e8]
    refine c11 (M := M) (W := min 8 left) (by omega) (by omega) (by omega) (by omega) fun g4 rows hw hnd => ?_
    have hl1 := hw.l1
    have hl2 := hw.lw
    have ha := app_list (m := 0) (d := wD rows) (ds := ty.map wD) (by simp; omega)
    have hat : L2.atI (ty.map wD ++ [wD rows]) (-1) = some (wD rows) := atI_last
    have k0 : ¬ rows.length = 0 := by omega
    have kn : rows.length < 1073741824 := by omega
    have fd : (left : Int).fdiv (rows.length : Int) = ((left / rows.length : Nat) : Int) := by rw [Int.fdiv_eq_ediv_of_nonneg _ (by omega)]; rfl
    have hdiv : 1 ≤ left / rows.length := by
      rw [Nat.le_div_iff_mul_le (by omega)]
      omega
    have hpl : prodL (ty ++ [rows]) = prodL ty * rows.length := by rw [prodL_app]; simp [prodL]
    simp (dsimp := false) [dk, ha, hat, kn, k0, fd]
    refine ⟨(g4, left / rows.length, ty ++ [rows]), ⟨hdiv, by simp [i2], ?_, ?_, ?_, ?_⟩, (by first | exact agr_of rfl rfl | exact agr_of rfl (by simp (dsimp := false)) | (simp (dsimp := false); done) | (simp (dsimp := false); rfl))⟩
    · simp only
      rw [hpl, Nat.mul_assoc]
      exact Nat.le_trans (Nat.mul_le_mul_left _ (Nat.mul_div_le left rows.length)) i3
    · simp only
      rw [hpl]
      exact Nat.mul_pos i3' hl1
    · intro t ht
      rcases List.mem_append.mp ht with z | z
      · exact i4 t z
      · simp at z; subst z; exact ⟨hl1, by omega, hw.len, hw.val⟩
    · intro t ht
      rcases List.mem_append.mp ht with z | z
      · exact i5 t z
      · simp at z; subst z; exact hnd
  · obtain ⟨g3, left, ty⟩ := s
    obtain ⟨i1, i2, i3, i3', i4, i5⟩ := hI
    simp only at i1 i2 i3 i3' i4 i5
    simp (dsimp := false) [dk, kids_ws]
    rw [tys_of, world_of]
    refine h g3 M ty ⟨by omega, by omega, by omega, by omega, i4, ?_⟩ i5
    have := Nat.mul_le_mul_left (prodL ty) i1
    omega
theorem c16 {L : List Int} (hne : L ≠ []) (hl : L.length ≤ 1000) (hv : v = rowD L ∨ v = .list (L.map .int) ∧ m ≤ 1 ∧ lk = false) : VC (callD tab LL (n + 1) 16) [⟨m, lk, v⟩] R ↔ R 0 (.int (argI L : Nat)) [some ⟨m, lk, v⟩] := by
  have hmx := fun m => max_list (m := m) hne
  have hidx := argI_at (m := 0) (m2 := 0) hne hl
  have hidx1 := argI_at (m := 1) (m2 := 0) hne hl
  have hmt : biD .max [(m, rowD L)] = some (.int (mxI L)) := hmx m
  refine vc_iff ?_
  show WC _ _ _; rw [F16]; refine wc_fd rfl ?_; simp only [f16, List.map_cons, List.map_nil, List.length_cons, List.length_nil, Nat.reduceAdd, Nat.reduceSub, List.replicate, List.cons_append, List.nil_append]; show VS _ _ (VB _ _ _ _)
  rcases hv with rfl | ⟨rfl, hm, rfl⟩
  · have e : biD .list [(m, rowD L)] = some (.list (L.map .int)) := rfl
    simp (dsimp := false) [e, hmt, hidx]
  · obtain rfl | rfl : m = 0 ∨ m = 1 := by omega
    · simp (dsimp := false) [kids_ints, hmx, hidx]
    · simp (dsimp := false) [kids_ints, hmx, hidx]
theorem c17 {s : List Int} (hp : Prof M ty s) (hM2 : M ≤ 100) (hl : ty.length ≤ 1000) : VC (callD tab LL (n + 1) 17) [⟨m, lk, worldD M ty⟩, ⟨m2, lk2, rowD s⟩] R ↔ R 0 (.list ((sumsL M ty s).map .int)) [some ⟨m, lk, worldD M ty⟩, some ⟨m2, lk2, rowD s⟩] := by
  have hz : zipD (ty.map wD) (s.map .int) = (ty.zip s).map fun p => .tuple [wD p.1, .int p.2] := zip_map
  refine vc_iff ?_
  show WC _ _ _; rw [F17]; refine wc_fd rfl ?_; simp only [f17, List.map_cons, List.map_nil, List.length_cons, List.length_nil, Nat.reduceAdd, Nat.reduceSub, List.replicate, List.cons_append, List.nil_append]; show VS _ _ (VB _ _ _ _)
  simp (dsimp := false)
  refine ⟨by omega, by rw [rng_len]; omega, ?_⟩
  refine vl_mapT (fun (o : Nat) => PyData.int (0 + (o : Int))) (fun o => .int (psum ty s o)) (List.range M) rfl rfl (fun o ho => ?_) ?_
  · have ho := List.mem_range.mp ho
    simp (dsimp := false) [hz]
    refine ⟨by omega, ?_⟩
    refine vl_mapT (fun p : List (List Int) × Int => .tuple [wD p.1, .int p.2]) (fun p => .int (valO p.1 p.2 (o : Int))) (ty.zip s) rfl rfl (fun p hpm => ?_) ?_
    · obtain ⟨q, w, hq, hw1, hw2, hw3⟩ := hp.at_ p hpm
      have ho2 : o < w.length := by omega
      have hv : valO p.1 p.2 (o : Int) = w[o] := by rw [hq]; exact valO_at hw1 ho2
      have a1 : (p.1.map rowD)[q]? = some (rowD w) := by rw [List.getElem?_map, hw1]; rfl
      have a2 : (w.map PyData.int)[o]? = some (.int w[o]) := by rw [List.getElem?_map, List.getElem?_eq_getElem ho2]; rfl
      simp (dsimp := false) [hq, atI_nat, a1, a2]
      rw [← hq, hv]
    · rw [show ((ty.zip s).map fun p => PyData.int (valO p.1 p.2 (o : Int))) = ((ty.zip s).map fun p => valO p.1 p.2 (o : Int)).map .int by rw [List.map_map]; rfl]
      have hps : psum ty s o = ((ty.zip s).map fun p => valO p.1 p.2 (o : Int)).sum := rfl
      generalize ((ty.zip s).map fun p => valO p.1 p.2 (o : Int)) = vs at hps
      simp (dsimp := false) [sum_lst]
      exact hps.symm
  · rw [show ((List.range M).map fun o => PyData.int (psum ty s o)) = (sumsL M ty s).map .int by unfold sumsL; rw [List.map_map]; rfl]
    generalize sumsL M ty s = S
    simp (dsimp := false) [kids_ints]
end LW

set_option maxRecDepth 100000
namespace LW
open RV
open PySem (PyData Str)
variable {n m m2 m3 m4 : Nat} {lk lk2 lk3 lk4 : Bool} {d v : D} {lo hi i j : Int} {R : Nat → D → List (Option Sl) → Prop} {ty : List (List (List Int))} {M P W O lim : Nat}
theorem tyAt {p : Nat} (h : p < ty.length) : L2.atI (ty.map wD) (p : Int) = some (wD ty[p]) := by
  rw [atI_nat, List.getElem?_map, List.getElem?_eq_getElem h]; rfl
theorem rowAt {t : List (List Int)} {p : Nat} (h : p < t.length) : L2.atI (t.map rowD) (p : Int) = some (rowD t[p]) := by
  rw [atI_nat, List.getElem?_map, List.getElem?_eq_getElem h]; rfl
theorem intAt {t : List Int} {p : Nat} (h : p < t.length) : L2.atI (t.map PyData.int) (p : Int) = some (.int t[p]) := by
  rw [atI_nat, List.getElem?_map, List.getElem?_eq_getElem h]; rfl
/-- what person p says in the profile s -/
theorem Prof.pers {s : List Int} (hp : Prof M ty s) {p : Nat} (h : p < ty.length) : ∃ (k : Nat) (h1 : p < s.length) (h2 : k < (ty[p]).length), s[p] = (k : Int) ∧ ((ty[p])[k]).length = M ∧ ∀ x ∈ (ty[p])[k], -99 ≤ x ∧ x ≤ 99 := by
  have h1 : p < s.length := by rw [hp.len]; exact h
  have hz : (ty[p], s[p]) ∈ ty.zip s := by
    refine List.mem_of_getElem? (i := p) ?_
    rw [List.getElem?_zip_eq_some]
    exact ⟨List.getElem?_eq_getElem h, List.getElem?_eq_getElem h1⟩
  obtain ⟨k, w, e1, e2, e3, e4⟩ := hp.at_ _ hz
  simp only at e1 e2
  obtain ⟨h2, rfl⟩ := List.getElem?_eq_some_iff.mp e2
  exact ⟨k, h1, h2, e1, e3, e4⟩
def ownT (ty : List (List (List Int))) (p : Nat) (s : List Int) : Nat := argI (((ty[p]?).getD [])[((s[p]?).getD 0).toNat]?.getD [])
theorem ownT_at {s : List Int} {p k : Nat} (h : p < ty.length) (h1 : p < s.length) (h2 : k < (ty[p]).length) (e : s[p] = (k : Int)) : ownT ty p s = argI (ty[p])[k] := by
  simp [ownT, h, h1, h2, e]
theorem rule_map (hw : WorldOk M ty P W O lim) {f : List Int → Nat} (h : ∀ s ∈ sendL (lensI ty), f s < M) : Rule M ty ((sendL (lensI ty)).map fun s => (f s : Int)) := by
  refine ⟨?_, fun o ho => ?_⟩
  · have := sendL_prod0 (lensI ty) hw.lens
    simpa using this
  · obtain ⟨s, hs, rfl⟩ := List.mem_map.mp ho
    have := h s hs
    omega
theorem rule_set2 {rule : List Int} (h : Rule M ty rule) {k v : Nat} (hv : v < M) : Rule M ty (rule.set k (v : Int)) := by
  refine ⟨by rw [List.length_set]; exact h.len, fun o ho => ?_⟩
  rcases List.mem_or_eq_of_mem_set ho with z | z
  · exact h.val o z
  · subst z; omega
theorem sto_int {t : List Int} {k : Nat} {i : Int} (h : k < t.length) : stoD (.list (t.map .int)) (.int (k : Int)) (.int i) = some (.list ((t.set k i).map .int)) := by
  rw [List.map_set]
  exact sto_ln (by simpa using h)
theorem c15 {g : Deck} (hw : WorldOk M ty P W O lim) (hP : P ≤ 10) (hO : O ≤ 100) (hlim : lim ≤ 1000) (h : ∀ g' rule, Rule M ty rule → R 0 (rowD rule) [some (dk g'), some ⟨m, lk, worldD M ty⟩]) : VC (callD tab LL (n + 3) 15) [dk g, ⟨m, lk, worldD M ty⟩] R := by
  have hM := hw.m2
  have hMO := hw.mO
  have hp1 := hw.p1
  have hp := hw.pP
  have hsp := sendL_prod0 (lensI ty) hw.lens
  have hsm := hw.small (lensI ty).length
  rw [List.take_of_length_le (Nat.le_refl _)] at hsm
  have hpos : 1 ≤ (sendL (lensI ty)).length := by
    have := prodI0_pos (lensI ty) hw.lens
    omega
  have hpr : ∀ s ∈ sendL (lensI ty), Prof M ty s := fun s hs => prof_of hw hs
  show WC _ _ _; rw [F15]; refine wc_fd rfl ?_; simp only [f15, List.map_cons, List.map_nil, List.length_cons, List.length_nil, Nat.reduceAdd, Nat.reduceSub, List.replicate, List.cons_append, List.nil_append]; show VS _ _ (VB _ _ _ _)
  simp (dsimp := false)
  refine c8 5 rfl (by omega) (by omega) fun g1 w w1 => ?_
  simp (dsimp := false) [dk]
  refine (c13 (n := n + 1) hw hP (by omega)).mpr ?_
  generalize hS : sendL (lensI ty) = S at hsp hsm hpos hpr
  simp (dsimp := false) [dk]
  refine c8 ty.length (by simp) (by omega) (by omega) fun g2 p p1 => ?_
  simp (dsimp := false) [dk]
  refine c8 M rfl (by omega) (by omega) fun g3 c c1 => ?_
  simp (dsimp := false) [dk]
  refine ⟨by omega, ?_⟩
  refine vl_mapT rowD (fun _ => .int (c : Int)) S rfl rfl (fun s hs => ?_) ?_
  · simp (dsimp := false)
  rw [show (S.map fun _ => PyData.int (c : Int)) = (List.replicate S.length (c : Int)).map .int by rw [List.map_const', List.map_replicate]]
  have hr0 : Rule M ty (List.replicate S.length (c : Int)) := ⟨by simp; omega, fun o ho => by have := List.eq_of_mem_replicate ho; omega⟩
  generalize List.replicate S.length (c : Int) = rule0 at hr0
  simp (dsimp := false) [dk]
  refine vif_join [7, 8, 9, 10, 11] (fun s : Deck × List Int => [(0, dk s.1), (6, ⟨1, false, .list (s.2.map .int)⟩)]) (fun s => Rule M ty s.2) (fun h5 => ?_) (fun h5 => ?_) (fun s fg fw hr => ?_)
  · simp (dsimp := false)
    refine ⟨by omega, ?_⟩
    refine vl_draw rowD PyData.int S (fun g : Deck => [(0, dk g)]) (fun x => 0 ≤ x ∧ x < M) g3 rfl rfl (fun x _ g4 => ?_) (fun g4 q hl2 hq2 => ?_)
    · simp (dsimp := false) [dk]
      refine c8 M rfl (by omega) (by omega) fun g5 y y1 => ?_
      simp (dsimp := false) [dk]
      exact ⟨y, g5, rfl, by omega, rfl⟩
    · simp (dsimp := false) [dk]
      exact ⟨(g4, q), ⟨by simp only; omega, hq2⟩, (by first | exact agr_of rfl rfl | exact agr_of rfl (by simp (dsimp := false)) | (simp (dsimp := false); done) | (simp (dsimp := false); rfl))⟩
  · simp (dsimp := false)
    exact ⟨(g3, rule0), hr0, (by first | exact agr_of rfl rfl | exact agr_of rfl (by simp (dsimp := false)) | (simp (dsimp := false); done) | (simp (dsimp := false); rfl))⟩
  · obtain ⟨g4, rule1⟩ := s
    simp only at hr
    simp (dsimp := false) [dk]
    refine vif_join [7, 8, 9, 10, 11] (fun s : Deck × List Int => [(0, dk s.1), (6, ⟨1, false, .list (s.2.map .int)⟩)]) (fun s => Rule M ty s.2) (fun h5 => ?_) (fun h5 => ?_) (fun s fg fw hr => ?_)
    · simp (dsimp := false)
      refine ⟨by omega, ?_⟩
      refine vl_mapT rowD (fun s => .int (ownT ty p s : Nat)) S rfl rfl (fun s hs => ?_) ?_
      · obtain ⟨k, q1, q2, q3, q4, q5⟩ := (hpr s hs).pers p1
        have hne : (ty[p])[k] ≠ [] := by intro e; rw [e] at q4; simp at q4; omega
        simp (dsimp := false) [tyAt p1, intAt q1, q3, rowAt q2]
        rw [ownT_at p1 q1 q2 q3]
        generalize (ty[p])[k] = row at hne q4
        refine (c16 (n := n + 1) hne (by omega) (.inl rfl)).mpr ?_
        simp (dsimp := false)
      · rw [show (S.map fun s => PyData.int (ownT ty p s : Nat)) = (S.map fun s => (ownT ty p s : Int)).map .int by rw [List.map_map]; rfl]
        have hrl := rule_map (f := ownT ty p) hw fun s hs => by
          obtain ⟨k, q1, q2, q3, q4, q5⟩ := (prof_of hw hs).pers p1
          rw [ownT_at p1 q1 q2 q3, ← q4]
          exact argI_lt (by intro e; rw [e] at q4; simp at q4; omega)
        rw [hS] at hrl
        generalize (S.map fun s => (ownT ty p s : Int)) = rule2 at hrl
        simp (dsimp := false) [dk]
        exact ⟨(g4, rule2), hrl, (by first | exact agr_of rfl rfl | exact agr_of rfl (by simp (dsimp := false)) | (simp (dsimp := false); done) | (simp (dsimp := false); rfl))⟩
    · simp (dsimp := false)
      exact ⟨(g4, rule1), hr, (by first | exact agr_of rfl rfl | exact agr_of rfl (by simp (dsimp := false)) | (simp (dsimp := false); done) | (simp (dsimp := false); rfl))⟩
    · obtain ⟨g5, rule3⟩ := s
      simp only at hr
      simp (dsimp := false) [dk]
      refine vif_join [7, 8, 9, 10, 11] (fun s : Deck × List Int => [(0, dk s.1), (6, ⟨1, false, .list (s.2.map .int)⟩)]) (fun s => Rule M ty s.2) (fun h5 => ?_) (fun h5 => ?_) (fun s fg fw hr => ?_)
      · simp (dsimp := false)
        refine ⟨by omega, ?_⟩
        have hne : ∀ s, sumsL M ty s ≠ [] := fun s e => by have := congrArg List.length e; simp [sumsL] at this; omega
        have hll : ∀ s, (sumsL M ty s).length = M := fun s => by simp [sumsL]
        refine vl_mapT rowD (fun s => .int (argI (sumsL M ty s) : Nat)) S rfl rfl (fun s hs => ?_) ?_
        · simp (dsimp := false)
          refine (c17 (n := n + 1) (hpr s hs) (by omega) (by omega)).mpr ?_
          have h1 := hne s
          have h2 := hll s
          generalize sumsL M ty s = L at h1 h2
          simp (dsimp := false)
          refine (c16 (n := n + 1) h1 (by omega) (.inr ⟨rfl, by omega, rfl⟩)).mpr ?_
          simp (dsimp := false)
        · rw [show (S.map fun s => PyData.int (argI (sumsL M ty s) : Nat)) = (S.map fun s => (argI (sumsL M ty s) : Int)).map .int by rw [List.map_map]; rfl]
          have hrl := rule_map (f := fun s => argI (sumsL M ty s)) hw fun s hs => by
            have := argI_lt (hne s)
            rw [hll s] at this; exact this
          rw [hS] at hrl
          generalize (S.map fun s => (argI (sumsL M ty s) : Int)) = rule2 at hrl
          simp (dsimp := false) [dk]
          exact ⟨(g5, rule2), hrl, (by first | exact agr_of rfl rfl | exact agr_of rfl (by simp (dsimp := false)) | (simp (dsimp := false); done) | (simp (dsimp := false); rfl))⟩
      · simp (dsimp := false)
        exact ⟨(g5, rule3), hr, (by first | exact agr_of rfl rfl | exact agr_of rfl (by simp (dsimp := false)) | (simp (dsimp := false); done) | (simp (dsimp := false); rfl))⟩
      · obtain ⟨g6, rule4⟩ := s
        simp only at hr
        have hrl := hr.len2 hw
        rw [hS] at hrl
        simp (dsimp := false) [dk]
        refine c8 3 rfl (by omega) (by omega) fun g7 w w1 => ?_
        simp (dsimp := false) [dk]
        refine vif_intro (fun h6 => ?_) (fun h6 => ?_)
        · simp (dsimp := false) [dk]
          refine c8 M rfl (by omega) (by omega) fun g8 v v1 => ?_
          simp (dsimp := false) [dk]
          refine c8 rule4.length (by simp) (by omega) (by omega) fun g9 k k1 => ?_
          simp (dsimp := false) [dk, sto_int k1]
          rw [← List.map_set]
          exact h g9 _ (rule_set2 hr v1)
        · simp (dsimp := false) [dk, kids_ints, row_of]
          exact h g7 _ hr
end LW

set_option maxRecDepth 100000
namespace LW
open RV
open PySem (PyData Str)
variable {n m m2 m3 m4 : Nat} {lk lk2 lk3 lk4 : Bool} {d v : D} {lo hi i j : Int} {R : Nat → D → List (Option Sl) → Prop} {ty : List (List (List Int))} {M P W O lim : Nat}
theorem c3 {p q o : Nat} (hp : p < ty.length) (hq : q < (ty[p]).length) (ho : o < ((ty[p])[q]).length) : VC (callD tab LL (n + 1) 3) [⟨m, lk, worldD M ty⟩, ⟨m2, lk2, .int p⟩, ⟨m3, lk3, .int q⟩, ⟨m4, lk4, .int o⟩] R ↔ R 0 (.int ((ty[p])[q])[o]) [some ⟨m, lk, worldD M ty⟩, some ⟨m2, lk2, .int p⟩, some ⟨m3, lk3, .int q⟩, some ⟨m4, lk4, .int o⟩] := by
  refine vc_iff ?_
  show WC _ _ _; rw [F3]; refine wc_fd rfl ?_; simp only [f3, List.map_cons, List.map_nil, List.length_cons, List.length_nil, Nat.reduceAdd, Nat.reduceSub, List.replicate, List.cons_append, List.nil_append]; show VS _ _ (VB _ _ _ _)
  simp (dsimp := false) [tyAt hp, rowAt hq, intAt ho]
/-- the profile with person p at place q -/
def movL (s : List Int) (p : Nat) (q : Int) : List Int := s.take p ++ [q] ++ s.drop (p + 1)
theorem movL_len {s : List Int} {p : Nat} {q : Int} (h : p < s.length) : (movL s p q).length = s.length := by
  simp [movL]; omega
theorem mem_movL {s : List Int} {p : Nat} {q t : Int} (h : t ∈ movL s p q) : t = q ∨ t ∈ s := by
  unfold movL at h
  simp only [List.mem_append, List.mem_singleton] at h
  rcases h with (h | h) | h
  · exact .inr (List.mem_of_mem_take h)
  · exact .inl h
  · exact .inr (List.mem_of_mem_drop h)
theorem mov_at {s : List Int} {p : Nat} {q : Int} (h : s.length ≤ 1000) : slcD (m, rowD s) none (some (p : Int)) = some (rowD (s.take p)) ∧ binD .add (0, rowD (s.take p)) (0, .tuple [.int q]) = some (rowD (s.take p ++ [q])) ∧ slcD (m, rowD s) (some ((p : Int) + 1)) none = some (rowD (s.drop (p + 1))) ∧ binD .add (0, rowD (s.take p ++ [q])) (0, rowD (s.drop (p + 1))) = some (rowD (movL s p q)) :=
  ⟨slc_row, add_row1 (by simp; omega), slc_rowf1, by rw [add_rows, if_pos (fitL_of (by simp; omega))]; rfl⟩
theorem c4 {s : List Int} {p : Nat} {q : Int} (h : s.length ≤ 1000) : VC (callD tab LL (n + 1) 4) [⟨m, lk, rowD s⟩, ⟨m2, lk2, .int p⟩, ⟨m3, lk3, .int q⟩] R ↔ R 0 (rowD (movL s p q)) [some ⟨m, lk, rowD s⟩, some ⟨m2, lk2, .int p⟩, some ⟨m3, lk3, .int q⟩] := by
  refine vc_iff ?_
  show WC _ _ _; rw [F4]; refine wc_fd rfl ?_; simp only [f4, List.map_cons, List.map_nil, List.length_cons, List.length_nil, Nat.reduceAdd, Nat.reduceSub, List.replicate, List.cons_append, List.nil_append]; show VS _ _ (VB _ _ _ _)
  obtain ⟨e1, e2, e3, e4⟩ := mov_at (m := m) (p := p) (q := q) h
  simp (dsimp := false) [e1, e2, e3, e4]
/-- the best outcomes of a wish -/
def bestW (w : List Int) : List Int := ((List.range w.length).filter fun o => decide ((w[o]?).getD 0 = mxI w)).map fun (o : Nat) => (o : Int)
theorem bestW_len {w : List Int} : (bestW w).length ≤ w.length := by
  unfold bestW
  rw [List.length_map]
  refine Nat.le_trans (List.length_filter_le ..) ?_
  simp
theorem mem_bestW {w : List Int} {x : Int} : x ∈ bestW w ↔ ∃ (o : Nat) (h : o < w.length), x = o ∧ w[o] = mxI w := by
  unfold bestW
  simp only [List.mem_map, List.mem_filter, List.mem_range, decide_eq_true_eq]
  constructor
  · rintro ⟨o, ⟨h1, h2⟩, rfl⟩
    exact ⟨o, h1, rfl, by simpa [h1] using h2⟩
  · rintro ⟨o, h1, rfl, h2⟩
    exact ⟨o, ⟨h1, by simpa [h1] using h2⟩, rfl⟩
theorem enum_row {w : List Int} : enumD (w.map .int) = (List.range w.length).map fun (o : Nat) => PyData.tuple [.int (o : Int), .int ((w[o]?).getD 0)] := by
  refine List.ext_getElem? fun k => ?_
  rw [enum_get, List.getElem?_map, List.getElem?_map]
  by_cases hk : k < w.length
  · rw [List.getElem?_range hk]
    simp [List.getElem?_eq_getElem hk]
  · rw [List.getElem?_eq_none (by omega), List.getElem?_eq_none (by simpa using hk)]
    rfl
theorem c5 {p q : Nat} (hp : p < ty.length) (hq : q < (ty[p]).length) (hne : (ty[p])[q] ≠ []) (hl : ((ty[p])[q]).length ≤ 1000) : VC (callD tab LL (n + 1) 5) [⟨m, lk, worldD M ty⟩, ⟨m2, lk2, .int p⟩, ⟨m3, lk3, .int q⟩] R ↔ R 0 (rowD (bestW (ty[p])[q])) [some ⟨m, lk, worldD M ty⟩, some ⟨m2, lk2, .int p⟩, some ⟨m3, lk3, .int q⟩] := by
  have hmx : biD .max [(0, rowD (ty[p])[q])] = some (.int (mxI (ty[p])[q])) := max_list (m := 0) hne
  have hen := enum_row (w := (ty[p])[q])
  refine vc_iff ?_
  show WC _ _ _; rw [F5]; refine wc_fd rfl ?_; simp only [f5, List.map_cons, List.map_nil, List.length_cons, List.length_nil, Nat.reduceAdd, Nat.reduceSub, List.replicate, List.cons_append, List.nil_append]; show VS _ _ (VB _ _ _ _)
  simp (dsimp := false) [tyAt hp, rowAt hq]
  have hb : bestW (ty[p])[q] = ((List.range ((ty[p])[q]).length).filter fun o => decide ((((ty[p])[q])[o]?).getD 0 = mxI (ty[p])[q])).map fun (o : Nat) => (o : Int) := rfl
  generalize hw : (ty[p])[q] = w at hmx hen hb hl
  refine ⟨by rw [enum_len, List.length_map]; omega, ?_⟩
  refine vl_fmT (fun (o : Nat) => PyData.tuple [.int (o : Int), .int ((w[o]?).getD 0)]) (fun o => if decide ((w[o]?).getD 0 = mxI w) = true then some (.int (o : Int)) else none) (List.range w.length) hen rfl (fun o ho => ?_) ?_
  · generalize (w[o]?).getD 0 = z
    simp (dsimp := false) [hmx]
    refine vif_intro (fun h3 => ?_) (fun h3 => ?_) <;> simp (dsimp := false) [h3]
  · rw [fm_nat, ← hb]
    generalize bestW w = B
    simp (dsimp := false) [kids_ints]
    rfl
theorem c6 {rule : List Int} (hl : rule.length ≤ 1000) : VC (callD tab LL (n + 1) 6) [⟨m, lk, rowD rule⟩] R ↔ R 0 (rowD (setI rule)) [some ⟨m, lk, rowD rule⟩] := by
  refine vc_iff ?_
  show WC _ _ _; rw [F6]; refine wc_fd rfl ?_; simp only [f6, List.map_cons, List.map_nil, List.length_cons, List.length_nil, Nat.reduceAdd, Nat.reduceSub, List.replicate, List.cons_append, List.nil_append]; show VS _ _ (VB _ _ _ _)
  simp (dsimp := false)
  refine ⟨by omega, ?_⟩
  refine vl_mapT PyData.int (fun i => .tuple [.int i, .bool true]) rule rfl rfl (fun o ho => ?_) ?_
  · simp (dsimp := false)
  · have e := sort_fold (ns := rule)
    have e1 := dict_ints (m := 0) (ns := rule)
    generalize rule.foldl addI [] = ks at e e1
    simp (dsimp := false) [e1, sorted_dint, kids_ints, e]
    rfl
theorem c18 (hw : WorldOk M ty P W O lim) (hlim : lim ≤ 1000) (hP : P ≤ 10) (hO : O ≤ 60) {s rule : List Int} (hs : s ∈ sendL (lensI ty)) (hr : Rule M ty rule) {p q o : Nat} (hp : p < ty.length) (hq : q < (ty[p]).length) (ho : o < M) (h : ∀ x, rule[(numI ((lensI ty).zip s)).toNat]? = some x → R 0 (.list [.int (numI ((lensI ty).zip s)), .int x, .int (((ty[p])[q][o]?).getD 0), rowD (movL s p q), rowD (bestW (ty[p])[q]), rowD (setI rule)]) [some ⟨m, lk, worldD M ty⟩, some ⟨m2, lk2, rowD rule⟩, some ⟨m3, lk3, rowD s⟩, some ⟨0, false, .int p⟩, some ⟨0, false, .int q⟩, some ⟨0, false, .int o⟩]) : VC (callD tab LL (n + 2) 18) [⟨m, lk, worldD M ty⟩, ⟨m2, lk2, rowD rule⟩, ⟨m3, lk3, rowD s⟩, ⟨0, false, .int p⟩, ⟨0, false, .int q⟩, ⟨0, false, .int o⟩] R := by
  have hM := hw.m2
  have hMO := hw.mO
  have hpP := hw.pP
  have hsl := (send_num0 _ hw.lens s hs).1
  have hsl2 : s.length = ty.length := by rw [hsl]; simp [lensI]
  obtain ⟨a1, a2, a3, a4⟩ := send_num0 _ hw.lens s hs
  have hrl := hr.len
  have hrl2 : rule.length ≤ 1000 := by have := hw.li; rw [← prodL_int] at hrl; omega
  have hrv := hr.val
  have hset : (dedupI rule).length < 64 := by have := dedupI_len (k := M) hrv; omega
  obtain ⟨k, hk⟩ := Int.eq_ofNat_of_zero_le a3
  have hlt : k < rule.length := by omega
  have hrow := (hw.wi _ (List.getElem_mem hp)).len _ (List.getElem_mem hq)
  have hne : (ty[p])[q] ≠ [] := by intro e; rw [e] at hrow; simp at hrow; omega
  have hmx : biD .max [(0, rowD (ty[p])[q])] = some (.int (mxI (ty[p])[q])) := max_list (m := 0) hne
  have hx := h rule[k] (by rw [hk]; exact List.getElem?_eq_getElem hlt)
  show WC _ _ _; rw [F18]; refine wc_fd rfl ?_; simp only [f18, List.map_cons, List.map_nil, List.length_cons, List.length_nil, Nat.reduceAdd, Nat.reduceSub, List.replicate, List.cons_append, List.nil_append]; show VS _ _ (VB _ _ _ _)
  simp (dsimp := false) [tyAt hp, rowAt hq]
  refine ⟨by omega, by rw [rng_len]; omega, ?_⟩
  have hb : bestW (ty[p])[q] = ((List.range ((ty[p])[q]).length).filter fun o => decide ((((ty[p])[q])[o]?).getD 0 = mxI (ty[p])[q])).map fun (o : Nat) => (o : Int) := rfl
  generalize hw3 : (ty[p])[q] = w at hmx hb hx hrow
  have hget : ∀ o, o < M → (w.map PyData.int)[o]? = some (.int ((w[o]?).getD 0)) := fun o ho => by
    rw [List.getElem?_map, List.getElem?_eq_getElem (by omega)]; rfl
  have hgo := hget o ho
  have hat : ∀ o, o < M → L2.atI (w.map PyData.int) (o : Int) = some (.int ((w[o]?).getD 0)) := fun o ho => by rw [atI_nat, hget o ho]
  rw [hrow] at hb
  refine vl_fmT (fun (o : Nat) => PyData.int (0 + (o : Int))) (fun o => if decide ((w[o]?).getD 0 = mxI w) = true then some (.int (o : Int)) else none) (List.range M) rfl rfl (fun o ho => ?_) ?_
  · have ho := hat o (List.mem_range.mp ho)
    generalize (w[o]?).getD 0 = z at ho
    simp (dsimp := false) [hmx, ho]
    refine vif_intro (fun h3 => ?_) (fun h3 => ?_) <;> simp (dsimp := false) [h3]
  · rw [fm_nat, ← hb]
    generalize bestW w = B at hx
    simp (dsimp := false) [kids_ints]
    refine (c14 (n := n) hw (by omega) hs).mpr ?_
    obtain ⟨e1, e2, e3, e4⟩ := mov_at (m := m3) (p := p) (q := (q : Int)) (s := s) (by omega)
    have hou := hat o ho
    have hrk := intAt hlt
    generalize (w[o]?).getD 0 = z at hou hx
    rw [hk] at hx ⊢
    simp (dsimp := false) [e1, e2, e3, e4, hrk, hou, un_sortedSet (show rule.length ≤ 4000 by omega) hset, kids_ints, row_of]
    exact hx
theorem rule_sm {rule : List Int} (hw : WorldOk M ty P W O lim) (hO : O ≤ 100) (hlim : lim ≤ 1000) (h : Rule M ty rule) : Sm 1 43003 (rowD rule) :=
  (sm_row (L := 1000) (fun t ht => by have := h.val t ht; have := hw.mO; omega) (by have := h.len; rw [← prodL_int] at this; have := hw.li; omega)).mono (by omega) (by omega)
theorem outAt (hw : WorldOk M ty P W O lim) (hlim : lim ≤ 10000) {s rule : List Int} (hs : s ∈ sendL (lensI ty)) (hr : (rule.length : Int) = prodI0 (lensI ty)) {x : Int} (hx : rule[(numI ((lensI ty).zip s)).toNat]? = some x) : VC (callD tab LL (n + 2) 2) [⟨m, lk, worldD M ty⟩, ⟨m2, lk2, rowD rule⟩, ⟨m3, lk3, rowD s⟩] R ↔ R 0 (.int x) [some ⟨m, lk, worldD M ty⟩, some ⟨m2, lk2, rowD rule⟩, some ⟨m3, lk3, rowD s⟩] := by
  refine vc_iff (c2 hw hlim hs hr fun o ho => ?_)
  rw [hx] at ho
  cases ho
  exact ⟨rfl, rfl, rfl⟩
/-- a drawn profile is one of all -/
theorem mem_send0 : ∀ (cs : List Int) (s : List Int), s.length = cs.length → (∀ p ∈ cs.zip s, 0 ≤ p.2 ∧ p.2 < p.1) → s ∈ sendL cs := by
  refine snoc_ind (fun s h _ => ?_) fun cs c ih s h hv => ?_
  · have : s = [] := by simpa using h
    subst this
    simp [sendL]
  · have hne : s ≠ [] := by intro e; rw [e] at h; simp at h
    obtain ⟨t, z, rfl⟩ : ∃ t z, s = t ++ [z] := ⟨s.dropLast, s.getLast hne, (List.dropLast_concat_getLast hne).symm⟩
    have hl : t.length = cs.length := by simpa using h
    have hz : (cs ++ [c]).zip (t ++ [z]) = cs.zip t ++ [(c, z)] := by rw [List.zip_append hl.symm]; rfl
    rw [hz] at hv
    have h1 := ih t hl fun p hp => hv p (by simp [hp])
    obtain ⟨h2, h3⟩ := hv (c, z) (by simp)
    simp only at h2 h3
    rw [sendL_app]
    unfold stepS
    refine List.mem_flatMap.mpr ⟨t, h1, List.mem_map.mpr ⟨z.toNat, List.mem_range.mpr (by omega), ?_⟩⟩
    rw [Int.toNat_of_nonneg h2]
theorem mem_send {s : List Int} (h : s.length = ty.length) (hv : ∀ p ∈ ty.zip s, 0 ≤ p.2 ∧ p.2 < p.1.length) : s ∈ sendL (lensI ty) := by
  refine mem_send0 _ _ (by simpa [lensI] using h) fun p hp => ?_
  unfold lensI at hp
  rw [List.zip_map_left] at hp
  obtain ⟨q, hq, rfl⟩ := List.mem_map.mp hp
  exact hv q hq
end LW

set_option maxRecDepth 100000
set_option exponentiation.threshold 5000
namespace LW
open RV
open PySem (PyData Str)
variable {n m m2 m3 m4 : Nat} {lk lk2 lk3 lk4 : Bool} {d v : D} {lo hi i j : Int} {R : Nat → D → List (Option Sl) → Prop} {ty : List (List (List Int))} {M P W O lim : Nat}
theorem c19 {g : Deck} (hw : WorldOk M ty P W O lim) (hP : P ≤ 3) (hO : O ≤ 6) (hW : W ≤ 8) (hlim : lim ≤ 1000) {rule : List Int} (hr : Rule M ty rule) (h : ∀ g', R 0 (.bool true) [some (dk g'), some ⟨m, lk, worldD M ty⟩, some ⟨m2, lk2, rowD rule⟩]) : VC (callD tab LL (n + 3) 19) [dk g, ⟨m, lk, worldD M ty⟩, ⟨m2, lk2, rowD rule⟩] R := by
  have hM := hw.m2
  have hMO := hw.mO
  have hp1 := hw.p1
  have hpP := hw.pP
  show WC _ _ _; rw [F19]; refine wc_fd rfl ?_; simp only [f19, List.map_cons, List.map_nil, List.length_cons, List.length_nil, Nat.reduceAdd, Nat.reduceSub, List.replicate, List.cons_append, List.nil_append]; show VS _ _ (VB _ _ _ _)
  simp (dsimp := false)
  refine ⟨by omega, ?_⟩
  refine vl_st wD ty (fun g : Deck => [(0, dk g)]) (fun pre out _ => ∃ q : List Int, out = q.map .int ∧ q.length = pre.length ∧ ∀ p ∈ pre.zip q, 0 ≤ p.2 ∧ p.2 < p.1.length) rfl g ⟨[], rfl, rfl, by simp⟩ rfl (fun pre x post out g2 e hI => ?_) (fun out g2 hI => ?_)
  · obtain ⟨q, rfl, hq, hv⟩ := hI
    have hwx := hw.wi x (by rw [e]; simp)
    have l1 := hwx.l1
    have l2 := hwx.lw
    simp (dsimp := false) [dk]
    refine c8 x.length (by simp) (by omega) (by omega) fun g3 k k1 => ?_
    simp (dsimp := false) [dk]
    refine ⟨g3, ⟨q ++ [(k : Int)], by simp, by simp [hq], fun p hp => ?_⟩, rfl⟩
    rw [List.zip_append hq.symm] at hp
    rcases List.mem_append.mp hp with z | z
    · exact hv p z
    · simp at z; subst z; simp only; omega
  · obtain ⟨s, rfl, hsl, hv⟩ := hI
    have hs := mem_send hsl hv
    simp (dsimp := false) [dk, kids_ints, row_of]
    refine c8 s.length (by simp) (by omega) (by omega) fun g3 p p1 => ?_
    rw [hsl] at p1
    simp (dsimp := false) [dk]
    refine c8 M rfl (by omega) (by omega) fun g4 o o1 => ?_
    have hwx := hw.wi _ (List.getElem_mem p1)
    have l1 := hwx.l1
    have l2 := hwx.lw
    simp (dsimp := false) [dk, tyAt p1]
    refine c8 (ty[p]).length (by simp) (by omega) (by omega) fun g5 q q1 => ?_
    have hrow := hwx.len _ (List.getElem_mem q1)
    have hrv := hwx.val _ (List.getElem_mem q1)
    have o2 : o < ((ty[p])[q]).length := by omega
    have hne : (ty[p])[q] ≠ [] := by intro e; rw [e] at hrow; simp at hrow; omega
    have sw := world_sm hw (by omega) (by omega) (by omega)
    have sr := rule_sm hw (by omega) (by omega) hr
    have hsb : ∀ t ∈ s, t.natAbs < 10 ^ 40 := fun t ht => by
      obtain ⟨k, hk, rfl⟩ := List.getElem_of_mem ht
      have hk2 : k < ty.length := by omega
      have hb : 0 ≤ s[k] ∧ s[k] < (ty[k]).length := hv (ty[k], s[k]) (List.mem_of_getElem? (i := k) (by rw [List.getElem?_zip_eq_some]; exact ⟨List.getElem?_eq_getElem hk2, List.getElem?_eq_getElem hk⟩))
      have := (hw.wi _ (List.getElem_mem hk2)).lw
      omega
    have sp := sm_row (L := 3) (ts := s) hsb (by omega)
    have sk := (sma_cons sw (sma_cons sr (sma_cons sp sma_nil))).list
    have ek := sk.showOk (by decide) (by simp)
    have nk := eq_same sk
    simp (dsimp := false) [dk]
    refine c18 (n := n) hw (by omega) (by omega) (by omega) hs hr p1 q1 o1 fun x hx => ?_
    have hgx : (((ty[p])[q])[o]?).getD 0 = ((ty[p])[q])[o] := by rw [List.getElem?_eq_getElem o2]; rfl
    rw [hgx]
    have hzv : -99 ≤ ((ty[p])[q])[o] ∧ ((ty[p])[q])[o] ≤ 99 := hrv _ (List.getElem_mem o2)
    have cn := fun {m lk m2 lk2 R} => c1 (n := n + 1) (m := m) (lk := lk) (m2 := m2) (lk2 := lk2) (R := R) hw (by omega) hs
    have co := fun {m lk m2 lk2 m3 lk3 R} => outAt (n := n) (m := m) (lk := lk) (m2 := m2) (lk2 := lk2) (m3 := m3) (lk3 := lk3) (R := R) hw (by omega) hs hr.len hx
    have cw := fun {m lk m2 lk2 m3 lk3 m4 lk4 R} => c3 (n := n + 1) (m := m) (lk := lk) (m2 := m2) (lk2 := lk2) (m3 := m3) (lk3 := lk3) (m4 := m4) (lk4 := lk4) (M := M) (R := R) p1 q1 o2
    have ct := fun {m lk m2 lk2 m3 lk3 R q} => c4 (n := n + 1) (m := m) (lk := lk) (m2 := m2) (lk2 := lk2) (m3 := m3) (lk3 := lk3) (R := R) (s := s) (p := p) (q := q) (by omega)
    have cb := fun {m lk m2 lk2 m3 lk3 R} => c5 (n := n + 1) (m := m) (lk := lk) (m2 := m2) (lk2 := lk2) (m3 := m3) (lk3 := lk3) (M := M) (R := R) p1 q1 hne (by omega)
    have hrl : rule.length ≤ 1000 := by have := hr.len; rw [← prodL_int] at this; have := hw.li; omega
    have cu := fun {m lk R} => c6 (n := n + 1) (m := m) (lk := lk) (R := R) hrl
    have e1 : ∀ (a b c : D) (x y z : List Int), muD .extend (.list [a, b, c]) [(0, .list [rowD x, rowD y, rowD z])] = some (.none, .list [a, b, c, rowD x, rowD y, rowD z]) := fun a b c x y z => ext_list rfl (by decide) (by simp)
    have e2 : ∀ (a b c d : D) (x y : List Int), muD .extend (.list [a, b, c, d]) [(0, .list [rowD x, rowD y])] = some (.none, .list [a, b, c, d, rowD x, rowD y]) := fun a b c d x y => ext_list rfl (by decide) (by simp)
    obtain ⟨a1, a2, a3, a4⟩ := send_num0 _ hw.lens s hs
    have hb := hw.li
    rw [← prodL_int] at a4
    have s1 : Sm 0 41 (.int (numI ((lensI ty).zip s))) := sm_int (by omega)
    have s2 : Sm 0 41 (.int x) := sm_int (by have := hr.val x (List.mem_of_getElem? hx); omega)
    have s3 : Sm 0 41 (.int ((ty[p])[q])[o]) := sm_int (by omega)
    have s4 : Sm 1 (3 * 43 + 3) (rowD (movL s p q)) := sm_row (L := 3) (fun t ht => by
      rcases mem_movL ht with z | z
      · subst z; omega
      · exact hsb t z) (by rw [movL_len (by omega)]; omega)
    have s5 : Sm 1 (6 * 43 + 3) (rowD (bestW (ty[p])[q])) := sm_row (L := 6) (fun t ht => by
      obtain ⟨o, ho, rfl, _⟩ := mem_bestW.mp ht
      omega) (by have := bestW_len (w := (ty[p])[q]); omega)
    have s6 : Sm 1 (6 * 43 + 3) (rowD (setI rule)) := sm_row (L := 6) (fun t ht => by
      have := hr.val t (mem_setI.mp ht)
      omega) (by have := setI_len (k := M) hr.val; omega)
    generalize ((ty[p])[q])[o] = z at *
    generalize numI ((lensI ty).zip s) = z1 at *
    have sd := (sma_cons s1 (sma_cons s2 (sma_cons s3 (sma_cons s4 (sma_cons s5 (sma_cons s6 sma_nil)))))).list
    have se := (sma_cons sd (sma_cons sd sma_nil)).list
    have ee := se.showOk (by decide) (by simp)
    have ne := eq_same se
    simp (dsimp := false) [dk, ek, nk, cn, co, cw, ct, cb, cu, e1, e2, ee, ne]
    exact h g5
end LW

set_option maxRecDepth 100000
set_option exponentiation.threshold 5000
namespace LW
open RV
open PySem (PyData Str)
variable {n m m2 m3 m4 : Nat} {lk lk2 lk3 lk4 : Bool} {d v : D} {lo hi i j : Int} {R : Nat → D → List (Option Sl) → Prop} {ty : List (List (List Int))} {M P W O lim : Nat}
theorem lim02 {k : Nat} (hk : k < 3) : ∃ lim : Nat, L2.atI [PyData.int 64, .int 36, .int 12] (k : Int) = some (.int lim) ∧ 1 ≤ lim ∧ lim ≤ 64 := by
  rw [atI_nat]
  match k, hk with
  | 0, _ => exact ⟨64, rfl, by omega, by omega⟩
  | 1, _ => exact ⟨36, rfl, by omega, by omega⟩
  | 2, _ => exact ⟨12, rfl, by omega, by omega⟩
def p6 : List (List Int) := [[0, 0], [0, 1], [0, 2], [0, 3], [0, 4], [0, 5]]
def p8 : List (List Int) := p6 ++ [[1, 0], [2, 0]]
theorem wish6 : Wishes p6 2 8 99 := ⟨by decide, by decide, by decide, by decide⟩
theorem wish8 : Wishes p8 2 8 99 := ⟨by decide, by decide, by decide, by decide⟩
theorem world02 {x : List (List (List Int))} (h : x ∈ [[p6, p6, p6], [p8, p8]]) : WorldOk 2 x 3 8 6 216 := by
  simp only [List.mem_cons, List.not_mem_nil, or_false] at h
  rcases h with rfl | rfl
  · exact ⟨by omega, by omega, by decide, by decide, fun t ht => by simp at ht; subst ht; exact wish6, by decide⟩
  · exact ⟨by omega, by omega, by decide, by decide, fun t ht => by simp at ht; subst ht; exact wish8, by decide⟩
theorem profs_sm (hw : WorldOk M ty P W O lim) (hP : P ≤ 3) (hW : W ≤ 8) (hlim : lim ≤ 216) : Sm 2 29000 (wD (sendL (lensI ty))) :=
  (sm_w (K := 3) (L := 216) (fun r hr => by
    obtain ⟨a1, a2, a3, a4⟩ := send_num0 _ hw.lens r hr
    have hp := hw.pP
    have hl : r.length = ty.length := by rw [a1]; simp [lensI]
    refine ⟨by omega, fun t ht => ?_⟩
    obtain ⟨k, hk, rfl⟩ := List.getElem_of_mem ht
    have hk2 : k < (lensI ty).length := by omega
    have hb : 1 ≤ (lensI ty)[k] ∧ 0 ≤ r[k] ∧ r[k] < (lensI ty)[k] := a2 ((lensI ty)[k], r[k]) (List.mem_of_getElem? (i := k) (by rw [List.getElem?_zip_eq_some]; exact ⟨List.getElem?_eq_getElem hk2, List.getElem?_eq_getElem hk⟩))
    have hm := List.getElem_mem hk2
    obtain ⟨w, hw1, hw2⟩ := List.mem_map.mp hm
    have := (hw.wi _ hw1).lw
    omega) (by
    have h := sendL_prod0 (lensI ty) hw.lens
    rw [← prodL_int] at h
    have := hw.li
    omega)).mono (by omega) (by omega)
theorem c20 {ns : List Int} : VC (callD tab LL (n + 9) 20) [scriptSl ns] (fun _ d _ => d = .bool true) := by
  show WC _ _ _; rw [F20]; refine wc_fd rfl ?_; simp only [f20, List.map_cons, List.map_nil, List.length_cons, List.length_nil, Nat.reduceAdd, Nat.reduceSub, List.replicate, List.cons_append, List.nil_append]; show VS _ _ (VB _ _ _ _)
  simp (dsimp := false)
  refine c7 fun g => ?_
  simp (dsimp := false) [dk]
  refine c8 12 rfl (by omega) (by omega) fun g1 w w1 => ?_
  simp (dsimp := false) [dk]
  refine vif_intro (fun h3 => ?_) (fun h3 => ?_)
  · simp (dsimp := false)
    refine ⟨by decide, by rw [rng_len]; decide, ?_⟩
    refine vl_mapT (fun (o : Nat) => PyData.int (0 + (o : Int))) (fun o => rowD [0, (o : Int)]) (List.range 6) rfl rfl (fun o ho => ?_) ?_
    · simp (dsimp := false)
      rfl
    · rw [show ((List.range 6).map fun (o : Nat) => rowD [0, (o : Int)]) = p6.map rowD from rfl]
      have e1 : PyData.tuple (p6.map rowD) = wD p6 := rfl
      have e2 : binD .add (0, wD p6) (0, .tuple [.tuple [.int 1, .int 0], .tuple [.int 2, .int 0]]) = some (wD p8) := rfl
      have e3 : binD .mul (0, .tuple [wD p8]) (0, .int 2) = some (.tuple [wD p8, wD p8]) := rfl
      simp (dsimp := false) [dk, kids_rows, e1, e2, e3]
      refine c9 (n := n + 6) tysD [[p6, p6, p6], [p8, p8]] (by simp) (by simp) (.inr ⟨rfl, by omega⟩) fun g2 ty hty => ?_
      obtain ⟨M, ew, hw⟩ : ∃ M : Nat, PyData.tuple [.int 2, tysD ty] = worldD M ty ∧ WorldOk M ty 3 8 6 216 := ⟨2, rfl, world02 hty⟩
      have sp := profs_sm hw (by omega) (by omega) (by omega)
      have ep := sp.showOk (by decide) (by simp)
      have np := ne_same sp
      have c1 := fun {m lk R} => c0 (n := n + 7) (m := m) (lk := lk) (R := R) hw (by omega) (by omega)
      have c2 := fun {m lk R} => c13 (n := n + 7) (m := m) (lk := lk) (R := R) hw (by omega) (by omega)
      generalize sendL (lensI ty) = S at *
      simp (dsimp := false) [ew, c1, c2, ep, np, kids_rows, w_of, dk]
      refine c15 (n := n + 5) hw (by omega) (by omega) (by omega) fun g3 rule hr => ?_
      simp (dsimp := false) [dk]
      refine c19 (n := n + 5) hw (by omega) (by omega) (by omega) (by omega) hr fun g4 => ?_
      simp (dsimp := false) [dk]
  · simp (dsimp := false)
    refine ⟨by decide, ?_⟩
    refine vf_rng 3 [4, 5, 6, 7, 8] (fun g : Deck => [(1, dk g)]) (fun _ _ => True) rfl g1 trivial (by first | exact agr_of rfl rfl | exact agr_of rfl (by simp (dsimp := false)) | (simp (dsimp := false); done) | (simp (dsimp := false); rfl)) (fun k g2 fg fw hk _ => ?_) (fun g2 fg fw _ => ?_)
    · obtain ⟨lim, hlim, l1, l2⟩ := lim02 hk
      simp (dsimp := false) [dk, hlim]
      refine c12 (n := n + 3) (lim := lim) (by omega) (by omega) fun g3 M ty hw _ => ?_
      have sp := profs_sm hw (by omega) (by omega) (by omega)
      have sq := (sma_cons sp (sma_cons sp sma_nil)).list
      have ep := sq.showOk (by decide) (by simp)
      have np := ne_same sq
      have c1 := fun {m lk R} => c0 (n := n + 7) (m := m) (lk := lk) (R := R) hw (by omega) (by omega)
      have c2 := fun {m lk R} => c13 (n := n + 7) (m := m) (lk := lk) (R := R) hw (by omega) (by omega)
      generalize sendL (lensI ty) = S at *
      simp (dsimp := false) [dk, c2, kids_rows, w_of]
      refine c15 (n := n + 5) hw (by omega) (by omega) (by omega) fun g4 rule hr => ?_
      simp (dsimp := false) [dk, c1, ep, np]
      refine ⟨by decide, ?_⟩
      refine vf_rng 4 [8] (fun g : Deck => [(1, dk g)]) (fun _ _ => True) rfl g4 trivial (by first | exact agr_of rfl rfl | exact agr_of rfl (by simp (dsimp := false)) | (simp (dsimp := false); done) | (simp (dsimp := false); rfl)) (fun k g5 fg fw hk _ => ?_) (fun g5 fg fw _ => ?_)
      · simp (dsimp := false) [dk]
        refine c19 (n := n + 5) hw (by omega) (by omega) (by omega) (by omega) hr fun g6 => ?_
        simp (dsimp := false) [dk]
        exact ⟨g6, trivial, (by first | exact agr_of rfl rfl | exact agr_of rfl (by simp (dsimp := false)) | (simp (dsimp := false); done) | (simp (dsimp := false); rfl))⟩
      · simp (dsimp := false) [dk]
        exact ⟨g5, trivial, (by first | exact agr_of rfl rfl | exact agr_of rfl (by simp (dsimp := false)) | (simp (dsimp := false); done) | (simp (dsimp := false); rfl))⟩
    · simp (dsimp := false)
theorem pure_law (ns : List Int) : TrueAt (callD tab LL 30 20) ns := by
  obtain ⟨m, d, back, e, h⟩ := c20 (n := 21) (ns := ns)
  subst h
  exact ⟨m, back, e⟩
end LW

namespace LW
open RV
abbrev prog : PySem.Program := PySem.Challenge.pw_truthrules_k02_whole_rules
def top (i : Nat) : PySem.Stmt := prog.main.body.getD i (.Pass ⟨0, 0, 0, 0⟩)
def mkD (x : PySem.Str) (i : Nat) : He.DefD := ⟨(x, none), x, x, L2.defArgs (top i), L2.defBody (top i), L2.defScope (top i), [], []⟩
def r0 : Row := ⟨mkD "profiles" 1, ["world"], .fd f0⟩
def r1 : Row := ⟨mkD "number_of" 2, ["world", "profile"], .fd f1⟩
def r2 : Row := ⟨mkD "outcome_at" 3, ["world", "rule", "profile"], .fd f2⟩
def r3 : Row := ⟨mkD "worth_of" 4, ["world", "person", "place", "outcome"], .fd f3⟩
def r4 : Row := ⟨mkD "told" 5, ["profile", "person", "place"], .fd f4⟩
def r5 : Row := ⟨mkD "best_of" 6, ["world", "person", "place"], .fd f5⟩
def r6 : Row := ⟨mkD "outcomes_of" 7, ["rule"], .fd f6⟩
def r7 : Row := ⟨mkD "_law_deck" 9, ["script"], .fd f7⟩
def r8 : Row := ⟨mkD "_law_draw" 10, ["deck", "many"], .fd f8⟩
def r9 : Row := ⟨mkD "_law_pick" 11, ["deck", "row"], .fd f9⟩
def r10 : Row := ⟨mkD "_law_wish" 12, ["deck", "many"], .fd f10⟩
def r11 : Row := ⟨mkD "_law_person" 13, ["deck", "many", "most"], .fd f11⟩
def r12 : Row := ⟨mkD "_law_world" 14, ["deck", "most"], .fd f12⟩
def r13 : Row := ⟨mkD "_law_profiles" 15, ["world"], .fd f13⟩
def r14 : Row := ⟨mkD "_law_number" 16, ["world", "profile"], .fd f14⟩
def r15 : Row := ⟨mkD "_law_rule" 17, ["deck", "world"], .fd f15⟩
def r16 : Row := ⟨mkD "_law_top" 18, ["worths"], .fd f16⟩
def r17 : Row := ⟨mkD "_law_sums" 19, ["world", "profile"], .fd f17⟩
def r18 : Row := ⟨mkD "_law_dues" 20, ["world", "rule", "profile", "person", "place", "outcome"], .fd f18⟩
def r19 : Row := ⟨mkD "_law_is_right" 21, ["deck", "world", "rule"], .fd f19⟩
def r20 : Row := ⟨mkD "law" 22, ["script"], .fd f20⟩
def rows : List Row := [r0, r1, r2, r3, r4, r5, r6, r7, r8, r9, r10, r11, r12, r13, r14, r15, r16, r17, r18, r19, r20]
def cs : List (PySem.Str × D) := []
def calls : List CallSh := [⟨"number_of", 1, 2, [], [0, 1]⟩, ⟨"_law_draw", 8, 2, [], [0, 1]⟩, ⟨"_law_pick", 9, 2, [], [0, 1]⟩, ⟨"_law_wish", 10, 2, [], [0, 1]⟩, ⟨"_law_person", 11, 3, [], [0, 1, 2]⟩, ⟨"_law_top", 16, 1, [], [0]⟩, ⟨"_law_sums", 17, 2, [], [0, 1]⟩, ⟨"_law_profiles", 13, 1, [], [0]⟩, ⟨"_law_number", 14, 2, [], [0, 1]⟩, ⟨"outcomes_of", 6, 0, ["rule"], [0]⟩, ⟨"best_of", 5, 0, ["place", "person", "world"], [2, 1, 0]⟩, ⟨"told", 4, 0, ["place", "person", "profile"], [2, 1, 0]⟩, ⟨"worth_of", 3, 0, ["outcome", "place", "person", "world"], [3, 2, 1, 0]⟩, ⟨"outcome_at", 2, 0, ["profile", "rule", "world"], [2, 1, 0]⟩, ⟨"number_of", 1, 0, ["profile", "world"], [1, 0]⟩, ⟨"outcomes_of", 6, 1, [], [0]⟩, ⟨"best_of", 5, 3, [], [0, 1, 2]⟩, ⟨"told", 4, 3, [], [0, 1, 2]⟩, ⟨"worth_of", 3, 4, [], [0, 1, 2, 3]⟩, ⟨"outcome_at", 2, 3, [], [0, 1, 2]⟩, ⟨"_law_dues", 18, 6, [], [0, 1, 2, 3, 4, 5]⟩, ⟨"_law_is_right", 19, 3, [], [0, 1, 2]⟩, ⟨"profiles", 0, 0, ["world"], [0]⟩, ⟨"profiles", 0, 1, [], [0]⟩, ⟨"_law_rule", 15, 2, [], [0, 1]⟩, ⟨"_law_world", 12, 2, [], [0, 1]⟩, ⟨"_law_deck", 7, 1, [], [0]⟩]
theorem cs_ok : csB cs = true := by decide +kernel
theorem tab_chk : tabB rows cs calls = true := by decide +kernel
abbrev R : PySem.W.OpenRow := PySem.W.OpenLaw.row PySem.Challenge.rw_truthrules_k02_whole_rules
abbrev hk : PySem.W.Hook := He.hookD 4 (faOf rows cs) (rows.map (·.d))
def ob (s : PySem.W.SharedT) : He.AlD := He.obsDG 4 (faOf rows cs) (rows.map (·.d)) (HandSHeadRun.getT s)
theorem ob_eq (s : PySem.W.SharedT) : ob s = hk.obs s.abs := He.obsDG_eq (HandSHeadRun.getT_eq s)
def loose : List PySem.Str := "profiles" :: "number_of" :: "outcome_at" :: "worth_of" :: "told" :: "best_of" :: "outcomes_of" :: "_law_deck" :: "_law_draw" :: "_law_pick" :: "_law_wish" :: "_law_person" :: "_law_world" :: "_law_profiles" :: "_law_number" :: "_law_rule" :: "_law_top" :: "_law_sums" :: "_law_dues" :: "_law_is_right" :: []
theorem run (w : PySem.World) : HandSHeadRun.RunEq R (PySem.W.view R.prog [22]) hk ob 1500 loose w := by
  intro os
  kernel_rfl
theorem pure_rows (ns : List Int) : TrueAt (callD (rows.map Row.df) 1000000 30 20) ns := pure_law ns
end LW
open PySem PySem.W PySem.Calls PyProof.Rows RV
theorem PySem.Challenge.cw_truthrules_k02_whole_rules_holds : PySem.Challenge.rw_truthrules_k02_whole_rules.Holds := by
  w_on; o_law
  refine HandSHeadRun.head_any (r := OpenLaw.row PySem.Challenge.rw_truthrules_k02_whole_rules) (q := view (OpenLaw.row PySem.Challenge.rw_truthrules_k02_whole_rules).prog [22]) (H := LW.hk) (ob := LW.ob) (M := 1500) (loose := LW.loose) (d := HandSHeadRun.topDef (OpenLaw.row PySem.Challenge.rw_truthrules_k02_whole_rules).prog 22) (kwd := []) LW.ob_eq
    (by kernel_rfl) (fun s => by kernel_rfl) LW.run (by kernel_rfl) (by kernel_rfl) (by kernel_rfl) (by rfl) (by first | assumption | decide +kernel) (by decide +kernel) ⟨rfl, rfl, rfl, rfl, rfl, by decide +kernel⟩ ?hw ?hc
  case hw => w_witness2
  case hc =>
    exact law_walk (l := PySem.Challenge.rw_truthrules_k02_whole_rules) (n := 63) (k := 30) (i := 20) (L := 1000000) (r := LW.r20) (x := "script") rfl (by decide) (by kernel_rfl) (by kernel_rfl) rfl (by kernel_rfl) rfl ⟨rfl, by decide, by decide⟩ LW.cs_ok LW.tab_chk (fun _ _ _ _ _ _ _ _ => told_none (by decide +kernel)) fun ns _ => LW.pure_rows ns
