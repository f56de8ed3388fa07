import PyProof.Rows.All
import Wide.All
import OpenK.AllK
import Wide.FinOn
import HandS.Base
import HandS.Call
import HandS.List
import HandS.Comp
import HandS.Ends
import HandS.Iter
import HandS.Words
import HandS.WordsList
import HandS.Wide
import HandS.Defaults
import KE.LtData
import KE.SortData
import KE.KDictKeyed
import PyProof.ReprReads
import HandS.Text
import HandS.TupAny
import HandS.TupMul
import HandS.Dict
import PyProof.DictRoads
import PyProof.DictDisplay
import HandS.Deep
import HandS.Style
import HandS.Gcd
import HandS.Flow
import HandS.IsInst
import KE.DataFind
import PyProof.SeqIndex
import PyProof.ReprRoads
import KE.KDictCopyH
import KE.KDictList
import HandS.MakeKwOnly
import HandS.Exc
import HandS.HeadEnd
import HandS.TryOnly
import HandS.Star
import HandS.DictComp
import HandS.Zip
import KE.GoesNew
import KE.GoesMore
import HandS.TupSets
import HandS.HeadHook1
import HandS.HeadHook2
import HandS.Head0
import HandS.Head1
import HandS.Head2
import HandS.Head3
import PySem.Challenge.RW_wholekits_k51_whole_texts_shown
set_option Elab.async false
set_option linter.all false
set_option maxRecDepth 100000
set_option maxHeartbeats 8000000
namespace Lt
open PySem L2
abbrev D := PyData
/-- what a slot holds: nothing; frozen data; a list that nobody else knows; a dict that nobody else knows -/
inductive Cell where
  | emp
  | dat (d : D)
  | own (ds : List D)
  | dic (kvs : List (D × D))
  deriving Inhabited
abbrev Rho := List Cell
/-- an operand: a slot (looked at late), or a value of its own -/
inductive Od where
  | v (i : Nat)
  | t (c : Cell)
inductive Tg where
  | n (i : Nat)
  | t (ts : List Tg)
/-- built-in functions, methods -/
inductive Bf where
  | len | abs | int | max | min | sum | all | any | tuple | list | gcd | sorted | repr | str
  deriving DecidableEq
inductive Mf where
  | count | index | append | extend | pop | reverse
  deriving DecidableEq
def Mf.nm : Mf → Str
  | .count => "count"
  | .index => "index"
  | .append => "append"
  | .extend => "extend"
  | .pop => "pop"
  | .reverse => "reverse"
/-- methods of texts, of one argument -/
inductive Sf where
  | join | split | partition | startswith | endswith
  deriving DecidableEq
def Sf.nm : Sf → Str
  | .join => "join"
  | .split => "split"
  | .partition => "partition"
  | .startswith => "startswith"
  | .endswith => "endswith"
mutual
inductive Ex where
  | var (i : Nat)
  | con (d : D)
  | glb (x : Nat)
  | bin (op : Operator) (a b : Ex)
  | neg (a : Ex)
  | not (a : Ex)
  | cmp (op : CmpOp) (a b : Ex)
  | chn (op op' : CmpOp) (a b c : Ex)
  | and (a b : Ex)
  | or (a b : Ex)
  | ifx (c a b : Ex)
  | tup (es : Exs)
  | lst (es : Exs)
  | dnew
  | dsp (a b : Ex)
  | sset (a : Ex)
  | idx (a b : Ex)
  | slc (a : Ex) (lo hi : Oex)
  | rev (a : Ex)
  | call (f : Nat) (es : Exs) (ix : List Nat) (kes : Exs)
  | blt (f : Bf) (es : Exs)
  | isi (a : Ex) (ts : List String)
  | mth (m : Mf) (a : Ex) (es : Exs)
  | sm (m : Sf) (a e : Ex)
  | lsS (a : Ex) (es : Exs)
  | lsE (e a : Ex)
  | lc (elt : Ex) (tg : Tg) (it : Itr) (c : Oex) (own : List Nat)
  | dc (k v : Ex) (tg : Tg) (it : Itr) (c : Oex) (own : List Nat)
  | lc2 (elt : Ex) (tg : Tg) (it : Itr) (c : Oex) (tg2 : Tg) (it2 : Itr) (c2 : Oex) (own own2 : List Nat)
inductive Exs where
  | nil
  | cons (e : Ex) (es : Exs)
inductive Oex where
  | no
  | so (e : Ex)
inductive Itr where
  | seq (e : Ex)
  | rng1 (a : Ex)
  | rng2 (a b : Ex)
  | enm (e : Ex)
  | zip (a b : Ex)
  | rev (e : Ex)
end
def Cell.vw : Cell → Option D
  | .emp => none
  | .dat d => some d
  | .own ds => some (.list ds)
  | .dic kvs => some (.dict kvs)
def cellAt (ρ : Rho) (i : Nat) : Cell := ρ.getD i .emp
def look (ρ : Rho) : Od → Option D
  | .v i => (cellAt ρ i).vw
  | .t c => c.vw
abbrev lookD (ρ : Rho) (o : Od) : Option D := look ρ o
def lookDs (ρ : Rho) : List Od → Option (List D)
  | [] => some []
  | o :: os => (lookD ρ o).bind fun d => (lookDs ρ os).map fun ds => d :: ds
def Cell.fr : Cell → Option D
  | .dat d => some d
  | .own ds => some (.list ds)
  | .dic kvs => some (.dict kvs)
  | .emp => none
/-- frozen: from now on nobody changes it -/
def frz (ρ : Rho) : Od → Option (D × Rho)
  | .v i => match cellAt ρ i with
    | .dat d => some (d, ρ)
    | .own ds => some (.list ds, ρ.set i (.dat (.list ds)))
    | .dic kvs => some (.dict kvs, ρ.set i (.dat (.dict kvs)))
    | .emp => none
  | .t c => c.fr.map fun d => (d, ρ)
def frzs (ρ : Rho) : List Od → Option (List D × Rho)
  | [] => some ([], ρ)
  | o :: os => (frz ρ o).bind fun r => (frzs r.2 os).map fun q => (r.1 :: q.1, q.2)
mutual
/-- a key's datum -/
def kyB : D → Bool
  | .int _ => true
  | .none => true
  | .tuple ds => kysB ds
  | _ => false
def kysB : List D → Bool
  | [] => true
  | d :: ds => kyB d && kysB ds
end
mutual
def ky : D → NestedKey
  | .int i => .num i
  | .tuple ds => .tup (kys ds)
  | _ => .none
def kys : List D → List NestedKey
  | [] => []
  | d :: ds => ky d :: kys ds
end
def isTupD : D → Bool
  | .tuple _ => true
  | _ => false
/-- a key that a dict may have -/
def isIntD : D → Bool
  | .int _ => true
  | _ => false
def keyOk (d : D) : Bool := isIntD d || (isTupD d && (kyB d && decide ((ky d).depth ≤ 8)))
/-- a key that suits a dict: a dict's keys are all tuples or all integers -/
def keyIn (kvs : List (D × D)) (d : D) : Bool := keyOk d && (match kvs with
  | [] => true
  | p :: _ => isTupD p.1 == isTupD d)
/-- dicts: keys are data -/
def dGet (kvs : List (D × D)) (k : D) : Option D := (kvs.find? fun p => PyData.eqv p.1 k).map (·.2)
def dPut : List (D × D) → D → D → List (D × D)
  | [], k, v => [(k, v)]
  | p :: r, k, v => if PyData.eqv p.1 k then (p.1, v) :: r else p :: dPut r k v
/-- two scalars that HandS compares at once -/
def scalD : D → D → Bool
  | .none, .none => true | .none, .int _ => true | .int _, .none => true | .none, .bool _ => true | .bool _, .none => true | .none, .str _ => true | .str _, .none => true
  | .int _, .int _ => true | .bool _, .bool _ => true | .str _, .str _ => true
  | .int _, .str _ => true | .str _, .int _ => true | .bool _, .str _ => true | .str _, .bool _ => true
  | _, _ => false
def eqD (x y : D) : Option Bool :=
  if scalD x y then some (PyData.eqv x y) else if SeqAt.shaped x && SeqAt.shaped y then some (PyData.eqv x y) else none
def ltD (x y : D) : Option Bool := match x, y with
  | .int i, .int j => some (decide (i < j))
  | .tuple xs, .tuple ys => if PySem.W.alike (.tuple xs) (.tuple ys) && SeqAt.shaped (.tuple xs) && SeqAt.shaped (.tuple ys) then some (PySem.W.dataLt (.tuple xs) (.tuple ys)) else none
  | _, _ => none
def inD (x : D) : D → Option Bool
  | .list ds => if SeqAt.shaped x && SeqAt.shaped (.list ds) then some (ds.any fun z => PyData.eqv z x) else none
  | .dict kvs => if keyIn kvs x then some (dGet kvs x).isSome else none
  | .str z => match x with
    | .str y => some (!(Builtin.Str.occurrences z y 0 z.length 1).isEmpty)
    | _ => none
  | _ => none
def cmpD (op : CmpOp) (x y : D) : Option Bool := match op with
  | .Eq => eqD x y
  | .NotEq => (eqD x y).map (!·)
  | .Lt => ltD x y
  | .LtE => match x, y with
    | .int i, .int j => some (decide (i ≤ j))
    | _, _ => none
  | .Gt => match x, y with
    | .int i, .int j => some (decide (j < i))
    | _, _ => none
  | .GtE => match x, y with
    | .int i, .int j => some (decide (j ≤ i))
    | _, _ => none
  | .Is => match y with
    | .none => some (match x with | .none => true | _ => false)
    | .bool b => match x with
      | .bool a => some (decide (a = b))
      | _ => none
    | _ => none
  | .IsNot => match y with
    | .none => some (match x with | .none => false | _ => true)
    | .bool b => match x with
      | .bool a => some (!decide (a = b))
      | _ => none
    | _ => none
  | .In => inD x y
  | .NotIn => (inD x y).map (!·)
/-- the product of ints that the model takes -/
def mulOk (i j : Int) : Bool := decide (i.natAbs < 2 ^ 64) || decide (j.natAbs < 2 ^ 64) || decide (i.natAbs.log2 + j.natAbs.log2 < 1000000)
def divOk (j : Int) : Bool := decide (j ≠ 0) && decide (j.natAbs.log2 < 9000)
/-- a power that the model takes: few bits, or a small exponent -/
def powOk (i j : Int) : Bool := decide (0 ≤ j ∧ j ≤ 1000000 ∧ i.natAbs < 2 ^ 64) || decide (0 ≤ j ∧ j ≤ 64 ∧ i.natAbs.log2 < 1024)
def binD (op : Operator) (x y : D) : Option Cell := match op, x, y with
  | .Add, .int i, .int j => some (.dat (.int (i + j)))
  | .Sub, .int i, .int j => some (.dat (.int (i - j)))
  | .Mult, .int i, .int j => if mulOk i j then some (.dat (.int (i * j))) else none
  | .FloorDiv, .int i, .int j => if divOk j then some (.dat (.int (i.fdiv j))) else none
  | .Mod, .int i, .int j => if j = 0 then none else some (.dat (.int (i.fmod j)))
  | .Pow, .int i, .int j => if powOk i j then some (.dat (.int (i ^ j.toNat))) else none
  | .Add, .str x, .str y => if x.length + y.length ≤ 16777216 then some (.dat (.str (x ++ y))) else none
  | .Add, .tuple xs, .tuple ys => if xs.length + ys.length ≤ 16777216 then some (.dat (.tuple (xs ++ ys))) else none
  | .Add, .list xs, .list ys => if xs.length + ys.length ≤ 16777216 then some (.own (xs ++ ys)) else none
  | .Mult, .tuple xs, .int k => if k = 1 then some (.dat (.tuple xs)) else if 2 ≤ k ∧ k ≤ 1000 ∧ xs.isEmpty = false ∧ xs.length ≤ 1000 then some (.dat (.tuple (List.replicate k.toNat xs).flatten)) else none
  | .Mult, .list xs, .int k => if 0 ≤ k ∧ xs.length * k.toNat ≤ 16777216 ∧ k < 2 ^ 62 then some (.own (List.replicate k.toNat xs).flatten) else none
  | _, _, _ => none
def idxD (x y : D) : Option D := match x, y with
  | .tuple xs, .int i => atI xs i
  | .list xs, .int i => atI xs i
  | .str z, .int i => if z.length ≤ 16777216 then (atI z.cps.toList i).map fun c => .str ⟨#[c]⟩ else none
  | .dict kvs, y => if keyIn kvs y then dGet kvs y else none
  | _, _ => none
def cutD (xs : List D) (lo hi : Option Int) : List D := (xs.drop (HT.sIx xs.length 0 lo)).take (HT.sIx xs.length xs.length hi - HT.sIx xs.length 0 lo)
def slcD (x : D) (lo hi : Option Int) : Option Cell := match x with
  | .tuple xs => some (.dat (.tuple (cutD xs lo hi)))
  | .list xs => some (.own (cutD xs lo hi))
  | .str z => if z.length ≤ 16777216 then some (.dat (.str (cutS z lo hi))) else none
  | _ => none
def revD : D → Option Cell
  | .tuple xs => some (.dat (.tuple xs.reverse))
  | .list xs => some (.own xs.reverse)
  | _ => none
def asInts : List D → Option (List Int)
  | [] => some []
  | .int i :: r => (asInts r).map (i :: ·)
  | _ => none
def asBools : List D → Option (List Bool)
  | [] => some []
  | .bool i :: r => (asBools r).map (i :: ·)
  | _ => none
def seqD : D → Option (List D)
  | .list xs => some xs
  | .tuple xs => some xs
  | _ => none
/-- what a plain walk goes through: of a dict its keys -/
def walkD : D → Option (List D)
  | .list xs => some xs
  | .tuple xs => some xs
  | .dict kvs => some (kvs.map (·.1))
  | .str z => if z.length ≤ 16777216 then some (z.cps.toList.map fun c => .str ⟨#[c]⟩) else none
  | _ => none
def asStrs : List D → Option (List Str)
  | [] => some []
  | .str i :: r => (asStrs r).map (i :: ·)
  | _ => none
def maxI : Int → List Int → Int
  | m, [] => m
  | m, x :: r => maxI (if x > m then x else m) r
def minI : Int → List Int → Int
  | m, [] => m
  | m, x :: r => minI (if x < m then x else m) r
/-- data that the model sorts -/
def isT1 : D → Bool
  | .tuple (_ :: _) => true
  | _ => false
def notTN : D → Bool
  | .tuple _ => false
  | .none => false
  | _ => true
def sortOk (ds : List D) : Bool := ds.all (fun a => ds.all fun b => PySem.W.alike a b) && (ds.all (fun d => SeqAt.shaped d && decide (d.depth ≤ 60)) && ((ds.all isT1 || ds.all notTN) && decide (ds.length ≤ 16777216)))
def sortD (ds : List D) : List D := ds.mergeSort fun a b => !PySem.W.dataLt b a
/-- data that the model shows -/
def reprOk (d : D) : Bool := (d.canLay0 && d.showable) && (decide (d.depth ≤ 60) && decide (d.shown.length ≤ 16777216))
def isSeqD : D → Bool
  | .list _ => true
  | .tuple _ => true
  | _ => false
def bltD : Bf → List D → Option Cell
  | .len, [.list xs] => some (.dat (.int xs.length))
  | .len, [.tuple xs] => some (.dat (.int xs.length))
  | .len, [.str x] => if x.length ≤ 16777216 then some (.dat (.int x.length)) else none
  | .abs, [.int i] => some (.dat (.int (if i < 0 then -i else i)))
  | .int, [.int i] => some (.dat (.int i))
  | .int, [.bool b] => some (.dat (.int (if b then 1 else 0)))
  | .int, [.str a] => if a.length ≤ 640 then (PySem.intText? a).map fun n => .dat (.int n) else none
  | .str, [.int i] => if i.natAbs.log2 < 1920 then some (.dat (.str (toString i))) else none
  | .max, [.int i, .int j] => some (.dat (.int (if j > i then j else i)))
  | .max, [.list xs] => (match asInts xs with
    | some (m :: r) => some (.dat (.int (maxI m r)))
    | _ => none)
  | .min, [.int i, .int j] => some (.dat (.int (if j < i then j else i)))
  | .min, [.list xs] => (match asInts xs with
    | some (m :: r) => some (.dat (.int (minI m r)))
    | _ => none)
  | .sum, [.list xs] => (asInts xs).map fun ns => .dat (.int ns.sum)
  | .all, [.list xs] => (asBools xs).map fun bs => .dat (.bool (bs.all id))
  | .any, [.list xs] => (asBools xs).map fun bs => .dat (.bool (bs.any id))
  | .tuple, [.list xs] => some (.dat (.tuple xs))
  | .tuple, [.tuple xs] => some (.dat (.tuple xs))
  | .list, [.list xs] => some (.own xs)
  | .list, [.tuple xs] => some (.own xs)
  | .gcd, [.int a, .int b] => some (.dat (.int (Nat.gcd a.natAbs b.natAbs : Nat)))
  | .sorted, [.list xs] => if sortOk xs then some (.own (sortD xs)) else none
  | .sorted, [.dict kvs] => if sortOk (kvs.map (·.1)) then some (.own (sortD (kvs.map (·.1)))) else none
  | .repr, [d] => if isSeqD d && reprOk d then some (.dat (.str d.shown)) else none
  | _, _ => none
def bltAt (f : Bf) (ρ : Rho) (os : List Od) : Option Cell := (lookDs ρ os).bind (bltD f)
def tyName : D → String
  | .none => "NoneType"
  | .bool _ => "bool"
  | .int _ => "int"
  | .str _ => "str"
  | .list _ => "list"
  | .tuple _ => "tuple"
  | .dict _ => "dict"
def isiT (u t : String) : Bool := u == t || (u == "bool" && t == "int")
def isiOne (d : D) (t : String) : Bool := isiT (tyName d) t
def isiOk (ts : List String) : Bool := ts.all fun t => t == "int" || t == "bool" || t == "str" || t == "list" || t == "tuple"
/-- a method that changes nothing -/
def mthD : Mf → D → List D → Option Cell
  | .count, .tuple xs, [d] => if SeqAt.shaped (.tuple xs) && SeqAt.shaped d then some (.dat (.int (xs.countP fun z => PyData.eqv z d : Nat))) else none
  | .count, .list xs, [d] => if SeqAt.shaped (.list xs) && SeqAt.shaped d then some (.dat (.int (xs.countP fun z => PyData.eqv z d : Nat))) else none
  | .index, .tuple xs, [d] => if SeqAt.shaped (.tuple xs) && SeqAt.shaped d then (xs.findIdx? fun z => PyData.eqv z d).map fun j : Nat => .dat (.int (j : Nat)) else none
  | .index, .list xs, [d] => if SeqAt.shaped (.list xs) && SeqAt.shaped d then (xs.findIdx? fun z => PyData.eqv z d).map fun j : Nat => .dat (.int (j : Nat)) else none
  | _, _, _ => none
/-- a method that changes an owned list: what it hands back, what the list is then -/
def mthOwn : Mf → List D → List D → Option (Cell × List D)
  | .append, xs, [d] => if xs.length < 16777216 then some (.dat .none, xs ++ [d]) else none
  | .extend, xs, [.list ys] => if xs.length + ys.length ≤ 16777216 then some (.dat .none, xs ++ ys) else none
  | .pop, xs, [] => (xs[xs.length - 1]?).map fun y => (.dat y, xs.dropLast)
  | .reverse, xs, [] => some (.dat .none, xs.reverse)
  | _, _, _ => none
/-- a text's method -/
def joinD (s : Str) (xs : List D) : Option Cell := (asStrs xs).bind fun ys => if (ys.map (·.length)).sum + ys.length * s.length ≤ 16777216 then some (.dat (.str (Txt.join s ys))) else none
def smD : Sf → Str → D → Option Cell
  | .join, s, .list xs => joinD s xs
  | .join, s, .tuple xs => joinD s xs
  | .split, s, .str b => if (b.length == 0) = false ∧ s.length + 2 ≤ 16777216 then some (.own ((Txt.split s b).map .str)) else none
  | .partition, s, .str b => if (b.length == 0) = false ∧ s.length ≤ 16777216 then some (.dat (.tuple [.str (Txt.partition s b).1, .str (Txt.partition s b).2.1, .str (Txt.partition s b).2.2])) else none
  | .startswith, s, .str b => some (.dat (.bool (Txt.startswith s b)))
  | .endswith, s, .str b => some (.dat (.bool (Txt.endswith s b)))
  | _, _, _ => none
def strD : D → Option Str
  | .str s => some s
  | _ => none
def isMut : Mf → Bool
  | .append | .extend | .pop | .reverse => true
  | _ => false
/-- each once (the last of equal ones) -/
def ddD : List D → List D
  | [] => []
  | x :: xs => if xs.any (fun y => PyData.eqv y x) then ddD xs else x :: ddD xs
/-- a datum that may stand in a set -/
def inSet (d : D) : Bool := isTupD d && (kyB d && decide ((ky d).depth ≤ 8))
/-- sorted(set(xs)) -/
def ssetD : D → Option Cell
  | .list xs => if xs.all inSet && (sortOk (ddD xs) && decide (xs.length ≤ 1200)) then some (.own (sortD (ddD xs))) else none
  | _ => none
structure Fn where
  ps : List Str
  /-- the first parameter is handed over as it is (it may be changed) -/
  io : Bool
  lvl : Nat
  F : List Cell → Option (Cell × Cell)
structure Tab where
  fn : Nat → Option Fn
  gl : Nat → Option D
def bindTg : Tg → D → Rho → Option Rho
  | .n i, d, ρ => some (ρ.set i (.dat d))
  | .t ts, .tuple ds, ρ => go ts ds ρ
  | .t ts, .list ds, ρ => go ts ds ρ
  | .t _, _, _ => none
where go : List Tg → List D → Rho → Option Rho
  | [], [], ρ => some ρ
  | t :: ts, d :: ds, ρ => (bindTg t d ρ).bind (go ts ds)
  | _, _, _ => none
def wipeR (ρ : Rho) : List Nat → Rho
  | [] => ρ
  | i :: is => (wipeR ρ is).set i .emp
/-- the slots of a comprehension's own names are what they were -/
def backR (ρ ρ' : Rho) : List Nat → Rho
  | [] => ρ'
  | i :: is => (backR ρ ρ' is).set i (cellAt ρ i)
def asBool : D → Option Bool
  | .bool b => some b
  | _ => none
def testOd (ρ : Rho) (o : Od) : Option Bool := (look ρ o).bind asBool
def rng1D : D → Option (List D)
  | .int n => if -(2 ^ 62) ≤ n ∧ n ≤ 16777216 then some ((List.range n.toNat).map fun k : Nat => .int (k : Nat)) else none
  | _ => none
def rng2D : D → D → Option (List D)
  | .int a, .int b => if -(2 ^ 62) ≤ a ∧ a < 2 ^ 62 ∧ -(2 ^ 62) ≤ b ∧ b < 2 ^ 62 ∧ b - a ≤ 16777216 then some ((List.range (b - a).toNat).map fun k : Nat => .int (a + (k : Nat))) else none
  | _, _ => none
def enmD (i : Nat) : List D → List D
  | [] => []
  | d :: ds => .tuple [.int i, d] :: enmD (i + 1) ds
def zipD : List D → List D → List D
  | a :: as, b :: bs => .tuple [a, b] :: zipD as bs
  | _, _ => []
/-- zip of two lists, of two tuples -/
def zipS : D → D → Option (List D)
  | .list xs, .list ys => some (zipD xs ys)
  | .tuple xs, .tuple ys => some (zipD xs ys)
  | _, _ => none
/-- a comprehension's loop: turn gives the new cells and the item, if one is kept -/
def lcLoop (turn : D → Rho → Option (Option D × Rho)) (own : List Nat) : List D → Rho → Option (List D × Rho)
  | [], ρ => some ([], ρ)
  | d :: ds, ρ => (turn d (wipeR ρ own)).bind fun r => (lcLoop turn own ds r.2).map fun q => (match r.1 with | some y => y :: q.1 | none => q.1, q.2)
/-- the outer loop of a comprehension of two sources: a turn gives some items -/
def lcLoopL (turn : D → Rho → Option (List D × Rho)) (own : List Nat) : List D → Rho → Option (List D × Rho)
  | [], ρ => some ([], ρ)
  | d :: ds, ρ => (turn d (wipeR ρ own)).bind fun r => (lcLoopL turn own ds r.2).map fun q => (r.1 ++ q.1, q.2)
/-- a dict comprehension's loop -/
def dcLoop (turn : D → Rho → Option (Option (D × D) × Rho)) (own : List Nat) : List D → List (D × D) → Rho → Option (List (D × D) × Rho)
  | [], kvs, ρ => some (kvs, ρ)
  | d :: ds, kvs, ρ => (turn d (wipeR ρ own)).bind fun r => match r.1 with
    | some p => if keyIn kvs p.1 && decide (kvs.length < 16777215) then dcLoop turn own ds (dPut kvs p.1 p.2) r.2 else none
    | none => dcLoop turn own ds kvs r.2
/-- where a call's result is a scalar, the slots are as they were before its operands were frozen -/
def unfz (c : Cell) (ρ ρ1 : Rho) : Rho := match c with
  | .dat .none => ρ
  | .dat (.bool _) => ρ
  | .dat (.int _) => ρ
  | .dat (.str _) => ρ
  | _ => ρ1
/-- the result of a call: the cell, and what the first argument's slot holds then -/
def callF (fn : Fn) (ods : List Od) (ρ : Rho) : Option (Od × Rho) :=
  if fn.io then match ods with
    | [] => none
    | o :: os => (frzs ρ os).bind fun r => match o with
      | .v i => (match cellAt r.2 i with
        | .dat d => (fn.F (.dat d :: r.1.map .dat)).map fun q => (.t q.1, r.2)
        | .own ds => (fn.F (.own ds :: r.1.map .dat)).map fun q => (.t q.1, r.2.set i q.2)
        | .dic kvs => (fn.F (.dic kvs :: r.1.map .dat)).map fun q => (.t q.1, r.2.set i q.2)
        | .emp => none)
      | .t .emp => none
      | .t c => (fn.F (c :: r.1.map .dat)).map fun q => (.t q.1, r.2)
  else (frzs ρ ods).bind fun r => (fn.F (r.1.map .dat)).map fun q => (.t q.1, unfz q.1 ρ r.2)
/-- positional and keyword arguments in the parameters' order -/
def kwArr {α : Type} (z : α) (ps : List Str) (ks : List Str) (us ws : List α) : List α := us ++ (ps.drop us.length).map fun p => ws.getD (ks.idxOf p) z
variable (T : Tab)
mutual
def ev : Ex → Rho → Option (Od × Rho)
  | .var i, ρ => match cellAt ρ i with
    | .emp => none
    | _ => some (.v i, ρ)
  | .con d, ρ => some (.t (.dat d), ρ)
  | .glb x, ρ => (T.gl x).map fun d => (.t (.dat d), ρ)
  | .bin op a b, ρ => (ev a ρ).bind fun r => (ev b r.2).bind fun q => (lookD q.2 r.1).bind fun x => (lookD q.2 q.1).bind fun y => (binD op x y).map fun c => (.t c, q.2)
  | .neg a, ρ => (ev a ρ).bind fun r => (lookD r.2 r.1).bind fun x => match x with
    | .int i => some (.t (.dat (.int (-i))), r.2)
    | _ => none
  | .not a, ρ => (ev a ρ).bind fun r => (testOd r.2 r.1).map fun b => (.t (.dat (.bool (!b))), r.2)
  | .cmp op a b, ρ => (ev a ρ).bind fun r => (ev b r.2).bind fun q => (lookD q.2 r.1).bind fun x => (lookD q.2 q.1).bind fun y => (cmpD op x y).map fun k => (.t (.dat (.bool k)), q.2)
  | .chn op op' a b c, ρ => (ev a ρ).bind fun r => (ev b r.2).bind fun q => (lookD q.2 r.1).bind fun x => (lookD q.2 q.1).bind fun y => (cmpD op x y).bind fun k =>
      if k then (ev c q.2).bind fun u => (lookD u.2 q.1).bind fun y => (lookD u.2 u.1).bind fun z => (cmpD op' y z).map fun k' => (.t (.dat (.bool k')), u.2)
      else some (.t (.dat (.bool false)), q.2)
  | .and a b, ρ => (ev a ρ).bind fun r => (testOd r.2 r.1).bind fun k => if k then (ev b r.2).bind fun q => (testOd q.2 q.1).map fun k' => (.t (.dat (.bool k')), q.2) else some (.t (.dat (.bool false)), r.2)
  | .or a b, ρ => (ev a ρ).bind fun r => (testOd r.2 r.1).bind fun k => if k then some (.t (.dat (.bool true)), r.2) else (ev b r.2).bind fun q => (testOd q.2 q.1).map fun k' => (.t (.dat (.bool k')), q.2)
  | .ifx c a b, ρ => (ev c ρ).bind fun r => (testOd r.2 r.1).bind fun k => if k then ev a r.2 else ev b r.2
  | .tup es, ρ => (evs es ρ).bind fun r => (frzs r.2 r.1).map fun q => (.t (.dat (.tuple q.1)), q.2)
  | .lst es, ρ => (evs es ρ).bind fun r => (frzs r.2 r.1).map fun q => (.t (.own q.1), q.2)
  | .idx a b, ρ => (ev a ρ).bind fun r => (ev b r.2).bind fun q => (lookD q.2 r.1).bind fun x => (lookD q.2 q.1).bind fun y => (idxD x y).map fun d => (.t (.dat d), q.2)
  | .slc a lo hi, ρ => (ev a ρ).bind fun r => (evo lo r.2).bind fun l => (evo hi l.2).bind fun h => (lookD h.2 r.1).bind fun x => (slcD x l.1 h.1).map fun c => (.t c, h.2)
  | .rev a, ρ => (ev a ρ).bind fun r => (lookD r.2 r.1).bind fun x => (revD x).map fun c => (.t c, r.2)
  | .call f es ix kes, ρ => (evs es ρ).bind fun r => (evs kes r.2).bind fun q => (T.fn f).bind fun fn =>
      if r.1.length + ix.length = fn.ps.length then callF fn (r.1 ++ ix.map fun i => q.1.getD i (.t .emp)) q.2 else none
  | .dnew, ρ => some (.t (.dic []), ρ)
  | .sset a, ρ => (ev a ρ).bind fun r => (lookD r.2 r.1).bind fun d => (ssetD d).map fun c => (.t c, r.2)
  | .dsp a b, ρ => (ev a ρ).bind fun r => (ev b r.2).bind fun q => (frz q.2 r.1).bind fun u => (frz u.2 q.1).bind fun w => if keyIn [] u.1 then some (.t (.dic [(u.1, w.1)]), w.2) else none
  | .blt f es, ρ => (evs es ρ).bind fun r => (bltAt f r.2 r.1).map fun c => (.t c, r.2)
  | .isi a ts, ρ => if isiOk ts then (ev a ρ).bind fun r => (lookD r.2 r.1).bind fun x => (match x with
      | .dict _ => none
      | x => some (.t (.dat (.bool (ts.any (isiOne x)))), r.2)) else none
  | .mth m a es, ρ => (ev a ρ).bind fun r =>
      if isMut m then match r.1 with
        | .v i => (match cellAt r.2 i with
          | .own _ => (evs es r.2).bind fun q => (frzs q.2 q.1).bind fun u => (match cellAt u.2 i with
            | .own xs => (mthOwn m xs u.1).map fun w => (.t w.1, u.2.set i (.own w.2))
            | _ => none)
          | _ => none)
        | _ => none
      else (lookD r.2 r.1).bind fun x0 => (match x0 with
        | .list _ => (evs es r.2).bind fun q => (lookD q.2 r.1).bind fun x => (match x with
          | .list xs => (lookDs q.2 q.1).bind fun vs => (mthD m (.list xs) vs).map fun c => (.t c, q.2)
          | _ => none)
        | .tuple _ => (evs es r.2).bind fun q => (lookD q.2 r.1).bind fun x => (match x with
          | .tuple xs => (lookDs q.2 q.1).bind fun vs => (mthD m (.tuple xs) vs).map fun c => (.t c, q.2)
          | _ => none)
        | _ => none)
  | .sm m a e, ρ => (ev a ρ).bind fun r => (lookD r.2 r.1).bind fun x => (strD x).bind fun s => (ev e r.2).bind fun q => (lookD q.2 q.1).bind fun y => (smD m s y).map fun c => (.t c, q.2)
  | .lsS a es, ρ => (ev a ρ).bind fun r => (frz r.2 r.1).bind fun q => (seqD q.1).bind fun ds => (evs es q.2).bind fun u => (frzs u.2 u.1).bind fun w => if ds.length + w.1.length ≤ 16777216 then some (.t (.own (ds ++ w.1)), w.2) else none
  | .lsE e a, ρ => (ev e ρ).bind fun r => (ev a r.2).bind fun q => (frz q.2 q.1).bind fun u => (seqD u.1).bind fun ds => (frz u.2 r.1).bind fun w => if ds.length + 1 ≤ 16777216 then some (.t (.own (w.1 :: ds)), w.2) else none
  | .lc elt tg it c own, ρ => (evi it ρ).bind fun r => (lcLoop (fun d ρ => (bindTg tg d ρ).bind fun ρ => (evc c ρ).bind fun k => if k.1 then (ev elt k.2).bind fun y => (frz y.2 y.1).map fun z => (some z.1, z.2) else some (none, k.2)) own r.1 r.2).map fun q => (.t (.own q.1), backR r.2 q.2 own)
  | .dc k v tg it c own, ρ => (evi it ρ).bind fun r => (dcLoop (fun d ρ => (bindTg tg d ρ).bind fun ρ => (evc c ρ).bind fun b => if b.1 then (ev k b.2).bind fun y => (ev v y.2).bind fun z => (frz z.2 y.1).bind fun u => (frz u.2 z.1).map fun w => (some (u.1, w.1), w.2) else some (none, b.2)) own r.1 [] r.2).map fun q => (.t (.dic q.1), backR r.2 q.2 own)
  | .lc2 elt tg it c tg2 it2 c2 own own2, ρ => (evi it ρ).bind fun r => (lcLoopL (fun d ρ => (bindTg tg d ρ).bind fun ρ => (evc c ρ).bind fun k => if k.1 then (evi it2 k.2).bind fun w => lcLoop (fun d ρ => (bindTg tg2 d ρ).bind fun ρ => (evc c2 ρ).bind fun k => if k.1 then (ev elt k.2).bind fun y => (frz y.2 y.1).map fun z => (some z.1, z.2) else some (none, k.2)) own2 w.1 w.2 else some ([], k.2)) own r.1 r.2).bind fun q => if q.1.length ≤ 16777216 then some (.t (.own q.1), backR r.2 q.2 own) else none
def evs : Exs → Rho → Option (List Od × Rho)
  | .nil, ρ => some ([], ρ)
  | .cons e es, ρ => (ev e ρ).bind fun r => (evs es r.2).map fun q => (r.1 :: q.1, q.2)
/-- an optional part of a slice -/
def evo : Oex → Rho → Option (Option Int × Rho)
  | .no, ρ => some (none, ρ)
  | .so e, ρ => (ev e ρ).bind fun r => (lookD r.2 r.1).bind fun x => match x with
    | .int i => some (some i, r.2)
    | _ => none
/-- an optional test -/
def evc : Oex → Rho → Option (Bool × Rho)
  | .no, ρ => some (true, ρ)
  | .so e, ρ => (ev e ρ).bind fun r => (testOd r.2 r.1).map fun b => (b, r.2)
/-- what is walked: the items -/
def evi : Itr → Rho → Option (List D × Rho)
  | .seq e, ρ => (ev e ρ).bind fun r => (frz r.2 r.1).bind fun q => (walkD q.1).map fun ds => (ds, q.2)
  | .rng1 a, ρ => (ev a ρ).bind fun r => (lookD r.2 r.1).bind fun x => (rng1D x).map fun ds => (ds, r.2)
  | .rng2 a b, ρ => (ev a ρ).bind fun r => (ev b r.2).bind fun q => (lookD q.2 r.1).bind fun x => (lookD q.2 q.1).bind fun y => (rng2D x y).map fun ds => (ds, q.2)
  | .enm e, ρ => (ev e ρ).bind fun r => (frz r.2 r.1).bind fun q => (seqD q.1).map fun ds => (enmD 0 ds, q.2)
  | .zip a b, ρ => (ev a ρ).bind fun r => (ev b r.2).bind fun q => (frz q.2 r.1).bind fun u => (frz u.2 q.1).bind fun w => (zipS u.1 w.1).map fun ds => (ds, w.2)
  | .rev e, ρ => (ev e ρ).bind fun r => (frz r.2 r.1).bind fun q => (seqD q.1).map fun ds => (ds.reverse, q.2)
end
end Lt
namespace Lt
open PySem L2 PySem.Spec PyProof.Rows
/-- a frozen tuple, list: tracked at an address of Z, or of the written part -/
def TupZ (K : PySem.W.Frag) (H : Hp) (Z : Addr → Prop) (a : Addr) (vs : List V) : Prop :=
  ((∃ ob, H a = some (.frz ob (.tup vs)) ∧ ob.dict = none) ∧ Z a) ∨
    ∃ (o : Obj) (its : Array Value) (n : Nat), K.lookup a = some o ∧ o.cls = .type "tuple" ∧ o.dict = none ∧ o.data = .seq its n ∧ its.size ≤ sizeLine ∧ Vals vs its.toList
/-- a list that stands outside: nobody writes it -/
def LstE (K : PySem.W.Frag) (H : Hp) (Z : Addr → Prop) (a : Addr) (vs : List V) : Prop :=
  (Rd H a (.lst vs) ∧ Z a) ∨ ∃ (o : Obj) (its : Array Value) (n : Nat), K.lookup a = some o ∧ o.cls = .type "list" ∧ o.dict = none ∧ o.data = .seq its n ∧ its.size ≤ sizeLine ∧ Vals vs its.toList
theorem LstE.sq {K H Z a vs} (h : LstE K H Z a vs) : SqL K H a vs := h.elim (fun q => .inl q.1) .inr
/-- the law's own argument: a list of ints that stands outside -/
def scr (ns : List Int) : D := .list (ns.map .int)
theorem TupZ.sq {K H Z a vs} (h : TupZ K H Z a vs) : SqT K H a vs := by
  rcases h with ⟨⟨ob, h, _⟩, _⟩ | ⟨o, its, n, h1, h2, _, h3, h4, h5⟩
  · exact .inl (.inr ⟨ob, h⟩)
  · exact .inr ⟨o, its, n, h1, h2, h3, h4, h5⟩
mutual
/-- the hash of a key without texts -/
def nh : NestedKey → Int
  | .none => reduceHash 0xFCA86420
  | .num i => hashInt i
  | .text _ => 0
  | .tup ks => reduceHash (Builtin.Tuple.tupleHashOf (nhs ks))
def nhs : List NestedKey → List Int
  | [] => []
  | k :: ks => nh k :: nhs ks
end
abbrev Row := NestedKey × V × V
def entryN (x : NestedKey × Value × Value) : DictEntry := ⟨nh x.1, x.2.1, x.2.2⟩
/-- the dict at a has these rows -/
def dφ (a : Addr) (rows : List Row) (ep : Nat) (h : Heap) : Prop := (a == sysModules) = false ∧ ∃ o es xs, h.get? a = some o ∧ o.ExactDict ∧ o.data = .dict es ep ∧ es.toList = xs.map entryN ∧
  Paired (fun (r : Row) (x : NestedKey × Value × Value) => r.1 = x.1 ∧ RelV r.2.1 x.2.1 ∧ RelV r.2.2 x.2.2) rows xs
/-- all keys of one kind -/
def HomoK (kvs : List (D × D)) : Prop := ∃ t, ∀ p ∈ kvs, isTupD p.1 = t
mutual
def Rl (K : PySem.W.Frag) (H : Hp) (Z : Addr → Prop) : D → V → Prop
  | .none, v => v = .non
  | .bool b, v => v = .bl b
  | .int i, v => v = .int i
  | .str x, v => v = .str x
  | .list ds, v => ∃ a vs, v = .ref a ∧ LstE K H Z a vs ∧ ds.length ≤ sizeLine ∧ Rls K H Z ds vs
  | .tuple ds, v => ∃ a vs, v = .ref a ∧ TupZ K H Z a vs ∧ ds.length ≤ sizeLine ∧ Rls K H Z ds vs
  | .dict kvs, v => ∃ (a : Addr) (rows : List Row) (ep : Nat), v = .ref a ∧ (H a = some (.ext (dφ a rows ep)) ∧ Z a) ∧ kvs.length ≤ 16777215 ∧ Rlk K H Z kvs rows ∧ (rows.map (·.1)).Nodup ∧ HomoK kvs
def Rls (K : PySem.W.Frag) (H : Hp) (Z : Addr → Prop) : List D → List V → Prop
  | [], vs => vs = []
  | d :: ds, vs => ∃ v r, vs = v :: r ∧ Rl K H Z d v ∧ Rls K H Z ds r
/-- the rows are these keys and data -/
def Rlk (K : PySem.W.Frag) (H : Hp) (Z : Addr → Prop) : List (D × D) → List Row → Prop
  | [], rows => rows = []
  | (k, d) :: kvs, rows => ∃ r rs, rows = r :: rs ∧ keyOk k = true ∧ r.1 = ky k ∧ Rl K H Z k r.2.1 ∧ Rl K H Z d r.2.2 ∧ Rlk K H Z kvs rs
end
/-- frozen things stay -/
structure Keep (H : Hp) (Z : Addr → Prop) (H' : Hp) (Z' : Addr → Prop) : Prop where
  h : ∀ a o, Z a → H a = some o → H' a = some o
  z : ∀ a, Z a → Z' a
theorem Keep.refl {H Z} : Keep H Z H Z := ⟨fun _ _ _ e => e, fun _ e => e⟩
theorem Keep.trans {H Z H1 Z1 H2 Z2} (a : Keep H Z H1 Z1) (b : Keep H1 Z1 H2 Z2) : Keep H Z H2 Z2 :=
  ⟨fun x o z e => b.h x o (a.z x z) (a.h x o z e), fun x z => b.z x (a.z x z)⟩
section
variable {K : PySem.W.Frag} {H H' : Hp} {Z Z' : Addr → Prop}
theorem Rd.keep {a : Addr} {u : HO} (k : Keep H Z H' Z') (z : Z a) (r : Rd H a u) : Rd H' a u := by
  rcases r with r | ⟨o, r⟩
  · exact .inl (k.h a _ z r)
  · exact .inr ⟨o, k.h a _ z r⟩
theorem TupZ.keep {a vs} (k : Keep H Z H' Z') (r : TupZ K H Z a vs) : TupZ K H' Z' a vs := by
  rcases r with ⟨⟨ob, r, d⟩, z⟩ | r
  · exact .inl ⟨⟨ob, k.h a _ z r, d⟩, k.z a z⟩
  · exact .inr r
theorem LstE.keep {a vs} (k : Keep H Z H' Z') (r : LstE K H Z a vs) : LstE K H' Z' a vs := r.elim (fun q => .inl ⟨Rd.keep k q.2 q.1, k.z a q.2⟩) .inr
mutual
theorem Rl.keep (k : Keep H Z H' Z') : ∀ (d : D) (v : V), Rl K H Z d v → Rl K H' Z' d v
  | .none, _, r => r
  | .bool _, _, r => r
  | .int _, _, r => r
  | .str _, _, r => r
  | .list ds, _, ⟨a, vs, e, l, n, r⟩ => ⟨a, vs, e, l.keep k, n, Rls.keep k ds vs r⟩
  | .tuple ds, _, ⟨a, vs, e, l, n, r⟩ => ⟨a, vs, e, l.keep k, n, Rls.keep k ds vs r⟩
  | .dict kvs, _, ⟨a, rows, ep, e, ⟨h, z⟩, l, r, n⟩ => ⟨a, rows, ep, e, ⟨k.h a _ z h, k.z a z⟩, l, Rlk.keep k kvs rows r, n⟩
theorem Rls.keep (k : Keep H Z H' Z') : ∀ (ds : List D) (vs : List V), Rls K H Z ds vs → Rls K H' Z' ds vs
  | [], _, r => r
  | d :: ds, _, ⟨v, r, e, h1, h2⟩ => ⟨v, r, e, Rl.keep k d v h1, Rls.keep k ds r h2⟩
theorem Rlk.keep (k : Keep H Z H' Z') : ∀ (kvs : List (D × D)) (rows : List Row), Rlk K H Z kvs rows → Rlk K H' Z' kvs rows
  | [], _, r => r
  | (_, _) :: kvs, _, ⟨r, rs, e, h1, h2, h3, h4, h5⟩ => ⟨r, rs, e, h1, h2, Rl.keep k _ _ h3, Rl.keep k _ _ h4, Rlk.keep k kvs rs h5⟩
end
theorem Rls.length : ∀ {ds : List D} {vs : List V}, Rls K H Z ds vs → vs.length = ds.length
  | [], _, r => by
    have e : _ = [] := r
    rw [e]; rfl
  | d :: ds, _, ⟨v, r, e, _, h2⟩ => by rw [e, List.length_cons, List.length_cons, Rls.length h2]
theorem Rls.nil : Rls K H Z [] [] := rfl
theorem Rls.cons {d ds v vs} (h : Rl K H Z d v) (r : Rls K H Z ds vs) : Rls K H Z (d :: ds) (v :: vs) := ⟨v, vs, rfl, h, r⟩
theorem Rls.append : ∀ {ds es : List D} {vs ws : List V}, Rls K H Z ds vs → Rls K H Z es ws → Rls K H Z (ds ++ es) (vs ++ ws)
  | [], _, _, _, r, q => by
    have e : _ = [] := r
    rw [e]; exact q
  | d :: ds, _, _, _, ⟨v, r, e, h1, h2⟩, q => by
    rw [e]
    exact ⟨v, r ++ _, rfl, h1, Rls.append h2 q⟩
theorem Rls.take : ∀ {ds : List D} {vs : List V} (n : Nat), Rls K H Z ds vs → Rls K H Z (ds.take n) (vs.take n)
  | _, _, 0, _ => rfl
  | [], _, n + 1, r => by
    have e : _ = [] := r
    rw [e]; exact Rls.nil
  | d :: ds, _, n + 1, ⟨v, r, e, h1, h2⟩ => by
    rw [e]
    exact ⟨v, r.take n, rfl, h1, Rls.take n h2⟩
theorem Rls.drop : ∀ {ds : List D} {vs : List V} (n : Nat), Rls K H Z ds vs → Rls K H Z (ds.drop n) (vs.drop n)
  | _, _, 0, r => r
  | [], _, n + 1, r => by
    have e : _ = [] := r
    rw [e]; exact Rls.nil
  | d :: ds, _, n + 1, ⟨v, r, e, h1, h2⟩ => by
    rw [e]
    exact Rls.drop n h2
theorem Rls.get : ∀ {ds : List D} {vs : List V} {i : Nat} {d : D}, Rls K H Z ds vs → ds[i]? = some d → ∃ v, vs[i]? = some v ∧ Rl K H Z d v
  | [], _, i, d, _, h => by simp at h
  | d :: ds, _, 0, d', ⟨v, r, e, h1, h2⟩, h => by
    rw [e]
    have : d = d' := by simpa using h
    subst this
    exact ⟨v, rfl, h1⟩
  | d :: ds, _, i + 1, d', ⟨v, r, e, h1, h2⟩, h => by
    rw [e]
    obtain ⟨u, h3, h4⟩ := Rls.get (i := i) h2 (by simpa using h)
    exact ⟨u, by simpa using h3, h4⟩
theorem Rls.set : ∀ {ds : List D} {vs : List V} (i : Nat) {d : D} {v : V}, Rls K H Z ds vs → Rl K H Z d v → Rls K H Z (ds.set i d) (vs.set i v)
  | [], _, _, _, _, r, _ => by
    have e : _ = [] := r
    rw [e]; exact Rls.nil
  | d :: ds, _, 0, d', _, ⟨v, r, e, h1, h2⟩, h => by
    rw [e]; exact ⟨_, r, rfl, h, h2⟩
  | d :: ds, _, i + 1, d', w, ⟨v, r, e, h1, h2⟩, h => by
    rw [e]; exact ⟨v, r.set i w, rfl, h1, Rls.set i h2 h⟩
theorem Rls.reverse : ∀ {ds : List D} {vs : List V}, Rls K H Z ds vs → Rls K H Z ds.reverse vs.reverse
  | [], _, r => by
    have e : _ = [] := r
    rw [e]; exact Rls.nil
  | d :: ds, _, ⟨v, r, e, h1, h2⟩ => by
    rw [e, List.reverse_cons, List.reverse_cons]
    exact Rls.append (Rls.reverse h2) (Rls.cons h1 Rls.nil)
theorem Rls.dropLast {ds : List D} {vs : List V} (h : Rls K H Z ds vs) : Rls K H Z ds.dropLast vs.dropLast := by
  rw [List.dropLast_eq_take, List.dropLast_eq_take, h.length]
  exact h.take _
theorem Rls.flat {ds : List D} {vs : List V} (h : Rls K H Z ds vs) : ∀ n : Nat, Rls K H Z (List.replicate n ds).flatten (List.replicate n vs).flatten
  | 0 => Rls.nil
  | n + 1 => by
    rw [List.replicate_succ, List.replicate_succ, List.flatten_cons, List.flatten_cons]
    exact Rls.append h (Rls.flat h n)
mutual
theorem Rl.dp : ∀ (d : D) (v : V), d.canLay0 = true → Rl K H Z d v → Dp K H v d
  | .none, _, _, r => by cases (show _ = _ from r); exact .non
  | .bool _, _, _, r => by cases (show _ = _ from r); exact .bl _
  | .int _, _, _, r => by cases (show _ = _ from r); exact .int _
  | .str _, _, _, r => by cases (show _ = _ from r); exact .str _
  | .list ds, _, c, ⟨a, vs, e, l, _, r⟩ => by rw [e]; exact .lst l.sq (Rls.dp ds vs (by simpa [PyData.canLay0] using c) r)
  | .tuple ds, _, c, ⟨a, vs, e, l, _, r⟩ => by rw [e]; exact .tup l.sq (Rls.dp ds vs (by simpa [PyData.canLay0] using c) r)
  | .dict _, _, c, _ => absurd c (by simp [PyData.canLay0])
theorem Rls.dp : ∀ (ds : List D) (vs : List V), PyData.canLayAll0 ds = true → Rls K H Z ds vs → DpAll K H vs ds
  | [], _, _, r => by cases (show _ = _ from r); exact .nil
  | d :: ds, _, c, ⟨v, r, e, h1, h2⟩ => by
    rw [PyData.canLayAll0, Bool.and_eq_true] at c
    rw [e]; exact .cons (Rl.dp d v c.1 h1) (Rls.dp ds r c.2 h2)
end
theorem Rls.ints : ∀ {ds : List D} {vs : List V} {ns : List Int}, Rls K H Z ds vs → asInts ds = some ns → vs = ns.map V.int
  | [], _, ns, r, e => by
    cases (show some [] = some ns from e)
    exact r
  | d :: ds, vs, ns, ⟨v, r, e, h1, h2⟩, h => by
    cases d with
    | int i =>
      have h' : (asInts ds).map (i :: ·) = some ns := h
      cases q : asInts ds with
      | none => rw [q] at h'; cases h'
      | some ms =>
        rw [q] at h'
        cases h'
        rw [e, Rls.ints h2 q]
        cases (show v = V.int i from h1)
        rfl
    | _ => cases (show none = some ns from h)
theorem Rls.bools : ∀ {ds : List D} {vs : List V} {ns : List Bool}, Rls K H Z ds vs → asBools ds = some ns → vs = ns.map V.bl
  | [], _, ns, r, e => by
    cases (show some [] = some ns from e)
    exact r
  | d :: ds, vs, ns, ⟨v, r, e, h1, h2⟩, h => by
    cases d with
    | bool i =>
      have h' : (asBools ds).map (i :: ·) = some ns := h
      cases q : asBools ds with
      | none => rw [q] at h'; cases h'
      | some ms =>
        rw [q] at h'
        cases h'
        rw [e, Rls.bools h2 q]
        cases (show v = V.bl i from h1)
        rfl
    | _ => cases (show none = some ns from h)
end
def RowsV (K : PySem.W.Frag) (H : Hp) (Z : Addr → Prop) : List (D × D) → List Row → Prop := Paired fun p r => keyOk p.1 = true ∧ r.1 = ky p.1 ∧ Rl K H Z p.1 r.2.1 ∧ Rl K H Z p.2 r.2.2
theorem rlk_rows {K : PySem.W.Frag} {H : Hp} {Z : Addr → Prop} : ∀ {kvs : List (D × D)} {rows : List Row}, Rlk K H Z kvs rows → RowsV K H Z kvs rows
  | [], _, r => by cases (show _ = _ from r); exact .nil
  | (_, _) :: _, _, ⟨_, _, e, h1, h2, h3, h4, h5⟩ => by subst e; exact .cons ⟨h1, h2, h3, h4⟩ (rlk_rows h5)
theorem rows_rlk {K : PySem.W.Frag} {H : Hp} {Z : Addr → Prop} : ∀ {kvs : List (D × D)} {rows : List Row}, RowsV K H Z kvs rows → Rlk K H Z kvs rows
  | _, _, .nil => rfl
  | _, _, .cons (a := p) (b := r) ⟨h1, h2, h3, h4⟩ t => ⟨r, _, rfl, h1, h2, h3, h4, rows_rlk t⟩
/-- a dict at a, owned or frozen -/
def DicR (K : PySem.W.Frag) (H : Hp) (Z : Addr → Prop) (kvs : List (D × D)) (a : Addr) : Prop :=
  ∃ rows ep, H a = some (.ext (dφ a rows ep)) ∧ kvs.length ≤ 16777215 ∧ RowsV K H Z kvs rows ∧ (rows.map (·.1)).Nodup ∧ HomoK kvs
def DicV (K : PySem.W.Frag) (H : Hp) (Z : Addr → Prop) (kvs : List (D × D)) (a : Addr) : Prop := DicR K H Z kvs a ∧ ¬ Z a
theorem Rl.dic {K : PySem.W.Frag} {H : Hp} {Z : Addr → Prop} {kvs : List (D × D)} {v : V} (r : Rl K H Z (.dict kvs) v) : ∃ a, v = .ref a ∧ DicR K H Z kvs a ∧ Z a := by
  obtain ⟨a, rows, ep, e, ⟨h, z⟩, l, q, n⟩ := r
  exact ⟨a, e, ⟨rows, ep, h, l, rlk_rows q, n⟩, z⟩
theorem DicR.rl {K : PySem.W.Frag} {H : Hp} {Z : Addr → Prop} {kvs : List (D × D)} {a : Addr} (d : DicR K H Z kvs a) (z : Z a) : Rl K H Z (.dict kvs) (.ref a) := by
  obtain ⟨rows, ep, h, l, q, n⟩ := d
  exact ⟨a, rows, ep, rfl, ⟨h, z⟩, l, rows_rlk q, n⟩
section
variable {K : PySem.W.Frag} {H H' : Hp} {Z Z' : Addr → Prop} {kvs : List (D × D)} {a : Addr}
theorem DicR.hd (d : DicR K H Z kvs a) : ∃ o, H a = some o := let ⟨_, _, h, _⟩ := d; ⟨_, h⟩
theorem DicR.move (d : DicR K H Z kvs a) (k : Keep H Z H' Z') (h : ∀ o, H a = some o → H' a = some o) : DicR K H' Z' kvs a := by
  obtain ⟨rows, ep, h1, h3, h4, h5⟩ := d
  exact ⟨rows, ep, h _ h1, h3, Paired.mapP h4 fun p r ⟨q0, q1, q2, q3⟩ => ⟨q0, q1, Rl.keep k _ _ q2, Rl.keep k _ _ q3⟩, h5⟩
theorem DicV.hd (d : DicV K H Z kvs a) : ∃ o, H a = some o := d.1.hd
theorem DicV.nz (d : DicV K H Z kvs a) : ¬ Z a := d.2
theorem DicV.move (d : DicV K H Z kvs a) (k : Keep H Z H' Z') (h : ∀ o, H a = some o → H' a = some o) (z : ¬ Z' a) : DicV K H' Z' kvs a := ⟨d.1.move k h, z⟩
end
def isOw : Cell → Bool
  | .own _ => true
  | .dic _ => true
  | _ => false
/-- the address is one that a slot owns -/
def Ow (ρ : Rho) (σ : L2.St) (a : Addr) : Prop := ∃ i, isOw (cellAt ρ i) = true ∧ σ[i]? = some (some (.ref a))
/-- what a cell says of the value v that bears it -/
def CellV (K : PySem.W.Frag) (H : Hp) (Z : Addr → Prop) : Cell → V → Prop
  | .emp, _ => False
  | .dat d, v => Rl K H Z d v
  | .own ds, v => ∃ a vs, v = .ref a ∧ H a = some (.lst vs) ∧ ¬ Z a ∧ ds.length ≤ sizeLine ∧ Rls K H Z ds vs
  | .dic kvs, v => ∃ a, v = .ref a ∧ DicV K H Z kvs a
structure Sta (K : PySem.W.Frag) (H : Hp) (Z : Addr → Prop) (ρ : Rho) (σ : L2.St) : Prop where
  len : ρ.length = σ.length
  at_ : ∀ i, cellAt ρ i ≠ .emp → ∃ v, σ[i]? = some (some v) ∧ CellV K H Z (cellAt ρ i) v
  inj : ∀ i j a, isOw (cellAt ρ i) = true → isOw (cellAt ρ j) = true → σ[i]? = some (some (.ref a)) → σ[j]? = some (some (.ref a)) → i = j
  zd : ∀ a, Z a → ∃ o, H a = some o
/-- from (H, Z), W the addresses that may change, to (H', Z'), W' those that may then -/
structure Stp (W W' : Addr → Prop) (H : Hp) (Z : Addr → Prop) (H' : Hp) (Z' : Addr → Prop) : Prop where
  fr : ∀ a o, H a = some o → ¬ W a → H' a = some o ∧ (Z' a → Z a)
  dom : ∀ a o, H a = some o → ∃ o', H' a = some o'
  z : ∀ a, Z a → Z' a
  w : ∀ a, W' a → W a ∨ H a = none
theorem Stp.refl {W H Z} : Stp W W H Z H Z := ⟨fun _ _ e _ => ⟨e, fun z => z⟩, fun _ _ e => ⟨_, e⟩, fun _ z => z, fun _ z => .inl z⟩
theorem Stp.none_ {W W' H Z H' Z'} (s : Stp W W' H Z H' Z') {a : Addr} (h : H' a = none) : H a = none := by
  cases q : H a with
  | none => rfl
  | some o =>
    obtain ⟨o', e⟩ := s.dom a o q
    rw [h] at e; cases e
theorem Stp.trans {W W1 W2 H Z H1 Z1 H2 Z2} (a : Stp W W1 H Z H1 Z1) (b : Stp W1 W2 H1 Z1 H2 Z2) : Stp W W2 H Z H2 Z2 where
  fr := fun x o e n => by
    obtain ⟨e1, z1⟩ := a.fr x o e n
    obtain ⟨e2, z2⟩ := b.fr x o e1 fun w => (a.w x w).elim n fun q => by rw [e] at q; cases q
    exact ⟨e2, fun z => z1 (z2 z)⟩
  dom := fun x o e => by
    obtain ⟨o1, e1⟩ := a.dom x o e
    exact b.dom x o1 e1
  z := fun x z => b.z x (a.z x z)
  w := fun x w => (b.w x w).elim (a.w x) fun q => .inr (a.none_ q)
section
variable {K : PySem.W.Frag} {H H' : Hp} {Z Z' : Addr → Prop} {ρ ρ' : Rho} {σ : L2.St}
/-- owned addresses are not frozen -/
theorem Sta.nz (s : Sta K H Z ρ σ) {a : Addr} (w : Ow ρ σ a) : ¬ Z a := by
  obtain ⟨i, h1, h2⟩ := w
  obtain ⟨v, e, c⟩ := s.at_ i (by intro q; rw [q] at h1; cases h1)
  rw [h2] at e
  cases e
  cases q : cellAt ρ i with
  | emp => rw [q] at h1; cases h1
  | dat d => rw [q] at h1; cases h1
  | own ds =>
    rw [q] at c
    obtain ⟨b, vs, e1, _, nz, _⟩ := c
    cases e1
    exact nz
  | dic kvs =>
    rw [q] at c
    obtain ⟨b, e1, d⟩ := c
    cases e1
    exact d.nz
theorem Sta.dm (s : Sta K H Z ρ σ) {a : Addr} (w : Ow ρ σ a) : ∃ o, H a = some o := by
  obtain ⟨i, h1, h2⟩ := w
  obtain ⟨v, e, c⟩ := s.at_ i (by intro q; rw [q] at h1; cases h1)
  rw [h2] at e
  cases e
  cases q : cellAt ρ i with
  | emp => rw [q] at h1; cases h1
  | dat d => rw [q] at h1; cases h1
  | own ds =>
    rw [q] at c
    obtain ⟨b, vs, e1, hb, nz, _⟩ := c
    cases e1
    exact ⟨_, hb⟩
  | dic kvs =>
    rw [q] at c
    obtain ⟨b, e1, d⟩ := c
    cases e1
    exact d.hd
theorem Stp.keep {W W'} (s : Stp W W' H Z H' Z') (n : ∀ a, Z a → ¬ W a) : Keep H Z H' Z' :=
  ⟨fun a o z e => (s.fr a o e (n a z)).1, s.z⟩
theorem Sta.keep {W'} (s : Sta K H Z ρ σ) (p : Stp (Ow ρ σ) W' H Z H' Z') : Keep H Z H' Z' := p.keep fun _ z w => s.nz w z
end
/-- a value that is no slot's: its cell; an owned one is nobody's slot -/
def ResV (K : PySem.W.Frag) (H : Hp) (Z : Addr → Prop) (ρ : Rho) (σ : L2.St) (c : Cell) (v : V) : Prop :=
  CellV K H Z c v ∧ ∀ a, isOw c = true → v = .ref a → ¬ Ow ρ σ a
def OdV (K : PySem.W.Frag) (H : Hp) (Z : Addr → Prop) (ρ : Rho) (σ : L2.St) : Od → V → Prop
  | .v i, v => σ[i]? = some (some v)
  | .t c, v => ResV K H Z ρ σ c v
/-- an owned result is new -/
def NewV (H : Hp) : Od → V → Prop
  | .t c, v => ∀ a, isOw c = true → v = .ref a → H a = none
  | .v _, _ => True
section
variable {K : PySem.W.Frag} {H H' : Hp} {Z Z' : Addr → Prop} {ρ ρ' : Rho} {σ : L2.St}
theorem CellV.stp {W W'} {c : Cell} {v : V} (r : CellV K H Z c v) (p : Stp W W' H Z H' Z') (n : ∀ a, Z a → ¬ W a) (hw : ∀ a, isOw c = true → v = .ref a → ¬ W a) : CellV K H' Z' c v := by
  cases c with
  | emp => exact r
  | dat d => exact Rl.keep (p.keep n) d v r
  | own ds =>
    obtain ⟨a, vs, e, h, nz, l, q⟩ := r
    obtain ⟨e1, z1⟩ := p.fr a _ h (hw a rfl e)
    exact ⟨a, vs, e, e1, fun z => nz (z1 z), l, Rls.keep (p.keep n) ds vs q⟩
  | dic kvs =>
    obtain ⟨a, e, d⟩ := r
    exact ⟨a, e, d.move (p.keep n) (fun o h => (p.fr a o h (hw a rfl e)).1) fun z => by
      obtain ⟨o, h⟩ := d.hd
      exact d.nz ((p.fr a o h (hw a rfl e)).2 z)⟩
theorem CellV.dm {c : Cell} {v : V} {a : Addr} (r : CellV K H Z c v) (h : isOw c = true) (e : v = .ref a) : ∃ o, H a = some o := by
  cases c with
  | emp => cases h
  | dat d => cases h
  | own ds =>
    obtain ⟨b, vs, e1, hb, _⟩ := r
    rw [e] at e1; cases e1
    exact ⟨_, hb⟩
  | dic kvs =>
    obtain ⟨b, e1, d⟩ := r
    rw [e] at e1; cases e1
    exact d.hd
theorem OdV.stp {o : Od} {v : V} (r : OdV K H Z ρ σ o v) (s : Sta K H Z ρ σ) (p : Stp (Ow ρ σ) (Ow ρ' σ) H Z H' Z') : OdV K H' Z' ρ' σ o v := by
  cases o with
  | v i => exact r
  | t c =>
    obtain ⟨r1, r2⟩ := r
    refine ⟨r1.stp p (fun a z w => s.nz w z) r2, fun a h e w => ?_⟩
    rcases p.w a w with q | q
    · exact r2 a h e q
    · obtain ⟨o, e'⟩ := r1.dm h e
      rw [e'] at q; cases q
/-- the view of an operand -/
theorem OdV.cell {o : Od} {v : V} (r : OdV K H Z ρ σ o v) (s : Sta K H Z ρ σ) {w : D} (l : look ρ o = some w) : ∃ c, c.vw = some w ∧ CellV K H Z c v := by
  cases o with
  | v i =>
    have l' : (cellAt ρ i).vw = some w := l
    obtain ⟨u, e, c⟩ := s.at_ i (by intro q; rw [q] at l'; cases l')
    have r' : σ[i]? = some (some v) := r
    rw [r'] at e; cases e
    exact ⟨_, l', c⟩
  | t c => exact ⟨c, l, r.1⟩
/-- what a view says of the value -/
def VwV (K : PySem.W.Frag) (H : Hp) (Z : Addr → Prop) : D → V → Prop
  | .list ds, v => ∃ a vs, v = .ref a ∧ SqL K H a vs ∧ ds.length ≤ sizeLine ∧ Rls K H Z ds vs
  | .dict kvs, v => ∃ a, v = .ref a ∧ DicR K H Z kvs a
  | d, v => Rl K H Z d v
theorem VwV.of {d : D} {v : V} (r : Rl K H Z d v) : VwV K H Z d v := by
  cases d with
  | list ds =>
    obtain ⟨a, vs, e, l, n, q⟩ := r
    exact ⟨a, vs, e, l.sq, n, q⟩
  | dict kvs =>
    obtain ⟨a, e, d, _⟩ := r.dic
    exact ⟨a, e, d⟩
  | _ => exact r
theorem OdV.vw {o : Od} {v : V} {d : D} (r : OdV K H Z ρ σ o v) (s : Sta K H Z ρ σ) (l : lookD ρ o = some d) : VwV K H Z d v := by
  obtain ⟨c, e, cv⟩ := r.cell s l
  cases c with
  | emp => exact cv.elim
  | dat d' =>
    cases (show some d' = some d from e)
    exact VwV.of cv
  | own ds =>
    cases (show some (PyData.list ds) = some d from e)
    obtain ⟨a, vs, e1, h1, _, h2, h3⟩ := cv
    exact ⟨a, vs, e1, .inl (.inl h1), h2, h3⟩
  | dic kvs =>
    cases (show some (PyData.dict kvs) = some d from e)
    obtain ⟨a, e1, d, _⟩ := cv
    exact ⟨a, e1, d⟩
theorem VwV.lst {ds : List D} {v : V} (r : VwV K H Z (.list ds) v) : ∃ a vs, v = .ref a ∧ SqL K H a vs ∧ ds.length ≤ sizeLine ∧ Rls K H Z ds vs := r
theorem VwV.dic {kvs : List (D × D)} {v : V} (r : VwV K H Z (.dict kvs) v) : ∃ a, v = .ref a ∧ DicR K H Z kvs a := r
theorem VwV.tup {ds : List D} {v : V} (r : VwV K H Z (.tuple ds) v) : ∃ a vs, v = .ref a ∧ SqT K H a vs ∧ ds.length ≤ sizeLine ∧ Rls K H Z ds vs := by
  obtain ⟨a, vs, e, l, n, q⟩ := r
  exact ⟨a, vs, e, l.sq, n, q⟩
theorem VwV.dp {d : D} {v : V} (r : VwV K H Z d v) (c : SeqAt.shaped d = true) : Dp K H v d := by
  have c0 := SeqAt.canLay_of_shaped c
  cases d with
  | list ds =>
    obtain ⟨a, vs, rfl, l, _, q⟩ := VwV.lst r
    exact .lst l (Rls.dp ds vs (by simpa [PyData.canLay0] using c0) q)
  | dict kvs => exact absurd c0 (by simp [PyData.canLay0])
  | _ => exact Rl.dp (Z := Z) _ _ c0 r
/-- an own temporary of that address -/
def OwT (o : Od) (v : V) (a : Addr) : Prop := ∃ c, o = .t c ∧ isOw c = true ∧ v = .ref a
def OwF (a : Addr) : List Od → List V → Prop
  | o :: os, v :: vs => ¬ OwT o v a ∧ OwF a os vs
  | _, _ => True
/-- operands from the left; H0: the heap ahead of them -/
def OdVs (K : PySem.W.Frag) (H0 H : Hp) (Z : Addr → Prop) (ρ : Rho) (σ : L2.St) : List Od → List V → Prop
  | [], vs => vs = []
  | o :: os, vs => ∃ v r, vs = v :: r ∧ OdV K H Z ρ σ o v ∧ NewV H0 o v ∧ (∀ a, OwT o v a → OwF a os r) ∧ OdVs K H0 H Z ρ σ os r
theorem OdVs.length {H0 : Hp} : ∀ {os : List Od} {vs : List V}, OdVs K H0 H Z ρ σ os vs → vs.length = os.length
  | [], _, r => by cases (show _ = _ from r); rfl
  | o :: os, _, ⟨v, r, e, _, _, _, q⟩ => by rw [e, List.length_cons, List.length_cons, OdVs.length q]
/-- an owned thing, frozen -/
theorem CellV.frzd {c : Cell} {v : V} {d : D} (r : CellV K H Z c v) (h : isOw c = true) (e : c.fr = some d) : ∃ a, v = .ref a ∧ ¬ Z a ∧ (∃ o, H a = some o) ∧ ∀ Z' : Addr → Prop, (∀ x, Z x → Z' x) → Z' a → Rl K H Z' d v := by
  cases c with
  | emp => cases h
  | dat d => cases h
  | own ds =>
    cases (show some (PyData.list ds) = some d from e)
    obtain ⟨a, vs, e1, h1, nz, l, rr⟩ := r
    exact ⟨a, e1, nz, ⟨_, h1⟩, fun Z' z za => ⟨a, vs, e1, .inl ⟨.inl h1, za⟩, l, Rls.keep ⟨fun _ _ _ e => e, z⟩ ds vs rr⟩⟩
  | dic kvs =>
    cases (show some (PyData.dict kvs) = some d from e)
    obtain ⟨a, e1, dd, nz⟩ := r
    exact ⟨a, e1, nz, dd.hd, fun Z' z za => by rw [e1]; exact (dd.move ⟨fun _ _ _ e => e, z⟩ fun _ h => h).rl za⟩
/-- another thing, where one is frozen -/
theorem CellV.wide {c : Cell} {v : V} {Z' : Addr → Prop} (r : CellV K H Z c v) (hz : ∀ x, Z x → Z' x) (n : ∀ a, isOw c = true → v = .ref a → Z' a → Z a) : CellV K H Z' c v := by
  have kp : Keep H Z H Z' := ⟨fun _ _ _ e => e, hz⟩
  cases c with
  | emp => exact r
  | dat d => exact Rl.keep kp d v r
  | own ds =>
    obtain ⟨a, vs, e, h, nz, l, q⟩ := r
    exact ⟨a, vs, e, h, fun z => nz (n a rfl e z), l, Rls.keep kp ds vs q⟩
  | dic kvs =>
    obtain ⟨a, e, d, nz⟩ := r
    exact ⟨a, e, d.move kp fun _ h => h, fun z => nz (n a rfl e z)⟩
/-- freezing one -/
theorem frz_ok {W0 : Addr → Prop} {H0 : Hp} {Z0 : Addr → Prop} {o : Od} {v : V} {d : D} (p : Stp W0 (Ow ρ σ) H0 Z0 H Z) (s : Sta K H Z ρ σ) (r : OdV K H Z ρ σ o v) (n : NewV H0 o v) (e : frz ρ o = some (d, ρ')) :
    ∃ Z', Stp W0 (Ow ρ' σ) H0 Z0 H Z' ∧ Sta K H Z' ρ' σ ∧ Rl K H Z' d v ∧ (∀ a, Z a → Z' a) ∧ (∀ a, Z' a → Z a ∨ Ow ρ σ a ∨ OwT o v a) ∧ (∀ a, Ow ρ' σ a → Ow ρ σ a) := by
  have same : ∀ {d'}, Rl K H Z d' v → d' = d → ρ = ρ' → ∃ Z', Stp W0 (Ow ρ' σ) H0 Z0 H Z' ∧ Sta K H Z' ρ' σ ∧ Rl K H Z' d v ∧ (∀ a, Z a → Z' a) ∧ (∀ a, Z' a → Z a ∨ Ow ρ σ a ∨ OwT o v a) ∧ (∀ a, Ow ρ' σ a → Ow ρ σ a) := by
    intro d' h e1 e2
    subst e1 e2
    exact ⟨Z, p, s, h, fun _ z => z, fun _ z => .inl z, fun _ w => w⟩
  cases o with
  | v i =>
    have r' : σ[i]? = some (some v) := r
    have own : ∀ {c : Cell}, cellAt ρ i = c → isOw c = true → c.fr = some d → ρ' = ρ.set i (.dat d) → ∃ Z', Stp W0 (Ow ρ' σ) H0 Z0 H Z' ∧ Sta K H Z' ρ' σ ∧ Rl K H Z' d v ∧ (∀ a, Z a → Z' a) ∧ (∀ a, Z' a → Z a ∨ Ow ρ σ a ∨ OwT (.v i) v a) ∧ (∀ a, Ow ρ' σ a → Ow ρ σ a) := by
      intro c q io hf e2
      subst e2
      obtain ⟨u, e1, cv⟩ := s.at_ i (by rw [q]; intro z; rw [z] at io; cases io)
      rw [r'] at e1; cases e1
      rw [q] at cv
      obtain ⟨a, rfl, nz, ⟨ob, hob⟩, fz⟩ := cv.frzd io hf
      have owi : Ow ρ σ a := ⟨i, by rw [q]; exact io, r'⟩
      have hl : i < ρ.length := by rw [s.len]; exact (List.getElem?_eq_some_iff.mp r').1
      have ca : ∀ j, cellAt (ρ.set i (.dat d)) j = if j = i then .dat d else cellAt ρ j := by
        intro j
        unfold cellAt
        rw [List.getD_eq_getElem?_getD, List.getD_eq_getElem?_getD]
        by_cases hj : j = i
        · subst hj
          rw [if_pos rfl, List.getElem?_set_self hl]; rfl
        · rw [if_neg hj, List.getElem?_set_ne (Ne.symm hj)]
      have ow' : ∀ b, Ow (ρ.set i (.dat d)) σ b → Ow ρ σ b ∧ b ≠ a := by
        rintro b ⟨j, h1, h2⟩
        rw [ca j] at h1
        by_cases hj : j = i
        · rw [if_pos hj] at h1; cases h1
        · rw [if_neg hj] at h1
          refine ⟨⟨j, h1, h2⟩, fun z => ?_⟩
          subst z
          exact hj (s.inj j i b h1 (by rw [q]; exact io) h2 r')
      clear n
      refine ⟨fun x => Z x ∨ x = a, ⟨fun x o e n => ?_, p.dom, fun x z => .inl (p.z x z), fun x w => p.w x (ow' x w).1⟩, ⟨by rw [List.length_set]; exact s.len, fun j hj => ?_, fun j k b h1 h2 h3 h4 => ?_, fun x z => ?_⟩, fz _ (fun _ z => .inl z) (.inr rfl), fun _ z => .inl z, fun x z => ?_, fun b w => (ow' b w).1⟩
      · obtain ⟨e1, z1⟩ := p.fr x o e n
        refine ⟨e1, fun z => z.elim z1 fun e2 => ?_⟩
        subst e2
        rcases p.w x owi with w | w
        · exact (n w).elim
        · rw [e] at w; cases w
      · rw [ca j] at hj ⊢
        by_cases hji : j = i
        · subst hji
          rw [if_pos rfl]
          exact ⟨.ref a, r', fz _ (fun _ z => .inl z) (.inr rfl)⟩
        · rw [if_neg hji] at hj ⊢
          obtain ⟨u, e1, cu⟩ := s.at_ j hj
          refine ⟨u, e1, cu.wide (fun _ z => .inl z) fun b io' eb z => z.elim id fun e3 => ?_⟩
          subst e3 eb
          exact (hji (s.inj j i b io' (by rw [q]; exact io) e1 r')).elim
      · rw [ca j] at h1
        rw [ca k] at h2
        by_cases hj : j = i
        · rw [if_pos hj] at h1; cases h1
        · by_cases hk : k = i
          · rw [if_pos hk] at h2; cases h2
          · rw [if_neg hj] at h1
            rw [if_neg hk] at h2
            exact s.inj j k b h1 h2 h3 h4
      · rcases z with z | z
        · exact s.zd x z
        · rw [z]; exact ⟨_, hob⟩
      · rcases z with z | z
        · exact .inl z
        · rw [z]; exact .inr (.inl owi)
    have e' : (match cellAt ρ i with
      | .dat d => some (d, ρ)
      | .own ds => some (.list ds, ρ.set i (.dat (.list ds)))
      | .dic kvs => some (.dict kvs, ρ.set i (.dat (.dict kvs)))
      | .emp => none) = some (d, ρ') := e
    cases q : cellAt ρ i with
    | emp => rw [q] at e'; cases e'
    | dic kvs =>
      rw [q] at e'
      cases e'
      exact own q rfl rfl rfl
    | dat d' =>
      rw [q] at e'
      cases e'
      obtain ⟨u, e1, c⟩ := s.at_ i (by rw [q]; intro z; cases z)
      rw [r'] at e1; cases e1
      rw [q] at c
      exact same c rfl rfl
    | own ds =>
      rw [q] at e'
      cases e'
      exact own q rfl rfl rfl
  | t c =>
    obtain ⟨r1, r2⟩ := r
    obtain ⟨d', e1, e2⟩ : ∃ d', c.fr = some d' ∧ (d', ρ) = (d, ρ') := by
      have e' : (c.fr.map fun d => (d, ρ)) = some (d, ρ') := e
      cases h : c.fr with
      | none => rw [h] at e'; cases e'
      | some d' => rw [h] at e'; exact ⟨d', rfl, Option.some.inj e'⟩
    cases e2
    by_cases io : isOw c = true
    · obtain ⟨a, rfl, nz, ⟨ob, hob⟩, fz⟩ := r1.frzd io e1
      have na : ¬ Ow ρ σ a := r2 a io rfl
      have n0 : H0 a = none := n a io rfl
      refine ⟨fun x => Z x ∨ x = a, ⟨fun x o e n => ?_, p.dom, fun x z => .inl (p.z x z), p.w⟩, ⟨s.len, fun j hj => ?_, s.inj, fun x z => ?_⟩, fz _ (fun _ z => .inl z) (.inr rfl), fun _ z => .inl z, fun x z => ?_, fun b w => w⟩
      · obtain ⟨e1, z1⟩ := p.fr x o e n
        refine ⟨e1, fun z => z.elim z1 fun e2 => ?_⟩
        subst e2
        rw [e] at n0; cases n0
      · obtain ⟨u, e1, cu⟩ := s.at_ j hj
        refine ⟨u, e1, cu.wide (fun _ z => .inl z) fun b io' eb z => z.elim id fun e3 => ?_⟩
        subst e3 eb
        exact (na ⟨j, io', e1⟩).elim
      · rcases z with z | z
        · exact s.zd x z
        · rw [z]; exact ⟨_, hob⟩
      · rcases z with z | z
        · exact .inl z
        · rw [z]; exact .inr (.inr ⟨_, rfl, io, rfl⟩)
    · cases c with
      | emp => exact r1.elim
      | dic kvs => exact (io rfl).elim
      | own ds => exact (io rfl).elim
      | dat d'' =>
        cases (show some d'' = some d from e1)
        exact same r1 rfl rfl
/-- the others stay -/
theorem OdV.frz {ρ' : Rho} {Z' : Addr → Prop} {o o1 : Od} {v v1 : V} (r : OdV K H Z ρ σ o v) (h1 : ∀ a, Z a → Z' a) (h2 : ∀ a, Z' a → Z a ∨ Ow ρ σ a ∨ OwT o1 v1 a) (h3 : ∀ a, Ow ρ' σ a → Ow ρ σ a) (hd : ∀ a, OwT o v a → ¬ OwT o1 v1 a) : OdV K H Z' ρ' σ o v := by
  cases o with
  | v i => exact r
  | t c =>
    obtain ⟨r1, r2⟩ := r
    have kp : Keep H Z H Z' := ⟨fun _ _ _ e => e, h1⟩
    refine ⟨?_, fun a h e w => r2 a h e (h3 a w)⟩
    cases c with
    | emp => exact r1
    | dic kvs =>
      obtain ⟨a, rfl, d⟩ := r1
      refine ⟨a, rfl, d.move kp (fun _ h => h) fun z => ?_⟩
      rcases h2 a z with z | z | z
      · exact d.nz z
      · exact r2 a rfl rfl z
      · exact hd a ⟨_, rfl, rfl, rfl⟩ z
    | dat d => exact Rl.keep kp d v r1
    | own ds =>
      obtain ⟨a, vs, rfl, h, nz, l, rr⟩ := r1
      refine ⟨a, vs, rfl, h, fun z => ?_, l, Rls.keep kp ds vs rr⟩
      rcases h2 a z with z | z | z
      · exact nz z
      · exact r2 a rfl rfl z
      · exact hd a ⟨_, rfl, rfl, rfl⟩ z
theorem OdVs.frz {ρ' : Rho} {H0 : Hp} {Z' : Addr → Prop} {o1 : Od} {v1 : V} (h1 : ∀ a, Z a → Z' a) (h2 : ∀ a, Z' a → Z a ∨ Ow ρ σ a ∨ OwT o1 v1 a) (h3 : ∀ a, Ow ρ' σ a → Ow ρ σ a) : ∀ {os : List Od} {vs : List V}, OdVs K H0 H Z ρ σ os vs → (∀ a, OwT o1 v1 a → OwF a os vs) → OdVs K H0 H Z' ρ' σ os vs
  | [], _, r, _ => r
  | o :: os, _, ⟨v, r, e, hv, hn, hf, q⟩, hd => by
    subst e
    exact ⟨v, r, rfl, hv.frz h1 h2 h3 fun a z z' => (hd a z').1 z, hn, hf, OdVs.frz h1 h2 h3 q fun a z => (hd a z).2⟩
theorem frzs_ok {W0 : Addr → Prop} {H0 : Hp} {Z0 : Addr → Prop} : ∀ {os : List Od} {vs : List V} {ds : List D} {ρ ρ' : Rho} {Z : Addr → Prop}, Stp W0 (Ow ρ σ) H0 Z0 H Z → Sta K H Z ρ σ → OdVs K H0 H Z ρ σ os vs → frzs ρ os = some (ds, ρ') →
    ∃ Z', Stp W0 (Ow ρ' σ) H0 Z0 H Z' ∧ Sta K H Z' ρ' σ ∧ Rls K H Z' ds vs ∧ (∀ a, Z a → Z' a) ∧ (∀ a, Z' a → Z a ∨ Ow ρ σ a ∨ ¬ OwF a os vs) ∧ (∀ a, Ow ρ' σ a → Ow ρ σ a)
  | [], _, _, _, _, Z, p, s, r, e => by
    cases (show _ = _ from r)
    cases (show some ([], _) = some _ from e)
    exact ⟨Z, p, s, rfl, fun _ z => z, fun _ z => .inl z, fun _ w => w⟩
  | o :: os, _, ds, ρ, ρ', Z, p, s, ⟨v, r, e, hv, hn, hf, q⟩, h => by
    subst e
    have h' : ((frz ρ o).bind fun r => (frzs r.2 os).map fun q => (r.1 :: q.1, q.2)) = some (ds, ρ') := h
    cases e1 : frz ρ o with
    | none => rw [e1] at h'; cases h'
    | some x =>
      obtain ⟨d, ρ1⟩ := x
      rw [e1] at h'
      obtain ⟨Z1, p1, s1, r1, a1, a2, a3⟩ := frz_ok p s hv hn e1
      have h2 : ((frzs ρ1 os).map fun q => (d :: q.1, q.2)) = some (ds, ρ') := h'
      cases e2 : frzs ρ1 os with
      | none => rw [e2] at h2; cases h2
      | some y =>
        obtain ⟨es, ρ2⟩ := y
        rw [e2] at h2
        cases h2
        obtain ⟨Z2, p2, s2, r2, b1, b2, b3⟩ := frzs_ok p1 s1 (q.frz a1 a2 a3 hf) e2
        refine ⟨Z2, p2, s2, Rls.cons (Rl.keep ⟨fun _ _ _ e => e, b1⟩ d v r1) r2, fun a z => b1 a (a1 a z), fun a z => ?_, fun a w => a3 a (b3 a w)⟩
        rcases b2 a z with z | z | z
        · rcases a2 a z with z | z | z
          · exact .inl z
          · exact .inr (.inl z)
          · exact .inr (.inr fun w => w.1 z)
        · exact .inr (.inl (a3 a z))
        · exact .inr (.inr fun w => z w.2)
/-- a new object; fz: it is frozen at once -/
theorem alloc {W0 : Addr → Prop} {H0 : Hp} {Z0 : Addr → Prop} (p : Stp W0 (Ow ρ σ) H0 Z0 H Z) (s : Sta K H Z ρ σ) {a : Addr} (ha : H a = none) (ob : HO) (fz : Prop) :
    Stp W0 (Ow ρ σ) H0 Z0 (upd H a ob) (fun x => Z x ∨ (fz ∧ x = a)) ∧ Sta K (upd H a ob) (fun x => Z x ∨ (fz ∧ x = a)) ρ σ ∧ Keep H Z (upd H a ob) (fun x => Z x ∨ (fz ∧ x = a)) ∧ ¬ Ow ρ σ a ∧ ¬ Z a ∧ H0 a = none := by
  have nw : ¬ Ow ρ σ a := fun w => by
    obtain ⟨o, e⟩ := s.dm w
    rw [ha] at e; cases e
  have nz : ¬ Z a := fun z => by
    obtain ⟨o, e⟩ := s.zd a z
    rw [ha] at e; cases e
  have n0 : H0 a = none := p.none_ ha
  have kp : Keep H Z (upd H a ob) (fun x => Z x ∨ (fz ∧ x = a)) := ⟨fun x o z e => by rw [upd_ne (ne_of_none e ha)]; exact e, fun _ z => .inl z⟩
  have p1 : Stp (Ow ρ σ) (Ow ρ σ) H Z (upd H a ob) (fun x => Z x ∨ (fz ∧ x = a)) :=
    ⟨fun x o e n => ⟨by rw [upd_ne (ne_of_none e ha)]; exact e, fun z => z.elim id fun q => by rw [q.2, ha] at e; cases e⟩, fun x o e => ⟨o, by rw [upd_ne (ne_of_none e ha)]; exact e⟩, fun _ z => .inl z, fun _ w => .inl w⟩
  refine ⟨p.trans p1, ⟨s.len, fun j hj => ?_, s.inj, fun x z => ?_⟩, kp, nw, nz, n0⟩
  · obtain ⟨u, e1, c⟩ := s.at_ j hj
    refine ⟨u, e1, ?_⟩
    cases qj : cellAt ρ j with
    | emp => exact (hj qj).elim
    | dat d' => rw [qj] at c; exact Rl.keep kp d' u c
    | dic kvs =>
      rw [qj] at c
      obtain ⟨b, e2, db⟩ := c
      obtain ⟨ob', hb⟩ := db.hd
      exact ⟨b, e2, db.move kp (fun o h => by rw [upd_ne (ne_of_none h ha)]; exact h) fun z => z.elim db.nz fun e3 => (by rw [e3.2, ha] at hb; cases hb)⟩
    | own es =>
      rw [qj] at c
      obtain ⟨b, ws, e2, hb, nb, lb, rb⟩ := c
      exact ⟨b, ws, e2, by rw [upd_ne (ne_of_none hb ha)]; exact hb, fun z => z.elim nb fun e3 => (by rw [e3.2, ha] at hb; cases hb), lb, Rls.keep kp es ws rb⟩
  · by_cases hx : x = a
    · subst hx; exact ⟨ob, upd_same⟩
    · rw [upd_ne hx]
      rcases z with z | z
      · exact s.zd x z
      · exact (hx z.2).elim
end
end Lt
namespace Lt
open PySem L2 PySem.Spec PyProof.Rows
/-- what is wanted of a new tuple of xs -/
def NewT (H : Hp) (Q : VK) (xs : List V) : Prop := ∀ (p : Addr) (ob : Obj), H p = none → ob.dict = none → Q (.ref p) (upd H p (.frz ob (.tup xs)))
/-- what is wanted of a result c -/
def Fin_ (K : PySem.W.Frag) (W : Addr → Prop) (H0 : Hp) (Z0 : Addr → Prop) (ρ : Rho) (σ : L2.St) (c : Cell) (Q : VK) : Prop :=
  ∀ u H' Z', Sta K H' Z' ρ σ → Stp W (Ow ρ σ) H0 Z0 H' Z' → ResV K H' Z' ρ σ c u → NewV H0 (.t c) u → Q u H'
section
variable {K : PySem.W.Frag} {W : Addr → Prop} {H0 H : Hp} {Z0 Z : Addr → Prop} {ρ : Rho} {σ : L2.St} {Q : VK}
theorem Fin_.same {d : D} {u : V} (f : Fin_ K W H0 Z0 ρ σ (.dat d) Q) (p : Stp W (Ow ρ σ) H0 Z0 H Z) (s : Sta K H Z ρ σ) (r : Rl K H Z d u) : Q u H :=
  f u H Z s p ⟨r, fun _ h => nomatch h⟩ fun _ h => nomatch h
theorem Fin_.tup {ds : List D} {vs : List V} (f : Fin_ K W H0 Z0 ρ σ (.dat (.tuple ds)) Q) (p : Stp W (Ow ρ σ) H0 Z0 H Z) (s : Sta K H Z ρ σ) (r : Rls K H Z ds vs) (hl : ds.length ≤ sizeLine) : NewT H Q vs := fun a ob ha hd => by
  obtain ⟨p1, s1, k, _, _, _⟩ := alloc p s ha (.frz ob (.tup vs)) True
  exact f _ _ _ s1 p1 ⟨⟨a, vs, rfl, .inl ⟨⟨ob, upd_same, hd⟩, .inr ⟨trivial, rfl⟩⟩, hl, Rls.keep k ds vs r⟩, fun _ h => nomatch h⟩ fun _ h => nomatch h
theorem Fin_.lst {ds : List D} {vs : List V} (f : Fin_ K W H0 Z0 ρ σ (.own ds) Q) (p : Stp W (Ow ρ σ) H0 Z0 H Z) (s : Sta K H Z ρ σ) (r : Rls K H Z ds vs) (hl : ds.length ≤ sizeLine) : ∀ a, H a = none → Q (.ref a) (upd H a (.lst vs)) := fun a ha => by
  obtain ⟨p1, s1, k, nw, nz, n0⟩ := alloc p s ha (.lst vs) False
  exact f _ _ _ s1 p1 ⟨⟨a, vs, rfl, upd_same, fun z => z.elim nz fun q => q.1, hl, Rls.keep k ds vs r⟩, fun b _ e => by cases e; exact nw⟩ fun b _ e => by cases e; exact n0
end
theorem line_eq : (16777216 : Nat) = sizeLine := sizeLine_eq.symm
abbrev tob (its : List Value) : Obj := { cls := .type "tuple", data := .seq its.toArray }
theorem tob_dict (its : List Value) : (tob its).dict = none := rfl
section
variable {X : Cx} {pins : List (Addr × Obj)} {σ : L2.St} {H : Hp} {s : Shared}
theorem laidF (inv : Inv X pins σ H s) {ys : List V} {its : List Value} (rel : Vals ys its) (hz : ys.length ≤ sizeLine) (t' : Nat) :
    Inv X pins σ (upd H s.heap.objs.size (.frz (tob its) (.tup ys))) { s with heap := s.heap.push (tob its), toks := t' } :=
  inv.laid (t' := t') (fun _ _ e => Heap.get?_push_of_some _ e) (Nat.le_refl _) ⟨Heap.get?_push_size _ rfl, hz, its, rel, IsTup.new _ _⟩
end
theorem NewT.use {X : Cx} {pins : List (Addr × Obj)} {σ : L2.St} {H : Hp} {s : Shared} {Q : VK} {ys : List V} {its : List Value} (q : NewT H Q ys) (inv : Inv X pins σ H s) (rel : Vals ys its) (hz : ys.length ≤ sizeLine) (t' : Nat) :
    EP X pins σ Q (.ref s.heap.objs.size) { s with heap := s.heap.push (tob its), toks := t' } :=
  ⟨.ref s.heap.objs.size, _, laidF inv rel hz t', rfl, q _ _ inv.fresh (tob_dict its)⟩
section
variable {X : Cx}
/-- (a, b, ..) -/
def tTupF (t : TA) : TE := fun σ H Q => t σ H fun xs H1 => xs.length ≤ sizeLine ∧ NewT H1 Q xs
theorem pe_tupF {es : List Expr} {t : TA} {k0} {pos : Pos} (h : PA X es t) : PE X (.Tuple es k0 pos) (tTupF t) := by
  constructor
  intro pins s σ H Q inv want
  refine wpAny_Tuple_spliced (thn (h.run pos pins s σ H _ inv want) ?_)
  rintro us s1 ⟨xs, H1, inv1, rel, hz, q⟩
  have hl := rel.length
  exact ⟨by omega, q.use inv1 rel hz s1.toks⟩
/-- t + u -/
def rCatF (K : PySem.W.Frag) : R2 := fun x y H Q => ∃ a b xs ys, x = .ref a ∧ y = .ref b ∧ SqT K H a xs ∧ SqT K H b ys ∧ xs.length + ys.length ≤ sizeLine ∧
  (xs = [] → Q (.ref b) H) ∧ (ys = [] → Q (.ref a) H) ∧ NewT H Q (xs ++ ys)
theorem op_catF : OpR X (binaryOp .Add) (rCatF X.K) := by
  rintro pins s σ H x y vx vy Q inv relx rely ⟨a, b, xs, ys, rfl, rfl, ha, hb, hz, q0, q1, q2⟩
  cases relx
  cases rely
  obtain ⟨i1, rel1, tup1, _⟩ := inv.tuple ha
  obtain ⟨i2, rel2, tup2, _⟩ := inv.tuple hb
  have l1 := rel1.length
  have l2 := rel2.length
  by_cases e1 : xs = []
  · subst e1
    cases rel1
    exact cat_tup0 tup1 tup2 ⟨.ref b, H, inv, rfl, q0 rfl⟩
  · refine HT.cat_tup tup1 tup2 (fun z => e1 (List.eq_nil_of_length_eq_zero (by rw [l1, z]; rfl))) (fun z => ⟨.ref a, H, inv, rfl, q1 (List.eq_nil_of_length_eq_zero (by rw [l2, z]; rfl))⟩) (fun _ => ?_) (by omega)
    exact q2.use inv (rel1.append rel2) (by rw [List.length_append]; omega) s.toks
/-- l + m, of lists that are read alone -/
def rCatL (K : PySem.W.Frag) : R2 := fun x y H Q => ∃ l b xs zs, x = .ref l ∧ y = .ref b ∧ SqL K H l xs ∧ SqL K H b zs ∧ xs.length + zs.length ≤ sizeLine ∧ ∀ p, H p = none → Q (.ref p) (upd H p (.lst (xs ++ zs)))
theorem op_catL : OpR X (binaryOp .Add) (rCatL X.K) := by
  rintro pins s σ H x y v u Q I rx ry ⟨l, b, xs, zs, rfl, rfl, hH, hB, hz, q⟩
  cases rx
  cases ry
  obtain ⟨its, r, ⟨⟨cls, dd, data, sl⟩, n, ho, hc, hd0, hd⟩, _⟩ := I.list hH
  obtain ⟨its2, r2, ⟨⟨cls2, dd2, data2, sl2⟩, n2, ho2, hc2, hd02, hd2⟩, _⟩ := I.list hB
  simp only at hc hd hc2 hd2
  subst hc hd hc2 hd2
  have l1 := r.length
  have l2 := r2.length
  have ea : its.toArray ++ its2.toArray = (its ++ its2).toArray := by simp
  refine concat_meets ⟨_, ho, rfl⟩ ⟨_, ho2, rfl⟩ noFill_list_add seq_list_add PySem.F.slot_list_add PySem.F.entry_list_add (PySem.F.args_list_add_2 _ _) (PyProof.Rows.list_addW l b its.toArray its2.toArray n n2 dd dd2 sl sl2 (by rw [List.size_toArray, List.size_toArray]; omega)) ⟨ho, ho2, ?_⟩
  rw [ea]
  exact ⟨.ref _, _, I.lnew (t' := s.toks) (r.append r2) (by rw [List.length_append]; omega), rfl, q _ I.fresh⟩
theorem int_rmul_listW (a : Int) (t : Tok) (l : Addr) (items : Array Value) (n : Nat) (dd : Option Addr) (sl : Array (Option Value)) :
    Meets (Builtin.«int.__rmul__» ⟨[.int a t, .ref l], []⟩) (fun _ R s => s.heap.get? l = some { cls := .type "list", dict := dd, data := .seq items n, slots := sl } ∧ R (.ok (.ret Value.notImplemented)) s) :=
  .of_wp fun prog w A R s h => by obtain ⟨hp, g, d, tk, os⟩ := s; obtain ⟨hl, h⟩ := h; wp_walk using wpAny_loadPart' hl; exact ⟨_, rfl, h⟩
theorem list_mulW (l : Addr) (items : Array Value) (n : Nat) (dd : Option Addr) (sl : Array (Option Value)) (x : Int) (u : Tok) (hc0 : ¬(!Builtin.List.listFitsIndex x) = true) (hc1 : ¬items.size * x.toNat > (2 ^ 63 - 1) / 8) (hc2 : ¬Builtin.List.listTooLong (items.size * x.toNat) = true) :
    Meets (Builtin.«list.__mul__» ⟨[.ref l, .int x u], []⟩) (fun _ R s => s.heap.get? l = some { cls := .type "list", dict := dd, data := .seq items n, slots := sl } ∧ R (.ok (.ret (Value.ref s.heap.objs.size))) { s with heap := s.heap.push { cls := Value.type "list", data := Data.seq (List.foldl (fun x1 x2 => x1 ++ x2) #[] (List.replicate (if items.isEmpty = true then 0 else x.toNat) items)) }, toks := s.toks }) :=
  .of_wp fun prog w A R s h => by
    obtain ⟨hp, g, d, tk, os⟩ := s; obtain ⟨hl, h⟩ := h
    have hsz := AutoListH.joined_fits hc2
    have f1 := AutoSeq1.idx_int
    wp_walk using wpAny_loadPart' hl; refine wpAny_ite_false (decide_eq_false (Nat.not_lt.mpr hsz)) ?_; wp_walk; exact ⟨_, rfl, h⟩
/-- a list that is read alone, times an int -/
def rRepL (K : PySem.W.Frag) : R2 := fun x y H Q => ∃ l k xs, x = .ref l ∧ y = .int k ∧ SqL K H l xs ∧ -(2 ^ 63) ≤ k ∧ k < 2 ^ 63 ∧ xs.length * k.toNat ≤ sizeLine ∧
  ∀ p, H p = none → Q (.ref p) (upd H p (.lst (List.replicate k.toNat xs).flatten))
theorem op_repL : OpR X (binaryOp .Mult) (rRepL X.K) := by
  rintro pins s σ H x y v u Q I rx ry ⟨l, k, xs, rfl, rfl, hH, h1, h2, hz, q⟩
  cases rx
  obtain ⟨t, rfl⟩ := ry
  obtain ⟨its, r, ⟨⟨cls, dd, data, sl⟩, n, ho, hc, hd0, hd⟩, _⟩ := I.list hH
  simp only at hc hd
  subst hc hd
  have hl := r.length
  have hlen : its.toArray.size * k.toNat ≤ sizeLine := by rw [List.size_toArray, ← hl]; exact hz
  have hcap : ¬ its.toArray.size * k.toNat > (2 ^ 63 - 1) / 8 := by
    have : (sizeLine : Nat) ≤ (2 ^ 63 - 1) / 8 := by decide
    omega
  have hfit : ¬ (!Builtin.List.listFitsIndex k) = true := by
    rw [fitsIndex_both h1 h2]
    exact Bool.false_ne_true
  have hlong : ¬ Builtin.List.listTooLong (its.toArray.size * k.toNat) = true := by
    rw [notLongL hlen]
    exact Bool.false_ne_true
  have hnew : List.foldl (fun x1 x2 => x1 ++ x2) #[] (List.replicate (if its.toArray.isEmpty = true then 0 else k.toNat) its.toArray) = (List.replicate k.toNat its).flatten.toArray := by
    have f0 : ∀ m : Nat, List.foldl (fun x1 x2 => x1 ++ x2) #[] (List.replicate m its.toArray) = (List.replicate m its).flatten.toArray := fun m => by
      have := foldl_rep its m []
      rw [List.nil_append] at this
      exact this
    rw [f0]
    cases its with
    | nil => simp
    | cons a r' => rw [if_neg (by simp)]
  refine wpAny_binaryOp_repeat_ref (T := "list") (U := "int") (by decide) ⟨_, ho, rfl⟩ (fun s' => typeIs_int s' k t) noFill_list_mul F.fills_int_mul F.slot_int_rmul repeat_list F.slot_int_index.lookup
    (call_meets F.slot_int_rmul (typeIs_int s k t) F.entry_int_rmul (F.args_int_rmul_2 _ _) (int_rmul_listW k t l its.toArray n dd sl)
      ⟨ho, rfl, ⟨_, ho, rfl⟩, call_meets F.slot_list_mul ⟨_, ho, rfl⟩ F.entry_list_mul (F.args_list_mul_2 _ _) (list_mulW l its.toArray n dd sl k t hfit hcap hlong) ⟨ho, ?_⟩⟩)
  rw [hnew]
  exact ⟨.ref _, _, I.lnew (t' := s.toks) (r.rep k.toNat) (by rw [PyProof.Rows.lm_len_rep_flat, Nat.mul_comm]; exact hz), rfl, q _ I.fresh⟩
theorem list_extendW (l : Addr) (items : Array Value) (n : Nat) (b : Addr) (items2 : Array Value) (n2 : Nat) (dd : Option Addr) (sl : Array (Option Value)) (hc0 : ¬(!items.isEmpty && Builtin.List.listTooLong (items.size + items2.size)) = true) (hc1 : items.size ≤ sizeLine) (hs2 : items.size + items2.size ≤ sizeLine + 1) :
    Meets (Builtin.«list.extend» ⟨[.ref l, .ref b], []⟩) (fun _ R s => s.heap.get? l = some { cls := .type "list", dict := none, data := .seq items n, slots := #[] } ∧ s.heap.get? b = some { cls := .type "list", dict := dd, data := .seq items2 n2, slots := sl } ∧ R (.ok (.ret Value.none)) { s with heap := s.heap.update l (Obj.mapSeq fun x => x ++ items2), toks := s.toks }) :=
  .of_wp fun prog w A R s h => by
    obtain ⟨hp, g, d, tk, os⟩ := s; obtain ⟨hl, hb, h⟩ := h; have f1 := AutoSeq1.idx_int; have f2 := AutoSeq1.sub_tuple_tuple; have f3 := AutoSeq1.sub_list_list; have f4 := AutoSeq1.sub_tuple_list; have f5 := AutoSeq1.sub_list_tuple;
    have hz' : (items ++ items2).size ≤ sizeLine + 1 := by rw [Array.size_append]; exact hs2
    wp_walk using (wpAny_updateSeq hl rfl (hz := hc1) (_hz' := hz')), wpAny_loadPart' hl, wpAny_loadPart' hb; exact ⟨_, rfl, h⟩
def rExtendL (K : PySem.W.Frag) : V → List V → Hp → VK → Prop := fun x vs H Q => ∃ l b xs zs, x = .ref l ∧ vs = [.ref b] ∧ H l = some (.lst xs) ∧ SqL K H b zs ∧ xs.length + zs.length ≤ sizeLine ∧ Q .non (upd H l (.lst (xs ++ zs)))
theorem mt_extendL : MtM X "list.extend" (rExtendL X.K) := by
  rintro pins s σ H x vs v us Q I rx rv ⟨l, b, xs, zs, rfl, rfl, hH, hB, hz, q⟩
  cases rx
  obtain ⟨u, rfl, ru⟩ := rv.one
  cases ru
  obtain ⟨z, its, n, r, hl, e⟩ := I.lstM hH
  obtain ⟨its2, r2, ⟨⟨cls2, dd2, data2, sl2⟩, n2, ho2, hc2, hd02, hd2⟩, _⟩ := I.list hB
  simp only at hc2 hd2
  subst hc2 hd2
  have hl2 := r2.length
  have hsz : its.toArray.size + its2.toArray.size ≤ sizeLine := by rw [List.size_toArray, List.size_toArray]; omega
  have hlong : ¬ (!its.toArray.isEmpty && Builtin.List.listTooLong (its.toArray.size + its2.toArray.size)) = true := by
    rw [notLongL hsz, Bool.and_false]
    exact Bool.false_ne_true
  refine call_meets F.slot_list_extend ⟨_, e, rfl⟩ F.entry_list_extend (F.args_list_extend_2 _ _)
    (list_extendW l its.toArray n b its2.toArray n2 dd2 sl2 hlong (by rw [List.size_toArray]; omega) (by omega)) ⟨e, ho2, ?_⟩
  refine ⟨.non, _, I.lset (its' := its ++ its2) hH e (by simp) (r.append r2) ?_, rfl, q⟩
  rw [List.length_append]
  omega
/-- t[lo:hi] -/
def rSlF (K : PySem.W.Frag) : V → Option Int → Option Int → Hp → VK → Prop := fun x lo hi H Q => ∃ a xs, x = .ref a ∧ SqT K H a xs ∧
  (HT.sIx xs.length 0 lo = 0 ∧ HT.sIx xs.length xs.length hi = xs.length → Q (.ref a) H) ∧ NewT H Q (cutV xs lo hi)
theorem sl_tupF : SlR X (rSlF X.K) := by
  rintro pins s σ H x vx vl vu lo hi sl Q inv relx hs pl pu ⟨a, xs, rfl, hx, q1, q2⟩
  cases relx
  obtain ⟨its, rel, tp, hz⟩ := inv.tuple hx
  have hlen : its.toArray.size = xs.length := List.size_toArray.trans rel.length.symm
  refine ⟨"tuple", _, PyProof.Rows.slot_tuple_getitem.lookup, tp.typeIs, ?_⟩
  by_cases hw : HT.sIx xs.length 0 lo = 0 ∧ HT.sIx xs.length xs.length hi = xs.length
  · exact getItem_tuple_whole tp hs pl pu (hlen ▸ hw) ⟨.ref a, H, inv, rfl, q1 hw⟩
  · refine HT.getItem_tuple_cut tp hs pl pu (hlen ▸ hw) ?_ (hlen ▸ hz)
    rw [hlen]
    have hc := cutV_length xs lo hi
    exact q2.use inv ((rel.drop _).take _) (Nat.le_trans hc hz) s.toks
/-- tuple(x) -/
theorem call_tupleF : CallR X (.type "tuple") (fun xs H Q => ∃ p ys, xs = [.ref p] ∧ ((SqL X.K H p ys ∧ NewT H Q ys) ∨ (SqT X.K H p ys ∧ Q (.ref p) H))) := by
  rintro pins s σ H xs us Q inv rel ⟨p, ys, rfl, h⟩
  obtain ⟨u, rfl, ru⟩ := vals1 rel
  cases ru
  rcases h with ⟨hq, q⟩ | ⟨hq, q⟩
  · obtain ⟨its, r', pl, hz⟩ := inv.list hq
    have hlen := r'.length
    have hsz : its.toArray.size ≤ sizeLine := by rw [List.size_toArray]; omega
    refine call_tuple_list pl.isList (fun h' kp => ?_) hsz
    have inv1 : Inv X pins σ H { s with heap := h' } := inv.kept (t' := s.toks) kp
    exact q.use inv1 r' hz s.toks
  · obtain ⟨its, r', pl, hz⟩ := inv.tuple hq
    exact call_tuple_same pl ⟨.ref p, H, inv, rfl, q⟩
theorem op_fdivA : OpR X (binaryOp .FloorDiv) (rI (fun _ j => j ≠ 0 ∧ j.natAbs.log2 < 9000) fun i j => .int (i.fdiv j)) := opI fun _ _ _ _ _ _ _ hc q => floordiv_int hc.1 q (.inl (PyProof.noPylong_of_log2 hc.2))
end
end Lt
namespace Lt
open PySem L2 PySem.Spec PyProof.Rows
theorem tuple_mul1 (l : Addr) (items : Array Value) (n : Nat) (dd : Option Addr) (sl : Array (Option Value)) (u : Tok) :
    Meets (Builtin.«tuple.__mul__» ⟨[.ref l, .int 1 u], []⟩) (fun _ R s => s.heap.get? l = some { cls := .type "tuple", dict := dd, data := .seq items n, slots := sl } ∧
      R (.ok (.ret (Value.ref l))) s) :=
  .of_wp fun prog w A R s h => by
    obtain ⟨hp, g, d, tk, os⟩ := s
    obtain ⟨hl, h⟩ := h
    have f1 := AutoSeq1.idx_int
    wp_walk using wpAny_loadPart' hl
    repeat (first
      | (refine wpAny_ite_false (decide_eq_false (by decide)) ?_; wp_walk using wpAny_loadPart' hl)
      | (refine wpAny_ite_true (decide_eq_true (by simp)) ?_; wp_walk using wpAny_loadPart' hl))
    exact ⟨_, rfl, h⟩
/-- t * k, k from 2 on -/
def rRepF (K : PySem.W.Frag) : R2 := fun x y H Q => ∃ l k xs, x = .ref l ∧ y = .int k ∧ SqT K H l xs ∧ xs ≠ [] ∧ 2 ≤ k ∧ k ≤ 1000 ∧ xs.length ≤ 1000 ∧ NewT H Q (List.replicate k.toNat xs).flatten
section
variable {X : Cx}
theorem op_repF : OpR X (binaryOp .Mult) (rRepF X.K) := by
  rintro pins s σ H x y vx vy Q inv relx rely ⟨l, k, xs, rfl, rfl, hT, hne, h1, h2, hz, q⟩
  cases relx
  obtain ⟨tk, rfl⟩ := rely
  obtain ⟨its, rel, ⟨ob, ho, hc, n, hd⟩, hs⟩ := inv.tuple hT
  obtain ⟨cls, dd, data, sl⟩ := ob
  simp only at hc hd
  subst hc hd
  have hle := rel.length
  have hpos : 0 < its.length := by
    cases xs with
    | nil => exact absurd rfl hne
    | cons _ _ => rw [← hle]; exact Nat.succ_pos _
  have hemp : its.toArray.isEmpty = false := by
    cases its with
    | nil => cases hpos
    | cons _ _ => rfl
  have hprod : (its.length : Int) * k ≤ 1000000 := by
    have a1 : (its.length : Int) * k ≤ 1000 * k := Int.mul_le_mul_of_nonneg_right (by omega) (by omega)
    omega
  have hflat : (List.replicate k.toNat its).flatten.length ≤ sizeLine := by
    rw [PyProof.Rows.lm_len_rep_flat, sizeLine_eq]
    have a1 : k.toNat * its.length ≤ 1000 * 1000 := Nat.mul_le_mul (by omega) (by omega)
    omega
  have hfold := size_rep its k.toNat
  have g0 : (decide (k < -(2 ^ 63)) || decide (k ≥ 2 ^ 63)) = false := by simp; omega
  have g1 : (its.toArray.isEmpty || k == 1) = false := by rw [hemp]; simp; omega
  have g2 : (decide (k ≤ 0) || its.toArray.isEmpty) = false := by rw [hemp]; simp; omega
  have g3 : ¬ ((its.toArray.size : Nat) : Int) * k > (2 ^ 63 - 1) / 8 := by rw [List.size_toArray]; omega
  have g4 : Builtin.Tuple.tupleTooMany (((its.toArray.size : Nat) : Int) * k) = false := by
    unfold Builtin.Tuple.tupleTooMany
    rw [sizeLine_eq, List.size_toArray]
    simp; omega
  have g5 : (List.foldl (fun x1 x2 => x1 ++ x2) #[] (List.replicate k.toNat its.toArray)).size ≤ sizeLine := by rw [hfold, List.size_toArray]; exact hflat
  have run := call_meets F.slot_tuple_mul (show s.TypeIs (.ref l) "tuple" from ⟨_, ho, rfl⟩) F.entry_tuple_mul (F.args_tuple_mul_2 _ _) (tuple_mulW l its.toArray n dd sl k tk g0 g1 g2 g3 g4 g5) (prog := X.prog) (w := X.w) (A := X.A) (E := X.xe) (Q := EP X pins σ Q) (s := s) ⟨ho, by
    rw [hfold]
    exact q.use inv (rel.rep k.toNat) (by have := (rel.rep k.toNat).length; omega) s.toks⟩
  have rmul := int_rmul_tuple k tk l its.toArray n dd sl
  exact wpAny_binaryOp_repeat_ref (T := "tuple") (U := "int") (by decide) ⟨_, ho, rfl⟩ (fun s' => typeIs_int s' k tk) noFill_tuple_mul F.fills_int_mul F.slot_int_rmul repeat_tuple F.slot_int_index.lookup
    (call_meets F.slot_int_rmul (typeIs_int s k tk) F.entry_int_rmul (F.args_int_rmul_2 _ _) rmul ⟨ho, rfl, ⟨_, ho, rfl⟩, run⟩)
end
def rRepT1 (K : PySem.W.Frag) : R2 := fun x y H Q => ∃ l xs, x = .ref l ∧ y = .int 1 ∧ SqT K H l xs ∧ Q (.ref l) H
section
variable {X : Cx}
theorem op_repT1 : OpR X (binaryOp .Mult) (rRepT1 X.K) := by
  intro pins s σ H x y v u Q I rx ry h
  obtain ⟨l, xs, rfl, rfl, hT, q⟩ := h
  cases rx
  obtain ⟨t, rfl⟩ := ry
  obtain ⟨its, r, ⟨⟨cls, dd, data, sl⟩, ho, hc, n, hd⟩, hs⟩ := I.tuple hT
  simp only at hc hd
  subst hc hd
  refine wpAny_binaryOp_repeat_ref (T := "tuple") (U := "int") (by decide) ⟨_, ho, rfl⟩ (fun s' => typeIs_int s' 1 t) noFill_tuple_mul F.fills_int_mul F.slot_int_rmul repeat_tuple F.slot_int_index.lookup
    (call_meets F.slot_int_rmul (typeIs_int s 1 t) F.entry_int_rmul (F.args_int_rmul_2 _ _) (int_rmul_tuple 1 t l its.toArray n dd sl)
      ⟨ho, rfl, ⟨_, ho, rfl⟩, call_meets F.slot_tuple_mul ⟨_, ho, rfl⟩ F.entry_tuple_mul (F.args_tuple_mul_2 _ _) (tuple_mul1 l its.toArray n dd sl t) ⟨ho, ?_⟩⟩)
  exact ⟨.ref l, _, I, rfl, q⟩
def CPowL (i j : Int) : Prop := 0 ≤ j ∧ j ≤ 64 ∧ i.natAbs.log2 < 1024
theorem op_powL : OpR X (binaryOp .Pow) (rI CPowL fun i j => .int (i ^ j.toNat)) := opI fun _ _ _ _ _ _ _ hc q => pow_int hc.1 (by
  obtain ⟨h0, h1, h2⟩ := hc
  rename_i i j _ _ _ _ _
  have hb : Builtin.Int.intBits i ≤ 1024 := by
    unfold Builtin.Int.intBits
    split <;> omega
  have h3 : (Builtin.Int.intBits i : Int) * j ≤ 1024 * j := Int.mul_le_mul_of_nonneg_right (by omega) h0
  omega) q
/-- text + text -/
def rCatS : R2 := fun x y H Q => ∃ i j, x = .str i ∧ y = .str j ∧ i.length + j.length ≤ sizeLine ∧ Q (.str (i ++ j)) H
/-- the reading of a binary operator -/
def rBin (K : PySem.W.Frag) : Operator → R2
  | .Add => fun x y H Q => rI0 (fun i j => .int (i + j)) x y H Q ∨ rCatF K x y H Q ∨ rCatL K x y H Q ∨ rCatS x y H Q
  | .Sub => rI0 fun i j => .int (i - j)
  | .Mult => fun x y H Q => rI CMul (fun i j => .int (i * j)) x y H Q ∨ rI CMulW (fun i j => .int (i * j)) x y H Q ∨ rRepF K x y H Q ∨ rRepT1 K x y H Q ∨ rRepL K x y H Q
  | .FloorDiv => rI (fun _ j => j ≠ 0 ∧ j.natAbs.log2 < 9000) fun i j => .int (i.fdiv j)
  | .Mod => rI (fun _ j => j ≠ 0) fun i j => .int (i.fmod j)
  | .Pow => fun x y H Q => rI CPow (fun i j => .int (i ^ j.toNat)) x y H Q ∨ rI CPowL (fun i j => .int (i ^ j.toNat)) x y H Q
  | _ => fun _ _ _ _ => False
theorem op_bin : ∀ op, OpR X (binaryOp op) (rBin X.K op)
  | .Add => op_add.or (op_catF.or (op_catL.or op_add_str))
  | .Sub => op_sub
  | .Mult => op_mul.or (op_mulW.or (op_repF.or (op_repT1.or op_repL)))
  | .FloorDiv => op_fdivA
  | .Mod => op_modN
  | .Pow => op_pow.or op_powL
  | .MatMult | .Div | .LShift | .RShift | .BitOr | .BitXor | .BitAnd => fun _ _ _ _ _ _ _ _ _ _ _ _ h => h.elim
end
section
variable {K : PySem.W.Frag} {W : Addr → Prop} {H0 H : Hp} {Z0 Z : Addr → Prop} {ρ : Rho} {σ : L2.St} {Q : VK}
theorem VwV.int {i : Int} {v : V} (r : VwV K H Z (.int i) v) : v = .int i := r
theorem bin_ok {op : Operator} {x y : D} {c : Cell} {v w : V} (e : binD op x y = some c) (rx : VwV K H Z x v) (ry : VwV K H Z y w) (p : Stp W (Ow ρ σ) H0 Z0 H Z) (s : Sta K H Z ρ σ) (f : Fin_ K W H0 Z0 ρ σ c Q) : rBin K op v w H Q := by
  cases op <;> cases x <;> cases y <;> (try (cases (show none = some c from e))) <;> (try (rename_i i j; cases (VwV.int rx); cases (VwV.int ry)))
  · -- int + int
    cases (show some _ = some c from e)
    exact .inl ⟨i, j, rfl, rfl, f.same p s rfl⟩
  · -- text + text
    rename_i i j
    cases (show v = V.str i from rx)
    cases (show w = V.str j from ry)
    have e' : (if i.length + j.length ≤ 16777216 then some (Cell.dat (.str (i ++ j))) else none) = some c := e
    by_cases hl : i.length + j.length ≤ 16777216
    · rw [if_pos hl] at e'
      cases e'
      rw [line_eq] at hl
      exact .inr (.inr (.inr ⟨i, j, rfl, rfl, hl, f.same p s rfl⟩))
    · rw [if_neg hl] at e'; cases e'
  · -- list + list
    rename_i xs ys
    obtain ⟨a, vs, rfl, ha, la, ra⟩ := rx.lst
    obtain ⟨b, ws, rfl, hb, lb, rb⟩ := ry.lst
    have e' : (if xs.length + ys.length ≤ 16777216 then some (Cell.own (xs ++ ys)) else none) = some c := e
    by_cases hl : xs.length + ys.length ≤ 16777216
    · rw [if_pos hl] at e'
      cases e'
      have l1 := ra.length
      have l2 := rb.length
      rw [line_eq] at hl
      exact .inr (.inr (.inl ⟨a, b, vs, ws, rfl, rfl, ha, hb, by omega, f.lst p s (ra.append rb) (by rw [List.length_append]; exact hl)⟩))
    · rw [if_neg hl] at e'; cases e'
  · -- tuple + tuple
    rename_i xs ys
    obtain ⟨a, vs, rfl, ha, la, ra⟩ := rx.tup
    obtain ⟨b, ws, rfl, hb, lb, rb⟩ := ry.tup
    have e' : (if xs.length + ys.length ≤ 16777216 then some (Cell.dat (.tuple (xs ++ ys))) else none) = some c := e
    by_cases hl : xs.length + ys.length ≤ 16777216
    · rw [if_pos hl] at e'
      cases e'
      have l1 := ra.length
      have l2 := rb.length
      rw [line_eq] at hl
      refine .inr (.inl ⟨a, b, vs, ws, rfl, rfl, ha, hb, by omega, fun z => ?_, fun z2 => ?_, f.tup p s (ra.append rb) (by rw [List.length_append]; exact hl)⟩)
      · have e0 : xs = [] := List.eq_nil_of_length_eq_zero (by rw [z] at l1; simpa using l1.symm)
        subst e0
        rw [List.nil_append] at f
        exact f.same p s ry
      · have e0 : ys = [] := List.eq_nil_of_length_eq_zero (by rw [z2] at l2; simpa using l2.symm)
        subst e0
        rw [List.append_nil] at f
        exact f.same p s rx
    · rw [if_neg hl] at e'; cases e'
  · cases (show some _ = some c from e)
    exact ⟨i, j, rfl, rfl, f.same p s rfl⟩
  · -- int * int
    have e' : (if mulOk i j then some (Cell.dat (.int (i * j))) else none) = some c := e
    by_cases hm : mulOk i j = true
    · rw [if_pos hm] at e'
      cases e'
      unfold mulOk at hm
      rw [Bool.or_eq_true, Bool.or_eq_true, decide_eq_true_eq, decide_eq_true_eq, decide_eq_true_eq] at hm
      rcases hm with (hm | hm) | hm
      · exact .inl ⟨i, j, rfl, rfl, .inl (by omega), f.same p s rfl⟩
      · exact .inl ⟨i, j, rfl, rfl, .inr (by omega), f.same p s rfl⟩
      · exact .inr (.inl ⟨i, j, rfl, rfl, hm, f.same p s rfl⟩)
    · rw [if_neg hm] at e'; cases e'
  · -- list * int
    rename_i xs k
    cases (VwV.int ry)
    obtain ⟨a, vs, rfl, ha, la, ra⟩ := rx.lst
    have e' : (if 0 ≤ k ∧ xs.length * k.toNat ≤ 16777216 ∧ k < 2 ^ 62 then some (Cell.own (List.replicate k.toNat xs).flatten) else none) = some c := e
    by_cases hl : 0 ≤ k ∧ xs.length * k.toNat ≤ 16777216 ∧ k < 2 ^ 62
    · rw [if_pos hl] at e'
      cases e'
      have l1 := ra.length
      obtain ⟨h1, h2, h3⟩ := hl
      rw [line_eq] at h2
      exact .inr (.inr (.inr (.inr ⟨a, k, vs, rfl, rfl, ha, by omega, by omega, by rw [l1]; exact h2, f.lst p s (ra.flat _) (by rw [PyProof.Rows.lm_len_rep_flat, Nat.mul_comm]; exact h2)⟩)))
    · rw [if_neg hl] at e'; cases e'
  · -- tuple * int
    rename_i xs k
    cases (VwV.int ry)
    obtain ⟨a, vs, rfl, ha, la, ra⟩ := rx.tup
    have e' : (if k = 1 then some (Cell.dat (.tuple xs)) else if 2 ≤ k ∧ k ≤ 1000 ∧ xs.isEmpty = false ∧ xs.length ≤ 1000 then some (Cell.dat (.tuple (List.replicate k.toNat xs).flatten)) else none) = some c := e
    by_cases h1 : k = 1
    · rw [if_pos h1] at e'
      cases e'
      subst h1
      exact .inr (.inr (.inr (.inl ⟨a, vs, rfl, rfl, ha, f.same p s rx⟩)))
    · rw [if_neg h1] at e'
      by_cases hl : 2 ≤ k ∧ k ≤ 1000 ∧ xs.isEmpty = false ∧ xs.length ≤ 1000
      · rw [if_pos hl] at e'
        cases e'
        obtain ⟨h2, h3, h4, h5⟩ := hl
        have l1 := ra.length
        have hne : vs ≠ [] := fun z => by
          subst z
          have e0 : xs = [] := List.eq_nil_of_length_eq_zero (by simpa using l1.symm)
          subst e0
          cases h4
        refine .inr (.inr (.inl ⟨a, k, vs, rfl, rfl, ha, hne, h2, h3, by omega, f.tup p s (ra.flat _) ?_⟩))
        rw [PyProof.Rows.lm_len_rep_flat, sizeLine_eq]
        have a1 : k.toNat * xs.length ≤ 1000 * 1000 := Nat.mul_le_mul (by omega) h5
        omega
      · rw [if_neg hl] at e'; cases e'
  · -- mod
    have e' : (if j = 0 then none else some (Cell.dat (.int (i.fmod j)))) = some c := e
    by_cases hj : j = 0
    · rw [if_pos hj] at e'; cases e'
    · rw [if_neg hj] at e'
      cases e'
      exact ⟨i, j, rfl, rfl, hj, f.same p s rfl⟩
  · -- pow
    have e' : (if powOk i j = true then some (Cell.dat (.int (i ^ j.toNat))) else none) = some c := e
    by_cases hj : powOk i j = true
    · rw [if_pos hj] at e'
      cases e'
      unfold powOk at hj
      rw [Bool.or_eq_true, decide_eq_true_eq, decide_eq_true_eq] at hj
      rcases hj with hj | hj
      · exact .inl ⟨i, j, rfl, rfl, hj, f.same p s rfl⟩
      · exact .inr ⟨i, j, rfl, rfl, hj, f.same p s rfl⟩
    · rw [if_neg hj] at e'; cases e'
  · -- floor division
    have e' : (if divOk j then some (Cell.dat (.int (i.fdiv j))) else none) = some c := e
    by_cases hj : divOk j = true
    · rw [if_pos hj] at e'
      cases e'
      unfold divOk at hj
      rw [Bool.and_eq_true, decide_eq_true_eq, decide_eq_true_eq] at hj
      exact ⟨i, j, rfl, rfl, hj, f.same p s rfl⟩
    · rw [if_neg hj] at e'; cases e'
end
end Lt
namespace Lt
open PySem L2 PySem.Spec PyProof.Rows
mutual
theorem nh_eq (w : World) : ∀ d : D, kyB d = true → nh (ky d) = (ky d).hash w
  | .none, _ => rfl
  | .bool _, h => by cases h
  | .int _, _ => rfl
  | .str _, h => by cases h
  | .list _, h => by cases h
  | .dict _, h => by cases h
  | .tuple ds, h => by
    show reduceHash (Builtin.Tuple.tupleHashOf (nhs (kys ds))) = reduceHash (Builtin.Tuple.tupleHashOf (NestedKey.hashes w (kys ds)))
    rw [nhs_eq w ds h]
theorem nhs_eq (w : World) : ∀ ds : List D, kysB ds = true → nhs (kys ds) = NestedKey.hashes w (kys ds)
  | [], _ => rfl
  | d :: ds, h => by
    obtain ⟨h1, h2⟩ := Bool.and_eq_true_iff.mp (show (kyB d && kysB ds) = true from h)
    show nh (ky d) :: nhs (kys ds) = (ky d).hash w :: NestedKey.hashes w (kys ds)
    rw [nh_eq w d h1, nhs_eq w ds h2]
end
mutual
theorem ky_eqv : ∀ a b : D, kyB a = true → kyB b = true → PyData.eqv a b = decide (ky a = ky b)
  | .none, b, _, h => by
    cases b with
    | none => simp [PyData.eqv, ky]
    | int _ => simp [PyData.eqv, ky]
    | tuple _ => simp [PyData.eqv, ky]
    | _ => cases h
  | .int i, b, _, h => by
    cases b with
    | none => simp [PyData.eqv, ky]
    | int j => simp only [PyData.eqv, ky, NestedKey.num.injEq]; exact Bool.beq_eq_decide_eq i j
    | tuple _ => simp [PyData.eqv, ky]
    | _ => cases h
  | .tuple xs, b, h1, h => by
    cases b with
    | tuple ys =>
      have := kys_eqv xs ys h1 h
      simp only [PyData.eqv, ky, NestedKey.tup.injEq, this]
    | none => simp [PyData.eqv, ky]
    | int _ => simp [PyData.eqv, ky]
    | _ => cases h
  | .bool _, _, h, _ => by cases h
  | .str _, _, h, _ => by cases h
  | .list _, _, h, _ => by cases h
  | .dict _, _, h, _ => by cases h
theorem kys_eqv : ∀ as bs : List D, kysB as = true → kysB bs = true → PyData.eqvAll as bs = decide (kys as = kys bs)
  | [], [], _, _ => by simp [PyData.eqvAll, kys]
  | [], _ :: _, _, _ => by simp [PyData.eqvAll, kys]
  | _ :: _, [], _, _ => by simp [PyData.eqvAll, kys]
  | a :: as, b :: bs, h1, h2 => by
    obtain ⟨a1, a2⟩ := Bool.and_eq_true_iff.mp (show (kyB a && kysB as) = true from h1)
    obtain ⟨b1, b2⟩ := Bool.and_eq_true_iff.mp (show (kyB b && kysB bs) = true from h2)
    simp only [PyData.eqvAll, kys, List.cons.injEq, ky_eqv a b a1 b1, kys_eqv as bs a2 b2, Bool.decide_and]
end
section
variable {X : Cx} {pins : List (Addr × Obj)} {σ : L2.St} {H : Hp} {s : Shared} {Z : Addr → Prop}
mutual
theorem nestedIs (I : Inv X pins σ H s) : ∀ (d : D) (v : V) (u : Value), kyB d = true → Rl X.K H Z d v → RelV v u → NestedIs s.heap (ky d) u
  | .none, v, u, _, r, ru => by
    cases (show v = .non from r)
    cases u <;> first | exact .none | cases ru
  | .int i, v, u, _, r, ru => by
    cases (show v = .int i from r)
    obtain ⟨t, rfl⟩ := ru
    exact .int i t
  | .tuple ds, v, u, h, r, ru => by
    obtain ⟨a, vs, rfl, l, _, rr⟩ := (show ∃ a vs, v = .ref a ∧ TupZ X.K H Z a vs ∧ ds.length ≤ sizeLine ∧ Rls X.K H Z ds vs from r)
    obtain rfl : u = Value.ref a := ru
    obtain ⟨its, rv, ⟨o, ho, hc, n, hd⟩, _⟩ := I.tuple l.sq
    exact .tup ho hc hd (by rw [List.toList_toArray]; exact nestedAll I ds vs its h rr rv)
  | .bool _, _, _, h, _, _ => by cases h
  | .str _, _, _, h, _, _ => by cases h
  | .list _, _, _, h, _, _ => by cases h
  | .dict _, _, _, h, _, _ => by cases h
theorem nestedAll (I : Inv X pins σ H s) : ∀ (ds : List D) (vs : List V) (us : List Value), kysB ds = true → Rls X.K H Z ds vs → Vals vs us → NestedAll s.heap (kys ds) us
  | [], vs, us, _, r, rv => by
    cases (show vs = [] from r)
    cases rv
    exact .nil
  | d :: ds, _, us, h, ⟨v, r, e, h1, h2⟩, rv => by
    subst e
    obtain ⟨k1, k2⟩ := Bool.and_eq_true_iff.mp (show (kyB d && kysB ds) = true from h)
    cases rv with
    | cons a b => exact .cons (nestedIs I d v _ k1 h1 a) (nestedAll I ds r _ k2 h2 b)
end
theorem keyOk_d {d : D} (h : keyOk d = true) : kyB d = true ∧ (ky d).depth ≤ 8 ∧ (isTupD d = true ∨ ∃ i, d = .int i) := by
  unfold keyOk at h
  rw [Bool.or_eq_true, Bool.and_eq_true, Bool.and_eq_true, decide_eq_true_eq] at h
  rcases h with h | ⟨h1, h2, h3⟩
  · cases d <;> first | cases h | skip
    rename_i i
    exact ⟨rfl, Nat.zero_le _, .inr ⟨i, rfl⟩⟩
  · exact ⟨h2, h3, .inl h1⟩
theorem key_is (I : Inv X pins σ H s) {d : D} {b : Addr} (h : keyOk d = true) (r : Rl X.K H Z d (.ref b)) : (nestedKind X.prog X.w).is s.heap (ky d) b := by
  obtain ⟨h2, h3, _⟩ := keyOk_d h
  exact ⟨nestedIs I d (.ref b) (.ref b) h2 r rfl, h3⟩
theorem key_ref {K : PySem.W.Frag} {H : Hp} {d : D} {v : V} (h1 : isTupD d = true) (r : Rl K H Z d v) : ∃ b, v = .ref b := by
  cases d <;> first | cases h1 | skip
  obtain ⟨a, vs, rfl, _⟩ := r
  exact ⟨a, rfl⟩
/-- the rows as the heap has them -/
def Row3 (r : Row) (x : NestedKey × Value × Value) : Prop := r.1 = x.1 ∧ RelV r.2.1 x.2.1 ∧ RelV r.2.2 x.2.2
/-- the rows as the kit has them: keys that are tuples -/
def RowT (r : Row) (x : NestedKey × Addr × Value) : Prop := r.1 = x.1 ∧ r.2.1 = .ref x.2.1 ∧ RelV r.2.2 x.2.2
/-- the rows as the kit has them: keys that are integers -/
def RowI (r : Row) (x : Int × Value) : Prop := r.1 = .num x.1 ∧ r.2.1 = .int x.1 ∧ RelV r.2.2 x.2
theorem paired_mem {α β : Type} {R : α → β → Prop} : ∀ {l₁ : List α} {l₂ : List β}, Paired R l₁ l₂ → ∀ y ∈ l₂, ∃ x ∈ l₁, R x y
  | _, _, .nil, _, h => by cases h
  | _, _, .cons r t, y, h => by
    rcases List.mem_cons.mp h with rfl | h
    · exact ⟨_, List.mem_cons_self .., r⟩
    · obtain ⟨x, h1, h2⟩ := paired_mem t y h
      exact ⟨x, List.mem_cons_of_mem _ h1, h2⟩
theorem row3_keys {T : Type} {kf : T → NestedKey} {R : Row → T → Prop} (hk : ∀ r t, R r t → r.1 = kf t) : ∀ {rows : List Row} {xs : List T}, Paired R rows xs → xs.map kf = rows.map (·.1)
  | _, _, .nil => rfl
  | _, _, .cons r t => by rw [List.map_cons, List.map_cons, row3_keys hk t, hk _ _ r]
/-- the dict as the heap has it -/
theorem DicR.open_ (I : Inv X pins σ H s) {kvs : List (D × D)} {a : Addr} (d : DicR X.K H Z kvs a) : ∃ rows xs o es ep, H a = some (.ext (dφ a rows ep)) ∧ RowsV X.K H Z kvs rows ∧ Paired Row3 rows xs ∧ (a == sysModules) = false ∧ s.heap.get? a = some o ∧ o.ExactDict ∧ o.data = .dict es ep ∧ es.toList = xs.map entryN ∧ (rows.map (·.1)).Nodup ∧ kvs.length ≤ 16777215 ∧ HomoK kvs := by
  obtain ⟨rows, ep, h1, h3, h4, h5, h6⟩ := d
  obtain ⟨⟨hs, o, es, xs, ho, hx, hd, he, hp⟩, _⟩ := I.hok a _ h1
  exact ⟨rows, xs, o, es, ep, h1, h4, hp, hs, ho, hx, hd, he, h5, h3, h6⟩
theorem toT {K : PySem.W.Frag} {H : Hp} : ∀ {kvs : List (D × D)} {rows : List Row} {xs : List (NestedKey × Value × Value)}, RowsV K H Z kvs rows → Paired Row3 rows xs → (∀ p ∈ kvs, isTupD p.1 = true) →
    ∃ ys, Paired RowT rows ys ∧ xs = ys.map fun y => (y.1, .ref y.2.1, y.2.2)
  | _, _, _, .nil, .nil, _ => ⟨[], .nil, rfl⟩
  | _, _, _, .cons (a := p) (b := r) h t, .cons (b := x) q tq, ht => by
    obtain ⟨ys, g1, g2⟩ := toT t tq fun p hp => ht p (List.mem_cons_of_mem _ hp)
    obtain ⟨k1, k2, k3, k4⟩ := h
    obtain ⟨q1, q2, q3⟩ := q
    obtain ⟨b, hb⟩ := key_ref (ht p (List.mem_cons_self ..)) k3
    have e : x.2.1 = .ref b := by rw [hb] at q2; exact q2
    exact ⟨(x.1, b, x.2.2) :: ys, .cons ⟨q1, hb, q3⟩ g1, by rw [g2, List.map_cons, ← e]⟩
theorem toI {K : PySem.W.Frag} {H : Hp} {prog : Program} {w : World} : ∀ {kvs : List (D × D)} {rows : List Row} {xs : List (NestedKey × Value × Value)}, RowsV K H Z kvs rows → Paired Row3 rows xs → (∀ p ∈ kvs, isTupD p.1 = false) →
    ∃ zs, Paired RowI rows zs ∧ Pairs (intKind prog w) (xs.map entryN) zs ∧ ∀ e ∈ xs.map entryN, ∃ k, (intKind prog w).is k e.key = true ∧ e.hash = (intKind prog w).hash k
  | _, _, _, .nil, .nil, _ => ⟨[], .nil, .nil, fun _ h => by cases h⟩
  | _, _, _, .cons (a := p) (b := r) h t, .cons (b := x) q tq, ht => by
    obtain ⟨zs, g1, g2, g3⟩ := toI (prog := prog) (w := w) t tq fun p hp => ht p (List.mem_cons_of_mem _ hp)
    obtain ⟨k1, k2, k3, k4⟩ := h
    obtain ⟨q1, q2, q3⟩ := q
    rcases (keyOk_d k1).2.2 with hT | ⟨i, hi⟩
    · rw [ht p (List.mem_cons_self ..)] at hT; cases hT
    · rw [hi] at k2 k3
      have k3' : r.2.1 = .int i := k3
      rw [k3'] at q2
      obtain ⟨t, e⟩ := (show ∃ t, x.2.1 = .int i t from q2)
      have his : (intKind prog w).is i x.2.1 = true := by rw [e]; exact intKind_is _ _ _ _
      refine ⟨(i, x.2.2) :: zs, .cons ⟨k2, k3', q3⟩ g1, .cons his rfl g2, fun e he => ?_⟩
      rcases List.mem_cons.mp he with rfl | he
      · exact ⟨i, his, by show nh x.1 = hashInt i; rw [← q1, k2]; rfl⟩
      · exact g3 e he
theorem ofI {prog : Program} {w : World} : ∀ {rows : List Row} {zs : List (Int × Value)} {es : List DictEntry}, Paired RowI rows zs → Pairs (intKind prog w) es zs → (∀ e ∈ es, ∃ k, (intKind prog w).is k e.key = true ∧ e.hash = (intKind prog w).hash k) →
    ∃ xs, es = xs.map entryN ∧ Paired Row3 rows xs
  | _, _, _, .nil, .nil, _ => ⟨[], rfl, .nil⟩
  | _, _, _, .cons (a := r) (b := z) h t, .cons (e := e) h1 h2 tq, hk => by
    obtain ⟨xs, g1, g2⟩ := ofI t tq fun e he => hk e (List.mem_cons_of_mem _ he)
    obtain ⟨q1, q2, q3⟩ := h
    obtain ⟨k, k1, k2⟩ := hk e (List.mem_cons_self ..)
    obtain rfl := (intKind prog w).inj _ _ _ k1 h1
    obtain ⟨t, et⟩ := Value.isInt_shape h1
    refine ⟨(.num z.1, e.key, e.val) :: xs, ?_, .cons ⟨q1, by rw [q2]; exact ⟨t, et⟩, by rw [h2]; exact q3⟩ g2⟩
    rw [List.map_cons, g1]
    congr 1
    obtain ⟨a, b, c⟩ := e
    show _ = DictEntry.mk _ _ _
    exact congrArg (fun z => DictEntry.mk z b c) k2
theorem DicR.openT (I : Inv X pins σ H s) {kvs : List (D × D)} {a : Addr} (d : DicR X.K H Z kvs a) (ht : ∀ p ∈ kvs, isTupD p.1 = true) : ∃ rows ys ep0, H a = some (.ext (dφ a rows ep0)) ∧ RowsV X.K H Z kvs rows ∧ Paired RowT rows ys ∧ (a == sysModules) = false ∧ s.heap.DictOfH (nestedKind X.prog X.w) a ys ∧ kvs.length ≤ 16777215 := by
  obtain ⟨rows, xs, o, es, ep, h1, h4, hp', hs, ho, hx, hd, he, h5, h3, _⟩ := d.open_ I
  obtain ⟨ys, g1, g2⟩ := toT h4 hp' ht
  have kx : ∀ x ∈ ys, ∃ p ∈ kvs, keyOk p.1 = true ∧ x.1 = ky p.1 ∧ Rl X.K H Z p.1 (.ref x.2.1) := fun x hx => by
    obtain ⟨r, hr, q1, q2, _⟩ := paired_mem g1 x hx
    obtain ⟨p, hp, q3, q4, q5, _⟩ := paired_mem h4 r hr
    exact ⟨p, hp, q3, by rw [← q1, q4], by rw [← q2]; exact q5⟩
  refine ⟨rows, ys, ep, h1, h4, g1, hs, ⟨o, es, ep, ho, hx, hd, ?_, fun x hx => ?_, by rw [row3_keys (kf := (·.1)) (fun _ _ h => h.1) g1]; exact h5⟩, h3⟩
  · rw [he, g2, List.map_map]
    refine List.map_congr_left fun x hx => ?_
    obtain ⟨p, _, q1, q2, _⟩ := kx x hx
    show (⟨nh x.1, .ref x.2.1, x.2.2⟩ : DictEntry) = ⟨x.1.hash X.w, .ref x.2.1, x.2.2⟩
    rw [q2, nh_eq X.w p.1 (keyOk_d q1).1]
  · obtain ⟨p, _, q1, q2, q3⟩ := kx x hx
    rw [q2]
    exact key_is I q1 q3
theorem nodupI {rows : List Row} {zs : List (Int × Value)} (h : Paired RowI rows zs) (n : (rows.map (·.1)).Nodup) : (zs.map (·.1)).Nodup := by
  rw [← row3_keys (kf := fun z : Int × Value => NestedKey.num z.1) (fun _ _ h => h.1) h] at n
  have e : zs.map (fun z => NestedKey.num z.1) = (zs.map (·.1)).map NestedKey.num := by rw [List.map_map]; rfl
  rw [e] at n
  exact (List.pairwise_map.mp n).imp fun h e => h (congrArg _ e)
theorem DicR.openI (I : Inv X pins σ H s) {kvs : List (D × D)} {a : Addr} (d : DicR X.K H Z kvs a) (ht : ∀ p ∈ kvs, isTupD p.1 = false) : ∃ rows zs ep0, H a = some (.ext (dφ a rows ep0)) ∧ RowsV X.K H Z kvs rows ∧ Paired RowI rows zs ∧ (a == sysModules) = false ∧ s.heap.DictOf (intKind X.prog X.w) a zs ∧ kvs.length ≤ 16777215 := by
  obtain ⟨rows, xs, o, es, ep, h1, h4, hp', hs, ho, hx, hd, he, h5, h3, _⟩ := d.open_ I
  obtain ⟨zs, g1, g2, g3⟩ := toI (prog := X.prog) (w := X.w) h4 hp' ht
  refine ⟨rows, zs, ep, h1, h4, g1, hs, ⟨o, es, ep, ho, hx, hd, fun e hm => g3 e ?_, ?_, nodupI g1 h5⟩, h3⟩
  · rw [← he]; exact Array.mem_toList_iff.mpr hm
  · rw [he]; exact g2
/-- what is found -/
theorem dGet_at {T : Type} {kf : T → NestedKey} {vf : T → Value} {R : Row → T → Prop} (hR : ∀ r t, R r t → r.1 = kf t ∧ RelV r.2.2 (vf t)) {kvs : List (D × D)} {rows : List Row} {K : PySem.W.Frag} {H : Hp} {xs : List T} {d : D} (hd : kyB d = true) (h1 : RowsV K H Z kvs rows) (h2 : Paired R rows xs) :
    (dGet kvs d = none ∧ xs.find? (fun t => decide (kf t = ky d)) = none) ∨ ∃ y v t, dGet kvs d = some y ∧ xs.find? (fun t => decide (kf t = ky d)) = some t ∧ RelV v (vf t) ∧ Rl K H Z y v := by
  unfold dGet
  induction h1 generalizing xs with
  | nil =>
    cases h2
    exact .inl ⟨rfl, rfl⟩
  | @cons p r ps rs h t ih =>
    cases h2 with
    | @cons _ x _ xs' q tq =>
      obtain ⟨k1, k2, k3, k4⟩ := h
      obtain ⟨q1, q3⟩ := hR _ _ q
      have e : PyData.eqv p.1 d = decide (kf x = ky d) := by
        rw [ky_eqv p.1 d (keyOk_d k1).1 hd, ← q1, k2]
      rw [List.find?_cons, List.find?_cons, e]
      by_cases c : kf x = ky d
      · rw [decide_eq_true c]
        exact .inr ⟨p.2, r.2.2, x, rfl, rfl, q3, k4⟩
      · rw [decide_eq_false c]
        exact ih tq
/-- what is stored -/
theorem dPut_rows {T : Type} {kf : T → NestedKey} {R : Row → T → Prop} (hR : ∀ r t, R r t → r.1 = kf t) {kvs : List (D × D)} {rows : List Row} {K : PySem.W.Frag} {H : Hp} {xs : List T} {d y : D} {b v : V} {nw : T} {put : T → T} (hd : keyOk d = true) (rb : Rl K H Z d b) (ry : Rl K H Z y v) (hn : R (ky d, b, v) nw)
    (hp : ∀ r t, R r t → kf t = ky d → R (r.1, r.2.1, v) (put t)) (hq : ∀ t, kf t ≠ ky d → put t = t) (h1 : RowsV K H Z kvs rows) (h2 : Paired R rows xs) (nd : (xs.map kf).Nodup) :
    ∃ rows', RowsV K H Z (dPut kvs d y) rows' ∧ Paired R rows' (if xs.any (fun t => decide (kf t = ky d)) then xs.map put else xs ++ [nw]) ∧ (rows'.map (·.1)).Nodup := by
  suffices g : ∃ rows', RowsV K H Z (dPut kvs d y) rows' ∧ Paired R rows' (if xs.any (fun t => decide (kf t = ky d)) then xs.map put else xs ++ [nw]) ∧ (∀ k ∈ rows'.map (·.1), k = ky d ∨ k ∈ xs.map kf) ∧ (rows'.map (·.1)).Nodup by
    obtain ⟨r, g1, g2, _, g3⟩ := g
    exact ⟨r, g1, g2, g3⟩
  induction h1 generalizing xs with
  | nil =>
    cases h2
    exact ⟨[(ky d, b, v)], .cons ⟨hd, rfl, rb, ry⟩ .nil, .cons hn .nil, fun k hk => .inl (by simpa using hk), by simp⟩
  | @cons p r ps rs h t ih =>
    cases h2 with
    | @cons _ x _ xs' q tq =>
      obtain ⟨k1, k2, k3, k4⟩ := h
      have q1 := hR _ _ q
      rw [List.map_cons, List.nodup_cons] at nd
      have e : PyData.eqv p.1 d = decide (kf x = ky d) := by
        rw [ky_eqv p.1 d (keyOk_d k1).1 (keyOk_d hd).1, ← q1, k2]
      have krs : rs.map (·.1) = xs'.map kf := (row3_keys hR tq).symm
      by_cases c : kf x = ky d
      · have e1 : dPut (p :: ps) d y = (p.1, y) :: ps := by
          show (if PyData.eqv p.1 d = true then (p.1, y) :: ps else p :: dPut ps d y) = _
          rw [e, decide_eq_true c, if_pos rfl]
        rw [List.any_cons, decide_eq_true c, Bool.true_or, if_pos rfl, e1]
        have e2 : xs'.map put = xs' := by
          refine (List.map_congr_left fun z hz => ?_).trans (List.map_id _)
          exact hq z fun ez => nd.1 (by rw [c, ← ez]; exact List.mem_map.mpr ⟨z, hz, rfl⟩)
        refine ⟨(r.1, r.2.1, v) :: rs, .cons ⟨k1, k2, k3, ry⟩ t, ?_, fun k hk => .inr ?_, ?_⟩
        · rw [List.map_cons, e2]
          exact .cons (hp _ _ q c) tq
        · rw [List.map_cons, krs] at hk
          rw [List.map_cons, ← q1]; exact hk
        · rw [List.map_cons, krs]
          exact List.nodup_cons.mpr ⟨by rw [show ((r.1, r.2.1, v) : Row).1 = kf x from q1]; exact nd.1, nd.2⟩
      · have e1 : dPut (p :: ps) d y = p :: dPut ps d y := by
          show (if PyData.eqv p.1 d = true then (p.1, y) :: ps else p :: dPut ps d y) = _
          rw [e, decide_eq_false c, if_neg Bool.false_ne_true]
        obtain ⟨rows', g1, g2, g3, g4⟩ := ih tq nd.2
        rw [List.any_cons, decide_eq_false c, Bool.false_or, e1]
        refine ⟨r :: rows', .cons ⟨k1, k2, k3, k4⟩ g1, ?_, fun k hk => ?_, ?_⟩
        · have e2 : (if (xs'.any fun t => decide (kf t = ky d)) = true then (x :: xs').map put else (x :: xs') ++ [nw]) = x :: (if (xs'.any fun t => decide (kf t = ky d)) = true then xs'.map put else xs' ++ [nw]) := by
            split
            · rw [List.map_cons, hq x c]
            · rfl
          rw [e2]
          exact .cons q g2
        · rw [List.map_cons] at hk
          rcases List.mem_cons.mp hk with rfl | hk
          · exact .inr (by rw [q1]; exact List.mem_cons_self ..)
          · exact (g3 k hk).imp id fun h => List.mem_cons_of_mem _ h
        · rw [List.map_cons]
          refine List.nodup_cons.mpr ⟨fun hm => ?_, g4⟩
          rcases g3 _ hm with h | h
          · exact c (by rw [← q1]; exact h)
          · exact nd.1 (by rw [← q1]; exact h)
theorem dφ_stay {a : Addr} {rows : List Row} {ep : Nat} (h1 h2 : Heap) (p : dφ a rows ep h1) (k : ∀ o, h1.get? a = some o → h2.get? a = some o) : dφ a rows ep h2 := by
  obtain ⟨hs, o, es, xs, ho, r⟩ := p
  exact ⟨hs, o, es, xs, k o ho, r⟩
theorem ext_ok {P : Program} {w : World} {H : Hp} {h : Heap} {a : Addr} {rows : List Row} {ep : Nat} (p : dφ a rows ep h) : ObjOk P w H h a (.ext (dφ a rows ep)) :=
  ⟨p, let ⟨_, o, _, _, ho, _⟩ := p; ⟨o, ho⟩, dφ_stay⟩
theorem keyIn_ok {kvs : List (D × D)} {d : D} (h : keyIn kvs d = true) : keyOk d = true := (Bool.and_eq_true_iff.mp h).1
theorem homo_put {kvs : List (D × D)} {d y : D} (h : HomoK kvs) (k : keyIn kvs d = true) : HomoK (dPut kvs d y) := by
  obtain ⟨t, ht⟩ := h
  refine ⟨isTupD d, ?_⟩
  have hd : ∀ p ∈ kvs, isTupD p.1 = isTupD d := by
    cases kvs with
    | nil => intro p hp; cases hp
    | cons q r =>
      have e : isTupD q.1 = isTupD d := eq_of_beq (Bool.and_eq_true_iff.mp k).2
      intro p hp
      rw [ht p hp, ← ht q (List.mem_cons_self ..), e]
  clear ht k
  induction kvs with
  | nil =>
    intro p hp
    rw [List.mem_singleton.mp hp]
  | cons q r ih =>
    intro p hp
    unfold dPut at hp
    split at hp
    · rcases List.mem_cons.mp hp with rfl | hp
      · exact hd q (List.mem_cons_self ..)
      · exact hd p (List.mem_cons_of_mem _ hp)
    · rcases List.mem_cons.mp hp with rfl | hp
      · exact hd _ (List.mem_cons_self ..)
      · exact ih (fun p hp => hd p (List.mem_cons_of_mem _ hp)) p hp
theorem keyIn_cases {kvs : List (D × D)} {d : D} (h : HomoK kvs) (k : keyIn kvs d = true) : (isTupD d = true ∧ ∀ p ∈ kvs, isTupD p.1 = true) ∨ ∃ i, d = .int i ∧ ∀ p ∈ kvs, isTupD p.1 = false := by
  obtain ⟨t, ht⟩ := h
  have hd : ∀ p ∈ kvs, isTupD p.1 = isTupD d := by
    cases kvs with
    | nil => intro p hp; cases hp
    | cons q r =>
      have e : isTupD q.1 = isTupD d := eq_of_beq (Bool.and_eq_true_iff.mp k).2
      intro p hp
      rw [ht p hp, ← ht q (List.mem_cons_self ..), e]
  rcases (keyOk_d (keyIn_ok k)).2.2 with h | ⟨i, rfl⟩
  · exact .inl ⟨h, fun p hp => by rw [hd p hp, h]⟩
  · exact .inr ⟨i, rfl, fun p hp => hd p hp⟩
theorem DicR.homo {K : PySem.W.Frag} {H : Hp} {kvs : List (D × D)} {a : Addr} (d : DicR K H Z kvs a) : HomoK kvs := let ⟨_, _, _, _, _, _, h⟩ := d; h
theorem find_int {zs : List (Int × Value)} {i : Int} : zs.find? (fun t => decide (NestedKey.num t.1 = ky (.int i))) = zs.find? (fun kv => decide (kv.1 = i)) := by
  congr 1
  funext t
  simp [ky]
theorem any_int {zs : List (Int × Value)} {i : Int} : zs.any (fun t => decide (NestedKey.num t.1 = ky (.int i))) = zs.any (fun kv => decide (kv.1 = i)) := by
  congr 1
  funext t
  simp [ky]
theorem dGetT {kvs : List (D × D)} {rows : List Row} {K : PySem.W.Frag} {H : Hp} {xs : List (NestedKey × Addr × Value)} {d : D} (hd : kyB d = true) (h1 : RowsV K H Z kvs rows) (h2 : Paired RowT rows xs) :
    (dGet kvs d = none ∧ atKey xs (ky d) = none) ∨ ∃ y v u c, dGet kvs d = some y ∧ atKey xs (ky d) = some (c, u) ∧ RelV v u ∧ Rl K H Z y v := by
  unfold atKey
  rcases dGet_at (kf := fun t => t.1) (vf := fun t => t.2.2) (R := RowT) (fun _ _ h => ⟨h.1, h.2.2⟩) hd h1 h2 with ⟨e1, e2⟩ | ⟨y, v, t, e1, e2, e3, e4⟩
  · exact .inl ⟨e1, by rw [e2]; rfl⟩
  · exact .inr ⟨y, v, t.2.2, t.2.1, e1, by rw [e2]; rfl, e3, e4⟩
theorem dGetI {kvs : List (D × D)} {rows : List Row} {K : PySem.W.Frag} {H : Hp} {zs : List (Int × Value)} {i : Int} (h1 : RowsV K H Z kvs rows) (h2 : Paired RowI rows zs) :
    (dGet kvs (.int i) = none ∧ valueAt zs i = none) ∨ ∃ y v u, dGet kvs (.int i) = some y ∧ valueAt zs i = some u ∧ RelV v u ∧ Rl K H Z y v := by
  unfold valueAt
  rcases dGet_at (kf := fun t : Int × Value => NestedKey.num t.1) (vf := fun t => t.2) (R := RowI) (fun _ _ h => ⟨h.1, h.2.2⟩) (d := .int i) rfl h1 h2 with ⟨e1, e2⟩ | ⟨y, v, t, e1, e2, e3, e4⟩
  · rw [find_int] at e2; exact .inl ⟨e1, by rw [e2]; rfl⟩
  · rw [find_int] at e2; exact .inr ⟨y, v, t.2, e1, by rw [e2]; rfl, e3, e4⟩
theorem d_in2 {A : Around} {E : Value → Shared → Prop} {Q : Value → Shared → Prop} {kvs : List (D × D)} {a : Addr} {x : V} {u : Value} {d : D} (hu : A.units + 65 < cLine) (I : Inv X pins σ H s) (g : DicR X.K H Z kvs a) (hd : keyIn kvs d = true) (rb : Rl X.K H Z d x) (ru : RelV x u) (h : ∀ s', Inv X pins σ H s' → Q (.bool (dGet kvs d).isSome) s') :
    wpAny (model X.prog X.w) A (compareOp .In u (.ref a)) Q E s := by
  rcases keyIn_cases g.homo hd with ⟨ht, hk⟩ | ⟨i, rfl, hk⟩
  · obtain ⟨b, rfl⟩ := key_ref ht rb
    obtain rfl : u = .ref b := ru
    obtain ⟨rows, xs, ep0, h1, h2, h3, h4, h5, _⟩ := g.openT I hk
    refine wpAny_in_heap (knd := nestedKind X.prog X.w) (by show A.units + 1 + 8 < cLine; omega) (key_is I (keyIn_ok hd) rb) h4 h5 ?_
    rcases dGetT (keyOk_d (keyIn_ok hd)).1 h2 h3 with ⟨e1, e2⟩ | ⟨y, v, u, c, e1, e2, _⟩
    · rw [e2]; rw [e1] at h; exact h _ (I.tok _)
    · rw [e2]; rw [e1] at h; exact h _ (I.tok _)
  · obtain rfl : x = .int i := rb
    obtain ⟨t, rfl⟩ := (show ∃ t, u = .int i t from ru)
    obtain ⟨rows, zs, ep0, h1, h2, h3, h4, h5, _⟩ := g.openI I hk
    refine wpAny_in_of (intKind_is X.prog X.w i t) h4 h5.mapOf ?_
    rcases dGetI h2 h3 with ⟨e1, e2⟩ | ⟨y, v, u, e1, e2, _⟩
    · rw [e2]; rw [e1] at h; exact h _ (I.tok _)
    · rw [e2]; rw [e1] at h; exact h _ (I.tok _)
theorem d_notIn2 {A : Around} {E : Value → Shared → Prop} {Q : Value → Shared → Prop} {kvs : List (D × D)} {a : Addr} {x : V} {u : Value} {d : D} (hu : A.units + 65 < cLine) (I : Inv X pins σ H s) (g : DicR X.K H Z kvs a) (hd : keyIn kvs d = true) (rb : Rl X.K H Z d x) (ru : RelV x u) (h : ∀ s', Inv X pins σ H s' → Q (.bool (!(dGet kvs d).isSome)) s') :
    wpAny (model X.prog X.w) A (compareOp .NotIn u (.ref a)) Q E s := by
  rcases keyIn_cases g.homo hd with ⟨ht, hk⟩ | ⟨i, rfl, hk⟩
  · obtain ⟨b, rfl⟩ := key_ref ht rb
    obtain rfl : u = .ref b := ru
    obtain ⟨rows, xs, ep0, h1, h2, h3, h4, h5, _⟩ := g.openT I hk
    refine wpAny_notIn_heap (knd := nestedKind X.prog X.w) (by show A.units + 1 + 8 < cLine; omega) (key_is I (keyIn_ok hd) rb) h4 h5 ?_
    rcases dGetT (keyOk_d (keyIn_ok hd)).1 h2 h3 with ⟨e1, e2⟩ | ⟨y, v, u, c, e1, e2, _⟩
    · rw [e2]; rw [e1] at h; exact h _ (I.tok _)
    · rw [e2]; rw [e1] at h; exact h _ (I.tok _)
  · obtain rfl : x = .int i := rb
    obtain ⟨t, rfl⟩ := (show ∃ t, u = .int i t from ru)
    obtain ⟨rows, zs, ep0, h1, h2, h3, h4, h5, _⟩ := g.openI I hk
    refine wpAny_notIn_of (intKind_is X.prog X.w i t) h4 h5.mapOf ?_
    rcases dGetI h2 h3 with ⟨e1, e2⟩ | ⟨y, v, u, e1, e2, _⟩
    · rw [e2]; rw [e1] at h; exact h _ (I.tok _)
    · rw [e2]; rw [e1] at h; exact h _ (I.tok _)
theorem d_getItem2 {A : Around} {E : Value → Shared → Prop} {Q : Value → Shared → Prop} {kvs : List (D × D)} {a : Addr} {x : V} {w : Value} {d y : D} (hu : A.units + 65 < cLine) (I : Inv X pins σ H s) (g : DicR X.K H Z kvs a) (hd : keyIn kvs d = true) (rb : Rl X.K H Z d x) (rw_ : RelV x w) (e : dGet kvs d = some y) (h : ∀ v u s', Inv X pins σ H s' → RelV v u → Rl X.K H Z y v → Q u s') :
    wpAny (model X.prog X.w) A (getItem (.ref a) w) Q E s := by
  rcases keyIn_cases g.homo hd with ⟨ht, hk⟩ | ⟨i, rfl, hk⟩
  · obtain ⟨b, rfl⟩ := key_ref ht rb
    obtain rfl : w = .ref b := rw_
    obtain ⟨rows, xs, ep0, h1, h2, h3, h4, h5, _⟩ := g.openT I hk
    rcases dGetT (keyOk_d (keyIn_ok hd)).1 h2 h3 with ⟨e1, e2⟩ | ⟨y', v, u, c, e1, e2, ru, ry⟩
    · rw [e] at e1; cases e1
    · rw [e] at e1; cases e1
      exact wpAny_getItem_heap (knd := nestedKind X.prog X.w) (by show A.units + 1 + 8 < cLine; omega) (key_is I (keyIn_ok hd) rb) h5 e2 (h v u _ (I.tok _) ru ry)
  · obtain rfl : x = .int i := rb
    obtain ⟨t, rfl⟩ := (show ∃ t, w = .int i t from rw_)
    obtain ⟨rows, zs, ep0, h1, h2, h3, h4, h5, _⟩ := g.openI I hk
    rcases dGetI (i := i) h2 h3 with ⟨e1, e2⟩ | ⟨y', v, u, e1, e2, ru, ry⟩
    · rw [e] at e1; cases e1
    · rw [e] at e1; cases e1
      exact wpAny_getItem_of (intKind_is X.prog X.w i t) h5.mapOf e2 (h v u _ (I.tok _) ru ry)
theorem dφT {a : Addr} {kvs : List (D × D)} {rows : List Row} {K : PySem.W.Frag} {H : Hp} {prog : Program} {w : World} {ys : List (NestedKey × Addr × Value)} {h' : Heap} (g1 : RowsV K H Z kvs rows) (g2 : Paired RowT rows ys) (h4 : (a == sysModules) = false) (m : h'.DictOfH (nestedKind prog w) a ys) : ∃ ep, dφ a rows ep h' ∧ ∃ o, h'.get? a = some o := by
  obtain ⟨o, es, ep, ho, hx, hdt, he, hk, nd⟩ := m
  refine ⟨ep, ⟨h4, o, es, ys.map fun y => (y.1, .ref y.2.1, y.2.2), ho, hx, hdt, ?_, ?_⟩, o, ho⟩
  · rw [he, List.map_map]
    refine List.map_congr_left fun x hxm => ?_
    obtain ⟨r, hr, q1, q2, _⟩ := paired_mem g2 x hxm
    obtain ⟨p, hp, q3, q4, _⟩ := paired_mem g1 r hr
    show (⟨x.1.hash w, .ref x.2.1, x.2.2⟩ : DictEntry) = ⟨nh x.1, .ref x.2.1, x.2.2⟩
    rw [← q1, q4, nh_eq w p.1 (keyOk_d q3).1]
  · clear he g1 hk nd
    induction g2 with
    | nil => exact .nil
    | cons h _ ih => exact .cons ⟨h.1, by rw [h.2.1]; rfl, h.2.2⟩ ih
theorem dφI {a : Addr} {rows : List Row} {prog : Program} {w : World} {zs : List (Int × Value)} {h' : Heap} (g2 : Paired RowI rows zs) (h4 : (a == sysModules) = false) (m : h'.DictOf (intKind prog w) a zs) : ∃ ep, dφ a rows ep h' ∧ ∃ o, h'.get? a = some o := by
  obtain ⟨o, es, ep, ho, hx, hdt, hk, hp, nd⟩ := m
  obtain ⟨xs, e1, e2⟩ := ofI g2 hp fun e he => hk e (Array.mem_toList_iff.mp he)
  exact ⟨ep, ⟨h4, o, es, xs, ho, hx, hdt, e1, e2⟩, o, ho⟩
theorem putT {kvs : List (D × D)} {rows : List Row} {K : PySem.W.Frag} {H : Hp} {ys : List (NestedKey × Addr × Value)} {d y : D} {b : Addr} {v : V} {u : Value} (hd : keyOk d = true) (rb : Rl K H Z d (.ref b)) (ry : Rl K H Z y v) (ru : RelV v u) (h1 : RowsV K H Z kvs rows) (h2 : Paired RowT rows ys) (nd : (ys.map (·.1)).Nodup) :
    ∃ rows', RowsV K H Z (dPut kvs d y) rows' ∧ Paired RowT rows' (storedH ys (ky d) b u) ∧ (rows'.map (·.1)).Nodup := by
  obtain ⟨rows', g1, g2, g3⟩ := dPut_rows (kf := fun t : NestedKey × Addr × Value => t.1) (R := RowT) (nw := (ky d, b, u)) (put := putAt (ky d) u) (fun _ _ h => h.1) hd rb ry ⟨rfl, rfl, ru⟩ (fun r t h c => by unfold putAt; rw [if_pos c]; exact ⟨h.1, h.2.1, ru⟩) (fun t c => by unfold putAt; rw [if_neg c]) h1 h2 nd
  refine ⟨rows', g1, ?_, g3⟩
  have e : (ys.any fun t => decide (t.1 = ky d)) = (atKey ys (ky d)).isSome := by
    unfold atKey
    rw [Option.isSome_map, List.isSome_find?]
  unfold storedH
  rw [← e]
  exact g2
theorem putI {kvs : List (D × D)} {rows : List Row} {K : PySem.W.Frag} {H : Hp} {zs : List (Int × Value)} {i : Int} {y : D} {v : V} {u : Value} (ry : Rl K H Z y v) (ru : RelV v u) (h1 : RowsV K H Z kvs rows) (h2 : Paired RowI rows zs) (nd : (rows.map (·.1)).Nodup) :
    ∃ rows', RowsV K H Z (dPut kvs (.int i) y) rows' ∧ Paired RowI rows' (stored zs i u) ∧ (rows'.map (·.1)).Nodup := by
  obtain ⟨rows', g1, g2, g3⟩ := dPut_rows (kf := fun t : Int × Value => NestedKey.num t.1) (R := RowI) (d := .int i) (b := .int i) (nw := (i, u)) (put := fun kv => if kv.1 = i then (kv.1, u) else kv) (fun _ _ h => h.1) rfl rfl ry ⟨rfl, rfl, ru⟩ (fun r t h c => by
      have c' : t.1 = i := by simpa [ky] using c
      show RowI _ (if t.1 = i then (t.1, u) else t)
      rw [if_pos c']; exact ⟨h.1, h.2.1, ru⟩) (fun t c => by
      have c' : t.1 ≠ i := fun h => c (by rw [h]; rfl)
      show (if t.1 = i then (t.1, u) else t) = t
      rw [if_neg c']) h1 h2 (by rw [row3_keys (kf := fun z : Int × Value => NestedKey.num z.1) (fun _ _ h => h.1) h2]; exact nd)
  refine ⟨rows', g1, ?_, g3⟩
  rw [any_int] at g2
  unfold stored
  exact g2
theorem d_setItem2 {A : Around} {E : Value → Shared → Prop} {Q : Unit → Shared → Prop} {kvs : List (D × D)} {a : Addr} {x : V} {w : Value} {d y : D} {v : V} {u : Value} (hu : A.units + 65 < cLine) (I : Inv X pins σ H s) (g : DicR X.K H Z kvs a) (hl : kvs.length < 16777215) (hd : keyIn kvs d = true) (rb : Rl X.K H Z d x) (rw_ : RelV x w) (ry : Rl X.K H Z y v) (ru : RelV v u)
    (h : ∀ rows' ep' s', Inv X pins σ (upd H a (.ext (dφ a rows' ep'))) s' → RowsV X.K H Z (dPut kvs d y) rows' → (rows'.map (·.1)).Nodup → Q () s') :
    wpAny (model X.prog X.w) A (setItem (.ref a) w u) Q E s := by
  rcases keyIn_cases g.homo hd with ⟨ht, hk⟩ | ⟨i, rfl, hk⟩
  · obtain ⟨b, rfl⟩ := key_ref ht rb
    obtain rfl : w = .ref b := rw_
    obtain ⟨rows, xs, ep0, h1, h2, h3, h4, h5, _⟩ := g.openT I hk
    have lx : xs.length = kvs.length := by rw [← Paired.length h3, ← Paired.length h2]
    refine wpAny_setItem_heap (knd := nestedKind X.prog X.w) (hsz := by rw [lx, sizeLine_eq]; omega) (by show A.units + 1 + 8 < cLine; omega) (key_is I (keyIn_ok hd) rb) h5 fun h' m hs => ?_
    obtain ⟨rows', g1, g2, g3⟩ := putT (K := X.K) (H := H) (keyIn_ok hd) rb ry ru h2 h3 h5.nodup
    obtain ⟨ep', hp, ho⟩ := dφT g1 g2 h4 m
    exact h rows' ep' _ (d_write I (by rw [h1]; exact True.intro) hs ho (ext_ok hp)) g1 g3
  · obtain rfl : x = .int i := rb
    obtain ⟨t, rfl⟩ := (show ∃ t, w = .int i t from rw_)
    obtain ⟨rows, zs, ep0, h1, h2, h3, h4, h5, _⟩ := g.openI I hk
    obtain ⟨_, _, _, _, hnd, _⟩ := g
    have lx : zs.length = kvs.length := by rw [← Paired.length h3, ← Paired.length h2]
    refine wpAny_setItem_pairs (hsz := by rw [lx, sizeLine_eq]; omega) (intKind_is X.prog X.w i t) h5 fun h' m hs => ?_
    have nd : (rows.map (·.1)).Nodup := by
      rw [← row3_keys (kf := fun z : Int × Value => NestedKey.num z.1) (fun _ _ h => h.1) h3]
      obtain ⟨_, _, _, _, _, _, _, _, nd5⟩ := h5
      have e : zs.map (fun z => NestedKey.num z.1) = (zs.map (·.1)).map NestedKey.num := by rw [List.map_map]; rfl
      rw [e]
      exact List.Pairwise.map _ (fun a b hab h => hab (NestedKey.num.inj h)) nd5
    obtain ⟨rows', g1, g2, g3⟩ := putI (K := X.K) (H := H) (i := i) ry ru h2 h3 nd
    obtain ⟨ep', hp, ho⟩ := dφI g2 h4 m
    exact h rows' ep' _ (d_write I (by rw [h1]; exact True.intro) hs ho (ext_ok hp)) g1 g3
theorem d_dictSet {A : Around} {E : Value → Shared → Prop} {Q : Unit → Shared → Prop} {kvs : List (D × D)} {a : Addr} {x : V} {w : Value} {d y : D} {v : V} {u : Value} (hu : A.units + 65 < cLine) (I : Inv X pins σ H s) (g : DicR X.K H Z kvs a) (hl : kvs.length < 16777215) (hd : keyIn kvs d = true) (rb : Rl X.K H Z d x) (rw_ : RelV x w) (ry : Rl X.K H Z y v) (ru : RelV v u)
    (h : ∀ rows' ep' s', Inv X pins σ (upd H a (.ext (dφ a rows' ep'))) s' → RowsV X.K H Z (dPut kvs d y) rows' → (rows'.map (·.1)).Nodup → Q () s') :
    wpAny (model X.prog X.w) A (dictSet a w u) Q E s := by
  rcases keyIn_cases g.homo hd with ⟨ht, hk⟩ | ⟨i, rfl, hk⟩
  · obtain ⟨b, rfl⟩ := key_ref ht rb
    obtain rfl : w = .ref b := rw_
    obtain ⟨rows, xs, ep0, h1, h2, h3, h4, h5, _⟩ := g.openT I hk
    have lx : xs.length = kvs.length := by rw [← Paired.length h3, ← Paired.length h2]
    refine wpAny_dictSet_heap (knd := nestedKind X.prog X.w) (hsz := by rw [lx, sizeLine_eq]; omega) (by show A.units + 8 < cLine; omega) (key_is I (keyIn_ok hd) rb) h5 fun h' m hs => ?_
    obtain ⟨rows', g1, g2, g3⟩ := putT (K := X.K) (H := H) (keyIn_ok hd) rb ry ru h2 h3 h5.nodup
    obtain ⟨ep', hp, ho⟩ := dφT g1 g2 h4 m
    exact h rows' ep' _ (d_write I (by rw [h1]; exact True.intro) hs ho (ext_ok hp)) g1 g3
  · obtain rfl : x = .int i := rb
    obtain ⟨t, rfl⟩ := (show ∃ t, w = .int i t from rw_)
    obtain ⟨rows, zs, ep0, h1, h2, h3, h4, h5, _⟩ := g.openI I hk
    obtain ⟨_, _, _, _, hnd, _⟩ := g
    have lx : zs.length = kvs.length := by rw [← Paired.length h3, ← Paired.length h2]
    refine wpAny_dictSet_pairs (hsz := by rw [lx, sizeLine_eq]; omega) (intKind_is X.prog X.w i t) h5 fun h' m hs => ?_
    have nd : (rows.map (·.1)).Nodup := by
      rw [← row3_keys (kf := fun z : Int × Value => NestedKey.num z.1) (fun _ _ h => h.1) h3]
      obtain ⟨_, _, _, _, _, _, _, _, nd5⟩ := h5
      have e : zs.map (fun z => NestedKey.num z.1) = (zs.map (·.1)).map NestedKey.num := by rw [List.map_map]; rfl
      rw [e]
      exact List.Pairwise.map _ (fun a b hab h => hab (NestedKey.num.inj h)) nd5
    obtain ⟨rows', g1, g2, g3⟩ := putI (K := X.K) (H := H) (i := i) ry ru h2 h3 nd
    obtain ⟨ep', hp, ho⟩ := dφI g2 h4 m
    exact h rows' ep' _ (d_write I (by rw [h1]; exact True.intro) hs ho (ext_ok hp)) g1 g3
theorem dφ_new {h : Heap} (hb : sysModules < h.objs.size) : dφ h.objs.size [] 0 (h.push { cls := .type "dict", data := .dict #[] }) :=
  ⟨beq_eq_false_iff_ne.mpr (Ne.symm (Nat.ne_of_lt hb)), _, #[], [], Heap.get?_push_size _ rfl, ⟨rfl, rfl, rfl⟩, rfl, rfl, .nil⟩
end
end Lt
namespace Lt
open PySem L2 PySem.Spec PyProof.Rows
def rLtD (K : PySem.W.Frag) : R2 := fun x y H Q => ∃ d e, Dp K H x d ∧ Dp K H y e ∧ PySem.W.alike d e = true ∧ d ≠ .none ∧ SeqAt.shaped d = true ∧ SeqAt.shaped e = true ∧ Q (.bl (PySem.W.dataLt d e)) H
section
variable {X : Cx}
theorem op_ltD (hu : X.A.units + 64 < cLine) : OpR X (compareOp .Lt) (rLtD X.K) := by
  intro pins s σ H x y vx vy Q inv relx rely ⟨d, e, hd, he, al, nn, sd, se, q⟩
  obtain ⟨as, rdx⟩ := Dp.reads inv d x vx hd relx
  obtain ⟨bs, rdy⟩ := Dp.reads inv e y vy he rely
  exact PySem.W.rcLt_alike d e X.A s vx vy as bs rdx rdy al nn (SeqAt.room_of_shaped sd hu) _ _ _ _ ⟨.bl _, H, inv, rfl, q⟩
/-- in, not in of a dict -/
def rInK (K : PySem.W.Frag) (f : Bool → Bool) : R2 := fun x y H Q => ∃ (Z : Addr → Prop) (kvs : List (D × D)) (d : D) (a : Addr), y = .ref a ∧ DicR K H Z kvs a ∧ keyIn kvs d = true ∧ Rl K H Z d x ∧ Q (.bl (f (dGet kvs d).isSome)) H
theorem op_inK (hu : X.A.units + 65 < cLine) : OpR X (compareOp .In) (rInK X.K id) := by
  rintro pins s σ H x y vx vy Q inv relx rely ⟨Z, kvs, d, a, rfl, g, hd, rb, q⟩
  cases rely
  exact d_in2 hu inv g hd rb relx fun s' inv' => ⟨.bl _, H, inv', rfl, q⟩
theorem op_notInK (hu : X.A.units + 65 < cLine) : OpR X (compareOp .NotIn) (rInK X.K not) := by
  rintro pins s σ H x y vx vy Q inv relx rely ⟨Z, kvs, d, a, rfl, g, hd, rb, q⟩
  cases rely
  exact d_notIn2 hu inv g hd rb relx fun s' inv' => ⟨.bl _, H, inv', rfl, q⟩
/-- a text in a text -/
def rInS (f : Bool → Bool) : R2 := fun x y H Q => ∃ i j, x = .str i ∧ y = .str j ∧ Q (.bl (f (!(Builtin.Str.occurrences j i 0 j.length 1).isEmpty))) H
theorem op_inS : OpR X (compareOp .In) (rInS id) := op_in_str
theorem op_notInS : OpR X (compareOp .NotIn) (rInS not) := op_notIn_str
def rCmp (K : PySem.W.Frag) : CmpOp → R2
  | .Eq => fun x y H Q => rEq x y H Q ∨ rEqD K x y H Q
  | .NotEq => fun x y H Q => rNe x y H Q ∨ rNeD K x y H Q
  | .Lt => fun x y H Q => rI0 (fun i j => .bl (decide (i < j))) x y H Q ∨ rLtD K x y H Q
  | .LtE => rI0 fun i j => .bl (decide (i ≤ j))
  | .Gt => rI0 fun i j => .bl (decide (j < i))
  | .GtE => rI0 fun i j => .bl (decide (j ≤ i))
  | .Is => fun x y H Q => (y = .non ∧ Q (.bl (decide (x = .non))) H) ∨ rIsB x y H Q
  | .IsNot => fun x y H Q => (y = .non ∧ Q (.bl (!decide (x = .non))) H) ∨ rNotB x y H Q
  | .In => fun x y H Q => rInD K x y H Q ∨ rInK K id x y H Q ∨ rInS id x y H Q
  | .NotIn => fun x y H Q => rNotInD K x y H Q ∨ rInK K not x y H Q ∨ rInS not x y H Q
theorem op_cmp (hu : X.A.units + 65 < cLine) : ∀ op, OpR X (compareOp op) (rCmp X.K op)
  | .Eq => op_eq.or (op_eqD (by omega))
  | .NotEq => op_ne.or (op_neD (by omega))
  | .Lt => op_lt.or (op_ltD (by omega))
  | .LtE => op_le
  | .Gt => op_gt
  | .GtE => op_ge
  | .Is => op_isN.or op_isBl
  | .IsNot => op_notN.or op_notBl
  | .In => (op_inD hu).or ((op_inK hu).or op_inS)
  | .NotIn => (op_notInD hu).or ((op_notInK hu).or op_notInS)
end
section
variable {K : PySem.W.Frag} {W : Addr → Prop} {H0 H : Hp} {Z0 Z : Addr → Prop} {ρ : Rho} {σ : L2.St} {Q : VK}
theorem scal_ok {x y : D} {v w : V} (h : scalD x y = true) (rx : VwV K H Z x v) (ry : VwV K H Z y w) : scal v w = true ∧ decide (v = w) = PyData.eqv x y := by
  cases x <;> cases y <;> first
    | (exact absurd h Bool.false_ne_true)
    | (cases (show v = _ from rx); cases (show w = _ from ry); refine ⟨rfl, ?_⟩; first | rfl | (simp only [PyData.eqv, dec_int, dec_bl, dec_str]) | (simp [PyData.eqv]))
theorem VwV.rl {x : D} {v : V} (h : keyOk x = true) (r : VwV K H Z x v) : Rl K H Z x v := by
  cases x <;> first | exact r | cases h
theorem cmp_ok {op : CmpOp} {x y : D} {k : Bool} {v w : V} (e : cmpD op x y = some k) (rx : VwV K H Z x v) (ry : VwV K H Z y w) (q : Q (.bl k) H) : rCmp K op v w H Q := by
  have hEq : ∀ {k'}, eqD x y = some k' → (scal v w = true ∧ decide (v = w) = k') ∨ (SeqAt.shaped x = true ∧ SeqAt.shaped y = true ∧ PyData.eqv x y = k') := by
    intro k' e
    unfold eqD at e
    by_cases hs : scalD x y = true
    · rw [if_pos hs] at e
      cases e
      exact .inl (scal_ok hs rx ry)
    · rw [if_neg hs] at e
      by_cases hh : (SeqAt.shaped x && SeqAt.shaped y) = true
      · rw [if_pos hh] at e
        cases e
        rw [Bool.and_eq_true] at hh
        exact .inr ⟨hh.1, hh.2, rfl⟩
      · rw [if_neg hh] at e; cases e
  cases op with
  | Eq =>
    rcases hEq e with ⟨h1, h2⟩ | ⟨h1, h2, h3⟩
    · exact .inl ⟨h1, by rw [h2]; exact q⟩
    · exact .inr ⟨x, y, rx.dp h1, ry.dp h2, h1, h2, by rw [h3]; exact q⟩
  | NotEq =>
    have e' : (eqD x y).map (!·) = some k := e
    cases hq : eqD x y with
    | none => rw [hq] at e'; cases e'
    | some k' =>
      rw [hq] at e'
      cases e'
      rcases hEq hq with ⟨h1, h2⟩ | ⟨h1, h2, h3⟩
      · exact .inl ⟨h1, by rw [h2]; exact q⟩
      · exact .inr ⟨x, y, rx.dp h1, ry.dp h2, h1, h2, by rw [h3]; exact q⟩
  | Lt =>
    have e' : ltD x y = some k := e
    cases x <;> cases y <;> (try (cases (show none = some k from e')))
    · rename_i i j
      cases (show some _ = some k from e')
      cases (VwV.int rx)
      cases (VwV.int ry)
      exact .inl ⟨i, j, rfl, rfl, q⟩
    · rename_i xs ys
      have e2 : (if (PySem.W.alike (.tuple xs) (.tuple ys) && SeqAt.shaped (.tuple xs) && SeqAt.shaped (.tuple ys)) = true then some (PySem.W.dataLt (.tuple xs) (.tuple ys)) else none) = some k := e'
      by_cases hc : (PySem.W.alike (.tuple xs) (.tuple ys) && SeqAt.shaped (.tuple xs) && SeqAt.shaped (.tuple ys)) = true
      · rw [if_pos hc] at e2
        cases e2
        rw [Bool.and_eq_true, Bool.and_eq_true] at hc
        exact .inr ⟨_, _, rx.dp hc.1.2, ry.dp hc.2, hc.1.1, (fun z => nomatch z), hc.1.2, hc.2, q⟩
      · rw [if_neg hc] at e2; cases e2
  | LtE =>
    cases x <;> cases y <;> (try (cases (show none = some k from e)))
    rename_i i j
    cases (show some _ = some k from e)
    cases (VwV.int rx)
    cases (VwV.int ry)
    exact ⟨i, j, rfl, rfl, q⟩
  | Gt =>
    cases x <;> cases y <;> (try (cases (show none = some k from e)))
    rename_i i j
    cases (show some _ = some k from e)
    cases (VwV.int rx)
    cases (VwV.int ry)
    exact ⟨i, j, rfl, rfl, q⟩
  | GtE =>
    cases x <;> cases y <;> (try (cases (show none = some k from e)))
    rename_i i j
    cases (show some _ = some k from e)
    cases (VwV.int rx)
    cases (VwV.int ry)
    exact ⟨i, j, rfl, rfl, q⟩
  | Is =>
    rcases (show (∃ b, y = .bool b) ∨ y = .none by cases y <;> first | exact .inr rfl | exact .inl ⟨_, rfl⟩ | (cases (show none = some k from e))) with ⟨b, hy⟩ | hy
    · subst hy
      cases (show w = V.bl b from ry)
      cases x <;> (try (cases (show none = some k from e)))
      rename_i a
      cases (show v = V.bl a from rx)
      cases (show some (decide (a = b)) = some k from e)
      exact .inr ⟨a, b, rfl, rfl, q⟩
    subst hy
    cases (show w = V.non from ry)
    refine .inl ⟨rfl, ?_⟩
    have e2 : decide (v = V.non) = k := by
      cases x with
      | list ds =>
        cases (show some false = some k from e)
        obtain ⟨a, vs, rfl, _⟩ := rx.lst
        rfl
      | tuple ds =>
        cases (show some false = some k from e)
        obtain ⟨a, vs, rfl, _⟩ := rx.tup
        rfl
      | dict kvs =>
        cases (show some false = some k from e)
        obtain ⟨a, rfl, _⟩ := rx.dic
        rfl
      | none => cases (show some true = some k from e); cases (show v = _ from rx); rfl
      | bool b => cases (show some false = some k from e); cases (show v = _ from rx); rfl
      | int b => cases (show some false = some k from e); cases (show v = _ from rx); rfl
      | str b => cases (show some false = some k from e); cases (show v = _ from rx); rfl
    rw [e2]
    exact q
  | IsNot =>
    rcases (show (∃ b, y = .bool b) ∨ y = .none by cases y <;> first | exact .inr rfl | exact .inl ⟨_, rfl⟩ | (cases (show none = some k from e))) with ⟨b, hy⟩ | hy
    · subst hy
      cases (show w = V.bl b from ry)
      cases x <;> (try (cases (show none = some k from e)))
      rename_i a
      cases (show v = V.bl a from rx)
      cases (show some (!decide (a = b)) = some k from e)
      exact .inr ⟨a, b, rfl, rfl, q⟩
    subst hy
    cases (show w = V.non from ry)
    refine .inl ⟨rfl, ?_⟩
    have e2 : (!decide (v = V.non)) = k := by
      cases x with
      | list ds =>
        cases (show some true = some k from e)
        obtain ⟨a, vs, rfl, _⟩ := rx.lst
        rfl
      | tuple ds =>
        cases (show some true = some k from e)
        obtain ⟨a, vs, rfl, _⟩ := rx.tup
        rfl
      | dict kvs =>
        cases (show some true = some k from e)
        obtain ⟨a, rfl, _⟩ := rx.dic
        rfl
      | none => cases (show some false = some k from e); cases (show v = _ from rx); rfl
      | bool b => cases (show some true = some k from e); cases (show v = _ from rx); rfl
      | int b => cases (show some true = some k from e); cases (show v = _ from rx); rfl
      | str b => cases (show some true = some k from e); cases (show v = _ from rx); rfl
    rw [e2]
    exact q
  | In =>
    cases y <;> (try (cases (show none = some k from e)))
    · rename_i z
      cases x <;> (try (cases (show none = some k from e)))
      rename_i y
      cases (show v = V.str y from rx)
      cases (show w = V.str z from ry)
      cases (show some _ = some k from e)
      exact .inr (.inr ⟨y, z, rfl, rfl, q⟩)
    · rename_i ds
      have e2 : (if (SeqAt.shaped x && SeqAt.shaped (.list ds)) = true then some (ds.any fun z => PyData.eqv z x) else none) = some k := e
      by_cases hc : (SeqAt.shaped x && SeqAt.shaped (.list ds)) = true
      · rw [if_pos hc] at e2
        cases e2
        rw [Bool.and_eq_true] at hc
        exact .inl ⟨x, ds, rx.dp hc.1, ry.dp hc.2, hc.1, hc.2, q⟩
      · rw [if_neg hc] at e2; cases e2
    · rename_i kvs
      obtain ⟨a, rfl, g⟩ := ry.dic
      have e' : (if keyIn kvs x then some (dGet kvs x).isSome else none) = some k := e
      by_cases h : keyIn kvs x = true
      · rw [if_pos h] at e'
        cases e'
        exact .inr (.inl ⟨Z, kvs, x, a, rfl, g, h, VwV.rl (keyIn_ok h) rx, q⟩)
      · rw [if_neg h] at e'; cases e'
  | NotIn =>
    cases y <;> (try (cases (show none = some k from e)))
    · rename_i z
      cases x <;> (try (cases (show none = some k from e)))
      rename_i y
      cases (show v = V.str y from rx)
      cases (show w = V.str z from ry)
      cases (show some _ = some k from e)
      exact .inr (.inr ⟨y, z, rfl, rfl, q⟩)
    · rename_i ds
      have e2 : ((if (SeqAt.shaped x && SeqAt.shaped (.list ds)) = true then some (ds.any fun z => PyData.eqv z x) else none).map (!·)) = some k := e
      by_cases hc : (SeqAt.shaped x && SeqAt.shaped (.list ds)) = true
      · rw [if_pos hc] at e2
        cases e2
        rw [Bool.and_eq_true] at hc
        exact .inl ⟨x, ds, rx.dp hc.1, ry.dp hc.2, hc.1, hc.2, q⟩
      · rw [if_neg hc] at e2; cases e2
    · rename_i kvs
      obtain ⟨a, rfl, g⟩ := ry.dic
      have e' : ((if keyIn kvs x then some (dGet kvs x).isSome else none).map (!·)) = some k := e
      by_cases h : keyIn kvs x = true
      · rw [if_pos h] at e'
        cases e'
        exact .inr (.inl ⟨Z, kvs, x, a, rfl, g, h, VwV.rl (keyIn_ok h) rx, q⟩)
      · rw [if_neg h] at e'; cases e'
end
end Lt
namespace Lt
open PySem L2 PySem.Spec PyProof.Rows
def SO (X : Cx) (e : Expr) (f : Rho → Option (Od × Rho)) : Prop := ∃ t : TE, PE X e t ∧ ∀ (ρ : Rho) (σ : L2.St) (H : Hp) (Z : Addr → Prop) (o : Od) (ρ' : Rho) (Q : VK), Sta X.K H Z ρ σ → f ρ = some (o, ρ') →
  (∀ v H' Z', Sta X.K H' Z' ρ' σ → Stp (Ow ρ σ) (Ow ρ' σ) H Z H' Z' → OdV X.K H' Z' ρ' σ o v → NewV H o v → Q v H') → t σ H Q
def ST (X : Cx) (e : Expr) (f : Rho → Option (Od × Rho)) : Prop := ∃ t : TT, PT X e t ∧ ∀ (ρ : Rho) (σ : L2.St) (H : Hp) (Z : Addr → Prop) (o : Od) (ρ' : Rho) (b : Bool) (Q : Bool → Hp → Prop), Sta X.K H Z ρ σ → f ρ = some (o, ρ') → testOd ρ' o = some b →
  (∀ H' Z', Sta X.K H' Z' ρ' σ → Stp (Ow ρ σ) (Ow ρ' σ) H Z H' Z' → Q b H') → t σ H Q
def SW (X : Cx) (e : Expr) (f : Rho → Option (Od × Rho)) : Prop := ∃ t : TT, PW X e t ∧ ∀ (ρ : Rho) (σ : L2.St) (H : Hp) (Z : Addr → Prop) (o : Od) (ρ' : Rho) (b : Bool) (Q : Bool → Hp → Prop), Sta X.K H Z ρ σ → f ρ = some (o, ρ') → testOd ρ' o = some b →
  (∀ H' Z', Sta X.K H' Z' ρ' σ → Stp (Ow ρ σ) (Ow ρ' σ) H Z H' Z' → Q b H') → t σ H Q
/-- an argument list's promise; of none it is the known one -/
def PAn (X : Cx) (es : List Expr) (t : TA) : Prop := PA X es t ∧ (es = [] → t = tNil)
def SA (X : Cx) (es : List Expr) (f : Rho → Option (List Od × Rho)) : Prop := ∃ t : TA, PAn X es t ∧ ∀ (ρ : Rho) (σ : L2.St) (H : Hp) (Z : Addr → Prop) (os : List Od) (ρ' : Rho) (Q : List V → Hp → Prop), Sta X.K H Z ρ σ → f ρ = some (os, ρ') →
  (∀ vs H' Z', Sta X.K H' Z' ρ' σ → Stp (Ow ρ σ) (Ow ρ' σ) H Z H' Z' → OdVs X.K H H' Z' ρ' σ os vs → Q vs H') → t σ H Q
theorem SW.t {X e f} (h : SW X e f) : ST X e f := by
  obtain ⟨t, p, q⟩ := h
  exact ⟨t, p.pt, q⟩
theorem bnd {α β : Type} {a : Option α} {f : α → Option β} {b : β} (h : a.bind f = some b) : ∃ x, a = some x ∧ f x = some b := by
  cases a with
  | none => cases h
  | some x => exact ⟨x, rfl, h⟩
theorem mpd {α β : Type} {a : Option α} {f : α → β} {b : β} (h : a.map f = some b) : ∃ x, a = some x ∧ f x = b := by
  cases a with
  | none => cases h
  | some x => exact ⟨x, rfl, Option.some.inj h⟩
theorem NewV.back {H H1 : Hp} {o : Od} {v : V} (n : NewV H1 o v) (h : ∀ a, H1 a = none → H a = none) : NewV H o v := by
  cases o with
  | v i => trivial
  | t c => exact fun a h1 h2 => h a (n a h1 h2)
section
variable {X : Cx} {T : Tab} {a b c : Expr} {pos : Pos}
theorem so_var {i : Nat} {x : Str} (hN : X.N[i]? = some x) (hv : Vis X.env.scope x) (hd : (x == ("__debug__" : Str)) = false) (hcd : (x == ("__classdict__" : Str)) = false) : SO X (.Name x pos) (ev T (.var i)) := by
  refine ⟨tVar i, pe_var hN hv hd hcd, fun ρ σ H Z o ρ' Q s e k => ?_⟩
  have e' : (match cellAt ρ i with
    | .emp => none
    | _ => some (Od.v i, ρ)) = some (o, ρ') := e
  have hn : cellAt ρ i ≠ .emp := fun q => by rw [q] at e'; cases e'
  have e2 : (o, ρ') = (Od.v i, ρ) := by
    cases q : cellAt ρ i with
    | emp => exact (hn q).elim
    | _ => rw [q] at e'; exact (Option.some.inj e').symm
  cases e2
  obtain ⟨v, e1, c⟩ := s.at_ i hn
  exact ⟨v, e1, k v H Z s Stp.refl e1 trivial⟩
theorem so_pure {e : Expr} {v : V} {d : D} (p : PE X e (tC v)) (r : ∀ H Z, Rl X.K H Z d v) : SO X e (fun ρ => some (.t (.dat d), ρ)) := by
  refine ⟨tC v, p, fun ρ σ H Z o ρ' Q s e k => ?_⟩
  cases e
  exact k v H Z s Stp.refl ⟨r H Z, fun _ h => nomatch h⟩ fun _ h => nomatch h
theorem so_int {i : Int} {j} : SO X (.Constant (.int i) j pos) (ev T (.con (.int i))) := so_pure pe_int fun _ _ => rfl
theorem so_bool {i : Bool} {j} : SO X (.Constant (.bool i) j pos) (ev T (.con (.bool i))) := so_pure pe_bl fun _ _ => rfl
theorem so_none {j} : SO X (.Constant .none j pos) (ev T (.con .none)) := so_pure pe_non fun _ _ => rfl
theorem so_str {i : Str} {j} : SO X (.Constant (.str i) j pos) (ev T (.con (.str i))) := so_pure pe_str fun _ _ => rfl
theorem so_glb {x : Str} {j : Nat} {d : D} {u : Value} {v : V} (hT : T.gl j = some d) (hg : Gl X x) (hm : X.mg x = some u) (r : RelV v u) (hr : ∀ H Z, Rl X.K H Z d v) (hd : (x == ("__debug__" : Str)) = false) : SO X (.Name x pos) (ev T (.glb j)) := by
  have h := so_pure (pe_glob (pos := pos) hg hm r hd) hr
  obtain ⟨t, p, q⟩ := h
  refine ⟨t, p, fun ρ σ H Z o ρ' Q s e k => q ρ σ H Z o ρ' Q s ?_ k⟩
  have e' : (T.gl j).map (fun d => (Od.t (.dat d), ρ)) = some (o, ρ') := e
  rw [hT] at e'
  exact e'
/-- both evaluated, from the left -/
theorem two {fa fb : Rho → Option (Od × Rho)} {ta tb : TE}
    (ha : ∀ (ρ : Rho) (σ : L2.St) (H : Hp) (Z : Addr → Prop) (o : Od) (ρ' : Rho) (Q : VK), Sta X.K H Z ρ σ → fa ρ = some (o, ρ') → (∀ v H' Z', Sta X.K H' Z' ρ' σ → Stp (Ow ρ σ) (Ow ρ' σ) H Z H' Z' → OdV X.K H' Z' ρ' σ o v → NewV H o v → Q v H') → ta σ H Q)
    (hb : ∀ (ρ : Rho) (σ : L2.St) (H : Hp) (Z : Addr → Prop) (o : Od) (ρ' : Rho) (Q : VK), Sta X.K H Z ρ σ → fb ρ = some (o, ρ') → (∀ v H' Z', Sta X.K H' Z' ρ' σ → Stp (Ow ρ σ) (Ow ρ' σ) H Z H' Z' → OdV X.K H' Z' ρ' σ o v → NewV H o v → Q v H') → tb σ H Q)
    {ρ ρ1 ρ2 : Rho} {σ : L2.St} {H : Hp} {Z : Addr → Prop} {x y : Od} {R : V → V → Hp → Prop} (s : Sta X.K H Z ρ σ) (ea : fa ρ = some (x, ρ1)) (eb : fb ρ1 = some (y, ρ2))
    (k : ∀ v w H' Z', Sta X.K H' Z' ρ2 σ → Stp (Ow ρ σ) (Ow ρ2 σ) H Z H' Z' → OdV X.K H' Z' ρ2 σ x v → OdV X.K H' Z' ρ2 σ y w → NewV H x v → NewV H y w → R v w H') : ta σ H fun v H1 => tb σ H1 fun w H2 => R v w H2 := by
  refine ha ρ σ H Z x ρ1 _ s ea fun v H1 Z1 s1 p1 r1 n1 => ?_
  refine hb ρ1 σ H1 Z1 y ρ2 _ s1 eb fun w H2 Z2 s2 p2 r2 n2 => ?_
  exact k v w H2 Z2 s2 (p1.trans p2) (r1.stp s1 p2) r2 n1 (n2.back fun a h => p1.none_ h)
theorem Fin_.of {K : PySem.W.Frag} {W : Addr → Prop} {H0 : Hp} {Z0 : Addr → Prop} {ρ : Rho} {σ : L2.St} {c : Cell} {Q : VK} (k : ∀ v H' Z', Sta K H' Z' ρ σ → Stp W (Ow ρ σ) H0 Z0 H' Z' → OdV K H' Z' ρ σ (.t c) v → NewV H0 (.t c) v → Q v H') : Fin_ K W H0 Z0 ρ σ c Q :=
  fun u H' Z' s p r n => k u H' Z' s p r n
theorem so_bin {op : Operator} {ia ib : Ex} (ha : SO X a (ev T ia)) (hb : SO X b (ev T ib)) : SO X (.BinOp a op b pos) (ev T (.bin op ia ib)) := by
  obtain ⟨ta, pa, qa⟩ := ha
  obtain ⟨tb, pb, qb⟩ := hb
  refine ⟨tOp (rBin X.K op) ta tb, pe_op (op_bin op) pa pb, fun ρ σ H Z o ρ' Q s e k => ?_⟩
  obtain ⟨⟨x, ρ1⟩, e1, e⟩ := bnd (show (ev T ia ρ).bind _ = some _ from e)
  obtain ⟨⟨y, ρ2⟩, e2, e⟩ := bnd e
  obtain ⟨dx, e3, e⟩ := bnd e
  obtain ⟨dy, e4, e⟩ := bnd e
  obtain ⟨c, e5, e⟩ := mpd e
  cases e
  refine two qa qb s e1 e2 fun v w H2 Z2 s2 p2 r1 r2 _ _ => ?_
  exact bin_ok e5 (r1.vw s2 e3) (r2.vw s2 e4) p2 s2 (Fin_.of k)
theorem so_neg {ia : Ex} (ha : SO X a (ev T ia)) : SO X (.UnaryOp .USub a pos) (ev T (.neg ia)) := by
  obtain ⟨ta, pa, qa⟩ := ha
  refine ⟨_, pe_un un_neg pa, fun ρ σ H Z o ρ' Q s e k => ?_⟩
  obtain ⟨⟨x, ρ1⟩, e1, e⟩ := bnd (show (ev T ia ρ).bind _ = some _ from e)
  obtain ⟨dx, e3, e⟩ := bnd e
  refine qa ρ σ H Z x ρ1 _ s e1 fun v H1 Z1 s1 p1 r1 n1 => ?_
  cases dx <;> (try cases (show none = some _ from e))
  rename_i i
  cases (show some _ = some (o, ρ') from e)
  cases (VwV.int (r1.vw s1 e3))
  exact ⟨i, rfl, (Fin_.of k).same p1 s1 rfl⟩
theorem so_cmp (hu : X.A.units + 65 < cLine) {op : CmpOp} {ia ib : Ex} (ha : SO X a (ev T ia)) (hb : SO X b (ev T ib)) (hm : behindInMarks op b = false) : SO X (.Compare a [op] [b] pos) (ev T (.cmp op ia ib)) := by
  obtain ⟨ta, pa, qa⟩ := ha
  obtain ⟨tb, pb, qb⟩ := hb
  refine ⟨tOp (rCmp X.K op) ta tb, pe_cmpR (op_cmp hu op) pa pb hm, fun ρ σ H Z o ρ' Q s e k => ?_⟩
  obtain ⟨⟨x, ρ1⟩, e1, e⟩ := bnd (show (ev T ia ρ).bind _ = some _ from e)
  obtain ⟨⟨y, ρ2⟩, e2, e⟩ := bnd e
  obtain ⟨dx, e3, e⟩ := bnd e
  obtain ⟨dy, e4, e⟩ := bnd e
  refine two qa qb s e1 e2 fun v w H2 Z2 s2 p2 r1 r2 _ _ => ?_
  obtain ⟨kk, e5, e⟩ := mpd e
  cases e
  exact cmp_ok e5 (r1.vw s2 e3) (r2.vw s2 e4) ((Fin_.of k).same p2 s2 rfl)
theorem so_chn (hu : X.A.units + 65 < cLine) {op op' : CmpOp} {ia ib ic : Ex} (ha : SO X a (ev T ia)) (hb : SO X b (ev T ib)) (hc : SO X c (ev T ic)) (hm : lastMarks [op, op'] [b, c] = false) : SO X (.Compare a [op, op'] [b, c] pos) (ev T (.chn op op' ia ib ic)) := by
  obtain ⟨ta, pa, qa⟩ := ha
  obtain ⟨tb, pb, qb⟩ := hb
  obtain ⟨tc, pc, qc⟩ := hc
  refine ⟨_, pe_chain (op_cmp hu op) (op_cmp hu op') pa pb pc hm, fun ρ σ H Z o ρ' Q s e k => ?_⟩
  obtain ⟨⟨x, ρ1⟩, e1, e⟩ := bnd (show (ev T ia ρ).bind _ = some _ from e)
  obtain ⟨⟨y, ρ2⟩, e2, e⟩ := bnd e
  obtain ⟨dx, e3, e⟩ := bnd e
  obtain ⟨dy, e4, e⟩ := bnd e
  obtain ⟨kk, e5, e⟩ := bnd e
  refine two qa qb s e1 e2 fun v w H2 Z2 s2 p2 r1 r2 _ _ => ?_
  refine cmp_ok e5 (r1.vw s2 e3) (r2.vw s2 e4) ⟨kk, rfl, ?_⟩
  cases kk with
  | false =>
    cases e
    exact (Fin_.of k).same p2 s2 rfl
  | true =>
    obtain ⟨⟨z, ρ3⟩, e6, e⟩ := bnd (show (ev T ic ρ2).bind _ = some _ from e)
    obtain ⟨dy', e7, e⟩ := bnd e
    obtain ⟨dz, e8, e⟩ := bnd e
    obtain ⟨k', e9, e⟩ := mpd e
    cases e
    refine qc ρ2 σ H2 Z2 z ρ3 _ s2 e6 fun u H3 Z3 s3 p3 r3 _ => ?_
    exact cmp_ok e9 ((r2.stp s2 p3).vw s3 e7) (r3.vw s3 e8) ((Fin_.of k).same (p2.trans p3) s3 rfl)
end
end Lt
namespace Lt
open PySem L2 PySem.Spec PyProof.Rows
section
variable {X : Cx} {T : Tab} {a b c e : Expr} {es : List Expr} {pos : Pos}
theorem testOd_v {K : PySem.W.Frag} {H : Hp} {Z : Addr → Prop} {ρ : Rho} {σ : L2.St} {o : Od} {v : V} {k : Bool} (r : OdV K H Z ρ σ o v) (s : Sta K H Z ρ σ) (h : testOd ρ o = some k) : v = .bl k := by
  obtain ⟨w, e1, e2⟩ := bnd h
  obtain ⟨c, e3, cv⟩ := r.cell s e1
  cases w <;> (try cases e2)
  cases c <;> (try cases e3)
  exact cv
theorem st_of (h : SO X e (ev T i)) (he : ∀ whole, isTrue e X.env whole = (do let v ← whole; standAt e.pos; holding [v] (truthy v))) : ST X e (ev T i) := by
  obtain ⟨t, p, q⟩ := h
  refine ⟨_, pt_val p he, fun ρ σ H Z o ρ' b Q s e1 e2 k => ?_⟩
  refine q ρ σ H Z o ρ' _ s e1 fun v H1 Z1 s1 p1 r1 _ => ?_
  exact ⟨b, testOd_v r1 s1 e2, k H1 Z1 s1 p1⟩
theorem st_cmp (hu : X.A.units + 65 < cLine) {op : CmpOp} {ia ib : Ex} (ha : SO X a (ev T ia)) (hb : SO X b (ev T ib)) (hm : behindInMarks op b = false) : ST X (.Compare a [op] [b] pos) (ev T (.cmp op ia ib)) := by
  obtain ⟨ta, pa, qa⟩ := ha
  obtain ⟨tb, pb, qb⟩ := hb
  refine ⟨_, pt_cmpR (op_cmp hu op) pa pb hm, fun ρ σ H Z o ρ' k0 Q s e et k => ?_⟩
  obtain ⟨⟨x, ρ1⟩, e1, e⟩ := bnd (show (ev T ia ρ).bind _ = some _ from e)
  obtain ⟨⟨y, ρ2⟩, e2, e⟩ := bnd e
  obtain ⟨dx, e3, e⟩ := bnd e
  obtain ⟨dy, e4, e⟩ := bnd e
  refine two qa qb s e1 e2 fun v w H2 Z2 s2 p2 r1 r2 _ _ => ?_
  obtain ⟨kk, e5, e⟩ := mpd e
  cases e
  cases (show some kk = some k0 from et)
  exact cmp_ok e5 (r1.vw s2 e3) (r2.vw s2 e4) ⟨_, rfl, k _ _ s2 p2⟩
theorem st_chn (hu : X.A.units + 65 < cLine) {op op' : CmpOp} {ia ib ic : Ex} (ha : SO X a (ev T ia)) (hb : SO X b (ev T ib)) (hc : SO X c (ev T ic)) (hm : lastMarks [op, op'] [b, c] = false) : ST X (.Compare a [op, op'] [b, c] pos) (ev T (.chn op op' ia ib ic)) := by
  obtain ⟨ta, pa, qa⟩ := ha
  obtain ⟨tb, pb, qb⟩ := hb
  obtain ⟨tc, pc, qc⟩ := hc
  refine ⟨_, pt_chain (op_cmp hu op) (op_cmp hu op') pa pb pc hm, fun ρ σ H Z o ρ' k0 Q s e et k => ?_⟩
  obtain ⟨⟨x, ρ1⟩, e1, e⟩ := bnd (show (ev T ia ρ).bind _ = some _ from e)
  obtain ⟨⟨y, ρ2⟩, e2, e⟩ := bnd e
  obtain ⟨dx, e3, e⟩ := bnd e
  obtain ⟨dy, e4, e⟩ := bnd e
  obtain ⟨kk, e5, e⟩ := bnd e
  refine two qa qb s e1 e2 fun v w H2 Z2 s2 p2 r1 r2 _ _ => ?_
  refine cmp_ok e5 (r1.vw s2 e3) (r2.vw s2 e4) ⟨kk, rfl, ?_⟩
  cases kk with
  | false =>
    cases e
    cases (show some false = some k0 from et)
    exact ⟨_, rfl, k _ _ s2 p2⟩
  | true =>
    obtain ⟨⟨z, ρ3⟩, e6, e⟩ := bnd (show (ev T ic ρ2).bind _ = some _ from e)
    obtain ⟨dy', e7, e⟩ := bnd e
    obtain ⟨dz, e8, e⟩ := bnd e
    obtain ⟨k', e9, e⟩ := mpd e
    cases e
    cases (show some k' = some k0 from et)
    refine qc ρ2 σ H2 Z2 z ρ3 _ s2 e6 fun u H3 Z3 s3 p3 r3 _ => ?_
    exact cmp_ok e9 ((r2.stp s2 p3).vw s3 e7) (r3.vw s3 e8) ⟨_, rfl, k _ _ s3 (p2.trans p3)⟩
theorem st_not {ia : Ex} (ha : ST X a (ev T ia)) : ST X (.UnaryOp .Not a pos) (ev T (.not ia)) := by
  obtain ⟨ta, pa, qa⟩ := ha
  refine ⟨_, pt_not pa, fun ρ σ H Z o ρ' k0 Q s e et k => ?_⟩
  obtain ⟨⟨x, ρ1⟩, e1, e⟩ := bnd (show (ev T ia ρ).bind _ = some _ from e)
  obtain ⟨kk, e2, e⟩ := mpd e
  cases e
  cases (show some (!kk) = some k0 from et)
  exact qa ρ σ H Z x ρ1 kk _ s e1 e2 k
theorem sw_and1 {ia : Ex} (ha : ST X a (ev T ia)) : SW X (.BoolOp .And [a] pos) (ev T ia) := by
  obtain ⟨ta, pa, qa⟩ := ha
  exact ⟨ta, pw_and1 pa, qa⟩
theorem sw_or1 {ia : Ex} (ha : ST X a (ev T ia)) : SW X (.BoolOp .Or [a] pos) (ev T ia) := by
  obtain ⟨ta, pa, qa⟩ := ha
  exact ⟨ta, pw_or1 pa, qa⟩
theorem sw_and {ia ib : Ex} (ha : ST X a (ev T ia)) (hb : SW X (.BoolOp .And (b :: es) pos) (ev T ib)) : SW X (.BoolOp .And (a :: b :: es) pos) (ev T (.and ia ib)) := by
  obtain ⟨ta, pa, qa⟩ := ha
  obtain ⟨tb, pb, qb⟩ := hb
  refine ⟨_, pw_and pa pb, fun ρ σ H Z o ρ' k0 Q s e et k => ?_⟩
  obtain ⟨⟨x, ρ1⟩, e1, e⟩ := bnd (show (ev T ia ρ).bind _ = some _ from e)
  obtain ⟨kk, e2, e⟩ := bnd e
  refine qa ρ σ H Z x ρ1 kk _ s e1 e2 fun H1 Z1 s1 p1 => ?_
  cases kk with
  | false =>
    cases e
    cases (show some false = some k0 from et)
    exact k _ _ s1 p1
  | true =>
    obtain ⟨⟨y, ρ2⟩, e3, e⟩ := bnd (show (ev T ib ρ1).bind _ = some _ from e)
    obtain ⟨k', e4, e⟩ := mpd e
    cases e
    cases (show some k' = some k0 from et)
    exact qb ρ1 σ H1 Z1 y ρ2 _ _ s1 e3 e4 fun H2 Z2 s2 p2 => k _ _ s2 (p1.trans p2)
theorem sw_or {ia ib : Ex} (ha : ST X a (ev T ia)) (hb : SW X (.BoolOp .Or (b :: es) pos) (ev T ib)) : SW X (.BoolOp .Or (a :: b :: es) pos) (ev T (.or ia ib)) := by
  obtain ⟨ta, pa, qa⟩ := ha
  obtain ⟨tb, pb, qb⟩ := hb
  refine ⟨_, pw_or pa pb, fun ρ σ H Z o ρ' k0 Q s e et k => ?_⟩
  obtain ⟨⟨x, ρ1⟩, e1, e⟩ := bnd (show (ev T ia ρ).bind _ = some _ from e)
  obtain ⟨kk, e2, e⟩ := bnd e
  refine qa ρ σ H Z x ρ1 kk _ s e1 e2 fun H1 Z1 s1 p1 => ?_
  cases kk with
  | true =>
    cases e
    cases (show some true = some k0 from et)
    exact k _ _ s1 p1
  | false =>
    obtain ⟨⟨y, ρ2⟩, e3, e⟩ := bnd (show (ev T ib ρ1).bind _ = some _ from e)
    obtain ⟨k', e4, e⟩ := mpd e
    cases e
    cases (show some k' = some k0 from et)
    exact qb ρ1 σ H1 Z1 y ρ2 _ _ s1 e3 e4 fun H2 Z2 s2 p2 => k _ _ s2 (p1.trans p2)
/-- the same as values; the right one of both must be True or False, too -/
theorem so_not {ia : Ex} (ha : SO X a (ev T ia)) : SO X (.UnaryOp .Not a pos) (ev T (.not ia)) := by
  obtain ⟨ta, pa, qa⟩ := ha
  refine ⟨_, pe_not pa, fun ρ σ H Z o ρ' Q s e k => ?_⟩
  obtain ⟨⟨x, ρ1⟩, e1, e⟩ := bnd (show (ev T ia ρ).bind _ = some _ from e)
  obtain ⟨kk, e2, e⟩ := mpd e
  cases e
  refine qa ρ σ H Z x ρ1 _ s e1 fun v H1 Z1 s1 p1 r1 _ => ?_
  exact ⟨kk, testOd_v r1 s1 e2, (Fin_.of k).same p1 s1 rfl⟩
/-- an operand that is a bool, as the whole value -/
def SB (X : Cx) (e : Expr) (f : Rho → Option (Od × Rho)) : Prop := ∃ t : TE, PE X e t ∧ ∀ (ρ : Rho) (σ : L2.St) (H : Hp) (Z : Addr → Prop) (o : Od) (ρ' : Rho) (b : Bool) (Q : VK), Sta X.K H Z ρ σ → f ρ = some (o, ρ') → testOd ρ' o = some b →
  (∀ H' Z', Sta X.K H' Z' ρ' σ → Stp (Ow ρ σ) (Ow ρ' σ) H Z H' Z' → Q (.bl b) H') → t σ H Q
theorem SO.sb {f} (h : SO X e f) : SB X e f := by
  obtain ⟨t, p, q⟩ := h
  refine ⟨t, p, fun ρ σ H Z o ρ' b Q s e1 e2 k => q ρ σ H Z o ρ' Q s e1 fun v H1 Z1 s1 p1 r1 _ => ?_⟩
  rw [testOd_v r1 s1 e2]
  exact k H1 Z1 s1 p1
theorem sb_one {op} {ia : Ex} (h : SB X a (ev T ia)) : SB X (.BoolOp op [a] pos) (ev T ia) := by
  obtain ⟨t, p, q⟩ := h
  exact ⟨t, pe_one p, q⟩
theorem sb_and {ia ib : Ex} (ha : SB X a (ev T ia)) (hb : SB X (.BoolOp .And (b :: es) pos) (ev T ib)) : SB X (.BoolOp .And (a :: b :: es) pos) (ev T (.and ia ib)) := by
  obtain ⟨ta, pa, qa⟩ := ha
  obtain ⟨tb, pb, qb⟩ := hb
  refine ⟨_, pe_and pa pb, fun ρ σ H Z o ρ' k0 Q s e et k => ?_⟩
  obtain ⟨⟨x, ρ1⟩, e1, e⟩ := bnd (show (ev T ia ρ).bind _ = some _ from e)
  obtain ⟨kk, e2, e⟩ := bnd e
  refine qa ρ σ H Z x ρ1 kk _ s e1 e2 fun H1 Z1 s1 p1 => ⟨kk, rfl, ?_⟩
  cases kk with
  | false =>
    cases e
    cases (show some false = some k0 from et)
    exact k _ _ s1 p1
  | true =>
    obtain ⟨⟨y, ρ2⟩, e3, e⟩ := bnd (show (ev T ib ρ1).bind _ = some _ from e)
    obtain ⟨k', e4, e⟩ := mpd e
    cases e
    cases (show some k' = some k0 from et)
    exact qb ρ1 σ H1 Z1 y ρ2 _ _ s1 e3 e4 fun H2 Z2 s2 p2 => k _ _ s2 (p1.trans p2)
theorem sb_or {ia ib : Ex} (ha : SB X a (ev T ia)) (hb : SB X (.BoolOp .Or (b :: es) pos) (ev T ib)) : SB X (.BoolOp .Or (a :: b :: es) pos) (ev T (.or ia ib)) := by
  obtain ⟨ta, pa, qa⟩ := ha
  obtain ⟨tb, pb, qb⟩ := hb
  refine ⟨_, pe_or pa pb, fun ρ σ H Z o ρ' k0 Q s e et k => ?_⟩
  obtain ⟨⟨x, ρ1⟩, e1, e⟩ := bnd (show (ev T ia ρ).bind _ = some _ from e)
  obtain ⟨kk, e2, e⟩ := bnd e
  refine qa ρ σ H Z x ρ1 kk _ s e1 e2 fun H1 Z1 s1 p1 => ⟨kk, rfl, ?_⟩
  cases kk with
  | true =>
    cases e
    cases (show some true = some k0 from et)
    exact k _ _ s1 p1
  | false =>
    obtain ⟨⟨y, ρ2⟩, e3, e⟩ := bnd (show (ev T ib ρ1).bind _ = some _ from e)
    obtain ⟨k', e4, e⟩ := mpd e
    cases e
    cases (show some k' = some k0 from et)
    exact qb ρ1 σ H1 Z1 y ρ2 _ _ s1 e3 e4 fun H2 Z2 s2 p2 => k _ _ s2 (p1.trans p2)
/-- of such an and | or the value is a bool -/
theorem so_sb {i : Ex} (h : SB X e (ev T i)) (hb : ∀ ρ o ρ', ev T i ρ = some (o, ρ') → ∃ k, o = .t (.dat (.bool k))) : SO X e (ev T i) := by
  obtain ⟨t, p, q⟩ := h
  refine ⟨t, p, fun ρ σ H Z o ρ' Q s e1 k => ?_⟩
  obtain ⟨kk, rfl⟩ := hb ρ o ρ' e1
  exact q ρ σ H Z _ ρ' kk Q s e1 rfl fun H1 Z1 s1 p1 => (Fin_.of k).same p1 s1 rfl
theorem and_bool {ia ib : Ex} : ∀ ρ o ρ', ev T (.and ia ib) ρ = some (o, ρ') → ∃ k, o = .t (.dat (.bool k)) := fun ρ o ρ' e => by
  obtain ⟨⟨x, ρ1⟩, e1, e⟩ := bnd (show (ev T ia ρ).bind _ = some _ from e)
  obtain ⟨kk, e2, e⟩ := bnd e
  cases kk with
  | false => cases e; exact ⟨_, rfl⟩
  | true =>
    obtain ⟨⟨y, ρ2⟩, e3, e⟩ := bnd (show (ev T ib ρ1).bind _ = some _ from e)
    obtain ⟨k', e4, e⟩ := mpd e
    cases e
    exact ⟨_, rfl⟩
theorem or_bool {ia ib : Ex} : ∀ ρ o ρ', ev T (.or ia ib) ρ = some (o, ρ') → ∃ k, o = .t (.dat (.bool k)) := fun ρ o ρ' e => by
  obtain ⟨⟨x, ρ1⟩, e1, e⟩ := bnd (show (ev T ia ρ).bind _ = some _ from e)
  obtain ⟨kk, e2, e⟩ := bnd e
  cases kk with
  | true => cases e; exact ⟨_, rfl⟩
  | false =>
    obtain ⟨⟨y, ρ2⟩, e3, e⟩ := bnd (show (ev T ib ρ1).bind _ = some _ from e)
    obtain ⟨k', e4, e⟩ := mpd e
    cases e
    exact ⟨_, rfl⟩
theorem so_ifx {ic ia ib : Ex} (hc : ST X c (ev T ic)) (ha : SO X a (ev T ia)) (hb : SO X b (ev T ib)) : SO X (.IfExp c a b pos) (ev T (.ifx ic ia ib)) := by
  obtain ⟨tc, pc, qc⟩ := hc
  obtain ⟨ta, pa, qa⟩ := ha
  obtain ⟨tb, pb, qb⟩ := hb
  refine ⟨_, pe_ifExp pc pa pb, fun ρ σ H Z o ρ' Q s e k => ?_⟩
  obtain ⟨⟨x, ρ1⟩, e1, e⟩ := bnd (show (ev T ic ρ).bind _ = some _ from e)
  obtain ⟨kk, e2, e⟩ := bnd e
  refine qc ρ σ H Z x ρ1 kk _ s e1 e2 fun H1 Z1 s1 p1 => ?_
  cases kk with
  | true => exact qa ρ1 σ H1 Z1 o ρ' Q s1 e fun v H2 Z2 s2 p2 r2 n2 => k v H2 Z2 s2 (p1.trans p2) r2 (n2.back fun a h => p1.none_ h)
  | false => exact qb ρ1 σ H1 Z1 o ρ' Q s1 e fun v H2 Z2 s2 p2 r2 n2 => k v H2 Z2 s2 (p1.trans p2) r2 (n2.back fun a h => p1.none_ h)
theorem sa_nil : SA X [] (evs T .nil) := by
  refine ⟨tNil, ⟨pa_nil, fun _ => rfl⟩, fun ρ σ H Z os ρ' Q s e k => ?_⟩
  cases (show some ([], ρ) = some (os, ρ') from e)
  exact k [] H Z s Stp.refl rfl
theorem OdVs.stp {K : PySem.W.Frag} {H0 H H' : Hp} {Z Z' : Addr → Prop} {ρ ρ' : Rho} {σ : L2.St} (s : Sta K H Z ρ σ) (p : Stp (Ow ρ σ) (Ow ρ' σ) H Z H' Z') : ∀ {os : List Od} {vs : List V}, OdVs K H0 H Z ρ σ os vs → OdVs K H0 H' Z' ρ' σ os vs
  | [], _, r => r
  | o :: os, _, ⟨v, r, e, hv, hn, hf, q⟩ => ⟨v, r, e, hv.stp s p, hn, hf, OdVs.stp s p q⟩
theorem OdVs.back {K : PySem.W.Frag} {H0 H1 H : Hp} {Z : Addr → Prop} {ρ : Rho} {σ : L2.St} (h : ∀ a, H1 a = none → H0 a = none) : ∀ {os : List Od} {vs : List V}, OdVs K H1 H Z ρ σ os vs → OdVs K H0 H Z ρ σ os vs
  | [], _, r => r
  | o :: os, _, ⟨v, r, e, hv, hn, hf, q⟩ => ⟨v, r, e, hv, hn.back h, hf, OdVs.back h q⟩
/-- what was there ahead is none of the new ones -/
theorem OdVs.old {K : PySem.W.Frag} {H1 H : Hp} {Z : Addr → Prop} {ρ : Rho} {σ : L2.St} {a : Addr} {ob : HO} (h : H1 a = some ob) : ∀ {os : List Od} {vs : List V}, OdVs K H1 H Z ρ σ os vs → OwF a os vs
  | [], _, _ => trivial
  | o :: os, _, ⟨v, r, e, hv, hn, hf, q⟩ => by
    rw [e]
    refine ⟨?_, OdVs.old h q⟩
    rintro ⟨c, e1, e2, e3⟩
    subst e1
    have := hn a e2 e3
    rw [h] at this
    cases this
theorem sa_cons {i : Ex} {is : Exs} (ha : SO X a (ev T i)) (hr : SA X es (evs T is)) (hs : starEach (a :: es) X.env = (false, eval a X.env) :: starEach es X.env) : SA X (a :: es) (evs T (.cons i is)) := by
  obtain ⟨ta, pa, qa⟩ := ha
  obtain ⟨tr, pr, qr⟩ := hr
  refine ⟨tCons ta tr, ⟨pa_cons pa pr.1 hs, fun h => nomatch h⟩, fun ρ σ H Z os ρ' Q s e k => ?_⟩
  obtain ⟨⟨o, ρ1⟩, e1, e⟩ := bnd (show (ev T i ρ).bind _ = some _ from e)
  obtain ⟨⟨os', ρ2⟩, e2, e⟩ := mpd e
  cases e
  refine qa ρ σ H Z o ρ1 _ s e1 fun v H1 Z1 s1 p1 r1 n1 => ?_
  refine qr ρ1 σ H1 Z1 os' ρ2 _ s1 e2 fun vs H2 Z2 s2 p2 r2 => ?_
  refine k (v :: vs) H2 Z2 s2 (p1.trans p2) ⟨v, vs, rfl, r1.stp s1 p2, n1, fun a w => ?_, r2.back fun a h => p1.none_ h⟩
  obtain ⟨c, e3, e4, e5⟩ := w
  subst e3
  obtain ⟨ob, h⟩ := r1.1.dm e4 e5
  exact r2.old h
def Exs.len : Exs → Nat
  | .nil => 0
  | .cons _ es => es.len + 1
theorem evs_len : ∀ {is : Exs} {ρ ρ' : Rho} {os : List Od}, evs T is ρ = some (os, ρ') → os.length = is.len
  | .nil, _, _, _, e => by cases (show some _ = some _ from e); rfl
  | .cons i is, ρ, ρ', os, e => by
    obtain ⟨⟨o, ρ1⟩, e1, e⟩ := bnd (show (ev T i ρ).bind _ = some _ from e)
    obtain ⟨⟨os', ρ2⟩, e2, e⟩ := mpd e
    cases e
    rw [List.length_cons, evs_len e2]; rfl
theorem frzs_len : ∀ {os : List Od} {ρ ρ' : Rho} {ds : List D}, frzs ρ os = some (ds, ρ') → ds.length = os.length
  | [], _, _, _, e => by cases (show some _ = some _ from e); rfl
  | o :: os, ρ, ρ', ds, e => by
    obtain ⟨⟨d, ρ1⟩, e1, e⟩ := bnd (show (frz ρ o).bind _ = some _ from e)
    obtain ⟨⟨ds', ρ2⟩, e2, e⟩ := mpd e
    cases e
    rw [List.length_cons, List.length_cons, frzs_len e2]
theorem so_tup {is : Exs} {k0} (h : SA X es (evs T is)) (hl : is.len ≤ 1000) : SO X (.Tuple es k0 pos) (ev T (.tup is)) := by
  obtain ⟨t, p, q⟩ := h
  refine ⟨_, pe_tupF p.1, fun ρ σ H Z o ρ' Q s e k => ?_⟩
  obtain ⟨⟨os, ρ1⟩, e1, e⟩ := bnd (show (evs T is ρ).bind _ = some _ from e)
  obtain ⟨⟨ds, ρ2⟩, e2, e⟩ := mpd e
  cases e
  refine q ρ σ H Z os ρ1 _ s e1 fun vs H1 Z1 s1 p1 r1 => ?_
  obtain ⟨Z2, p2, s2, r2, _⟩ := frzs_ok p1 s1 r1 e2
  have l1 : os.length = is.len := evs_len e1
  have l2 : ds.length = os.length := frzs_len e2
  have l3 := r1.length
  have hz : (1000 : Nat) ≤ sizeLine := by rw [sizeLine_eq]; decide
  exact ⟨by omega, (Fin_.of k).tup p2 s2 r2 (show ds.length ≤ sizeLine by omega)⟩
theorem so_lst {is : Exs} (h : SA X es (evs T is)) (hl : is.len ≤ 1000) : SO X (.List es pos) (ev T (.lst is)) := by
  obtain ⟨t, p, q⟩ := h
  refine ⟨_, pe_lst p.1, fun ρ σ H Z o ρ' Q s e k => ?_⟩
  obtain ⟨⟨os, ρ1⟩, e1, e⟩ := bnd (show (evs T is ρ).bind _ = some _ from e)
  obtain ⟨⟨ds, ρ2⟩, e2, e⟩ := mpd e
  cases e
  refine q ρ σ H Z os ρ1 _ s e1 fun vs H1 Z1 s1 p1 r1 => ?_
  obtain ⟨Z2, p2, s2, r2, _⟩ := frzs_ok p1 s1 r1 e2
  have l1 : os.length = is.len := evs_len e1
  have l2 : ds.length = os.length := frzs_len e2
  have l3 := r1.length
  have hz : (1000 : Nat) ≤ sizeLine := by rw [sizeLine_eq]; decide
  exact ⟨by omega, (Fin_.of k).lst p2 s2 r2 (show ds.length ≤ sizeLine by omega)⟩
end
end Lt
namespace Lt
open PySem L2 PySem.Spec PyProof.Rows
section
variable {K : PySem.W.Frag} {H : Hp} {Z : Addr → Prop}
theorem atI_rl {ds : List D} {vs : List V} {i : Int} {d : D} (h : atI ds i = some d) (r : Rls K H Z ds vs) : ∃ v, atI vs i = some v ∧ Rl K H Z d v := by
  unfold atI at h ⊢
  rw [r.length]
  obtain ⟨j, e1, e2⟩ := bnd h
  obtain ⟨v, e3, e4⟩ := r.get e2
  rw [e1]
  exact ⟨v, e3, e4⟩
theorem Rls.cut {ds : List D} {vs : List V} (lo hi : Option Int) (r : Rls K H Z ds vs) : Rls K H Z (cutD ds lo hi) (cutV vs lo hi) := by
  unfold cutD cutV
  rw [r.length]
  exact (r.drop _).take _
/-- views of several -/
def VwVs (K : PySem.W.Frag) (H : Hp) (Z : Addr → Prop) : List D → List V → Prop
  | [], vs => vs = []
  | d :: ds, vs => ∃ v r, vs = v :: r ∧ VwV K H Z d v ∧ VwVs K H Z ds r
theorem OdVs.vws {H0 : Hp} {ρ : Rho} {σ : L2.St} (s : Sta K H Z ρ σ) : ∀ {os : List Od} {vs : List V} {ds : List D}, OdVs K H0 H Z ρ σ os vs → lookDs ρ os = some ds → VwVs K H Z ds vs
  | [], _, _, r, e => by cases (show some [] = some _ from e); exact r
  | o :: os, _, _, ⟨v, r, e, hv, _, _, q⟩, h => by
    obtain ⟨d, e1, h⟩ := bnd (show (lookD ρ o).bind _ = some _ from h)
    obtain ⟨ds, e2, h⟩ := mpd h
    cases h
    exact ⟨v, r, e, hv.vw s e1, OdVs.vws s q e2⟩
end
section
variable {X : Cx} {T : Tab} {a b c e : Expr} {es : List Expr} {pos : Pos}
/-- d[k] -/
def rIxK (K : PySem.W.Frag) : R2 := fun x y H Q => ∃ (Z : Addr → Prop) (kvs : List (D × D)) (d e : D) (a : Addr), x = .ref a ∧ DicR K H Z kvs a ∧ keyIn kvs d = true ∧ Rl K H Z d y ∧ dGet kvs d = some e ∧ ∀ u, Rl K H Z e u → Q u H
theorem ix_dic (hu : X.A.units + 65 < cLine) : IxR X (rIxK X.K) := by
  intro value slice pins s σ H x y v u Q I rx ry h hs
  obtain ⟨Z, kvs, d, e, a, rfl, g, hd, rb, he, q⟩ := h
  obtain rfl : v = Value.ref a := rx
  obtain ⟨_, _, o, _, _, _, _, _, _, ho, hx, _⟩ := g.open_ I
  exact tail_any ⟨o, ho, hx.1⟩ slot_dict_getitem.lookup (d_getItem2 hu I g hd rb ry he fun v u s' inv' ru ry => ⟨v, H, inv', ru, q v ry⟩) hs
theorem so_idx (hu : X.A.units + 65 < cLine) {ia ib : Ex} (ha : SO X a (ev T ia)) (hb : SO X b (ev T ib)) (hp : PlainIx b) : SO X (.Subscript a b pos) (ev T (.idx ia ib)) := by
  obtain ⟨ta, pa, qa⟩ := ha
  obtain ⟨tb, pb, qb⟩ := hb
  refine ⟨_, pe_ix (ix_list.or (ix_tup.or ((ix_dic hu).or ix_str))) pa pb hp, fun ρ σ H Z o ρ' Q s e k => ?_⟩
  obtain ⟨⟨x, ρ1⟩, e1, e⟩ := bnd (show (ev T ia ρ).bind _ = some _ from e)
  obtain ⟨⟨y, ρ2⟩, e2, e⟩ := bnd e
  obtain ⟨dx, e3, e⟩ := bnd e
  obtain ⟨dy, e4, e⟩ := bnd e
  refine two qa qb s e1 e2 fun v w H2 Z2 s2 p2 r1 r2 _ _ => ?_
  obtain ⟨d, e5, e⟩ := mpd e
  cases e
  have rx : VwV X.K H2 Z2 dx v := r1.vw s2 e3
  have ry := r2.vw s2 e4
  cases dx with
  | dict kvs =>
    have e' : (if keyIn kvs dy then dGet kvs dy else none) = some d := e5
    by_cases h : keyIn kvs dy = true
    · rw [if_pos h] at e'
      obtain ⟨a0, rfl, g⟩ := rx.dic
      have ry := VwV.rl (keyIn_ok h) ry
      exact .inr (.inr (.inl ⟨Z2, kvs, dy, d, a0, rfl, g, h, ry, e', fun u ru => (Fin_.of k).same p2 s2 ru⟩))
    · rw [if_neg h] at e'; cases e'
  | list xs =>
    cases dy <;> (try (cases (show none = some d from e5)))
    rename_i i
    cases (VwV.int ry)
    obtain ⟨p, vs, rfl, h, _, rr⟩ := rx.lst
    obtain ⟨u, e6, e7⟩ := atI_rl (show atI xs i = some d from e5) rr
    exact .inl ⟨p, vs, i, u, rfl, rfl, h, e6, (Fin_.of k).same p2 s2 e7⟩
  | tuple xs =>
    cases dy <;> (try (cases (show none = some d from e5)))
    rename_i i
    cases (VwV.int ry)
    obtain ⟨p, vs, rfl, h, _, rr⟩ := rx.tup
    obtain ⟨u, e6, e7⟩ := atI_rl (show atI xs i = some d from e5) rr
    exact .inr (.inl ⟨p, vs, i, u, rfl, rfl, h, e6, (Fin_.of k).same p2 s2 e7⟩)
  | str z =>
    cases dy <;> (try (cases (show none = some d from e5)))
    rename_i i
    cases (VwV.int ry)
    cases (show v = V.str z from rx)
    have e' : (if z.length ≤ 16777216 then (atI z.cps.toList i).map fun c => PyData.str ⟨#[c]⟩ else none) = some d := e5
    by_cases h : z.length ≤ 16777216
    · rw [if_pos h] at e'
      obtain ⟨c, e6, e7⟩ := mpd e'
      subst e7
      exact .inr (.inr (.inr ⟨z, i, c, rfl, rfl, (by rw [sizeLine_eq]; exact h), e6, (Fin_.of k).same p2 s2 rfl⟩))
    · rw [if_neg h] at e'; cases e'
  | _ => cases (show none = some d from e5)
def SP_ (X : Cx) (e : Option Expr) (f : Rho → Option (Option Int × Rho)) : Prop := ∃ t : TO, PO X e t ∧ ∀ (ρ : Rho) (σ : L2.St) (H : Hp) (Z : Addr → Prop) (o : Option Int) (ρ' : Rho) (Q : Option Int → Hp → Prop), Sta X.K H Z ρ σ → f ρ = some (o, ρ') →
  (∀ H' Z', Sta X.K H' Z' ρ' σ → Stp (Ow ρ σ) (Ow ρ' σ) H Z H' Z' → Q o H') → t σ H Q
theorem sp_no : SP_ X none (evo T .no) := by
  refine ⟨_, po_none, fun ρ σ H Z o ρ' Q s e k => ?_⟩
  cases (show some (none, ρ) = some (o, ρ') from e)
  exact k H Z s Stp.refl
theorem sp_so {ia : Ex} (ha : SO X a (ev T ia)) : SP_ X (some a) (evo T (.so ia)) := by
  obtain ⟨ta, pa, qa⟩ := ha
  refine ⟨_, po_some pa, fun ρ σ H Z o ρ' Q s e k => ?_⟩
  obtain ⟨⟨x, ρ1⟩, e1, e⟩ := bnd (show (ev T ia ρ).bind _ = some _ from e)
  obtain ⟨dx, e3, e⟩ := bnd e
  refine qa ρ σ H Z x ρ1 _ s e1 fun v H1 Z1 s1 p1 r1 _ => ?_
  cases dx <;> (try cases (show none = some _ from e))
  rename_i i
  cases (show some _ = some (o, ρ') from e)
  exact ⟨i, VwV.int (r1.vw s1 e3), k H1 Z1 s1 p1⟩
theorem so_slc {ia : Ex} {lo hi : Option Expr} {il ih : Oex} {p2 : Pos} (ha : SO X a (ev T ia)) (hl : SP_ X lo (evo T il)) (hh : SP_ X hi (evo T ih)) : SO X (.Subscript a (.Slice lo hi none p2) pos) (ev T (.slc ia il ih)) := by
  obtain ⟨ta, pa, qa⟩ := ha
  obtain ⟨tl, pl, ql⟩ := hl
  obtain ⟨th, ph, qh⟩ := hh
  refine ⟨_, pe_slice (sl_list.or (sl_tupF.or sl_str)) pa pl ph, fun ρ σ H Z o ρ' Q s e k => ?_⟩
  obtain ⟨⟨x, ρ1⟩, e1, e⟩ := bnd (show (ev T ia ρ).bind _ = some _ from e)
  obtain ⟨⟨l, ρ2⟩, e2, e⟩ := bnd e
  obtain ⟨⟨h, ρ3⟩, e3, e⟩ := bnd e
  obtain ⟨dx, e4, e⟩ := bnd e
  obtain ⟨c, e5, e⟩ := mpd e
  cases e
  refine qa ρ σ H Z x ρ1 _ s e1 fun v H1 Z1 s1 p1 r1 _ => ?_
  refine ql ρ1 σ H1 Z1 l ρ2 _ s1 e2 fun H2 Z2 s2 p2 => ?_
  refine qh ρ2 σ H2 Z2 h ρ3 _ s2 e3 fun H3 Z3 s3 p3 => ?_
  have rx := ((r1.stp s1 p2).stp s2 p3).vw s3 e4
  have pp := (p1.trans p2).trans p3
  have hc : ∀ {α : Type} (xs : List α) (q : Option Int → Nat → Nat), True := fun _ _ => trivial
  cases dx <;> (try (cases (show none = some c from e5)))
  · rename_i z
    cases (show _ = V.str z from rx)
    have e' : (if z.length ≤ 16777216 then some (Cell.dat (.str (cutS z l h))) else none) = some c := e5
    by_cases hz : z.length ≤ 16777216
    · rw [if_pos hz] at e'
      cases e'
      exact .inr (.inr ⟨z, rfl, (by rw [sizeLine_eq]; exact hz), (Fin_.of k).same pp s3 rfl⟩)
    · rw [if_neg hz] at e'; cases e'
  · rename_i xs
    cases (show some _ = some c from e5)
    obtain ⟨p, vs, rfl, hp, hlen, rr⟩ := rx.lst
    refine .inl ⟨p, vs, rfl, hp, (Fin_.of k).lst pp s3 (rr.cut l h) ?_⟩
    have h1 := cutV_length vs l h
    have h2 := (rr.cut l h).length
    have h3 := rr.length
    show (cutD xs l h).length ≤ sizeLine
    omega
  · rename_i xs
    cases (show some _ = some c from e5)
    obtain ⟨p, vs, rfl, hp, hlen, rr⟩ := rx.tup
    have h1 := cutV_length vs l h
    have h2 := (rr.cut l h).length
    have h3 := rr.length
    refine .inr (.inl ⟨p, vs, rfl, hp, fun hw => ?_, (Fin_.of k).tup pp s3 (rr.cut l h) (show (cutD xs l h).length ≤ sizeLine by omega)⟩)
    have hx : cutD xs l h = xs := by
      unfold cutD
      rw [h3] at hw
      rw [hw.1, hw.2, List.drop_zero]
      exact List.take_of_length_le (by omega)
    have kk := Fin_.of k
    rw [hx] at kk
    exact kk.same pp s3 rx
theorem maxI_spec : ∀ (r : List Int) (m x : Int), x ∈ m :: r → (∀ y ∈ m :: r, y ≤ x) → maxI m r = x
  | [], m, x, h, _ => (List.mem_singleton.mp h).symm
  | y :: r, m, x, h, hle => by
    unfold maxI
    have h1 := hle m (by simp)
    have h2 := hle y (by simp)
    refine maxI_spec r _ x ?_ fun z hz => ?_
    · rcases List.mem_cons.mp h with e | h
      · subst e
        by_cases c : y > x
        · omega
        · rw [if_neg c]; simp
      · rcases List.mem_cons.mp h with e | h
        · subst e
          by_cases c : x > m
          · rw [if_pos c]; simp
          · rw [if_neg c]
            have : m = x := by omega
            subst this; simp
        · exact List.mem_cons_of_mem _ h
    · rcases List.mem_cons.mp hz with e | hz
      · subst e; split <;> omega
      · exact hle z (by simp [hz])
theorem minI_spec : ∀ (r : List Int) (m x : Int), x ∈ m :: r → (∀ y ∈ m :: r, x ≤ y) → minI m r = x
  | [], m, x, h, _ => (List.mem_singleton.mp h).symm
  | y :: r, m, x, h, hle => by
    unfold minI
    have h1 := hle m (by simp)
    have h2 := hle y (by simp)
    refine minI_spec r _ x ?_ fun z hz => ?_
    · rcases List.mem_cons.mp h with e | h
      · subst e
        by_cases c : y < x
        · omega
        · rw [if_neg c]; simp
      · rcases List.mem_cons.mp h with e | h
        · subst e
          by_cases c : x < m
          · rw [if_pos c]; simp
          · rw [if_neg c]
            have : m = x := by omega
            subst this; simp
        · exact List.mem_cons_of_mem _ h
    · rcases List.mem_cons.mp hz with e | hz
      · subst e; split <;> omega
      · exact hle z (by simp [hz])
/-- a built-in's rule r does what bltD says -/
def BltOk (K : PySem.W.Frag) (f : Bf) (r : List V → Hp → VK → Prop) : Prop := ∀ {W : Addr → Prop} {H0 H : Hp} {Z0 Z : Addr → Prop} {ρ : Rho} {σ : L2.St} {Q : VK} {ds : List D} {vs : List V} {c : Cell},
  bltD f ds = some c → VwVs K H Z ds vs → Stp W (Ow ρ σ) H0 Z0 H Z → Sta K H Z ρ σ → Fin_ K W H0 Z0 ρ σ c Q → r vs H Q
theorem so_blt {f : Bf} {x : Str} {p : Pos} {r : List V → Hp → VK → Prop} {is : Exs} (ok : BltOk X.K f r) (pc : ∀ {t : TA}, PAn X es t → PE X (.Call (.Name x p) es [] pos) (tCB r t)) (h : SA X es (evs T is)) : SO X (.Call (.Name x p) es [] pos) (ev T (.blt f is)) := by
  obtain ⟨t, pt, qt⟩ := h
  refine ⟨_, pc pt, fun ρ σ H Z o ρ' Q s e k => ?_⟩
  obtain ⟨⟨os, ρ1⟩, e1, e⟩ := bnd (show (evs T is ρ).bind _ = some _ from e)
  obtain ⟨c, e3, e⟩ := mpd e
  cases e
  refine qt ρ σ H Z os ρ1 _ s e1 fun vs H1 Z1 s1 p1 r1 => ?_
  obtain ⟨ds, e2, e4⟩ := bnd (show (lookDs ρ1 os).bind (bltD f) = some c from e3)
  exact ok e4 (r1.vws s1 e2) p1 s1 (Fin_.of k)
theorem vw1 {K : PySem.W.Frag} {H : Hp} {Z : Addr → Prop} {d : D} {vs : List V} (h : VwVs K H Z [d] vs) : ∃ v, vs = [v] ∧ VwV K H Z d v := by
  obtain ⟨v, r, rfl, h1, h2⟩ := h
  cases (show r = [] from h2)
  exact ⟨v, rfl, h1⟩
theorem vw2 {K : PySem.W.Frag} {H : Hp} {Z : Addr → Prop} {d d' : D} {vs : List V} (h : VwVs K H Z [d, d'] vs) : ∃ v w, vs = [v, w] ∧ VwV K H Z d v ∧ VwV K H Z d' w := by
  obtain ⟨v, r, rfl, h1, h2⟩ := h
  obtain ⟨w, rfl, h3⟩ := vw1 h2
  exact ⟨v, w, rfl, h1, h3⟩
end
section
variable {K : PySem.W.Frag}
theorem blt_len : BltOk K .len (fun xs H Q => ∃ x n, xs = [x] ∧ LenV K x H n ∧ Q (.int n) H) := by
  intro W H0 H Z0 Z ρ σ Q ds vs c e r p s f
  match ds, e, r with
  | [.list xs], e, r =>
    cases (show some _ = some c from e)
    obtain ⟨v, rfl, rv⟩ := vw1 r
    obtain ⟨a, ws, rfl, h, _, rr⟩ := rv.lst
    exact ⟨_, xs.length, rfl, .inl ⟨ws, h, rr.length.symm⟩, f.same p s rfl⟩
  | [.tuple xs], e, r =>
    cases (show some _ = some c from e)
    obtain ⟨v, rfl, rv⟩ := vw1 r
    obtain ⟨a, ws, rfl, h, _, rr⟩ := rv.tup
    exact ⟨_, xs.length, rfl, .inr ⟨ws, h, rr.length.symm⟩, f.same p s rfl⟩
  | [.str x], e, r =>
    have e' : (if x.length ≤ 16777216 then some (Cell.dat (.int x.length)) else none) = some c := e
    by_cases h : x.length ≤ 16777216
    · rw [if_pos h] at e'
      cases e'
      obtain ⟨v, rfl, rv⟩ := vw1 r
      cases (show v = V.str x from rv)
      exact ⟨_, x.length, rfl, ⟨by rw [sizeLine_eq]; exact h, rfl⟩, f.same p s rfl⟩
    · rw [if_neg h] at e'; cases e'
  | [.dict _], e, _ => cases (show none = some c from e)
  | [.none], e, _ | [.bool _], e, _ | [.int _], e, _ | [], e, _ => cases (show none = some c from e)
  | _ :: _ :: _, e, _ => exact absurd e (by simp [bltD])
theorem blt_abs : BltOk K .abs (fun xs H Q => ∃ i, xs = [.int i] ∧ Q (.int (if i < 0 then -i else i)) H) := by
  intro W H0 H Z0 Z ρ σ Q ds vs c e r p s f
  match ds, e, r with
  | [.int i], e, r =>
    cases (show some _ = some c from e)
    obtain ⟨v, rfl, rv⟩ := vw1 r
    cases (VwV.int rv)
    exact ⟨i, rfl, f.same p s rfl⟩
  | [.none], e, _ | [.bool _], e, _ | [.list _], e, _ | [.tuple _], e, _ | [.dict _], e, _ | [.str _], e, _ | [], e, _ => cases (show none = some c from e)
  | _ :: _ :: _, e, _ => exact absurd e (by simp [bltD])
/-- int(text) -/
def rIntS : List V → Hp → VK → Prop := fun xs H Q => ∃ a n, xs = [.str a] ∧ PySem.intText? a = some n ∧ a.length ≤ 640 ∧ Q (.int n) H
def rInt1 : List V → Hp → VK → Prop := fun xs H Q => (∃ i, xs = [.int i] ∧ Q (.int i) H) ∨ ∃ k, xs = [.bl k] ∧ Q (.int (if k then 1 else 0)) H
def rStr1 : List V → Hp → VK → Prop := fun xs H Q => ∃ i, xs = [.int i] ∧ i.natAbs.log2 < 1920 ∧ Q (.str (toString i)) H
theorem blt_str : BltOk K .str rStr1 := by
  intro W H0 H Z0 Z ρ σ Q ds vs c e r p s f
  match ds, e, r with
  | [.int i], e, r =>
    have e' : (if i.natAbs.log2 < 1920 then some (Cell.dat (.str (toString i))) else none) = some c := e
    by_cases h : i.natAbs.log2 < 1920
    · rw [if_pos h] at e'
      cases e'
      obtain ⟨v, rfl, rv⟩ := vw1 r
      cases (VwV.int rv)
      exact ⟨i, rfl, h, f.same p s rfl⟩
    · rw [if_neg h] at e'; cases e'
  | [.none], e, _ | [.bool _], e, _ | [.list _], e, _ | [.tuple _], e, _ | [.dict _], e, _ | [.str _], e, _ | [], e, _ => cases (show none = some c from e)
  | _ :: _ :: _, e, _ => exact absurd e (by simp [bltD])
theorem blt_int : BltOk K .int (fun xs H Q => rInt1 xs H Q ∨ rIntS xs H Q) := by
  intro W H0 H Z0 Z ρ σ Q ds vs c e r p s f
  match ds, e, r with
  | [.int i], e, r =>
    cases (show some _ = some c from e)
    obtain ⟨v, rfl, rv⟩ := vw1 r
    cases (VwV.int rv)
    exact .inl (.inl ⟨i, rfl, f.same p s rfl⟩)
  | [.bool b], e, r =>
    cases (show some _ = some c from e)
    obtain ⟨v, rfl, rv⟩ := vw1 r
    cases (show _ = V.bl b from rv)
    exact .inl (.inr ⟨b, rfl, f.same p s rfl⟩)
  | [.str a], e, r =>
    have e' : (if a.length ≤ 640 then (PySem.intText? a).map fun n => Cell.dat (.int n) else none) = some c := e
    by_cases h : a.length ≤ 640
    · rw [if_pos h] at e'
      obtain ⟨n, h1, h2⟩ := mpd e'
      subst h2
      obtain ⟨v, rfl, rv⟩ := vw1 r
      cases (show v = V.str a from rv)
      exact .inr ⟨a, n, rfl, h1, h, f.same p s rfl⟩
    · rw [if_neg h] at e'; cases e'
  | [.none], e, _ | [.list _], e, _ | [.tuple _], e, _ | [.dict _], e, _ | [], e, _ => cases (show none = some c from e)
  | _ :: _ :: _, e, _ => exact absurd e (by simp [bltD])
def rMax2 (K : PySem.W.Frag) : List V → Hp → VK → Prop := fun xs H Q => (∃ i j, xs = [.int i, .int j] ∧ Q (.int (if j > i then j else i)) H) ∨ rMax K xs H Q
def rMin2 (K : PySem.W.Frag) : List V → Hp → VK → Prop := fun xs H Q => (∃ i j, xs = [.int i, .int j] ∧ Q (.int (if j < i then j else i)) H) ∨ rMin K xs H Q
theorem blt_max : BltOk K .max (rMax2 K) := by
  intro W H0 H Z0 Z ρ σ Q ds vs c e r p s f
  match ds, e, r with
  | [.int i, .int j], e, r =>
    cases (show some _ = some c from e)
    obtain ⟨v, w, rfl, rv, rw'⟩ := vw2 r
    cases (VwV.int rv)
    cases (VwV.int rw')
    exact .inl ⟨i, j, rfl, f.same p s rfl⟩
  | [.list xs], e, r =>
    obtain ⟨v, rfl, rv⟩ := vw1 r
    obtain ⟨a, ws, rfl, h, _, rr⟩ := rv.lst
    have e' : (match asInts xs with
      | some (m :: r) => some (Cell.dat (.int (maxI m r)))
      | _ => none) = some c := e
    cases q : asInts xs with
    | none => rw [q] at e'; cases e'
    | some ns =>
      rw [q] at e'
      cases ns with
      | nil => cases e'
      | cons m r =>
        cases e'
        refine .inr ⟨a, m :: r, rfl, ?_, Nat.succ_pos _, fun x hx hle => ?_⟩
        · rw [← rr.ints q]; exact h
        · have e2 := maxI_spec r m x hx hle
          rw [e2] at f
          exact f.same p s rfl
  | [], e, _ | [.none], e, _ | [.bool _], e, _ | [.int _], e, _ | [.str _], e, _ | [.tuple _], e, _ | [.dict _], e, _ => exact absurd e (by simp [bltD])
  | .none :: _ :: _, e, _ | .bool _ :: _ :: _, e, _ | .str _ :: _ :: _, e, _ | .list _ :: _ :: _, e, _ | .tuple _ :: _ :: _, e, _ | .dict _ :: _ :: _, e, _ => exact absurd e (by simp [bltD])
  | .int _ :: .none :: _, e, _ | .int _ :: .bool _ :: _, e, _ | .int _ :: .str _ :: _, e, _ | .int _ :: .list _ :: _, e, _ | .int _ :: .tuple _ :: _, e, _ | .int _ :: .dict _ :: _, e, _ => exact absurd e (by simp [bltD])
  | .int _ :: .int _ :: _ :: _, e, _ => exact absurd e (by simp [bltD])
theorem blt_min : BltOk K .min (rMin2 K) := by
  intro W H0 H Z0 Z ρ σ Q ds vs c e r p s f
  match ds, e, r with
  | [.int i, .int j], e, r =>
    cases (show some _ = some c from e)
    obtain ⟨v, w, rfl, rv, rw'⟩ := vw2 r
    cases (VwV.int rv)
    cases (VwV.int rw')
    exact .inl ⟨i, j, rfl, f.same p s rfl⟩
  | [.list xs], e, r =>
    obtain ⟨v, rfl, rv⟩ := vw1 r
    obtain ⟨a, ws, rfl, h, _, rr⟩ := rv.lst
    have e' : (match asInts xs with
      | some (m :: r) => some (Cell.dat (.int (minI m r)))
      | _ => none) = some c := e
    cases q : asInts xs with
    | none => rw [q] at e'; cases e'
    | some ns =>
      rw [q] at e'
      cases ns with
      | nil => cases e'
      | cons m r =>
        cases e'
        refine .inr ⟨a, m :: r, rfl, ?_, Nat.succ_pos _, fun x hx hle => ?_⟩
        · rw [← rr.ints q]; exact h
        · have e2 := minI_spec r m x hx hle
          rw [e2] at f
          exact f.same p s rfl
  | [], e, _ | [.none], e, _ | [.bool _], e, _ | [.int _], e, _ | [.str _], e, _ | [.tuple _], e, _ | [.dict _], e, _ => exact absurd e (by simp [bltD])
  | .none :: _ :: _, e, _ | .bool _ :: _ :: _, e, _ | .str _ :: _ :: _, e, _ | .list _ :: _ :: _, e, _ | .tuple _ :: _ :: _, e, _ | .dict _ :: _ :: _, e, _ => exact absurd e (by simp [bltD])
  | .int _ :: .none :: _, e, _ | .int _ :: .bool _ :: _, e, _ | .int _ :: .str _ :: _, e, _ | .int _ :: .list _ :: _, e, _ | .int _ :: .tuple _ :: _, e, _ | .int _ :: .dict _ :: _, e, _ => exact absurd e (by simp [bltD])
  | .int _ :: .int _ :: _ :: _, e, _ => exact absurd e (by simp [bltD])
theorem blt_sum : BltOk K .sum (rSum K) := by
  intro W H0 H Z0 Z ρ σ Q ds vs c e r p s f
  match ds, e, r with
  | [.list xs], e, r =>
    obtain ⟨v, rfl, rv⟩ := vw1 r
    obtain ⟨a, ws, rfl, h, _, rr⟩ := rv.lst
    obtain ⟨ns, e1, e2⟩ := mpd (show (asInts xs).map _ = some c from e)
    subst e2
    exact ⟨a, ns, rfl, by rw [← rr.ints e1]; exact h, f.same p s rfl⟩
  | [], e, _ | [.none], e, _ | [.bool _], e, _ | [.int _], e, _ | [.str _], e, _ | [.tuple _], e, _ | [.dict _], e, _ => exact absurd e (by simp [bltD])
  | _ :: _ :: _, e, _ => exact absurd e (by simp [bltD])
theorem blt_all : BltOk K .all (rAll K) := by
  intro W H0 H Z0 Z ρ σ Q ds vs c e r p s f
  match ds, e, r with
  | [.list xs], e, r =>
    obtain ⟨v, rfl, rv⟩ := vw1 r
    obtain ⟨a, ws, rfl, h, _, rr⟩ := rv.lst
    obtain ⟨ns, e1, e2⟩ := mpd (show (asBools xs).map _ = some c from e)
    subst e2
    exact ⟨a, ns, rfl, by rw [← rr.bools e1]; exact h, f.same p s rfl⟩
  | [], e, _ | [.none], e, _ | [.bool _], e, _ | [.int _], e, _ | [.str _], e, _ | [.tuple _], e, _ | [.dict _], e, _ => exact absurd e (by simp [bltD])
  | _ :: _ :: _, e, _ => exact absurd e (by simp [bltD])
theorem blt_any : BltOk K .any (rAny K) := by
  intro W H0 H Z0 Z ρ σ Q ds vs c e r p s f
  match ds, e, r with
  | [.list xs], e, r =>
    obtain ⟨v, rfl, rv⟩ := vw1 r
    obtain ⟨a, ws, rfl, h, _, rr⟩ := rv.lst
    obtain ⟨ns, e1, e2⟩ := mpd (show (asBools xs).map _ = some c from e)
    subst e2
    exact ⟨a, ns, rfl, by rw [← rr.bools e1]; exact h, f.same p s rfl⟩
  | [], e, _ | [.none], e, _ | [.bool _], e, _ | [.int _], e, _ | [.str _], e, _ | [.tuple _], e, _ | [.dict _], e, _ => exact absurd e (by simp [bltD])
  | _ :: _ :: _, e, _ => exact absurd e (by simp [bltD])
theorem blt_tuple : BltOk K .tuple (fun xs H Q => ∃ p ys, xs = [.ref p] ∧ ((SqL K H p ys ∧ NewT H Q ys) ∨ (SqT K H p ys ∧ Q (.ref p) H))) := by
  intro W H0 H Z0 Z ρ σ Q ds vs c e r p s f
  match ds, e, r with
  | [.list xs], e, r =>
    cases (show some _ = some c from e)
    obtain ⟨v, rfl, rv⟩ := vw1 r
    obtain ⟨a, ws, rfl, h, hl, rr⟩ := rv.lst
    exact ⟨a, ws, rfl, .inl ⟨h, f.tup p s rr hl⟩⟩
  | [.tuple xs], e, r =>
    cases (show some _ = some c from e)
    obtain ⟨v, rfl, rv⟩ := vw1 r
    obtain ⟨a, ws, e0, h, hl, rr⟩ := rv.tup
    subst e0
    exact ⟨a, ws, rfl, .inr ⟨h, f.same p s rv⟩⟩
  | [], e, _ | [.none], e, _ | [.bool _], e, _ | [.int _], e, _ | [.str _], e, _ | [.dict _], e, _ => exact absurd e (by simp [bltD])
  | _ :: _ :: _, e, _ => exact absurd e (by simp [bltD])
theorem blt_list : BltOk K .list (fun xs H Q => ∃ p ys, xs = [.ref p] ∧ (SqL K H p ys ∨ SqT K H p ys) ∧ ∀ l, H l = none → Q (.ref l) (upd H l (.lst ys))) := by
  intro W H0 H Z0 Z ρ σ Q ds vs c e r p s f
  match ds, e, r with
  | [.list xs], e, r =>
    cases (show some _ = some c from e)
    obtain ⟨v, rfl, rv⟩ := vw1 r
    obtain ⟨a, ws, rfl, h, hl, rr⟩ := rv.lst
    exact ⟨a, ws, rfl, .inl h, f.lst p s rr hl⟩
  | [.tuple xs], e, r =>
    cases (show some _ = some c from e)
    obtain ⟨v, rfl, rv⟩ := vw1 r
    obtain ⟨a, ws, e0, h, hl, rr⟩ := rv.tup
    subst e0
    exact ⟨a, ws, rfl, .inr h, f.lst p s rr hl⟩
  | [], e, _ | [.none], e, _ | [.bool _], e, _ | [.int _], e, _ | [.str _], e, _ | [.dict _], e, _ => exact absurd e (by simp [bltD])
  | _ :: _ :: _, e, _ => exact absurd e (by simp [bltD])
theorem blt_gcd : BltOk K .gcd rGcd := by
  intro W H0 H Z0 Z ρ σ Q ds vs c e r p s f
  match ds, e, r with
  | [.int i, .int j], e, r =>
    cases (show some _ = some c from e)
    obtain ⟨v, w, rfl, rv, rw'⟩ := vw2 r
    cases (VwV.int rv)
    cases (VwV.int rw')
    exact ⟨i, j, rfl, f.same p s rfl⟩
  | [], e, _ | [_], e, _ => exact absurd e (by simp [bltD])
  | .none :: _ :: _, e, _ | .bool _ :: _ :: _, e, _ | .str _ :: _ :: _, e, _ | .list _ :: _ :: _, e, _ | .tuple _ :: _ :: _, e, _ | .dict _ :: _ :: _, e, _ => exact absurd e (by simp [bltD])
  | .int _ :: .none :: _, e, _ | .int _ :: .bool _ :: _, e, _ | .int _ :: .str _ :: _, e, _ | .int _ :: .list _ :: _, e, _ | .int _ :: .tuple _ :: _, e, _ | .int _ :: .dict _ :: _, e, _ => exact absurd e (by simp [bltD])
  | .int _ :: .int _ :: _ :: _, e, _ => exact absurd e (by simp [bltD])
end
end Lt
namespace Lt
open PySem L2 PySem.Spec PyProof.Rows
theorem cellAt_set {ρ : Rho} {i : Nat} {c : Cell} (h : i < ρ.length) (j : Nat) : cellAt (ρ.set i c) j = if j = i then c else cellAt ρ j := by
  unfold cellAt
  rw [List.getD_eq_getElem?_getD, List.getD_eq_getElem?_getD]
  by_cases hj : j = i
  · subst hj
    rw [if_pos rfl, List.getElem?_set_self h]; rfl
  · rw [if_neg hj, List.getElem?_set_ne (Ne.symm hj)]
section
variable {K : PySem.W.Frag} {H : Hp} {Z : Addr → Prop} {ρ : Rho} {σ : L2.St}
/-- the list of slot i is written -/
theorem wr_okG {W0 : Addr → Prop} {H0 : Hp} {Z0 : Addr → Prop} (p : Stp W0 (Ow ρ σ) H0 Z0 H Z) (s : Sta K H Z ρ σ) {i : Nat} {c0 c' : Cell} {ob : HO} {a : Addr} (hi : cellAt ρ i = c0) (o0 : isOw c0 = true) (o1 : isOw c' = true) (hv : σ[i]? = some (some (.ref a)))
    (cv : Keep H Z (upd H a ob) Z → ¬ Z a → CellV K (upd H a ob) Z c' (.ref a)) :
    Stp W0 (Ow (ρ.set i c') σ) H0 Z0 (upd H a ob) Z ∧ Sta K (upd H a ob) Z (ρ.set i c') σ ∧ Keep H Z (upd H a ob) Z ∧ (∀ b, Ow (ρ.set i c') σ b ↔ Ow ρ σ b) := by
  have hlt : i < ρ.length := by rw [s.len]; exact (List.getElem?_eq_some_iff.mp hv).1
  have ca := cellAt_set (c := c') hlt
  have oa : Ow ρ σ a := ⟨i, by rw [hi]; exact o0, hv⟩
  have nz : ¬ Z a := s.nz oa
  obtain ⟨oo, ho⟩ := s.dm oa
  have isq : ∀ j, isOw (cellAt (ρ.set i c') j) = isOw (cellAt ρ j) := fun j => by
    rw [ca j]
    by_cases hj : j = i
    · rw [if_pos hj, hj, hi, o0, o1]
    · rw [if_neg hj]
  have oq : ∀ b, Ow (ρ.set i c') σ b ↔ Ow ρ σ b := fun b => ⟨fun ⟨j, h1, h2⟩ => ⟨j, by rw [← isq j]; exact h1, h2⟩, fun ⟨j, h1, h2⟩ => ⟨j, by rw [isq j]; exact h1, h2⟩⟩
  have kp : Keep H Z (upd H a ob) Z := ⟨fun b o z e => by rw [upd_ne (show b ≠ a from fun q => nz (by rw [← q]; exact z))]; exact e, fun _ z => z⟩
  have p1 : Stp (Ow ρ σ) (Ow (ρ.set i c') σ) H Z (upd H a ob) Z :=
    ⟨fun b o e n => ⟨by rw [upd_ne (show b ≠ a from fun q => n (by rw [q]; exact oa))]; exact e, fun z => z⟩, fun b o e => by
      by_cases hb : b = a
      · subst hb; exact ⟨_, upd_same⟩
      · rw [upd_ne hb]; exact ⟨o, e⟩, fun _ z => z, fun b w => .inl ((oq b).mp w)⟩
  refine ⟨p.trans p1, ⟨by rw [List.length_set]; exact s.len, fun j hj => ?_, fun j k b h1 h2 h3 h4 => s.inj j k b (by rw [← isq j]; exact h1) (by rw [← isq k]; exact h2) h3 h4, fun b z => ?_⟩, kp, oq⟩
  · rw [ca j] at hj ⊢
    by_cases hji : j = i
    · subst hji
      rw [if_pos rfl]
      exact ⟨.ref a, hv, cv kp nz⟩
    · rw [if_neg hji] at hj ⊢
      obtain ⟨u, e1, c⟩ := s.at_ j hj
      refine ⟨u, e1, ?_⟩
      cases qj : cellAt ρ j with
      | emp => exact (hj qj).elim
      | dat d' => rw [qj] at c; exact Rl.keep kp d' u c
      | dic kvs =>
        rw [qj] at c
        obtain ⟨b, e2, db⟩ := c
        have nba : b ≠ a := fun q => hji (s.inj j i a (by rw [qj]; rfl) (by rw [hi]; exact o0) (by rw [e1, e2, q]) hv)
        exact ⟨b, e2, db.move kp (fun o h => by rw [upd_ne nba]; exact h) db.nz⟩
      | own es =>
        rw [qj] at c
        obtain ⟨b, ws, e2, hb, nb, lb, rb⟩ := c
        have nba : b ≠ a := fun q => hji (s.inj j i a (by rw [qj]; rfl) (by rw [hi]; exact o0) (by rw [e1, e2, q]) hv)
        exact ⟨b, ws, e2, by rw [upd_ne nba]; exact hb, nb, lb, Rls.keep kp es ws rb⟩
  · obtain ⟨o, e⟩ := s.zd b z
    by_cases hb : b = a
    · exact absurd (show Z a by rw [← hb]; exact z) nz
    · rw [upd_ne hb]; exact ⟨o, e⟩
theorem wr_ok {W0 : Addr → Prop} {H0 : Hp} {Z0 : Addr → Prop} (p : Stp W0 (Ow ρ σ) H0 Z0 H Z) (s : Sta K H Z ρ σ) {i : Nat} {ds ds' : List D} {a : Addr} {vs' : List V} (hi : cellAt ρ i = .own ds) (hv : σ[i]? = some (some (.ref a)))
    (r : Rls K H Z ds' vs') (hl : ds'.length ≤ sizeLine) :
    Stp W0 (Ow (ρ.set i (.own ds')) σ) H0 Z0 (upd H a (.lst vs')) Z ∧ Sta K (upd H a (.lst vs')) Z (ρ.set i (.own ds')) σ ∧ Keep H Z (upd H a (.lst vs')) Z ∧ (∀ b, Ow (ρ.set i (.own ds')) σ b ↔ Ow ρ σ b) :=
  wr_okG p s hi rfl rfl hv fun kp nz => ⟨a, vs', rfl, upd_same, nz, hl, Rls.keep kp ds' vs' r⟩
end
/-- of which built-in type the value is, as a method's call asks -/
def tyG (K : PySem.W.Frag) (T : String) (x : V) (H : Hp) : Prop := match x with
  | .ref p => (T = "list" ∧ ∃ xs, SqL K H p xs) ∨ (T = "tuple" ∧ ((∃ ob vs, H p = some (.frz ob (.tup vs)) ∧ ob.dict = none) ∨ ∃ o, K.lookup p = some o ∧ o.cls = .type "tuple" ∧ o.dict = none))
  | _ => False
theorem tyG_is {X : Cx} {pins : List (Addr × Obj)} {σ : L2.St} {H : Hp} {s : Shared} {T : String} {x : V} {v : Value} (inv : Inv X pins σ H s) (r : RelV x v) (ty : tyG X.K T x H) :
    s.TypeIs v T ∧ ∀ a, v = .ref a → ∃ ob, s.heap.get? a = some ob ∧ ob.dict = none := by
  cases x with
  | ref p =>
    cases r
    rcases ty with ⟨rfl, xs, hq⟩ | ⟨rfl, ⟨ob, vs, h, hd⟩ | ⟨o, h, hc, hd⟩⟩
    · exact tyV_is inv (x := .ref p) rfl (.inl ⟨rfl, xs, hq⟩)
    · obtain ⟨e, z, its, rel, o', e', hc, _⟩ := inv.hok p _ h
      rw [e] at e'
      cases e'
      exact ⟨⟨ob, e, hc⟩, fun a q => by cases q; exact ⟨ob, e, hd⟩⟩
    · exact ⟨⟨o, inv.kIn p o h, hc⟩, fun a q => by cases q; exact ⟨o, inv.kIn p o h, hd⟩⟩
  | _ => exact ty.elim
def MtAlt (X : Cx) (name : Str) (T id : String) (r : V → List V → Hp → VK → Prop) : Prop := PlainAttrs T ∧ Slot T name id ∧ typeOf (.builtin id) = pure (.type "method_descriptor") ∧ MtR X id r
def tMG (X : Cx) (name : Str) (to : TE) (t : TA) : TE := fun σ H Q => to σ H fun x H1 => ∃ T id r, MtAlt X name T id r ∧ tyG X.K T x H1 ∧ t σ H1 fun xs H2 => r x xs H2 Q
section
variable {X : Cx} {T : Tab} {a b c e o : Expr} {es : List Expr} {pos apos cpos : Pos} {name : Str} {to : TE} {t : TA}
theorem pe_mg0 (ho : PE X o to) (hbase : attributeBase o name X.env (eval o X.env) = eval o X.env) (hline : (apos.endLine == cpos.line) = true) : PE X (.Call (.Attribute o name apos) [] [] cpos) (tMG X name to tNil) := by
  constructor
  intro pins s σ H Q inv want
  refine wpAny_Call_method0_late hbase hline (thn (ho.run pins s σ H _ inv want) ?_)
  rintro v s1 ⟨x, H1, inv1, rel, T, id, r, ⟨pa, sl, ty, mt⟩, tg, q⟩
  obtain ⟨h1, h2⟩ := tyG_is inv1 rel tg
  exact ⟨T, id, pa, sl, ty, h1, h2, Calls.callWith_builtin rfl (PySem.evalArgs_none (mt pins s1 σ H1 x [] v [] Q inv1 rel .nil q))⟩
theorem pe_mg1 (ho : PE X o to) (ha : PA X [e] t) (hs : starEach [e] X.env = [(false, eval e X.env)]) (hbase : attributeBase o name X.env (eval o X.env) = eval o X.env) (hline : (apos.endLine == cpos.line) = true) : PE X (.Call (.Attribute o name apos) [e] [] cpos) (tMG X name to t) := by
  constructor
  intro pins s σ H Q inv want
  have htrees : backTo cpos (starEach [e] X.env) = [(false, eval e X.env)] := by rw [hs]; rfl
  refine wpAny_Call_method1_late hbase hline htrees (thn (ho.run pins s σ H _ inv want) ?_)
  rintro v s1 ⟨x, H1, inv1, rel, T, id, r, ⟨pa, sl, ty, mt⟩, tg, q⟩
  obtain ⟨h1, h2⟩ := tyG_is inv1 rel tg
  have hA := ha.run cpos pins s1 σ H1 _ inv1 q
  rw [htrees] at hA
  refine ⟨T, id, pa, sl, ty, h1, h2, Calls.callWith_builtin rfl (Calls.evalArgs_plain (thn hA ?_))⟩
  rintro us s2 ⟨vs, H2, inv2, rel2, q2⟩
  exact mt pins s2 σ H2 x vs v us Q inv2 rel rel2 q2
end
end Lt
namespace Lt
open PySem L2 PySem.Spec PyProof.Rows
/-- a method's rule r does what mthOwn says of the list at a -/
def OwnOk (K : PySem.W.Frag) (m : Mf) (r : V → List V → Hp → VK → Prop) : Prop := ∀ {H : Hp} {Z : Addr → Prop} {Q : VK} {xs xs' ds : List D} {c : Cell} {a : Addr} {ws vs : List V},
  mthOwn m xs ds = some (c, xs') → H a = some (.lst ws) → Rls K H Z xs ws → xs.length ≤ sizeLine → Rls K H Z ds vs →
  (∀ u ws', Rls K H Z xs' ws' → xs'.length ≤ sizeLine → (∃ d, c = .dat d ∧ Rl K H Z d u) → Q u (upd H a (.lst ws'))) → r (.ref a) vs H Q
theorem own_append {K : PySem.W.Frag} : OwnOk K .append rAppend := by
  intro H Z Q xs xs' ds c a ws vs e h r hl rd k
  match ds, e, rd with
  | [d], e, rd =>
    obtain ⟨v, t, rfl, h1, h2⟩ := rd
    cases (show t = [] from h2)
    have e' : (if xs.length < 16777216 then some (Cell.dat .none, xs ++ [d]) else none) = some (c, xs') := e
    by_cases hz : xs.length < 16777216
    · rw [if_pos hz] at e'
      cases e'
      have hz' : xs.length < sizeLine := by rw [sizeLine_eq]; exact hz
      exact ⟨a, ws, v, rfl, rfl, h, by rw [r.length]; exact hz', k _ _ (r.append (Rls.cons h1 Rls.nil)) (by rw [List.length_append, List.length_singleton]; omega) ⟨_, rfl, rfl⟩⟩
    · rw [if_neg hz] at e'; cases e'
  | [], e, _ => cases (show none = some (c, xs') from e)
  | _ :: _ :: _, e, _ => cases (show none = some (c, xs') from e)
theorem own_extend {K : PySem.W.Frag} : OwnOk K .extend (rExtendL K) := by
  intro H Z Q xs xs' ds c a ws vs e h r hl rd k
  match ds, e, rd with
  | [.list ys], e, rd =>
    obtain ⟨v, t, rfl, h1, h2⟩ := rd
    cases (show t = [] from h2)
    obtain ⟨b, us, rfl, hb, lb, rb⟩ := h1
    have e' : (if xs.length + ys.length ≤ 16777216 then some (Cell.dat .none, xs ++ ys) else none) = some (c, xs') := e
    by_cases hz : xs.length + ys.length ≤ 16777216
    · rw [if_pos hz] at e'
      cases e'
      have hz' : xs.length + ys.length ≤ sizeLine := by rw [sizeLine_eq]; exact hz
      have l1 := r.length
      have l2 := rb.length
      exact ⟨a, b, ws, us, rfl, rfl, h, hb.sq, by omega, k _ _ (r.append rb) (by rw [List.length_append]; exact hz') ⟨_, rfl, rfl⟩⟩
    · rw [if_neg hz] at e'; cases e'
  | [], e, _ | [.none], e, _ | [.bool _], e, _ | [.int _], e, _ | [.str _], e, _ | [.tuple _], e, _ | [.dict _], e, _ => cases (show none = some (c, xs') from e)
  | _ :: _ :: _, e, _ => exact absurd e (by simp [mthOwn])
theorem own_pop {K : PySem.W.Frag} : OwnOk K .pop rPop := by
  intro H Z Q xs xs' ds c a ws vs e h r hl rd k
  match ds, e, rd with
  | [], e, rd =>
    cases (show vs = [] from rd)
    obtain ⟨y, e1, e2⟩ := mpd (show (xs[xs.length - 1]?).map _ = some (c, xs') from e)
    cases e2
    obtain ⟨v, h1, h2⟩ := r.get e1
    refine ⟨a, ws, v, rfl, rfl, h, by rw [r.length]; exact h1, k _ _ r.dropLast (by rw [List.length_dropLast]; omega) ⟨_, rfl, h2⟩⟩
  | _ :: _, e, _ => cases (show none = some (c, xs') from e)
theorem own_reverse {K : PySem.W.Frag} : OwnOk K .reverse rReverse := by
  intro H Z Q xs xs' ds c a ws vs e h r hl rd k
  match ds, e, rd with
  | [], e, rd =>
    cases (show vs = [] from rd)
    cases (show some _ = some (c, xs') from e)
    exact ⟨a, ws, rfl, rfl, h, k _ _ r.reverse (by rw [List.length_reverse]; omega) ⟨_, rfl, rfl⟩⟩
  | _ :: _, e, _ => cases (show none = some (c, xs') from e)
section
variable {X : Cx}
theorem own_alt : ∀ {m : Mf}, isMut m = true → ∃ id r, MtAlt X m.nm "list" id r ∧ OwnOk X.K m r
  | .append, _ => ⟨_, _, ⟨F.plainAttrs_list, F.slot_list_append, F.type_list_append, mt_append⟩, own_append⟩
  | .extend, _ => ⟨_, _, ⟨F.plainAttrs_list, F.slot_list_extend, F.type_list_extend, mt_extendL⟩, own_extend⟩
  | .pop, _ => ⟨_, _, ⟨F.plainAttrs_list, F.slot_list_pop, F.type_list_pop, mt_pop⟩, own_pop⟩
  | .reverse, _ => ⟨_, _, ⟨F.plainAttrs_list, F.slot_list_reverse, F.type_list_reverse, mt_reverse⟩, own_reverse⟩
  | .count, h => absurd h Bool.false_ne_true
  | .index, h => absurd h Bool.false_ne_true
variable {T : Tab} {a b c e o : Expr} {es : List Expr} {pos apos cpos : Pos} {name : Str}
theorem so_mut {m : Mf} (hm : isMut m = true) {ia : Ex} {is : Exs} (ho : SO X o (ev T ia)) (hs : SA X es (evs T is)) (pc : ∀ {to : TE} {t : TA}, PE X o to → PAn X es t → PE X (.Call (.Attribute o m.nm apos) es [] cpos) (tMG X m.nm to t)) :
    SO X (.Call (.Attribute o m.nm apos) es [] cpos) (ev T (.mth m ia is)) := by
  obtain ⟨to, po, qo⟩ := ho
  obtain ⟨t, pt, qt⟩ := hs
  obtain ⟨id, r, alt, ok⟩ := own_alt (X := X) hm
  refine ⟨_, pc po pt, fun ρ σ H Z od ρ' Q s e k => ?_⟩
  obtain ⟨⟨x, ρ1⟩, e1, e⟩ := bnd (show (ev T ia ρ).bind _ = some _ from e)
  rw [if_pos hm] at e
  cases x with
  | t c => cases e
  | v i =>
    have e' : (match cellAt ρ1 i with
          | .own _ => (evs T is ρ1).bind fun q => (frzs q.2 q.1).bind fun u => (match cellAt u.2 i with
            | .own xs => (mthOwn m xs u.1).map fun w => (Od.t w.1, u.2.set i (.own w.2))
            | _ => none)
          | _ => none) = some (od, ρ') := e
    clear e
    cases q1 : cellAt ρ1 i with
    | emp => rw [q1] at e'; cases e'
    | dat d => rw [q1] at e'; cases e'
    | dic kvs => rw [q1] at e'; cases e'
    | own xs1 =>
      rw [q1] at e'
      obtain ⟨⟨os, ρ2⟩, e2, e'⟩ := bnd e'
      obtain ⟨⟨ds, ρ3⟩, e3, e'⟩ := bnd e'
      refine qo ρ σ H Z (.v i) ρ1 _ s e1 fun v H1 Z1 s1 p1 r1 _ => ?_
      have hv : σ[i]? = some (some v) := r1
      obtain ⟨u, e4, cv⟩ := s1.at_ i (by rw [q1]; intro z; cases z)
      rw [hv] at e4
      cases e4
      rw [q1] at cv
      obtain ⟨a, ws1, rfl, h1, _, _, _⟩ := cv
      refine ⟨"list", id, r, alt, .inl ⟨rfl, ws1, .inl (.inl h1)⟩, ?_⟩
      refine qt ρ1 σ H1 Z1 os ρ2 _ s1 e2 fun vs H2 Z2 s2 p2 r2 => ?_
      obtain ⟨Z3, p3, s3, r3, z3, _, _⟩ := frzs_ok (p1.trans p2) s2 (r2.back fun a h => p1.none_ h) e3
      have e5 : (match cellAt ρ3 i with
            | .own xs => (mthOwn m xs ds).map fun w => (Od.t w.1, ρ3.set i (.own w.2))
            | _ => none) = some (od, ρ') := e'
      cases q3 : cellAt ρ3 i with
      | emp => rw [q3] at e5; cases e5
      | dat d => rw [q3] at e5; cases e5
      | dic kvs => rw [q3] at e5; cases e5
      | own xs =>
        rw [q3] at e5
        obtain ⟨⟨c, xs'⟩, e6, e7⟩ := mpd e5
        cases e7
        obtain ⟨u, e8, cv3⟩ := s3.at_ i (by rw [q3]; intro z; cases z)
        rw [hv] at e8
        cases e8
        rw [q3] at cv3
        obtain ⟨a', ws, ea, ha, nz, hl, rr⟩ := cv3
        cases ea
        refine ok e6 ha rr hl r3 fun u ws' rw' hl' ⟨d, ec, rd⟩ => ?_
        subst ec
        obtain ⟨p4, s4, kp, oq⟩ := wr_ok p3 s3 q3 hv rw' hl'
        exact k u _ Z3 s4 p4 ⟨Rl.keep kp d u rd, fun _ h => nomatch h⟩ fun _ h => nomatch h
end
end Lt
namespace Lt
open PySem L2 PySem.Spec PyProof.Rows
def rCountD (K : PySem.W.Frag) (tp : Bool) : V → List V → Hp → VK → Prop := fun x xs H Q => ∃ (a : Addr) (y : V) (d : D) (ds : List D), x = .ref a ∧ xs = [y] ∧ Dp K H (.ref a) (if tp then .tuple ds else .list ds) ∧ Dp K H y d ∧
  PyData.plainAll ds = true ∧ d.plain = true ∧ PyData.depthAll ds ≤ 64 ∧ Q (.int (ds.countP fun z => PyData.eqv z d : Nat)) H
section
variable {X : Cx}
theorem mt_countD (hu : X.A.units + 65 < cLine) (tp : Bool) : MtR X (if tp then "tuple.count" else "list.count") (rCountD X.K tp) := by
  rintro pins s σ H x xs vx us Q inv relx rels ⟨a, y, d, ds, rfl, rfl, hl, hy, pl, pd, dp, q⟩
  cases relx
  obtain ⟨u, rfl, ru⟩ := rels.one
  obtain ⟨bs, ry⟩ := Dp.reads inv d y u hy ru
  have room : X.A.units + 1 + min (PyData.depthAll ds) d.depth < cLine := by
    have : min (PyData.depthAll ds) d.depth ≤ PyData.depthAll ds := Nat.min_le_left _ _
    omega
  cases tp with
  | true =>
    cases hl with
    | tup hs ha =>
      obtain ⟨its, rv, tpl, hlen⟩ := inv.tuple hs
      obtain ⟨as, rs⟩ := Dp.readsAll inv ds _ its ha rv
      exact SeqAt.count_tuple_data tpl rs ry pl pd room ⟨.int _, H, inv.tok _, ⟨_, rfl⟩, q⟩
  | false =>
    cases hl with
    | lst hs ha =>
      obtain ⟨its, rv, lst, hlen⟩ := inv.list hs
      obtain ⟨as, rs⟩ := Dp.readsAll inv ds _ its ha rv
      exact SeqAt.count_list_data lst.isList rs ry pl pd room ⟨.int _, H, inv.tok _, ⟨_, rfl⟩, q⟩
end
section
variable {K : PySem.W.Frag} {H : Hp} {Z : Addr → Prop}
theorem VwV.tyT {ds : List D} {v : V} (r : VwV K H Z (.tuple ds) v) : tyG K "tuple" v H := by
  obtain ⟨a, vs, rfl, l, _, _⟩ := (show Rl K H Z (.tuple ds) v from r)
  rcases l with ⟨⟨ob, h, hd⟩, _⟩ | ⟨o, its, n, h1, h2, h3, _⟩
  · exact .inr ⟨rfl, .inl ⟨ob, vs, h, hd⟩⟩
  · exact .inr ⟨rfl, .inr ⟨o, h1, h2, h3⟩⟩
theorem VwV.tyL {ds : List D} {v : V} (r : VwV K H Z (.list ds) v) : tyG K "list" v H := by
  obtain ⟨a, vs, rfl, l, _, _⟩ := r.lst
  exact .inl ⟨rfl, vs, l⟩
theorem plain_of_shaped {d : D} (h : SeqAt.shaped d = true) : d.plain = true := PyData.plain_of_canLay0 d (SeqAt.canLay_of_shaped h)
end
/-- a rule of a method that changes nothing: of a list, of a tuple -/
def MthOk (K : PySem.W.Frag) (m : Mf) (f : List D → D) (r : V → List V → Hp → VK → Prop) : Prop := ∀ {W : Addr → Prop} {H0 H : Hp} {Z0 Z : Addr → Prop} {ρ : Rho} {σ : L2.St} {Q : VK} {xs ds : List D} {v : V} {vs : List V} {c : Cell},
  mthD m (f xs) ds = some c → VwV K H Z (f xs) v → VwVs K H Z ds vs → Stp W (Ow ρ σ) H0 Z0 H Z → Sta K H Z ρ σ → Fin_ K W H0 Z0 ρ σ c Q → r v vs H Q
section
variable {X : Cx} {T : Tab} {a b c e o : Expr} {es : List Expr} {pos apos cpos : Pos} {name : Str}
theorem so_mth {m : Mf} (hm : isMut m = false) {idL idT : String} {rL rT : V → List V → Hp → VK → Prop} (aL : MtAlt X m.nm "list" idL rL) (okL : MthOk X.K m .list rL) (aT : ∀ xs ds c, mthD m (.tuple xs) ds = some c → MtAlt X m.nm "tuple" idT rT) (okT : MthOk X.K m .tuple rT)
    {ia : Ex} {is : Exs} (ho : SO X o (ev T ia)) (hs : SA X es (evs T is)) (pc : ∀ {to : TE} {t : TA}, PE X o to → PAn X es t → PE X (.Call (.Attribute o m.nm apos) es [] cpos) (tMG X m.nm to t)) :
    SO X (.Call (.Attribute o m.nm apos) es [] cpos) (ev T (.mth m ia is)) := by
  obtain ⟨to, po, qo⟩ := ho
  obtain ⟨t, pt, qt⟩ := hs
  refine ⟨_, pc po pt, fun ρ σ H Z od ρ' Q s e k => ?_⟩
  obtain ⟨⟨x, ρ1⟩, e1, e⟩ := bnd (show (ev T ia ρ).bind _ = some _ from e)
  rw [if_neg (by rw [hm]; exact Bool.false_ne_true)] at e
  obtain ⟨x0, e2, e⟩ := bnd e
  refine qo ρ σ H Z x ρ1 _ s e1 fun v H1 Z1 s1 p1 r1 _ => ?_
  have r10 := r1.vw s1 e2
  cases x0 <;> (try cases e)
  · rename_i xs0
    have e' : ((evs T is ρ1).bind fun q => (lookD q.2 x).bind fun x => (match x with
          | .list xs => (lookDs q.2 q.1).bind fun vs => (mthD m (.list xs) vs).map fun c => (Od.t c, q.2)
          | _ => none)) = some (od, ρ') := e
    clear e
    obtain ⟨⟨os, ρ2⟩, e3, e⟩ := bnd e'
    clear e'
    obtain ⟨x1, e4, e⟩ := bnd e
    cases x1 <;> (try cases e)
    rename_i xs
    obtain ⟨ds, e5, e⟩ := bnd (show (lookDs _ os).bind _ = some _ from e)
    obtain ⟨c, e6, e⟩ := mpd e
    cases e
    refine ⟨"list", idL, rL, aL, r10.tyL, ?_⟩
    refine qt ρ1 σ H1 Z1 os ρ2 _ s1 e3 fun vs H2 Z2 s2 p2 r2 => ?_
    exact okL e6 ((r1.stp s1 p2).vw s2 e4) (r2.vws s2 e5) (p1.trans p2) s2 (Fin_.of k)
  · rename_i xs0
    have e' : ((evs T is ρ1).bind fun q => (lookD q.2 x).bind fun x => (match x with
          | .tuple xs => (lookDs q.2 q.1).bind fun vs => (mthD m (.tuple xs) vs).map fun c => (Od.t c, q.2)
          | _ => none)) = some (od, ρ') := e
    clear e
    obtain ⟨⟨os, ρ2⟩, e3, e⟩ := bnd e'
    clear e'
    obtain ⟨x1, e4, e⟩ := bnd e
    cases x1 <;> (try cases e)
    rename_i xs
    obtain ⟨ds, e5, e⟩ := bnd (show (lookDs _ os).bind _ = some _ from e)
    obtain ⟨c, e6, e⟩ := mpd e
    cases e
    refine ⟨"tuple", idT, rT, aT _ _ _ e6, r10.tyT, ?_⟩
    refine qt ρ1 σ H1 Z1 os ρ2 _ s1 e3 fun vs H2 Z2 s2 p2 r2 => ?_
    exact okT e6 ((r1.stp s1 p2).vw s2 e4) (r2.vws s2 e5) (p1.trans p2) s2 (Fin_.of k)
theorem cntL {K : PySem.W.Frag} : MthOk K .count .list (rCountD K false) := by
  intro W H0 H Z0 Z ρ σ Q xs ds v vs c e rx rd p s f
  match ds, e, rd with
  | [d], e, rd =>
    obtain ⟨w, rfl, rw'⟩ := vw1 rd
    have e7 : (if (SeqAt.shaped (.list xs) && SeqAt.shaped d) = true then some (Cell.dat (.int (xs.countP fun z => PyData.eqv z d : Nat))) else none) = some c := e
    by_cases hc : (SeqAt.shaped (.list xs) && SeqAt.shaped d) = true
    · rw [if_pos hc] at e7
      cases e7
      rw [Bool.and_eq_true] at hc
      have hp := plain_of_shaped hc.1
      have hd := SeqAt.depth_of_shaped hc.1
      obtain ⟨a, ws, rfl, _⟩ := rx.lst
      exact ⟨a, w, d, xs, rfl, rfl, rx.dp hc.1, rw'.dp hc.2, by simpa [PyData.plain] using hp, plain_of_shaped hc.2, by simp only [PyData.depth] at hd; omega, f.same p s rfl⟩
    · rw [if_neg hc] at e7; cases e7
  | [], e, _ => cases (show none = some c from e)
  | _ :: _ :: _, e, _ => cases (show none = some c from e)
theorem cntT {K : PySem.W.Frag} : MthOk K .count .tuple (rCountD K true) := by
  intro W H0 H Z0 Z ρ σ Q xs ds v vs c e rx rd p s f
  match ds, e, rd with
  | [d], e, rd =>
    obtain ⟨w, rfl, rw'⟩ := vw1 rd
    have e7 : (if (SeqAt.shaped (.tuple xs) && SeqAt.shaped d) = true then some (Cell.dat (.int (xs.countP fun z => PyData.eqv z d : Nat))) else none) = some c := e
    by_cases hc : (SeqAt.shaped (.tuple xs) && SeqAt.shaped d) = true
    · rw [if_pos hc] at e7
      cases e7
      rw [Bool.and_eq_true] at hc
      have hp := plain_of_shaped hc.1
      have hd := SeqAt.depth_of_shaped hc.1
      obtain ⟨a, ws, e0, _⟩ := rx.tup
      subst e0
      exact ⟨a, w, d, xs, rfl, rfl, rx.dp hc.1, rw'.dp hc.2, by simpa [PyData.plain] using hp, plain_of_shaped hc.2, by simp only [PyData.depth] at hd; omega, f.same p s rfl⟩
    · rw [if_neg hc] at e7; cases e7
  | [], e, _ => cases (show none = some c from e)
  | _ :: _ :: _, e, _ => cases (show none = some c from e)
theorem ixL {K : PySem.W.Frag} : MthOk K .index .list (rIndexD K) := by
  intro W H0 H Z0 Z ρ σ Q xs ds v vs c e rx rd p s f
  match ds, e, rd with
  | [d], e, rd =>
    obtain ⟨w, rfl, rw'⟩ := vw1 rd
    have e7 : (if (SeqAt.shaped (.list xs) && SeqAt.shaped d) = true then (xs.findIdx? fun z => PyData.eqv z d).map fun j : Nat => Cell.dat (.int (j : Nat)) else none) = some c := e
    by_cases hc : (SeqAt.shaped (.list xs) && SeqAt.shaped d) = true
    · rw [if_pos hc] at e7
      obtain ⟨j, e8, e9⟩ := mpd e7
      subst e9
      rw [Bool.and_eq_true] at hc
      obtain ⟨a, ws, e0, _⟩ := rx.lst
      subst e0
      obtain ⟨h1, h2, h3⟩ := List.findIdx?_eq_some_iff_getElem.mp e8
      refine ⟨a, w, d, xs, j, xs[j], rfl, rfl, rx.dp hc.1, rw'.dp hc.2, hc.1, hc.2, List.getElem?_eq_getElem h1, h2, fun m z' hm hz => ?_, f.same p s rfl⟩
      obtain ⟨h4, h5⟩ := List.getElem?_eq_some_iff.mp hz
      rw [← h5]
      simpa using h3 m hm
    · rw [if_neg hc] at e7; cases e7
  | [], e, _ => cases (show none = some c from e)
  | _ :: _ :: _, e, _ => cases (show none = some c from e)
theorem so_cnt (hu : X.A.units + 65 < cLine) {ia : Ex} {is : Exs} (ho : SO X o (ev T ia)) (hs : SA X es (evs T is)) (pc : ∀ {to : TE} {t : TA}, PE X o to → PAn X es t → PE X (.Call (.Attribute o Mf.count.nm apos) es [] cpos) (tMG X Mf.count.nm to t)) :
    SO X (.Call (.Attribute o Mf.count.nm apos) es [] cpos) (ev T (.mth .count ia is)) :=
  so_mth (m := .count) rfl ⟨F.plainAttrs_list, F.slot_list_count, F.type_list_count, mt_countD hu false⟩ cntL (fun _ _ _ _ => ⟨F.plainAttrs_tuple, F.slot_tuple_count, F.type_tuple_count, mt_countD hu true⟩) cntT ho hs pc
/-- index of a tuple -/
def rIndexT (K : PySem.W.Frag) : V → List V → Hp → VK → Prop := fun x xs H Q => ∃ (a : Addr) (y : V) (d : D) (ds : List D) (j : Nat), x = .ref a ∧ xs = [y] ∧ Dp K H (.ref a) (.tuple ds) ∧ Dp K H y d ∧
  SeqAt.shaped (.tuple ds) = true ∧ SeqAt.shaped d = true ∧ (ds.findIdx? fun z => PyData.eqv z d) = some j ∧ Q (.int (j : Nat)) H
theorem idxOf_true {ds : List D} {d : D} {j : Nat} (h : (ds.findIdx? fun z => PyData.eqv z d) = some j) : (ds.map fun z => PyData.eqv z d).idxOf true = j ∧ true ∈ ds.map fun z => PyData.eqv z d := by
  obtain ⟨h1, h2, h3⟩ := List.findIdx?_eq_some_iff_getElem.mp h
  refine ⟨?_, List.mem_map.mpr ⟨_, List.getElem_mem h1, h2⟩⟩
  have hl : (ds.map fun z => PyData.eqv z d).idxOf true < (ds.map fun z => PyData.eqv z d).length := List.idxOf_lt_length_of_mem (List.mem_map.mpr ⟨_, List.getElem_mem h1, h2⟩)
  have e : (ds.map fun z => PyData.eqv z d)[(ds.map fun z => PyData.eqv z d).idxOf true] = true := List.getElem_idxOf hl
  rw [List.getElem_map] at e
  rcases Nat.lt_trichotomy ((ds.map fun z => PyData.eqv z d).idxOf true) j with q | q | q
  · have := h3 _ q
    simp only [Bool.not_eq_true] at this
    rw [e] at this
    cases this
  · exact q
  · have := SeqAt.lt_idxOf_ne q (by rw [List.length_map]; exact h1)
    rw [List.getElem_map] at this
    exact (this h2).elim
theorem mt_indexT {X : Cx} (hu : X.A.units + 65 < cLine) : MtR X "tuple.index" (rIndexT X.K) := by
  rintro pins s σ H x xs vx us Q inv relx rels ⟨a, y, d, ds, j, rfl, rfl, hl, hy, sl, sd, hf, q⟩
  cases relx
  obtain ⟨u, rfl, ru⟩ := rels.one
  obtain ⟨bs, ry⟩ := Dp.reads inv d y u hy ru
  have cl : PyData.canLayAll0 ds = true := by
    have := SeqAt.canLay_of_shaped sl
    simpa [PyData.canLay0] using this
  have dd := SeqAt.depth_of_shaped sd
  have room : X.A.units + 1 + min (PyData.depthAll ds) d.depth < cLine := by
    have : min (PyData.depthAll ds) d.depth ≤ d.depth := Nat.min_le_right _ _
    omega
  cases hl with
  | tup hs ha =>
    obtain ⟨its, rv, tpl, hlen⟩ := inv.tuple hs
    obtain ⟨as, rs⟩ := Dp.readsAll inv ds _ its ha rv
    have hn : its.length = ds.length := SeqAt.ReadsAll.length ds its as rs
    have hmap : its.map (SeqAt.readOf s.heap) = ds := SeqAt.readsAll_map ds its as cl rs
    obtain ⟨e1, e2⟩ := idxOf_true hf
    refine SeqAt.call_tuple_index (ks := ds.map fun z => PyData.eqv z d) (k := true) tpl ⟨by rw [List.length_map]; exact hn, fun m h1 h2 => ?_⟩ e2 ?_
    · have := SeqAt.items_eqAt (A := X.A) (s := s) (vs := its.toArray) (show ReadsAll s.heap its.toArray.toList ds as from rs) ry cl (SeqAt.canLay_of_shaped sd) room its[m] (by simp)
      have e3 : SeqAt.readOf s.heap its[m] = ds[m]'(by omega) := by
        have := congrArg (fun l => l[m]?) hmap
        simp only [List.getElem?_map, List.getElem?_eq_getElem h1, List.getElem?_eq_getElem (show m < ds.length by omega)] at this
        exact Option.some.inj this
      have e4 : decide ((ds.map fun z => PyData.eqv z d)[m] = true) = PyData.eqv (ds[m]'(by omega)) d := by
        rw [List.getElem_map]
        simp
      rw [e4, ← e3]
      simpa using this
    · rw [e1]
      exact ⟨.int _, H, inv.tok _, ⟨_, rfl⟩, q⟩
theorem ixT {K : PySem.W.Frag} : MthOk K .index .tuple (rIndexT K) := by
  intro W H0 H Z0 Z ρ σ Q xs ds v vs c e rx rd p s f
  match ds, e, rd with
  | [d], e, rd =>
    obtain ⟨w, rfl, rw'⟩ := vw1 rd
    have e7 : (if (SeqAt.shaped (.tuple xs) && SeqAt.shaped d) = true then (xs.findIdx? fun z => PyData.eqv z d).map fun j : Nat => Cell.dat (.int (j : Nat)) else none) = some c := e
    by_cases hc : (SeqAt.shaped (.tuple xs) && SeqAt.shaped d) = true
    · rw [if_pos hc] at e7
      obtain ⟨j, e8, e9⟩ := mpd e7
      subst e9
      rw [Bool.and_eq_true] at hc
      obtain ⟨a, ws, e0, _⟩ := rx.tup
      subst e0
      exact ⟨a, w, d, xs, j, rfl, rfl, rx.dp hc.1, rw'.dp hc.2, hc.1, hc.2, e8, f.same p s rfl⟩
    · rw [if_neg hc] at e7; cases e7
  | [], e, _ => cases (show none = some c from e)
  | _ :: _ :: _, e, _ => cases (show none = some c from e)
theorem so_ind (hu : X.A.units + 65 < cLine) {ia : Ex} {is : Exs} (ho : SO X o (ev T ia)) (hs : SA X es (evs T is)) (pc : ∀ {to : TE} {t : TA}, PE X o to → PAn X es t → PE X (.Call (.Attribute o Mf.index.nm apos) es [] cpos) (tMG X Mf.index.nm to t)) :
    SO X (.Call (.Attribute o Mf.index.nm apos) es [] cpos) (ev T (.mth .index ia is)) :=
  so_mth (m := .index) rfl ⟨F.plainAttrs_list, F.slot_list_index, F.type_list_index, mt_indexD hu⟩ ixL (fun _ _ _ _ => ⟨F.plainAttrs_tuple, F.slot_tuple_index, F.type_tuple_index, mt_indexT hu⟩) ixT ho hs pc
theorem kitT (u t : String) (hu : u ∈ ["NoneType", "bool", "int", "str", "list", "tuple"]) (ht : t = "int" ∨ t = "bool" ∨ t = "str" ∨ t = "list" ∨ t = "tuple") : kitB u t = some (isiT u t) := by
  simp only [List.mem_cons, List.not_mem_nil, or_false] at hu
  rcases hu with h | h | h | h | h | h <;> subst h <;> (rcases ht with h | h | h | h | h <;> subst h <;> decide +kernel)
theorem isiOne_ok (d : D) (t : String) (ht : (t == "int" || t == "bool" || t == "str" || t == "list" || t == "tuple") = true) {K : PySem.W.Frag} {H : Hp} {Z : Addr → Prop} {v : V} (r : VwV K H Z d v) (hd : ∀ kvs, d ≠ .dict kvs) :
    ∃ u, TyX K H v (.type u) ∧ PySem.W.kitOne K (.type u) (.type t) = some (isiOne d t) := by
  have ht' : t = "int" ∨ t = "bool" ∨ t = "str" ∨ t = "list" ∨ t = "tuple" := by
    simp only [Bool.or_eq_true, beq_iff_eq] at ht
    rcases ht with (((h | h) | h) | h) | h
    · exact .inl h
    · exact .inr (.inl h)
    · exact .inr (.inr (.inl h))
    · exact .inr (.inr (.inr (.inl h)))
    · exact .inr (.inr (.inr (.inr h)))
  cases d with
  | none =>
    cases (show v = _ from r)
    exact ⟨_, .base .non, kit_ty (kitT _ t (by simp) ht')⟩
  | bool b =>
    cases (show v = _ from r)
    exact ⟨_, .base (.bl b), kit_ty (kitT _ t (by simp) ht')⟩
  | int i =>
    cases (show v = _ from r)
    exact ⟨_, .base (.int i), kit_ty (kitT _ t (by simp) ht')⟩
  | str x =>
    cases (show v = _ from r)
    exact ⟨_, .base (.str x), kit_ty (kitT _ t (by simp) ht')⟩
  | list ds =>
    obtain ⟨a, vs, rfl, h, _⟩ := r.lst
    rcases h with (h | ⟨o, h⟩) | ⟨o, its, n, h1, h2, _⟩
    · exact ⟨_, .base (.lst h), kit_ty (kitT _ t (by simp) ht')⟩
    · exact ⟨_, .base (.frz h), kit_ty (kitT _ t (by simp) ht')⟩
    · exact ⟨_, .kList h1 h2, kit_ty (kitT _ t (by simp) ht')⟩
  | tuple ds =>
    obtain ⟨a, vs, rfl, l, _, _⟩ := (show Rl K H Z (.tuple ds) v from r)
    rcases l with ⟨⟨ob, h, _⟩, _⟩ | ⟨o, its, n, h1, h2, _⟩
    · exact ⟨_, .fTuple h, kit_ty (kitT _ t (by simp) ht')⟩
    · exact ⟨_, .kTuple h1 h2, kit_ty (kitT _ t (by simp) ht')⟩
  | dict kvs => exact absurd rfl (hd kvs)
end
end Lt
namespace Lt
open PySem L2 PySem.Spec PyProof.Rows
section
variable {X : Cx} {T : Tab} {a b c e o : Expr} {es : List Expr} {pos apos cpos : Pos} {name : Str}
/-- one name of a built-in type -/
structure TyNm (X : Cx) (x : Str) (t : String) : Prop where
  gl : Gl X x
  mg : X.mg x = none
  bt : bootBuiltins x = some (.type t)
  ok : (t == "int" || t == "bool" || t == "str" || t == "list" || t == "tuple") = true
  nn : x ≠ "__name__"
  nd : (x == ("__debug__" : Str)) = false
theorem TyNm.pe {x : Str} {t : String} (h : TyNm X x t) : PE X (.Name x pos) (tC (.ty t)) := pe_bltn h.gl h.mg h.bt rfl h.nn h.nd
theorem star_cons {e : Expr} {es : List Expr} {env : Env} (h : ∀ v p, e ≠ .Starred v p) : starEach (e :: es) env = (false, eval e env) :: starEach es env := by
  cases e <;> first | rfl | exact absurd rfl (h _ _)
theorem isi_kit {K : PySem.W.Frag} {u : String} {d : D} : ∀ {ts : List String}, (∀ t ∈ ts, PySem.W.kitOne K (.type u) (.type t) = some (isiOne d t)) → PySem.W.kitAny K (.type u) (ts.map Value.type) = some (ts.any (isiOne d))
  | [], _ => kitAny_nil
  | t :: ts, h => by
    have h1 := h t (by simp)
    have h2 := isi_kit (ts := ts) fun t' ht => h t' (by simp [ht])
    refine kitAny_cons h1 (fun hb => ?_) fun hb => ?_
    · rw [h2, List.any_cons, hb, Bool.false_or]
    · rw [List.any_cons, hb, Bool.true_or]
theorem notD {f : D → Bool} {d : D} {od : Od} {ρ1 ρ' : Rho} (e : (match d with
      | .dict _ => none
      | x => some (Od.t (.dat (.bool (f x))), ρ1)) = some (od, ρ')) : (∀ kvs, d ≠ .dict kvs) ∧ od = .t (.dat (.bool (f d))) ∧ ρ' = ρ1 := by
  cases d <;> (try (cases e)) <;> exact ⟨fun _ z => (nomatch z), rfl, rfl⟩
theorem so_isi1 {x : Str} {t : String} {p q : Pos} {ia : Ex} (ht : TyNm X x t) (hg : Gl X "isinstance") (hm : X.mg "isinstance" = none) (ha : SO X a (ev T ia)) (hs : ∀ v p, a ≠ .Starred v p) :
    SO X (.Call (.Name "isinstance" p) [a, .Name x q] [] pos) (ev T (.isi ia [t])) := by
  obtain ⟨ta, pa, qa⟩ := ha
  have s1 : starEach [a, .Name x q] X.env = (false, eval a X.env) :: starEach [.Name x q] X.env := star_cons hs
  have args : PA X [a, .Name x q] (tCons ta (tCons (tC (.ty t)) tNil)) := pa_cons pa (pa_cons ht.pe pa_nil rfl) s1
  refine ⟨_, pe_callB call_isi hg hm PyProof.Rows.boot_isinstance args (by decide) (by decide) s1 (by rfl), fun ρ σ H Z od ρ' Q s e k => ?_⟩
  have hok : isiOk [t] = true := by
    unfold isiOk
    rw [List.all_cons, List.all_nil, Bool.and_true]
    exact ht.ok
  have e0 : (if isiOk [t] = true then _ else none) = some (od, ρ') := e
  rw [if_pos hok] at e0
  obtain ⟨⟨y, ρ1⟩, e1, e⟩ := bnd e0
  obtain ⟨d, e2, e⟩ := bnd e
  obtain ⟨hd, rfl, rfl⟩ := notD (f := fun x => [t].any (isiOne x)) e
  refine qa ρ σ H Z y _ _ s e1 fun v H1 Z1 s1 p1 r1 _ => ?_
  obtain ⟨u, ty, kt⟩ := isiOne_ok d t ht.ok (r1.vw s1 e2) hd
  refine ⟨v, .ty t, .type u, .type t, isiOne d t, rfl, .ty t, ty, kt, ?_⟩
  have f := (Fin_.of k).same p1 s1 (u := .bl (isiOne d t)) (show Rl X.K H1 Z1 (.bool ([t].any (isiOne d))) _ from by rw [List.any_cons, List.any_nil, Bool.or_false]; rfl)
  exact f
theorem pa_types : ∀ {xs : List (Str × Pos × String)}, (∀ q ∈ xs, TyNm X q.1 q.2.2) → ∃ t, PA X (xs.map fun q => .Name q.1 q.2.1) t ∧ ∀ σ H Q, Q (xs.map fun q => V.ty q.2.2) H → t σ H Q
  | [], _ => ⟨tNil, pa_nil, fun _ _ _ q => q⟩
  | (x, p, t) :: xs, h => by
    obtain ⟨tr, pr, qr⟩ := pa_types (xs := xs) fun q hq => h q (by simp [hq])
    exact ⟨_, pa_cons (h _ (by simp)).pe pr rfl, fun σ H Q q => qr σ H _ q⟩
theorem clsV_all : ∀ ts : List String, Paired ClsV (ts.map V.ty) (ts.map Value.type)
  | [] => .nil
  | t :: ts => .cons (.ty t) (clsV_all ts)
theorem so_isiN {xs : List (Str × Pos × String)} {p : Pos} {k0 pt} {ia : Ex} (ht : ∀ q ∈ xs, TyNm X q.1 q.2.2) (hl : xs.length ≤ 10) (hg : Gl X "isinstance") (hm : X.mg "isinstance" = none) (ha : SO X a (ev T ia)) (hs : ∀ v p, a ≠ .Starred v p) :
    SO X (.Call (.Name "isinstance" p) [a, .Tuple (xs.map fun q => .Name q.1 q.2.1) k0 pt] [] pos) (ev T (.isi ia (xs.map (·.2.2)))) := by
  obtain ⟨ta, pa, qa⟩ := ha
  obtain ⟨tt, pt', qt⟩ := pa_types ht
  have s1 : starEach [a, .Tuple (xs.map fun q => .Name q.1 q.2.1) k0 pt] X.env = (false, eval a X.env) :: starEach [.Tuple (xs.map fun q => .Name q.1 q.2.1) k0 pt] X.env := star_cons hs
  have args := pa_cons pa (pa_cons (pe_tup (pos := pt) (x1 := k0) pt') pa_nil rfl) s1
  refine ⟨_, pe_callB call_isiT hg hm PyProof.Rows.boot_isinstance args (by decide) (by decide) s1 (by rfl), fun ρ σ H Z od ρ' Q s e k => ?_⟩
  have hok : isiOk (xs.map (·.2.2)) = true := by
    unfold isiOk
    rw [List.all_map, List.all_eq_true]
    exact fun q hq => (ht q hq).ok
  have e0 : (if isiOk (xs.map (·.2.2)) = true then _ else none) = some (od, ρ') := e
  rw [if_pos hok] at e0
  obtain ⟨⟨y, ρ1⟩, e1, e⟩ := bnd e0
  obtain ⟨d, e2, e⟩ := bnd e
  obtain ⟨hd, rfl, rfl⟩ := notD (f := fun x => (xs.map (·.2.2)).any (isiOne x)) e
  refine qa ρ σ H Z y _ _ s e1 fun v H1 Z1 s1 p1 r1 _ => ?_
  refine qt σ H1 _ ?_
  have hsz : (10 : Nat) ≤ sizeLine := by rw [sizeLine_eq]; decide
  refine ⟨by rw [List.length_map]; omega, fun tp hn => ?_⟩
  have rd := r1.vw s1 e2
  obtain ⟨p2, s2, kp, _⟩ := alloc p1 s1 hn (.tup (xs.map fun q => V.ty q.2.2)) False
  have fin : Q (.bl ((xs.map (·.2.2)).any (isiOne d))) (upd H1 tp (.tup (xs.map fun q => V.ty q.2.2))) := (Fin_.of k).same p2 s2 rfl
  -- the view of the value stays
  have rd2 : VwV X.K (upd H1 tp (.tup (xs.map fun q => V.ty q.2.2))) (fun x => Z1 x ∨ (False ∧ x = tp)) d v := by
    cases d with
    | list ds =>
      obtain ⟨a', vs, e3, h3, h4, h5⟩ := rd
      have un : ∀ {o}, H1 a' = some o → upd H1 tp (.tup (xs.map fun q => V.ty q.2.2)) a' = some o := fun {o} h => by rw [upd_ne (ne_of_none h hn)]; exact h
      refine ⟨a', vs, e3, ?_, h4, Rls.keep kp ds vs h5⟩
      rcases h3 with (h3 | ⟨o, h3⟩) | h3
      · exact .inl (.inl (un h3))
      · exact .inl (.inr ⟨o, un h3⟩)
      · exact .inr h3
    | dict kvs => exact absurd rfl (hd kvs)
    | _ => exact Rl.keep kp _ v rd
  have hex : ∃ u, TyX X.K (upd H1 tp (.tup (xs.map fun q => V.ty q.2.2))) v (.type u) ∧ ∀ t ∈ xs.map (·.2.2), PySem.W.kitOne X.K (.type u) (.type t) = some (isiOne d t) := by
    obtain ⟨u0, ty0, _⟩ := isiOne_ok d "int" (by decide) rd2 hd
    refine ⟨tyName d, ?_, fun t htm => ?_⟩
    · have : ∀ u1, TyX X.K (upd H1 tp (.tup (xs.map fun q => V.ty q.2.2))) v (.type u1) → u1 = tyName d → TyX X.K (upd H1 tp (.tup (xs.map fun q => V.ty q.2.2))) v (.type (tyName d)) := fun u1 h q => q ▸ h
      cases d with
      | none => cases (show v = _ from rd2); exact .base .non
      | bool b => cases (show v = _ from rd2); exact .base (.bl b)
      | int i => cases (show v = _ from rd2); exact .base (.int i)
      | str x => cases (show v = _ from rd2); exact .base (.str x)
      | list ds =>
        obtain ⟨a', vs, rfl, h', _⟩ := rd2.lst
        rcases h' with (h' | ⟨o, h'⟩) | ⟨o, its, n, h1, h2, _⟩
        · exact .base (.lst h')
        · exact .base (.frz h')
        · exact .kList h1 h2
      | tuple ds =>
        obtain ⟨a', vs, rfl, l, _, _⟩ := (show Rl X.K _ _ (.tuple ds) v from rd2)
        rcases l with ⟨⟨ob, h', _⟩, _⟩ | ⟨o', its, n, h1, h2, _⟩
        · exact .fTuple h'
        · exact .kTuple h1 h2
      | dict kvs => exact absurd rfl (hd kvs)
    · obtain ⟨q, hq, rfl⟩ := List.mem_map.mp htm
      have ok := (ht q hq).ok
      have ht5 : q.2.2 = "int" ∨ q.2.2 = "bool" ∨ q.2.2 = "str" ∨ q.2.2 = "list" ∨ q.2.2 = "tuple" := by
        simp only [Bool.or_eq_true, beq_iff_eq] at ok
        rcases ok with (((h | h) | h) | h) | h
        · exact .inl h
        · exact .inr (.inl h)
        · exact .inr (.inr (.inl h))
        · exact .inr (.inr (.inr (.inl h)))
        · exact .inr (.inr (.inr (.inr h)))
      exact kit_ty (kitT _ _ (by cases d <;> first | exact absurd rfl (hd _) | simp [tyName]) ht5)
  obtain ⟨u, ty, kt⟩ := hex
  refine ⟨v, tp, _, .type u, (xs.map (·.2.2)).map Value.type, _, rfl, upd_same, ?_, ty, isi_kit kt, fin⟩
  have := clsV_all (xs.map (·.2.2))
  rw [List.map_map] at this
  exact this
end
end Lt
namespace Lt
open PySem L2 PySem.Spec PyProof.Rows
/-- values with the data that they stand for -/
abbrev PV := V × D
def leP : PV → PV → Bool := fun a b => !PySem.W.dataLt b.2 a.2
def rSortedD (K : PySem.W.Frag) : List V → Hp → VK → Prop := fun xs H Q => ∃ (a : Addr) (ps : List PV), xs = [.ref a] ∧ SqL K H a (ps.map (·.1)) ∧ (∀ p ∈ ps, Dp K H p.1 p.2) ∧ sortOk (ps.map (·.2)) = true ∧
  ∀ l, H l = none → Q (.ref l) (upd H l (.lst ((ps.mergeSort leP).map (·.1))))
section
variable {X : Cx}
theorem each_of {α β : Type} {R : α → β → Prop} : ∀ {as : List α} {bs : List β}, as.length = bs.length → (∀ (i : Nat) (a : α) (b : β), as[i]? = some a → bs[i]? = some b → R a b) → PySem.W.EachIs R as bs
  | [], [], _, _ => .nil
  | [], _ :: _, h, _ => by cases h
  | _ :: _, [], h, _ => by cases h
  | a :: as, b :: bs, h, k => .cons (k 0 a b rfl rfl) (each_of (by simpa using h) fun i x y hx hy => k (i + 1) x y hx hy)
theorem vals_of_each : ∀ {us : List Value} {ps : List PV}, PySem.W.EachIs (fun u p => RelV p.1 u) us ps → Vals (ps.map (·.1)) us
  | _, _, .nil => .nil
  | _, _, .cons h r => .cons h (vals_of_each r)
theorem cr_sortedD (hu : X.A.units + 65 < cLine) : CallR X (.builtin "sorted") (rSortedD X.K) := by
  intro pins s σ H vs us Q I r h
  obtain ⟨a, ps, rfl, hs, hd, hok, q⟩ := h
  obtain ⟨its, rv, hl, hz⟩ := I.list hs
  obtain ⟨u, rfl, ru⟩ := vals1 r
  obtain rfl : u = Value.ref a := ru
  have hlen : its.length = ps.length := by
    have := rv.length
    rw [List.length_map] at this
    omega
  have at_ : ∀ (i : Nat) (u : Value) (p : PV), its[i]? = some u → ps[i]? = some p → RelV p.1 u := fun i u p h1 h2 => by
    obtain ⟨u', h3, h4⟩ := rv.get (i := i) (x := p.1) (by rw [List.getElem?_map, h2]; rfl)
    rw [h1] at h3
    cases h3
    exact h4
  unfold sortOk at hok
  simp only [Bool.and_eq_true, List.all_eq_true, decide_eq_true_eq, Bool.or_eq_true] at hok
  obtain ⟨h1, h2, h3, h4⟩ := hok
  refine PySem.W.sorted_data (R := fun u p => RelV p.1 u) (enc := fun p : PV => p.2) (vs := its) (bs := ps) hl.isList (each_of hlen at_) (each_of hlen fun i u p h5 h6 => ?_) (fun d hd' d' hd'' => h1 d hd' d' hd'') ?_ (by rw [List.length_map] at h4; rw [sizeLine_eq]; exact h4) (fun p hp => ?_) fun out hol hout => ?_
  · have hp := List.mem_of_getElem? h6
    exact Dp.reads I p.2 p.1 u (hd p hp) (at_ i u p h5 h6)
  · rcases h3 with h3 | h3
    · refine .inl fun d hd' => ?_
      have := h3 d hd'
      unfold isT1 at this
      split at this
      · exact ⟨_, _, rfl⟩
      · cases this
    · refine .inr fun d hd' => ?_
      have := h3 d hd'
      refine ⟨fun z => ?_, fun xs z => ?_⟩ <;> rw [z] at this <;> cases this
  · have := (h2 p.2 (List.mem_map.mpr ⟨p, hp, rfl⟩)).2
    have : p.2.depth ≤ 60 := this
    show X.A.units + 2 + p.2.depth < cLine
    omega
  · obtain ⟨e, he⟩ := sortedAll_at s.heap its out.toArray
    have hp : (ps.mergeSort leP).length = ps.length := List.length_mergeSort ps
    have fr : H (s.heap.objs.size + 1) = none := I.hok.fresh (Nat.le_succ _)
    refine ⟨.ref (s.heap.objs.size + 1), upd H (s.heap.objs.size + 1) (.lst ((ps.mergeSort leP).map (·.1))), I.laid (t' := s.toks) (fun b o q => sortedAll_old q) (Nat.le_succ _) ⟨?_, out, e, vals_of_each hout, he⟩, rfl, q _ fr⟩
    rw [List.length_map, hp]
    rw [List.length_map] at h4
    rw [sizeLine_eq]; exact h4
end
theorem zip_fst : ∀ {vs : List V} {ds : List D}, vs.length = ds.length → (vs.zip ds).map (·.1) = vs
  | [], [], _ => rfl
  | [], _ :: _, h => by cases h
  | _ :: _, [], h => by cases h
  | v :: vs, d :: ds, h => by rw [List.zip_cons_cons, List.map_cons, zip_fst (by simpa using h)]
theorem zip_snd : ∀ {vs : List V} {ds : List D}, vs.length = ds.length → (vs.zip ds).map (·.2) = ds
  | [], [], _ => rfl
  | [], _ :: _, h => by cases h
  | _ :: _, [], h => by cases h
  | v :: vs, d :: ds, h => by rw [List.zip_cons_cons, List.map_cons, zip_snd (by simpa using h)]
section
variable {K : PySem.W.Frag} {H : Hp} {Z : Addr → Prop}
theorem Rls.zip : ∀ {ds : List D} {vs : List V}, Rls K H Z ds vs → ∀ p ∈ vs.zip ds, Rl K H Z p.2 p.1
  | [], _, r, p, hp => by
    cases (show _ = [] from r)
    cases hp
  | d :: ds, _, ⟨v, r, e, h1, h2⟩, p, hp => by
    subst e
    rw [List.zip_cons_cons] at hp
    rcases List.mem_cons.mp hp with rfl | hp
    · exact h1
    · exact Rls.zip h2 p hp
theorem Rls.pairs : ∀ {ps : List PV}, (∀ p ∈ ps, Rl K H Z p.2 p.1) → Rls K H Z (ps.map (·.2)) (ps.map (·.1))
  | [], _ => Rls.nil
  | p :: ps, h => Rls.cons (h p (by simp)) (Rls.pairs fun q hq => h q (by simp [hq]))
theorem sortD_pairs {ps : List PV} : (ps.mergeSort leP).map (·.2) = sortD (ps.map (·.2)) := by
  unfold sortD
  exact List.map_mergeSort fun a _ b _ => rfl
theorem blt_sortedL {W : Addr → Prop} {H0 H : Hp} {Z0 Z : Addr → Prop} {ρ : Rho} {σ : L2.St} {Q : VK} {xs : List D} {vs : List V} {c : Cell} (e : bltD .sorted [.list xs] = some c) (r : VwVs K H Z [.list xs] vs) (p : Stp W (Ow ρ σ) H0 Z0 H Z) (s : Sta K H Z ρ σ) (f : Fin_ K W H0 Z0 ρ σ c Q) : rSortedD K vs H Q := by
  have e' : (if sortOk xs = true then some (Cell.own (sortD xs)) else none) = some c := e
  by_cases hk : sortOk xs = true
  · rw [if_pos hk] at e'
    cases e'
    obtain ⟨v, rfl, rv⟩ := vw1 r
    obtain ⟨a, ws, rfl, h, hl, rr⟩ := rv.lst
    have hlen := rr.length
    refine ⟨a, ws.zip xs, rfl, (by rw [zip_fst hlen]; exact h), fun p hp => ?_, by rw [zip_snd hlen]; exact hk, ?_⟩
    · refine Rl.dp p.2 p.1 ?_ (rr.zip p hp)
      unfold sortOk at hk
      simp only [Bool.and_eq_true, List.all_eq_true] at hk
      have hm : p.2 ∈ xs := by
        rw [← zip_snd hlen]
        exact List.mem_map.mpr ⟨p, hp, rfl⟩
      exact SeqAt.canLay_of_shaped (hk.2.1 p.2 hm).1
    · have rs := Rls.pairs (K := K) (H := H) (Z := Z) (ps := (ws.zip xs).mergeSort leP) fun p hp => rr.zip p ((List.mergeSort_perm _ _).mem_iff.mp hp)
      rw [sortD_pairs, zip_snd hlen] at rs
      exact f.lst p s rs (by unfold sortD; rw [List.length_mergeSort]; exact hl)
  · rw [if_neg hk] at e'; cases e'
end
end Lt
namespace Lt
open PySem L2 PySem.Spec PyProof.Rows
def rRepr (K : PySem.W.Frag) : List V → Hp → VK → Prop := fun xs H Q => ∃ (a : Addr) (d : D), xs = [.ref a] ∧ Dp K H (.ref a) d ∧ reprOk d = true ∧ Q (.str d.shown) H
theorem reprOk_d {d : D} (h : reprOk d = true) : (d.canLay0 = true ∧ d.showable = true) ∧ d.depth ≤ 60 ∧ d.shown.length ≤ 16777216 := by
  unfold reprOk at h
  simp only [Bool.and_eq_true, decide_eq_true_eq] at h
  exact h
theorem cr_repr {X : Cx} (hu : X.A.units + 65 < cLine) (gd : X.A.guards = some []) : CallR X (.builtin "repr") (rRepr X.K) := by
  intro pins s σ H vs us Q I r h
  obtain ⟨a, d, rfl, hd, hok, q⟩ := h
  obtain ⟨⟨h1, h2⟩, h3, h4⟩ := reprOk_d hok
  obtain ⟨u, rfl, ru⟩ := vals1 r
  obtain rfl : u = Value.ref a := ru
  obtain ⟨as, rd⟩ := Dp.reads I d (.ref a) (.ref a) hd rfl
  refine PySem.repr_of_reads' rd h2 (PyData.noDict_hsm (PyData.hasDict_of_canLay d h1)) gd (by omega) (fun b o e => e) (fun h' u tk k => ?_) (by rw [sizeLine_eq]; exact h4)
  exact ⟨.str d.shown, H, I.kept (t' := tk) k, ⟨_, rfl⟩, q⟩
theorem blt_repr {K : PySem.W.Frag} : BltOk K .repr (rRepr K) := by
  intro W H0 H Z0 Z ρ σ Q ds vs c e r p s f
  match ds, e, r with
  | [.list xs], e, r =>
    have e' : (if (true && reprOk (.list xs)) = true then some (Cell.dat (.str (PyData.list xs).shown)) else none) = some c := e
    rw [Bool.true_and] at e'
    by_cases hk : reprOk (.list xs) = true
    · rw [if_pos hk] at e'
      cases e'
      obtain ⟨v, rfl, rv⟩ := vw1 r
      obtain ⟨a, ws, rfl, h, hl, rr⟩ := rv.lst
      exact ⟨a, .list xs, rfl, .lst h (Rls.dp xs ws (by have := (reprOk_d hk).1.1; simpa [PyData.canLay0] using this) rr), hk, f.same p s rfl⟩
    · rw [if_neg hk] at e'; cases e'
  | [.tuple xs], e, r =>
    have e' : (if (true && reprOk (.tuple xs)) = true then some (Cell.dat (.str (PyData.tuple xs).shown)) else none) = some c := e
    rw [Bool.true_and] at e'
    by_cases hk : reprOk (.tuple xs) = true
    · rw [if_pos hk] at e'
      cases e'
      obtain ⟨v, rfl, rv⟩ := vw1 r
      obtain ⟨a, ws, rfl, h, hl, rr⟩ := rv.tup
      exact ⟨a, .tuple xs, rfl, .tup h (Rls.dp xs ws (by have := (reprOk_d hk).1.1; simpa [PyData.canLay0] using this) rr), hk, f.same p s rfl⟩
    · rw [if_neg hk] at e'; cases e'
  | [.dict _], e, _ | [.none], e, _ | [.bool _], e, _ | [.int _], e, _ | [.str _], e, _ | [], e, _ => cases (show none = some c from e)
  | _ :: _ :: _, e, _ => exact absurd e (by simp [bltD])
end Lt
namespace Lt
open PySem L2 PySem.Spec PyProof.Rows
section
variable {prog : Program} {w : World} {A : Around} {E : Value → Shared → Prop} {s : Shared} {T : String} {r d : Addr} {n : Nat} {P : Nat → Value → Prop} {OK : Heap → Prop}
/-- what collect does with its list -/
def collR (prog : Program) (w : World) (A : Around) (Q : List Value → Shared → Prop) (E : Value → Shared → Prop) : Result → Shared → Prop := fun r s' => match r with
  | .ok (.ret v) => wpAny (model prog w) A (match v with
    | .ref a => do
      match (← load a).data with
      | .seq xs _ => pure xs.toList
      | _ => unsupported "internal:collect"
    | _ => unsupported "internal:collect") Q E s'
  | .ok _ => False
  | .error e => E e s'
theorem collect_kdl {Q : List Value → Shared → Prop} (K : PySem.W.KdlSrc prog w T r d n P OK) (hh : A.handled = none) (hok : OK s.heap) (hn : n ≤ sizeLine)
    (hQ : ∀ h' tk vs, s.heap.objs.size ≤ h'.objs.size → (∀ b o, s.heap.get? b = some o → h'.get? b = some o) → ItemsOf P vs.toArray n → Q vs { s with heap := h', toks := tk }) :
    wpAny (model prog w) A (collect (.ref r)) Q E s := by
  have hlt := K.there _ hok
  have hS : (s.heap.push (seqObj "list" #[] 0)).get? s.heap.objs.size = some (seqObj "list" #[] 0) := Heap.get?_push_size _ rfl
  have hok1 : OK (s.heap.push (seqObj "list" #[] 0)) := K.keep _ _ hok fun b _ o e => Heap.get?_push_of_some _ e
  unfold collect
  refine wpAny_bind (wpAny_runValue (codeAny_builtin PySem.F.entry_proto_collect ?_))
  rw [Around.under_plainId PySem.F.plain_proto_collect _]
  show wpAny _ A.in1 (newList [] >>= fun l => again (.builtin "list.__iadd__" ⟨[l, .ref r], []⟩)) _ _ s
  refine wpAny_bind (wpAny_newObj_type ?_)
  refine wpAny_pure ⟨plainId_quiet PySem.F.plain_list_iadd _, codeAny_builtin PySem.F.entry_list_iadd ?_⟩
  rw [Around.under_plainId PySem.F.plain_list_iadd _]
  show wpAny _ A.in1 (Builtin.List.listExtendWith (.ref s.heap.objs.size) (.ref r) (.ref s.heap.objs.size)) _ _ { s with heap := s.heap.push (seqObj "list" #[] 0) }
  refine PySem.W.kdl_extend (R := collR prog w A Q E) (s := { s with heap := s.heap.push (seqObj "list" #[] 0) }) K hh hok1 s.heap.objs.size (Nat.ne_of_gt hlt.1) (Nat.ne_of_gt hlt.2) (.ref s.heap.objs.size) 0 hS (fun h' tk acc' c' hk hS' hacc => ?_) hn
  show wpAny (model prog w) A (do
      let o ← load s.heap.objs.size
      match o.data with
      | .seq xs _ => pure xs.toList
      | _ => unsupported "internal:collect") Q E { s with heap := h', toks := tk }
  refine wpAny_bind (wpAny_load hS' ?_)
  show wpAny _ _ (pure acc'.toList) Q E _
  exact wpAny_pure (hQ h' tk acc'.toList (Nat.le_of_lt (Heap.lt_size hS')) (fun b o q => hk b o (Nat.ne_of_lt (Heap.lt_size q)) (Heap.get?_push_of_some _ q)) (by simpa using hacc))
theorem sorted_kdl {Q : Value → Shared → Prop} {bs : List PV} {R : Value → PV → Prop} (K : PySem.W.KdlSrc prog w T r d n P OK) (hh : A.handled = none) (hok : OK s.heap) (hn : n ≤ sizeLine) (hb : bs.length = n)
    (er : ∀ vs : List Value, ItemsOf P vs.toArray n → PySem.W.EachIs R vs bs ∧ PySem.W.EachIs (fun v b => ∃ as, Reads s.heap v b.2 as) vs bs) (hal : PySem.W.AllAlike (bs.map (·.2))) (hk : PySem.W.Sortable (bs.map (·.2))) (hu : ∀ b, b ∈ bs → A.units + 2 + b.2.depth < cLine)
    (h : ∀ (h1 h2 : Heap) (tk : Nat) (a : Addr) (out : List Value) (e : Nat), s.heap.objs.size ≤ h1.objs.size → (∀ b o, s.heap.get? b = some o → h1.get? b = some o) → (∀ b o, h1.get? b = some o → h2.get? b = some o) → h1.objs.size ≤ a → h2.get? a = some (seqObj "list" (List.toArray out) e) → PySem.W.EachIs R out (bs.mergeSort leP) → Q (.ref a) { s with heap := h2, toks := tk }) :
    wpAny (model prog w) A (call (.builtin "sorted") [.ref r]) Q E s := by
  refine Calls.call_function_entry kind_sorted plain_sorted entry_sorted (args_sorted1 _) ?_
  unfold Builtin.«sorted»
  refine wpAny_bind (m := checkCount "sorted" 1 1 _) (wpAny_pure ?_)
  refine wpAny_bind (collect_kdl K hh hok hn fun h' tk vs hle kp hi => ?_)
  obtain ⟨e1, e2⟩ := er vs hi
  have hv : vs.length = n := by simpa using hi.1
  refine wpAny_bind (wpAny_newList ?_ (by omega))
  have ho : (h'.push (seqObj "list" vs.toArray 0)).get? h'.objs.size = some (seqObj "list" vs.toArray 0) := Heap.get?_push_size _ rfl
  have old : ∀ b o, s.heap.get? b = some o → (PySem.W.sortingHeap (h'.push (seqObj "list" vs.toArray 0)) h'.objs.size vs).get? b = some o := fun b o q =>
    PySem.W.sortingHeap_old (Nat.ne_of_lt (Heap.lt_size (kp b o q))) (Heap.get?_push_of_some _ (kp b o q))
  have er' : PySem.W.EachIs (fun v (b : PV) => ∃ as, Reads (PySem.W.sortingHeap (h'.push (seqObj "list" vs.toArray 0)) h'.objs.size vs) v b.2 as) vs bs := e2.mono fun _ _ ⟨as, q⟩ => ⟨as, PyProof.Rows.Reads.keeps old q⟩
  have hvl : vs.length ≤ sizeLine := by omega
  refine wpAny_bind (wpAny_holding (wpAny_call_entry slot_list_sort ⟨_, ho, rfl⟩ entry_list_sort (PySem.W.list_sort_vals (κ := PySem.W.dataKind (PySem.W.sortingHeap (h'.push (seqObj "list" vs.toArray 0)) h'.objs.size vs) (bs.map (·.2))) (s := { s with heap := h'.push (seqObj "list" vs.toArray 0), toks := tk }) ho (PySem.W.SortsAt.data (s := { s with heap := PySem.W.sortingHeap (h'.push (seqObj "list" vs.toArray 0)) h'.objs.size vs, toks := tk }) (PySem.W.each_map (R := fun v d => ∃ as, Reads (PySem.W.sortingHeap (h'.push (seqObj "list" vs.toArray 0)) h'.objs.size vs) v d as) (fun b : PV => b.2) er') hal hk (PySem.W.bound_map (fun b hb => ?_))) hvl ⟨.none, rfl, ?_⟩) (args_list_sort _)))
  · have := hu b hb
    show A.units + 1 + 1 + b.2.depth < cLine
    omega
  · obtain ⟨e, he⟩ := sortedHeap_at (out := (PySem.W.sortVals (PySem.W.dataKind (PySem.W.sortingHeap (h'.push (seqObj "list" vs.toArray 0)) h'.objs.size vs) (bs.map (·.2))) false vs vs).toArray) ho
    refine wpAny_pure ⟨_, rfl, h h' _ tk h'.objs.size _ e hle kp (fun b o q => ?_) (Nat.le_refl _) he (PySem.W.sortVals_data false e1 er' hal)⟩
    have hlt := Heap.lt_size q
    show (sortedHeap (h'.push (seqObj "list" vs.toArray 0)) h'.objs.size vs _).get? b = some o
    rw [sortedHeap_old (Nat.ne_of_lt hlt) (by rw [size_push']; exact Nat.lt_succ_of_lt hlt)]
    exact Heap.get?_push_of_some _ q
end
/-- sorted(d): the keys -/
def rSortedK (K : PySem.W.Frag) : List V → Hp → VK → Prop := fun xs H Q => ∃ (Z : Addr → Prop) (kvs : List (D × D)) (a : Addr), xs = [.ref a] ∧ DicR K H Z kvs a ∧ sortOk (kvs.map (·.1)) = true ∧
  ∀ l vs, H l = none → Rls K H Z (sortD (kvs.map (·.1))) vs → Q (.ref l) (upd H l (.lst vs))
theorem rows_len {K : PySem.W.Frag} {H : Hp} {Z : Addr → Prop} {kvs : List (D × D)} {rows : List Row} (h : RowsV K H Z kvs rows) : rows.length = kvs.length := (Paired.length h).symm
/-- the keys with their values -/
def kPV (kvs : List (D × D)) (rows : List Row) : List PV := (rows.map fun r => r.2.1).zip (kvs.map (·.1))
theorem kPV_at {kvs : List (D × D)} {rows : List Row} {K : PySem.W.Frag} {H : Hp} {Z : Addr → Prop} (h : RowsV K H Z kvs rows) {i : Nat} {p : PV} (e : (kPV kvs rows)[i]? = some p) : ∃ r kv, rows[i]? = some r ∧ kvs[i]? = some kv ∧ p = (r.2.1, kv.1) := by
  unfold kPV at e
  rw [List.getElem?_zip_eq_some] at e
  obtain ⟨e1, e2⟩ := e
  rw [List.getElem?_map] at e1 e2
  obtain ⟨r, e3, e4⟩ := mpd e1
  obtain ⟨kv, e5, e6⟩ := mpd e2
  exact ⟨r, kv, e3, e5, by rw [e4, e6]⟩
theorem paired_at {α β : Type} {R : α → β → Prop} : ∀ {l₁ : List α} {l₂ : List β}, Paired R l₁ l₂ → ∀ {i : Nat} {x : α} {y : β}, l₁[i]? = some x → l₂[i]? = some y → R x y
  | _, _, .nil, _, _, _, h, _ => by simp at h
  | _, _, .cons r t, 0, _, _, h1, h2 => by
    simp at h1 h2
    subst h1 h2
    exact r
  | _, _, .cons r t, i + 1, _, _, h1, h2 => paired_at t (by simpa using h1) (by simpa using h2)
section
variable {X : Cx}
theorem cr_sortedK (hc : X.calm = true) (hu : X.A.units + 65 < cLine) : CallR X (.builtin "sorted") (rSortedK X.K) := by
  intro pins s σ H vs us Q I r h
  obtain ⟨Z, kvs, a, rfl, g, hok, q⟩ := h
  obtain ⟨u, rfl, ru⟩ := vals1 r
  obtain rfl : u = Value.ref a := ru
  obtain ⟨rows, xs, o, es, ep, h1, h2, h3, h4, ho, hx, hd, he, nd, h6, _⟩ := g.open_ I
  have lr : rows.length = kvs.length := rows_len h2
  have lx : xs.length = rows.length := (Paired.length h3).symm
  have le : es.size = xs.length := by rw [← Array.length_toList, he, List.length_map]
  have lb : (kPV kvs rows).length = kvs.length := by unfold kPV; rw [List.length_zip, List.length_map, List.length_map, lr, Nat.min_self]
  have snd : (kPV kvs rows).map (·.2) = kvs.map (·.1) := zip_snd (by rw [List.length_map, List.length_map, lr])
  have at_ : ∀ (ws : List Value), ItemsOf (fun i v => ∃ hi : i < es.size, v = es[i].key) ws.toArray es.size → ∀ (i : Nat) (w : Value) (p : PV), ws[i]? = some w → (kPV kvs rows)[i]? = some p → RelV p.1 w ∧ Rl X.K H Z p.2 p.1 ∧ p.2 ∈ kvs.map (·.1) := by
    intro ws hi i w p e1 e2
    obtain ⟨r, kv, e3, e4, rfl⟩ := kPV_at h2 e2
    obtain ⟨hlt, e5⟩ := hi.2 i w (by simpa using e1)
    obtain ⟨_, _, k3, _⟩ := paired_at h2 e4 e3
    have hxi : i < xs.length := by omega
    obtain ⟨_, q2, _⟩ := paired_at h3 e3 (List.getElem?_eq_getElem hxi)
    have e6 : es[i].key = xs[i].2.1 := by
      have : es.toList[i]? = (xs.map entryN)[i]? := by rw [he]
      rw [List.getElem?_map, List.getElem?_eq_getElem hxi, Array.getElem?_toList, Array.getElem?_eq_getElem hlt] at this
      have := Option.some.inj this
      rw [this]
      rfl
    refine ⟨?_, k3, List.mem_map.mpr ⟨kv, List.mem_of_getElem? e4, rfl⟩⟩
    rw [e5, e6]
    exact q2
  have hok' := hok
  unfold sortOk at hok'
  simp only [Bool.and_eq_true, List.all_eq_true, decide_eq_true_eq, Bool.or_eq_true] at hok'
  obtain ⟨k1, k2, k3, k4⟩ := hok'
  refine sorted_kdl (R := fun u p => RelV p.1 u) (bs := kPV kvs rows) (KdlSrc.rawDict (es := es) (ep := ep) h4) (I.ok.hd hc) ⟨o, ho, hx, hd⟩ (by rw [sizeLine_eq]; omega) (by omega) (fun ws hi => ?_) ?_ ?_ (fun p hp => ?_) fun h1' h2' tk l out e hle kp1 kp2 hl hg hout => ?_
  · have hw : ws.length = (kPV kvs rows).length := by
      have := hi.1
      simp at this
      omega
    refine ⟨each_of hw fun i w p e1 e2 => (at_ ws hi i w p e1 e2).1, each_of hw fun i w p e1 e2 => ?_⟩
    obtain ⟨a1, a2, a3⟩ := at_ ws hi i w p e1 e2
    exact Dp.reads I p.2 p.1 w (Rl.dp _ _ (SeqAt.canLay_of_shaped (k2 p.2 a3).1) a2) a1
  · rw [snd]
    exact fun d hd' d' hd'' => k1 d hd' d' hd''
  · rw [snd]
    rcases k3 with k3 | k3
    · refine .inl fun d hd' => ?_
      have := k3 d hd'
      unfold isT1 at this
      split at this
      · exact ⟨_, _, rfl⟩
      · cases this
    · refine .inr fun d hd' => ?_
      have := k3 d hd'
      refine ⟨fun z => ?_, fun xs z => ?_⟩ <;> rw [z] at this <;> cases this
  · have hm : p.2 ∈ kvs.map (·.1) := by rw [← snd]; exact List.mem_map.mpr ⟨p, hp, rfl⟩
    have := (k2 p.2 hm).2
    have : p.2.depth ≤ 60 := this
    show X.A.units + 2 + p.2.depth < cLine
    omega
  · have hs : s.heap.objs.size ≤ l := by omega
    have fr : H l = none := I.hok.fresh hs
    have hp : ((kPV kvs rows).mergeSort leP).length = kvs.length := by rw [List.length_mergeSort, lb]
    have ms : ∀ p ∈ (kPV kvs rows).mergeSort leP, Rl X.K H Z p.2 p.1 := fun p hp => by
      have hp' := (List.mergeSort_perm _ _).mem_iff.mp hp
      obtain ⟨i, hi⟩ := List.mem_iff_getElem?.mp hp'
      obtain ⟨r, kv, e3, e4, rfl⟩ := kPV_at h2 hi
      exact (paired_at h2 e4 e3).2.2.1
    have rs := Rls.pairs ms
    rw [sortD_pairs, snd] at rs
    refine ⟨.ref l, upd H l (.lst (((kPV kvs rows).mergeSort leP).map (·.1))), I.laid (t' := tk) (fun b o q => kp2 b o (kp1 b o q)) hs ⟨?_, out, e, vals_of_each hout, hg⟩, rfl, q l _ fr rs⟩
    rw [List.length_map, hp, sizeLine_eq]
    omega
end
section
variable {K : PySem.W.Frag}
theorem blt_sorted : BltOk K .sorted (fun xs H Q => rSortedD K xs H Q ∨ rSortedK K xs H Q) := by
  intro W H0 H Z0 Z ρ σ Q ds vs c e r p s f
  match ds, e, r with
  | [.list xs], e, r => exact .inl (blt_sortedL e r p s f)
  | [.dict kvs], e, r =>
    have e' : (if sortOk (kvs.map (·.1)) then some (Cell.own (sortD (kvs.map (·.1)))) else none) = some c := e
    by_cases h : sortOk (kvs.map (·.1)) = true
    · rw [if_pos h] at e'
      cases e'
      obtain ⟨v, rfl, rv⟩ := vw1 r
      obtain ⟨a, rfl, g⟩ := rv.dic
      refine .inr ⟨Z, kvs, a, rfl, g, h, fun l vs hl rs => f.lst p s rs ?_ l hl⟩
      obtain ⟨_, _, _, h3, _⟩ := g
      unfold sortD
      rw [List.length_mergeSort, List.length_map, sizeLine_eq]
      omega
    · rw [if_neg h] at e'; cases e'
  | [.tuple _], e, _ | [.none], e, _ | [.bool _], e, _ | [.int _], e, _ | [.str _], e, _ | [], e, _ => cases (show none = some c from e)
  | _ :: _ :: _, e, _ => exact absurd e (by simp [bltD])
end
end Lt
namespace Lt
open PySem L2 PySem.Spec PyProof.Rows
abbrev E0_ : XK := fun _ _ _ => False
/-- a def's promise; it may count on it that no guard stands below -/
structure FnPr (P : Program) (w : World) (K : PySem.W.Frag) (mg : Str → Option Value) (base : Heap) (lv : Nat) (fa : Addr) (fd : FuncData) (prs : List Str) (pm : Sp) : Prop where
  ln : ∀ vs H Q E, pm vs H Q E → vs.length = prs.length
  go : ∀ (A : Around) (fs : List Env) (s : Shared) (H : Hp) (ag : Args) (us : List Value) (vs : List V) (Q : VK) (E : XK), Room lv A → A.guards = some [] → Env0 P w K mg base A fs s H → BindsTo s fd ag (prs.zip us) → Vals vs us → pm vs H Q E →
    codeAny (model P w) A (.call (.ref fa) ag) (CR (L2.CX P w) fs P w H s Q E) s
section
variable {P : Program} {w : World} {K : PySem.W.Frag} {mg : Str → Option Value} {base : Heap}
theorem FnPr.up {i j : Nat} {fa : Addr} {fd : FuncData} {prs : List Str} {pm : Sp} (F : FnPr P w K mg base i fa fd prs pm) (l : i ≤ j) : FnPr P w K mg base j fa fd prs pm :=
  ⟨F.ln, fun A fs s H ag us vs Q E room gd en b v q => F.go A fs s H ag us vs Q E (room.mono l) gd en b v q⟩
/-- a def of the text, by its body -/
theorem FunD.g {x qual : Str} {params : Arguments} {body : List Stmt} {scope : Scope} {dvs : List V} {kws : List (Str × V)} {fa : Addr} {fd : FuncData} {N prs : List Str} {lv : Nat} {pm : Sp} (F : FunD K x qual params body scope dvs kws fa fd) (S : FnScope N prs scope) (ln : ∀ vs H Q E, pm vs H Q E → vs.length = prs.length)
    (hb : ∀ (cdv : Value) (A : Around) (fs : List Env) (s : Shared) (H : Hp) (vs : List V) (Q : VK) (E : XK), Room lv (A.deeper (envOfC qual scope s.heap.objs.size fa cdv)) → A.guards = some [] → pm vs H Q E →
      ∃ t, PSs (cxOf (L2.CX P w) P w K mg base N qual scope fa cdv A fs s H E) body t ∧ t { nx := fun _ H' => Q .non H', rt := Q } (start N vs) H) : FnPr P w K mg base (lv + 1) fa fd prs pm := by
  obtain ⟨oc, od, dV, kV, doc, pm0, an, cdv, ct, osl, rfl, lk, hcode, _, _⟩ := F.ex
  refine ⟨ln, fun A fs s H ag us vs Q E room gd en bnd rv hsp => ?_⟩
  have hln := ln _ _ _ _ hsp
  have kin : K.In s.heap := en.mod.kin.keeps fun b o e => (en.bs b o e).1
  have nolim : s.heap.NoLimit := en.mod.nolimit.keeps fun b o e => (en.bs b o e).1
  have kinds : ∀ y ∈ prs.zip us, scope.names.lookup y.1 = some .local ∨ (scope.names.lookup y.1 = some .cell ∧ ((cellsFrom (s.heap.objs.size + 1) scope.names []).lookup y.1).isSome = true) := by
    rintro ⟨n, v⟩ hy
    exact (S.par n (List.of_mem_zip hy).1).imp id fun q => ⟨q, PySem.W.cellsFrom_some _ _ _ (.inl q)⟩
  refine codeAny_call_function room.depth (kin _ _ lk) rfl S.co S.gen rfl (PySem.W.codeRec_of kin hcode) (bnd _ _ _ _ ?_)
  refine wpAny_newFunctionEnv_cells S.kind kinds fun env henv s1 x => ?_
  subst henv
  refine ⟨nolim.keeps x.toInCall.keep, codeAny_func ?_⟩
  obtain ⟨t, pt, qt⟩ := hb cdv A fs s H vs Q E (room.deeper _) gd hsp
  have inv := inv_start (CX := L2.CX P w) (E := E) (qual := qual) (f := fa) (cd := cdv) S room.hd en hln rv x
  refine wpAny_mono (pt.run [] s1 (start N vs) H _ inv qt) (fun fl s' fin => ?_) fun e s' q => q
  cases fl with
  | next =>
    obtain ⟨σ', H', J, q⟩ := fin
    exact ⟨V.non, H', J.os, J.bare, J.base, J.hok, rfl, q⟩
  | ret u =>
    obtain ⟨v, σ', H', J, rv', q⟩ := fin
    exact ⟨v, H', J.os, J.bare, J.base, J.hok, rv', q⟩
  | brk =>
    obtain ⟨_, _, _, q⟩ := fin
    exact q.elim
  | cont =>
    obtain ⟨_, _, _, q⟩ := fin
    exact q.elim
end
section
variable {X : Cx} {lv n : Nat} {fa : Addr} {fd : FuncData} {prs ks : List Str} {pm : Sp} {E : XK} {x : Str} {p pos : Pos} {e : Expr} {es : List Expr} {kws : List Keyword} {t tk : TA} {g : List Value → List Value → List Value} {gV : List V → List V → List V}
theorem passG {X : Cx} : Passes (L2.CX X.prog X.w) X E0_ := by
  intro pins σ H s e s' inv h
  obtain ⟨_, _, _, _, _, _, _, _, _, _, _, _, z⟩ := h
  exact z.elim
/-- what a callee's end is for the caller -/
theorem call_end {pins : List (Addr × Obj)} {σ : L2.St} {H : Hp} {s : Shared} {Q : VK} (hx : Passes (L2.CX X.prog X.w) X E) (inv : Inv X pins σ H s) {r : Result} {s' : Shared} (h : CR (L2.CX X.prog X.w) X.stack X.prog X.w H s Q E r s') :
    match r with
    | .ok (.ret u) => EP X pins σ Q u s'
    | .ok _ => False
    | .error u => X.xe u s' := by
  cases r with
  | error u => exact hx pins σ H s u s' inv h
  | ok fl => cases fl <;> first | exact inv.after h | exact (show False from h)
theorem run_g {pins : List (Addr × Obj)} {σ : L2.St} {H : Hp} {s : Shared} {Q : VK} {us : List Value} {vs : List V} (F : FnPr X.prog X.w X.K X.mg X.base lv fa fd prs pm) (room : Room lv X.A) (gd : X.A.guards = some []) (hb : Binds X.K fd prs []) (hx : Passes (L2.CX X.prog X.w) X E)
    (inv : Inv X pins σ H s) (rv : Vals vs us) (h : pm vs H Q E) : wpAny (model X.prog X.w) X.A (call (.ref fa) us) (EP X pins σ Q) X.xe s := by
  have hln : us.length = prs.length := by rw [← rv.length]; exact F.ln _ _ _ _ h
  have hbs := hb s us inv.kIn (by rw [List.append_nil]; exact hln)
  rw [List.append_nil] at hbs
  refine wpAny_call (codeAny_mono (F.go X.A X.stack s H ⟨us, []⟩ us vs Q E room gd inv.env0 hbs rv h) fun r s' fin => ?_)
  have q := call_end hx inv fin
  cases r with
  | error u => exact q
  | ok fl => cases fl <;> first | exact q | exact (show False from q).elim
theorem pe_g (F : FnPr X.prog X.w X.K X.mg X.base lv fa fd prs pm) (room : Room lv X.A) (gd : X.A.guards = some []) (hg : Gl X x) (hm : X.mg x = some (.ref fa)) (kp : PySem.W.keepIn X.K (.ref fa) = true) (hb : Binds X.K fd prs []) (hx : Passes (L2.CX X.prog X.w) X E)
    (pa : PA X (e :: es) t) (nd : (x == ("__debug__" : Str)) = false) (he : starEach (e :: es) X.env = (false, eval e X.env) :: starEach es X.env) (hpl : (backTo pos (starEach es X.env)).any (·.1) = false) :
    PE X (.Call (.Name x p) (e :: es) [] pos) (tCall pm [] E t) := by
  constructor
  intro pins s σ H Q inv want
  refine wpAny_Call_Name_kw (ld_glob inv hg hm ?_ nd)
  refine PySem.W.callWith_K (h₀ := X.base) inv.ok.mod.kin kp (thn (pa.run pos pins s σ H _ inv want) ?_) he hpl
  rintro us s1 ⟨vs, H1, inv1, rv, q⟩
  rw [List.append_nil] at q
  exact ⟨inv1.kIn, run_g F room gd hb hx inv1 rv q⟩
theorem pe_g0 (F : FnPr X.prog X.w X.K X.mg X.base lv fa fd prs pm) (room : Room lv X.A) (gd : X.A.guards = some []) (hg : Gl X x) (hm : X.mg x = some (.ref fa)) (kp : PySem.W.keepIn X.K (.ref fa) = true) (hb : Binds X.K fd prs []) (hx : Passes (L2.CX X.prog X.w) X E)
    (nd : (x == ("__debug__" : Str)) = false) : PE X (.Call (.Name x p) [] [] pos) (tCall pm [] E tNil) := by
  constructor
  intro pins s σ H Q inv want
  refine wpAny_Call_Name_kw (ld_glob inv hg hm ?_ nd)
  exact PySem.W.callWith_K0 inv.kIn kp (run_g (us := []) (vs := []) F room gd hb hx inv .nil want)
theorem run_gN {pins : List (Addr × Obj)} {σ : L2.St} {H : Hp} {s : Shared} {Q : VK} {us ws : List Value} {vs zs : List V} (F : FnPr X.prog X.w X.K X.mg X.base lv fa fd prs pm) (room : Room lv X.A) (gd : X.A.guards = some []) (hb : KBn X.K fd prs n ks g gV) (hx : Passes (L2.CX X.prog X.w) X E)
    (inv : Inv X pins σ H s) (rv : Vals vs us) (rz : Vals zs ws) (l1 : vs.length = n) (l2 : zs.length = ks.length) (h : pm (gV vs zs) H Q E) : wpAny (model X.prog X.w) X.A (call (.ref fa) us (ks.zip ws)) (EP X pins σ Q) X.xe s := by
  have rg := hb.rel rv rz
  have hbs := hb.to s us ws inv.kIn (rv.length.symm.trans l1) (rz.length.symm.trans l2)
  refine wpAny_call (codeAny_mono (F.go X.A X.stack s H ⟨us, ks.zip ws⟩ (g us ws) (gV vs zs) Q E room gd inv.env0 hbs rg h) fun r s' fin => ?_)
  have q := call_end hx inv fin
  cases r with
  | error u => exact q
  | ok fl => cases fl <;> first | exact q | exact (show False from q).elim
theorem pe_gN (F : FnPr X.prog X.w X.K X.mg X.base lv fa fd prs pm) (room : Room lv X.A) (gd : X.A.guards = some []) (hg : Gl X x) (hm : X.mg x = some (.ref fa)) (kp : PySem.W.keepIn X.K (.ref fa) = true) (hb : KBn X.K fd prs n ks g gV) (hx : Passes (L2.CX X.prog X.w) X E)
    (pa : PA X (e :: es) t) (pk : PK X kws tk) (hall : (backToKw pos (keywordEach kws X.env)).all (·.1.isSome) = true) (hks : (backToKw pos (keywordEach kws X.env)).filterMap (·.1) = ks)
    (nd : (x == ("__debug__" : Str)) = false) (he : starEach (e :: es) X.env = (false, eval e X.env) :: starEach es X.env)
    (hpl : ((backTo pos (starEach (e :: es) X.env)).any (·.1) || (backToKw pos (keywordEach kws X.env)).any (·.1.isNone)) = false) :
    PE X (.Call (.Name x p) (e :: es) kws pos) (tCallN n ks.length pm gV E t tk) := by
  constructor
  intro pins s σ H Q inv want
  refine wpAny_Call_Name_kw (ld_glob inv hg hm ?_ nd)
  refine PySem.W.callWith_KW (h₀ := X.base) inv.ok.mod.kin kp hall (thn (pa.run pos pins s σ H _ inv want) ?_) hpl he
  rintro us s1 ⟨vs, H1, inv1, rv, q⟩
  refine thn (pk.run pos pins s1 σ H1 _ inv1 q) ?_
  rintro ws s2 ⟨zs, H2, inv2, rz, l1, l2, q2⟩
  refine ⟨inv2.kIn, ?_⟩
  rw [hks]
  exact run_gN F room gd hb hx inv2 rv rz l1 l2 q2
theorem pe_gN0 (F : FnPr X.prog X.w X.K X.mg X.base lv fa fd prs pm) (room : Room lv X.A) (gd : X.A.guards = some []) (hg : Gl X x) (hm : X.mg x = some (.ref fa)) (kp : PySem.W.keepIn X.K (.ref fa) = true) (hb : KBn X.K fd prs 0 ks g gV) (hx : Passes (L2.CX X.prog X.w) X E) (pk : PK X kws tk)
    (hall : (backToKw pos (keywordEach kws X.env)).all (·.1.isSome) = true) (hks : (backToKw pos (keywordEach kws X.env)).filterMap (·.1) = ks) (nd : (x == ("__debug__" : Str)) = false)
    (hpl : ((backTo pos (starEach [] X.env)).any (·.1) || (backToKw pos (keywordEach kws X.env)).any (·.1.isNone)) = false) :
    PE X (.Call (.Name x p) [] kws pos) (tCallN 0 ks.length pm gV E tNil tk) := by
  constructor
  intro pins s σ H Q inv want
  refine wpAny_Call_Name_kw (ld_glob inv hg hm ?_ nd)
  refine PySem.W.callWith_KW0 (h₀ := X.base) inv.ok.mod.kin kp hall (thn (pk.run pos pins s σ H _ inv want) ?_) hpl
  rintro ws s2 ⟨zs, H2, inv2, rz, l1, l2, q2⟩
  refine ⟨inv2.kIn, ?_⟩
  rw [hks]
  exact run_gN (us := []) (vs := []) F room gd hb hx inv2 .nil rz l1 l2 q2
end
end Lt
namespace Lt
open PySem L2 PySem.Spec PyProof.Rows
/-- the arguments as slots -/
abbrev argSt (vs : List V) : L2.St := vs.map some
/-- a def's promise by its function F -/
def spF (K : PySem.W.Frag) (fn : Fn) : Sp := fun vs H Q _ => ∃ (Z : Addr → Prop) (cs : List Cell) (c out : Cell), Sta K H Z cs (argSt vs) ∧ cs.length = fn.ps.length ∧ (∀ i, isOw (cellAt cs i) = true → fn.io = true ∧ i = 0) ∧ fn.F cs = some (c, out) ∧
  ∀ v H' Z', Stp (Ow cs (argSt vs)) (fun a => isOw out = true ∧ Ow cs (argSt vs) a) H Z H' Z' → CellV K H' Z' c v → (∀ a, isOw c = true → v = .ref a → H a = none) → (∀ v0, isOw (cellAt cs 0) = true → vs[0]? = some v0 → CellV K H' Z' out v0) → (∀ a, Z' a → ∃ o, H' a = some o) → Q v H'
theorem spF_len {K fn} : ∀ vs H Q E, spF K fn vs H Q E → vs.length = fn.ps.length := fun vs H Q E ⟨Z, cs, c, out, s, h, _⟩ => by
  have := s.len
  rw [List.length_map] at this
  omega
section
variable {K : PySem.W.Frag} {H H' : Hp} {Z Z' : Addr → Prop} {ρ : Rho} {σ : L2.St}
/-- all arguments frozen: no slot owns -/
theorem dats_cell : ∀ {ds : List D} {i : Nat}, cellAt (ds.map Cell.dat) i = match ds[i]? with | some d => .dat d | none => .emp := fun {ds i} => by
  unfold cellAt
  rw [List.getD_eq_getElem?_getD, List.getElem?_map]
  cases ds[i]? <;> rfl
theorem dats_ow {ds : List D} {i : Nat} : isOw (cellAt (ds.map Cell.dat) i) = false := by
  rw [dats_cell]
  cases ds[i]? <;> rfl
theorem dats_sta {ds : List D} {vs : List V} (r : Rls K H Z ds vs) (zd : ∀ a, Z a → ∃ o, H a = some o) : Sta K H Z (ds.map Cell.dat) (argSt vs) where
  len := by rw [List.length_map, List.length_map, r.length]
  at_ := fun i hi => by
    rw [dats_cell] at hi ⊢
    cases q : ds[i]? with
    | none => rw [q] at hi; exact (hi rfl).elim
    | some d =>
      obtain ⟨v, h1, h2⟩ := r.get q
      exact ⟨v, by rw [List.getElem?_map, h1]; rfl, h2⟩
  inj := fun i j a h _ _ _ => by rw [dats_ow] at h; cases h
  zd := zd
/-- the first argument as it is, the others frozen -/
theorem cons_sta {c : Cell} {v0 : V} {ds : List D} {vs : List V} (h : CellV K H Z c v0) (r : Rls K H Z ds vs) (zd : ∀ a, Z a → ∃ o, H a = some o) : Sta K H Z (c :: ds.map Cell.dat) (argSt (v0 :: vs)) where
  len := by rw [List.length_cons, List.length_map, List.length_map, List.length_cons, r.length]
  at_ := fun i hi => by
    cases i with
    | zero => exact ⟨v0, rfl, h⟩
    | succ i => exact (dats_sta r zd).at_ i hi
  inj := fun i j a h1 h2 _ _ => by
    cases i with
    | zero =>
      cases j with
      | zero => rfl
      | succ j =>
        have h2' : isOw (cellAt (ds.map Cell.dat) j) = true := h2
        rw [dats_ow] at h2'; cases h2'
    | succ i =>
      have h1' : isOw (cellAt (ds.map Cell.dat) i) = true := h1
      rw [dats_ow] at h1'; cases h1'
  zd := zd
theorem cons_ow {c : Cell} {v0 : V} {ds : List D} {vs : List V} {a : Addr} : Ow (c :: ds.map Cell.dat) (argSt (v0 :: vs)) a ↔ isOw c = true ∧ v0 = .ref a := by
  constructor
  · rintro ⟨i, h1, h2⟩
    cases i with
    | zero => exact ⟨h1, Option.some.inj (Option.some.inj h2)⟩
    | succ i =>
      have h1' : isOw (cellAt (ds.map Cell.dat) i) = true := h1
      rw [dats_ow] at h1'; cases h1'
  · rintro ⟨h1, rfl⟩
    exact ⟨0, h1, rfl⟩
/-- what a callee that may change W leaves of a caller's slots -/
theorem Sta.after {Wc Wo : Addr → Prop} (s : Sta K H Z ρ σ) (p : Stp Wc Wo H Z H' Z') (hw : ∀ a, Wc a → Ow ρ σ a ∨ ¬ Z a) (hn : ∀ i, isOw (cellAt ρ i) = true → ∀ a, σ[i]? = some (some (.ref a)) → ¬ Wc a) (zd : ∀ a, Z' a → ∃ o, H' a = some o) : Sta K H' Z' ρ σ := by
  have nz : ∀ a, Z a → ¬ Wc a := fun a z w => (hw a w).elim (fun o => s.nz o z) fun n => n z
  refine ⟨s.len, fun i hi => ?_, s.inj, zd⟩
  obtain ⟨v, e, c⟩ := s.at_ i hi
  exact ⟨v, e, c.stp p nz fun a ho ev => hn i ho a (by rw [e, ev])⟩
theorem Stp.call {W0 Wc Wo W' : Addr → Prop} {H0 : Hp} {Z0 : Addr → Prop} (p : Stp W0 (Ow ρ σ) H0 Z0 H Z) (q : Stp Wc Wo H Z H' Z') (hw : ∀ a, Wc a → Ow ρ σ a ∨ H0 a = none) (h' : ∀ a, W' a → Ow ρ σ a) : Stp W0 W' H0 Z0 H' Z' where
  fr := fun a o e n => by
    obtain ⟨e1, z1⟩ := p.fr a o e n
    have nc : ¬ Wc a := fun w => by
      rcases hw a w with h | h
      · rcases p.w a h with h | h
        · exact n h
        · rw [e] at h; cases h
      · rw [e] at h; cases h
    obtain ⟨e2, z2⟩ := q.fr a o e1 nc
    exact ⟨e2, fun z => z1 (z2 z)⟩
  dom := fun a o e => by
    obtain ⟨o1, e1⟩ := p.dom a o e
    exact q.dom a o1 e1
  z := fun a z => q.z a (p.z a z)
  w := fun a w => p.w a (h' a w)
/-- an operand stays where others are frozen -/
theorem OdV.frzs {ρ' : Rho} {o : Od} {v : V} {os : List Od} {vs : List V} (r : OdV K H Z ρ σ o v) (h1 : ∀ a, Z a → Z' a) (h2 : ∀ a, Z' a → Z a ∨ Ow ρ σ a ∨ ¬ OwF a os vs) (h3 : ∀ a, Ow ρ' σ a → Ow ρ σ a) (hd : ∀ a, OwT o v a → OwF a os vs) : OdV K H Z' ρ' σ o v := by
  cases o with
  | v i => exact r
  | t c =>
    obtain ⟨r1, r2⟩ := r
    have kp : Keep H Z H Z' := ⟨fun _ _ _ e => e, h1⟩
    refine ⟨?_, fun a h e w => r2 a h e (h3 a w)⟩
    cases c with
    | emp => exact r1
    | dic kvs =>
      obtain ⟨a, rfl, d⟩ := r1
      refine ⟨a, rfl, d.move kp (fun _ h => h) fun z => ?_⟩
      rcases h2 a z with z | z | z
      · exact d.nz z
      · exact r2 a rfl rfl z
      · exact z (hd a ⟨_, rfl, rfl, rfl⟩)
    | dat d => exact Rl.keep kp d v r1
    | own ds =>
      obtain ⟨a, ws, rfl, h, nz, l, rr⟩ := r1
      refine ⟨a, ws, rfl, h, fun z => ?_, l, Rls.keep kp ds ws rr⟩
      rcases h2 a z with z | z | z
      · exact nz z
      · exact r2 a rfl rfl z
      · exact z (hd a ⟨_, rfl, rfl, rfl⟩)
theorem unfz_or (c : Cell) (ρ ρ1 : Rho) : unfz c ρ ρ1 = ρ1 ∨ unfz c ρ ρ1 = ρ ∧ ∀ (H : Hp) (Z Z' : Addr → Prop) v, CellV K H Z c v → CellV K H Z' c v ∧ isOw c = false := by
  cases c with
  | dat d => cases d <;> first | exact .inl rfl | exact .inr ⟨rfl, fun _ _ _ _ h => ⟨h, rfl⟩⟩
  | _ => exact .inl rfl
/-- the function's answer, with the slots and operands as they are: what its promise wants -/
theorem callF_ok {W0 : Addr → Prop} {H0 : Hp} {Z0 : Addr → Prop} {fn : Fn} {os : List Od} {vs : List V} {o : Od} {ρ' : Rho} {Q : VK} {E : XK} (p : Stp W0 (Ow ρ σ) H0 Z0 H Z) (s : Sta K H Z ρ σ) (r : OdVs K H0 H Z ρ σ os vs) (hl : os.length = fn.ps.length) (e : callF fn os ρ = some (o, ρ'))
    (k : ∀ v H' Z', Sta K H' Z' ρ' σ → Stp W0 (Ow ρ' σ) H0 Z0 H' Z' → OdV K H' Z' ρ' σ o v → NewV H0 o v → Q v H') : spF K fn vs H Q E := by
  unfold callF at e
  cases hio : fn.io with
  | false =>
    rw [hio, if_neg Bool.false_ne_true] at e
    obtain ⟨⟨ds, ρ1⟩, e1, e⟩ := bnd e
    obtain ⟨⟨c, out⟩, e2, e⟩ := mpd e
    cases e
    obtain ⟨Z1, p1, s1, r1, _, _, _⟩ := frzs_ok p s r e1
    have hno : ∀ a, ¬ Ow (ds.map Cell.dat) (argSt vs) a := fun a ⟨i, h, _⟩ => by rw [dats_ow] at h; cases h
    refine ⟨Z1, ds.map .dat, c, out, dats_sta r1 s1.zd, ?_, (fun i h => by rw [dats_ow] at h; cases h), e2, fun v H' Z' q cv nw _ zd => ?_⟩
    · rw [List.length_map, frzs_len e1]; exact hl
    · rcases unfz_or c ρ ρ1 with hu | ⟨hu, hs⟩
      · rw [hu] at k
        refine k v H' Z' (s1.after q (fun a w => (hno a w).elim) (fun _ _ a _ w => hno a w) zd) (p1.call q (fun a w => (hno a w).elim) fun _ w => w) ⟨cv, fun a h ev w => ?_⟩ fun a h ev => p1.none_ (nw a h ev)
        obtain ⟨ob, eo⟩ := s1.dm w
        rw [nw a h ev] at eo; cases eo
      · rw [hu] at k
        have q0 : Stp (fun _ => False) (fun _ => False) H Z H' Z := ⟨fun a o e _ => ⟨(q.fr a o e (hno a)).1, fun z => z⟩, q.dom, fun _ z => z, fun _ w => w.elim⟩
        obtain ⟨h1, h2⟩ := hs H' Z' Z v cv
        exact k v H' Z (s.after q0 (fun a w => w.elim) (fun _ _ a _ w => w) fun a z => let ⟨o, e⟩ := s.zd a z; q.dom a o e) (p.call q0 (fun a w => w.elim) fun _ w => w) ⟨h1, fun a h _ _ => by rw [h2] at h; cases h⟩ fun a h ev => by rw [h2] at h; cases h
  | true =>
    rw [hio, if_pos rfl] at e
    cases os with
    | nil => cases e
    | cons o0 os =>
      obtain ⟨v0, vs', ev, hv, hn, hf, hr⟩ := r
      subst ev
      have e' : ((frzs ρ os).bind fun r => match o0 with
        | .v i => (match cellAt r.2 i with
          | .dat d => (fn.F (.dat d :: r.1.map .dat)).map fun q => (Od.t q.1, r.2)
          | .own ds => (fn.F (.own ds :: r.1.map .dat)).map fun q => (.t q.1, r.2.set i q.2)
          | .dic kvs => (fn.F (.dic kvs :: r.1.map .dat)).map fun q => (.t q.1, r.2.set i q.2)
          | .emp => none)
        | .t .emp => none
        | .t c => (fn.F (c :: r.1.map .dat)).map fun q => (.t q.1, r.2)) = some (o, ρ') := e
      clear e
      obtain ⟨⟨ds, ρ1⟩, e1, e⟩ := bnd e'
      clear e'
      obtain ⟨Z1, p1, s1, r1, z1, z2, z3⟩ := frzs_ok p s hr e1
      have hv1 : OdV K H Z1 ρ1 σ o0 v0 := hv.frzs z1 z2 z3 hf
      have hlen : (ds.map Cell.dat).length + 1 = fn.ps.length := by
        rw [List.length_map, frzs_len e1]; exact hl
      have hfirst : ∀ {c : Cell} {i : Nat}, isOw (cellAt (c :: ds.map Cell.dat) i) = true → fn.io = true ∧ i = 0 := fun {c i} h => by
        cases i with
        | zero => exact ⟨hio, rfl⟩
        | succ i =>
          have h' : isOw (cellAt (ds.map Cell.dat) i) = true := h
          rw [dats_ow] at h'; cases h'
      cases o0 with
      | v i =>
        have hvi : σ[i]? = some (some v0) := hv1
        have e2 : (match cellAt ρ1 i with
          | .dat d => (fn.F (.dat d :: ds.map .dat)).map fun q => (Od.t q.1, ρ1)
          | .own ds0 => (fn.F (.own ds0 :: ds.map .dat)).map fun q => (.t q.1, ρ1.set i q.2)
          | .dic kvs => (fn.F (.dic kvs :: ds.map .dat)).map fun q => (.t q.1, ρ1.set i q.2)
          | .emp => none) = some (o, ρ') := e
        clear e
        cases q1 : cellAt ρ1 i with
        | emp => rw [q1] at e2; cases e2
        | dat d =>
          rw [q1] at e2
          obtain ⟨⟨c, out⟩, e3, e4⟩ := mpd e2
          cases e4
          obtain ⟨u, e5, cv0⟩ := s1.at_ i (by rw [q1]; intro z; cases z)
          rw [hvi] at e5; cases e5
          rw [q1] at cv0
          have hno : ∀ a, ¬ Ow (Cell.dat d :: ds.map Cell.dat) (argSt (v0 :: vs')) a := fun a w => by cases (cons_ow.mp w).1
          refine ⟨Z1, .dat d :: ds.map .dat, c, out, cons_sta cv0 r1 s1.zd, hlen, fun i h => hfirst h, e3, fun v H' Z' q cv nw _ zd => ?_⟩
          refine k v H' Z' (s1.after q (fun a w => (hno a w).elim) (fun _ _ a _ w => hno a w) zd) (p1.call q (fun a w => (hno a w).elim) fun _ w => w) ⟨cv, fun a h ev w => ?_⟩ fun a h ev => p1.none_ (nw a h ev)
          obtain ⟨ob, eo⟩ := s1.dm w
          rw [nw a h ev] at eo; cases eo
        | own ds0 =>
          rw [q1] at e2
          obtain ⟨⟨c, out⟩, e3, e4⟩ := mpd e2
          cases e4
          obtain ⟨u, e5, cv0⟩ := s1.at_ i (by rw [q1]; intro z; cases z)
          rw [hvi] at e5; cases e5
          rw [q1] at cv0
          obtain ⟨a0, ws0, ea0, ha0, nz0, hl0, rr0⟩ := id cv0
          have hlt : i < ρ1.length := by rw [s1.len]; exact (List.getElem?_eq_some_iff.mp hvi).1
          have oa0 : Ow ρ1 σ a0 := ⟨i, by rw [q1]; rfl, by rw [hvi, ea0]⟩
          have hW : ∀ a, Ow (Cell.own ds0 :: ds.map Cell.dat) (argSt (v0 :: vs')) a → a = a0 := fun a w => by
            have := (cons_ow.mp w).2
            rw [ea0] at this
            exact (V.ref.inj this).symm
          refine ⟨Z1, .own ds0 :: ds.map .dat, c, out, cons_sta cv0 r1 s1.zd, hlen, fun i h => hfirst h, e3, fun v H' Z' q cv nw co zd => ?_⟩
          have co' : CellV K H' Z' out v0 := co v0 rfl rfl
          have ca := cellAt_set (c := out) hlt
          have sub : ∀ a, Ow (ρ1.set i out) σ a → Ow ρ1 σ a := fun a ⟨j, h1, h2⟩ => by
            rw [ca j] at h1
            by_cases hj : j = i
            · subst hj
              rw [hvi, ea0] at h2
              cases h2
              exact oa0
            · rw [if_neg hj] at h1
              exact ⟨j, h1, h2⟩
          have kp : Keep H Z1 H' Z' := q.keep fun a z w => nz0 (hW a w ▸ z)
          refine k v H' Z' ⟨by rw [List.length_set]; exact s1.len, fun j hj => ?_, fun j l b h1 h2 h3 h4 => ?_, zd⟩ (p1.call q (fun a w => .inl (hW a w ▸ oa0)) sub) ⟨cv, fun a h ev w => ?_⟩ fun a h ev => p1.none_ (nw a h ev)
          · rw [ca j] at hj ⊢
            by_cases hji : j = i
            · subst hji
              rw [if_pos rfl]
              exact ⟨v0, hvi, co'⟩
            · rw [if_neg hji] at hj ⊢
              obtain ⟨u, e6, c6⟩ := s1.at_ j hj
              refine ⟨u, e6, c6.stp q (fun a z w => nz0 (hW a w ▸ z)) fun a ho eu w => ?_⟩
              have ea := hW a w
              subst ea
              exact hji (s1.inj j i a ho (by rw [q1]; rfl) (by rw [e6, eu]) (by rw [hvi, ea0]))
          · have up : ∀ m, isOw (cellAt (ρ1.set i out) m) = true → isOw (cellAt ρ1 m) = true := fun m h => by
              rw [ca m] at h
              by_cases hm : m = i
              · rw [hm, q1]; rfl
              · rw [if_neg hm] at h; exact h
            exact s1.inj j l b (up j h1) (up l h2) h3 h4
          · obtain ⟨ob, eo⟩ := s1.dm (sub a w)
            rw [nw a h ev] at eo; cases eo
        | dic kvs =>
          rw [q1] at e2
          obtain ⟨⟨c, out⟩, e3, e4⟩ := mpd e2
          cases e4
          obtain ⟨u, e5, cv0⟩ := s1.at_ i (by rw [q1]; intro z; cases z)
          rw [hvi] at e5; cases e5
          rw [q1] at cv0
          obtain ⟨a0, ea0, g0⟩ := id cv0
          have nz0 := g0.nz
          have hlt : i < ρ1.length := by rw [s1.len]; exact (List.getElem?_eq_some_iff.mp hvi).1
          have oa0 : Ow ρ1 σ a0 := ⟨i, by rw [q1]; rfl, by rw [hvi, ea0]⟩
          have hW : ∀ a, Ow (Cell.dic kvs :: ds.map Cell.dat) (argSt (v0 :: vs')) a → a = a0 := fun a w => by
            have := (cons_ow.mp w).2
            rw [ea0] at this
            exact (V.ref.inj this).symm
          refine ⟨Z1, .dic kvs :: ds.map .dat, c, out, cons_sta cv0 r1 s1.zd, hlen, fun i h => hfirst h, e3, fun v H' Z' q cv nw co zd => ?_⟩
          have co' : CellV K H' Z' out v0 := co v0 rfl rfl
          have ca := cellAt_set (c := out) hlt
          have sub : ∀ a, Ow (ρ1.set i out) σ a → Ow ρ1 σ a := fun a ⟨j, h1, h2⟩ => by
            rw [ca j] at h1
            by_cases hj : j = i
            · subst hj
              rw [hvi, ea0] at h2
              cases h2
              exact oa0
            · rw [if_neg hj] at h1
              exact ⟨j, h1, h2⟩
          have kp : Keep H Z1 H' Z' := q.keep fun a z w => nz0 (hW a w ▸ z)
          refine k v H' Z' ⟨by rw [List.length_set]; exact s1.len, fun j hj => ?_, fun j l b h1 h2 h3 h4 => ?_, zd⟩ (p1.call q (fun a w => .inl (hW a w ▸ oa0)) sub) ⟨cv, fun a h ev w => ?_⟩ fun a h ev => p1.none_ (nw a h ev)
          · rw [ca j] at hj ⊢
            by_cases hji : j = i
            · subst hji
              rw [if_pos rfl]
              exact ⟨v0, hvi, co'⟩
            · rw [if_neg hji] at hj ⊢
              obtain ⟨u, e6, c6⟩ := s1.at_ j hj
              refine ⟨u, e6, c6.stp q (fun a z w => nz0 (hW a w ▸ z)) fun a ho eu w => ?_⟩
              have ea := hW a w
              subst ea
              exact hji (s1.inj j i a ho (by rw [q1]; rfl) (by rw [e6, eu]) (by rw [hvi, ea0]))
          · have up : ∀ m, isOw (cellAt (ρ1.set i out) m) = true → isOw (cellAt ρ1 m) = true := fun m h => by
              rw [ca m] at h
              by_cases hm : m = i
              · rw [hm, q1]; rfl
              · rw [if_neg hm] at h; exact h
            exact s1.inj j l b (up j h1) (up l h2) h3 h4
          · obtain ⟨ob, eo⟩ := s1.dm (sub a w)
            rw [nw a h ev] at eo; cases eo
      | t c0 =>
        have nemp : c0 ≠ .emp := fun z => by subst z; exact hv1.1
        have e2 : (fn.F (c0 :: ds.map .dat)).map (fun q => (Od.t q.1, ρ1)) = some (o, ρ') := by
          cases c0 with
          | emp => exact (nemp rfl).elim
          | _ => exact e
        clear e
        obtain ⟨⟨c, out⟩, e3, e4⟩ := mpd e2
        cases e4
        obtain ⟨cv0, no0⟩ := hv1
        have hW : ∀ a, Ow (c0 :: ds.map Cell.dat) (argSt (v0 :: vs')) a → isOw c0 = true ∧ v0 = .ref a := fun a w => cons_ow.mp w
        have hnz : ∀ a, isOw c0 = true → v0 = .ref a → ¬ Z1 a := fun a h ev => by
          cases c0 with
          | own ds0 =>
            obtain ⟨b, ws, eb, _, nz, _⟩ := cv0
            rw [ev] at eb; cases eb
            exact nz
          | dic kvs =>
            obtain ⟨b, eb, d⟩ := cv0
            rw [ev] at eb; cases eb
            exact d.nz
          | emp => cases h
          | dat d => cases h
        refine ⟨Z1, c0 :: ds.map .dat, c, out, cons_sta cv0 r1 s1.zd, hlen, fun i h => hfirst h, e3, fun v H' Z' q cv nw _ zd => ?_⟩
        refine k v H' Z' (s1.after q (fun a w => .inr (hnz a (hW a w).1 (hW a w).2)) (fun i ho a ea w => no0 a (hW a w).1 (hW a w).2 ⟨i, ho, ea⟩) zd) (p1.call q (fun a w => .inr (hn a (hW a w).1 (hW a w).2)) fun _ w => w) ⟨cv, fun a h ev w => ?_⟩ fun a h ev => p1.none_ (nw a h ev)
        obtain ⟨ob, eo⟩ := s1.dm w
        rw [nw a h ev] at eo; cases eo
end
section
variable {X : Cx} {T : Tab} {es : List Expr} {pos p : Pos} {x : Str}
/-- a def of the program, as the module's name x gives it -/
structure FnAt (X : Cx) (x : Str) (fn : Fn) (f : Addr) (fd : FuncData) : Prop where
  ok : FnPr X.prog X.w X.K X.mg X.base fn.lvl f fd fn.ps (spF X.K fn)
  gd : X.A.guards = some []
  room : Room fn.lvl X.A
  gl : Gl X x
  mg : X.mg x = some (.ref f)
  kp : PySem.W.keepIn X.K (.ref f) = true
  bd : Binds X.K fd fn.ps []
  nd : (x == ("__debug__" : Str)) = false
theorem so_call {fn : Fn} {j : Nat} {f : Addr} {fd : FuncData} {is : Exs} (hT : T.fn j = some fn) (F : FnAt X x fn f fd) (h : SA X es (evs T is)) (pc : ∀ {t : TA}, PAn X es t → PE X (.Call (.Name x p) es [] pos) (tCall (spF X.K fn) [] E0_ t)) :
    SO X (.Call (.Name x p) es [] pos) (ev T (.call j is [] .nil)) := by
  obtain ⟨t, pt, qt⟩ := h
  refine ⟨_, pc pt, fun ρ σ H Z o ρ' Q s e k => ?_⟩
  obtain ⟨⟨os, ρ1⟩, e1, e⟩ := bnd (show (evs T is ρ).bind _ = some _ from e)
  have e' : ((T.fn j).bind fun fn => if os.length + 0 = fn.ps.length then callF fn (os ++ []) ρ1 else none) = some (o, ρ') := e
  rw [hT, List.append_nil] at e'
  have e2 : (if os.length + 0 = fn.ps.length then callF fn os ρ1 else none) = some (o, ρ') := e'
  by_cases hl : os.length + 0 = fn.ps.length
  · rw [if_pos hl] at e2
    refine qt ρ σ H Z os ρ1 _ s e1 fun vs H1 Z1 s1 p1 r1 => ?_
    show spF X.K fn (vs ++ []) H1 Q E0_
    rw [List.append_nil]
    exact callF_ok p1 s1 r1 hl e2 k
  · rw [if_neg hl] at e2; cases e2
end
end Lt
namespace Lt
open PySem L2 PySem.Spec PyProof.Rows
section
variable {K : PySem.W.Frag} {H0 H H' : Hp} {Z Z' : Addr → Prop} {ρ : Rho} {σ : L2.St}
theorem OwF_iff {a : Addr} : ∀ {os : List Od} {vs : List V}, OwF a os vs ↔ ∀ (i : Nat) (o : Od) (v : V), os[i]? = some o → vs[i]? = some v → ¬ OwT o v a
  | [], vs => ⟨fun _ i o v h _ => by simp at h, fun _ => by cases vs <;> trivial⟩
  | o :: os, [] => ⟨fun _ i o v _ h => by simp at h, fun _ => trivial⟩
  | o :: os, v :: vs => by
    constructor
    · rintro ⟨h1, h2⟩ i o' v' e1 e2
      cases i with
      | zero =>
        cases (show some o = some o' from e1)
        cases (show some v = some v' from e2)
        exact h1
      | succ i => exact OwF_iff.mp h2 i o' v' (by simpa using e1) (by simpa using e2)
    · intro h
      exact ⟨h 0 o v rfl rfl, OwF_iff.mpr fun i o' v' e1 e2 => h (i + 1) o' v' (by simpa using e1) (by simpa using e2)⟩
structure OdI (K : PySem.W.Frag) (H0 H : Hp) (Z : Addr → Prop) (ρ : Rho) (σ : L2.St) (os : List Od) (vs : List V) : Prop where
  len : os.length = vs.length
  at_ : ∀ (i : Nat) (o : Od) (v : V), os[i]? = some o → vs[i]? = some v → OdV K H Z ρ σ o v ∧ NewV H0 o v
  dist : ∀ (i j : Nat) (o : Od) (v : V) (o' : Od) (v' : V) (a : Addr), i ≠ j → os[i]? = some o → vs[i]? = some v → os[j]? = some o' → vs[j]? = some v' → OwT o v a → ¬ OwT o' v' a
theorem OdI.of : ∀ {os : List Od} {vs : List V}, OdVs K H0 H Z ρ σ os vs → OdI K H0 H Z ρ σ os vs
  | [], _, r => by
    cases (show _ = _ from r)
    exact ⟨rfl, fun i o v h => by simp at h, fun i j o v o' v' a _ h => by simp at h⟩
  | o :: os, _, ⟨v, r, e, hv, hn, hf, q⟩ => by
    subst e
    have q' := OdI.of q
    have hf' : ∀ a, OwT o v a → ∀ i o' v', os[i]? = some o' → r[i]? = some v' → ¬ OwT o' v' a := fun a w => OwF_iff.mp (hf a w)
    refine ⟨by rw [List.length_cons, List.length_cons, q'.len], fun i o' v' e1 e2 => ?_, fun i j o1 v1 o2 v2 a hij e1 e2 e3 e4 w1 w2 => ?_⟩
    · cases i with
      | zero =>
        cases (show some o = some o' from e1)
        cases (show some v = some v' from e2)
        exact ⟨hv, hn⟩
      | succ i => exact q'.at_ i o' v' (by simpa using e1) (by simpa using e2)
    · cases i with
      | zero =>
        cases (show some o = some o1 from e1)
        cases (show some v = some v1 from e2)
        cases j with
        | zero => exact hij rfl
        | succ j => exact hf' a w1 j o2 v2 (by simpa using e3) (by simpa using e4) w2
      | succ i =>
        cases j with
        | zero =>
          cases (show some o = some o2 from e3)
          cases (show some v = some v2 from e4)
          exact hf' a w2 i o1 v1 (by simpa using e1) (by simpa using e2) w1
        | succ j => exact q'.dist i j o1 v1 o2 v2 a (by omega) (by simpa using e1) (by simpa using e2) (by simpa using e3) (by simpa using e4) w1 w2
theorem OdI.to : ∀ {os : List Od} {vs : List V}, OdI K H0 H Z ρ σ os vs → OdVs K H0 H Z ρ σ os vs
  | [], vs, h => by
    have := h.len
    exact List.eq_nil_of_length_eq_zero (by simpa using this.symm)
  | o :: os, [], h => by have := h.len; simp at this
  | o :: os, v :: vs, h => by
    refine ⟨v, vs, rfl, (h.at_ 0 o v rfl rfl).1, (h.at_ 0 o v rfl rfl).2, fun a w => ?_, OdI.to ⟨by have := h.len; simpa using this, fun i o' v' e1 e2 => h.at_ (i + 1) o' v' (by simpa using e1) (by simpa using e2), fun i j o1 v1 o2 v2 a hij e1 e2 e3 e4 => h.dist (i + 1) (j + 1) o1 v1 o2 v2 a (by omega) (by simpa using e1) (by simpa using e2) (by simpa using e3) (by simpa using e4)⟩⟩
    exact OwF_iff.mpr fun i o' v' e1 e2 w' => h.dist 0 (i + 1) o v o' v' a (by omega) rfl rfl (by simpa using e1) (by simpa using e2) w w'
/-- one row of operands behind the other -/
theorem OdI.append {os1 os2 : List Od} {vs1 vs2 : List V} (h1 : OdI K H0 H Z ρ σ os1 vs1) (h2 : OdI K H0 H Z ρ σ os2 vs2) (hd : ∀ (i j : Nat) (o : Od) (v : V) (o' : Od) (v' : V) (a : Addr), os1[i]? = some o → vs1[i]? = some v → os2[j]? = some o' → vs2[j]? = some v' → OwT o v a → ¬ OwT o' v' a) :
    OdI K H0 H Z ρ σ (os1 ++ os2) (vs1 ++ vs2) := by
  have hl := h1.len
  have sp : ∀ (i : Nat) (o : Od) (v : V), (os1 ++ os2)[i]? = some o → (vs1 ++ vs2)[i]? = some v → (i < os1.length ∧ os1[i]? = some o ∧ vs1[i]? = some v) ∨ (os1.length ≤ i ∧ os2[i - os1.length]? = some o ∧ vs2[i - os1.length]? = some v) := by
    intro i o v e1 e2
    by_cases hi : i < os1.length
    · rw [List.getElem?_append_left hi] at e1
      rw [List.getElem?_append_left (by omega)] at e2
      exact .inl ⟨hi, e1, e2⟩
    · rw [List.getElem?_append_right (by omega)] at e1
      rw [List.getElem?_append_right (by omega), ← hl] at e2
      exact .inr ⟨by omega, e1, e2⟩
  refine ⟨by rw [List.length_append, List.length_append, hl, h2.len], fun i o v e1 e2 => ?_, fun i j o v o' v' a hij e1 e2 e3 e4 w w' => ?_⟩
  · rcases sp i o v e1 e2 with ⟨_, a, b⟩ | ⟨_, a, b⟩
    · exact h1.at_ _ _ _ a b
    · exact h2.at_ _ _ _ a b
  · rcases sp i o v e1 e2 with ⟨l1, a1, b1⟩ | ⟨l1, a1, b1⟩ <;> rcases sp j o' v' e3 e4 with ⟨l2, a2, b2⟩ | ⟨l2, a2, b2⟩
    · exact h1.dist i j o v o' v' a hij a1 b1 a2 b2 w w'
    · exact hd _ _ _ _ _ _ a a1 b1 a2 b2 w w'
    · exact hd _ _ _ _ _ _ a a2 b2 a1 b1 w' w
    · exact h2.dist (i - os1.length) (j - os1.length) o v o' v' a (by omega) a1 b1 a2 b2 w w'
/-- chosen by places, each once -/
theorem OdI.pick {os : List Od} {vs : List V} (h : OdI K H0 H Z ρ σ os vs) {ix : List Nat} (hi : ∀ i ∈ ix, i < os.length) (nd : ix.Nodup) : OdI K H0 H Z ρ σ (ix.map fun i => os.getD i (.t .emp)) (vs := ix.map fun i => vs.getD i .non) := by
  have ga : ∀ {α : Type} (l : List α) (d : α) (i : Nat) (x : α), (ix.map fun i => l.getD i d)[i]? = some x → ∃ m, ix[i]? = some m ∧ l.getD m d = x := by
    intro α l d i x e
    rw [List.getElem?_map] at e
    exact mpd e
  have go : ∀ (i : Nat) (o : Od), (ix.map fun i => os.getD i (Od.t .emp))[i]? = some o → ∃ m, ix[i]? = some m ∧ os[m]? = some o := by
    intro i o e
    obtain ⟨m, e1, e2⟩ := ga os _ i o e
    have hm := hi m (List.mem_of_getElem? e1)
    refine ⟨m, e1, ?_⟩
    rw [List.getD_eq_getElem?_getD, List.getElem?_eq_getElem hm] at e2
    rw [List.getElem?_eq_getElem hm, ← e2]; rfl
  have gv : ∀ (i : Nat) (v : V), (ix.map fun i => vs.getD i V.non)[i]? = some v → ∃ m, ix[i]? = some m ∧ vs[m]? = some v := by
    intro i v e
    obtain ⟨m, e1, e2⟩ := ga vs _ i v e
    have hm := hi m (List.mem_of_getElem? e1)
    rw [h.len] at hm
    refine ⟨m, e1, ?_⟩
    rw [List.getD_eq_getElem?_getD, List.getElem?_eq_getElem hm] at e2
    rw [List.getElem?_eq_getElem hm, ← e2]; rfl
  refine ⟨by rw [List.length_map, List.length_map], fun i o v e1 e2 => ?_, fun i j o v o' v' a hij e1 e2 e3 e4 w w' => ?_⟩
  · obtain ⟨m, a1, a2⟩ := go i o e1
    obtain ⟨m', b1, b2⟩ := gv i v e2
    rw [a1] at b1; cases b1
    exact h.at_ m o v a2 b2
  · obtain ⟨m, a1, a2⟩ := go i o e1
    obtain ⟨m', b1, b2⟩ := gv i v e2
    rw [a1] at b1; cases b1
    obtain ⟨l, c1, c2⟩ := go j o' e3
    obtain ⟨l', d1, d2⟩ := gv j v' e4
    rw [c1] at d1; cases d1
    refine h.dist m l o v o' v' a (fun q => ?_) a2 b2 c2 d2 w w'
    subst q
    obtain ⟨hi1, x1⟩ := List.getElem?_eq_some_iff.mp a1
    obtain ⟨hj1, x2⟩ := List.getElem?_eq_some_iff.mp c1
    exact hij ((List.getElem_inj nd).mp (x1.trans x2.symm))
end
section
variable {X : Cx} {T : Tab} {es : List Expr} {kws : List Keyword} {pos p : Pos} {x : Str}
def SK (X : Cx) (kws : List Keyword) (f : Rho → Option (List Od × Rho)) : Prop := ∃ t : TA, PK X kws t ∧ ∀ (ρ : Rho) (σ : L2.St) (H : Hp) (Z : Addr → Prop) (os : List Od) (ρ' : Rho) (Q : List V → Hp → Prop), Sta X.K H Z ρ σ → f ρ = some (os, ρ') →
  (∀ vs H' Z', Sta X.K H' Z' ρ' σ → Stp (Ow ρ σ) (Ow ρ' σ) H Z H' Z' → OdVs X.K H H' Z' ρ' σ os vs → Q vs H') → t σ H Q
theorem sk_nil : SK X [] (evs T .nil) := by
  obtain ⟨t, _, q⟩ := sa_nil (X := X) (T := T)
  refine ⟨tNil, pk_nil, fun ρ σ H Z os ρ' Q s e k => ?_⟩
  cases (show some ([], ρ) = some (os, ρ') from e)
  exact k [] H Z s Stp.refl rfl
theorem sk_cons {nm : Option Str} {a : Expr} {kp : Pos} {i : Ex} {is : Exs} (ha : SO X a (ev T i)) (hr : SK X kws (evs T is)) : SK X (⟨nm, a, kp⟩ :: kws) (evs T (.cons i is)) := by
  obtain ⟨ta, pa, qa⟩ := ha
  obtain ⟨tr, pr, qr⟩ := hr
  refine ⟨tCons ta tr, pk_cons pa pr, fun ρ σ H Z os ρ' Q s e k => ?_⟩
  obtain ⟨⟨o, ρ1⟩, e1, e⟩ := bnd (show (ev T i ρ).bind _ = some _ from e)
  obtain ⟨⟨os', ρ2⟩, e2, e⟩ := mpd e
  cases e
  refine qa ρ σ H Z o ρ1 _ s e1 fun v H1 Z1 s1 p1 r1 n1 => ?_
  refine qr ρ1 σ H1 Z1 os' ρ2 _ s1 e2 fun vs H2 Z2 s2 p2 r2 => ?_
  refine k (v :: vs) H2 Z2 s2 (p1.trans p2) ⟨v, vs, rfl, r1.stp s1 p2, n1, fun a w => ?_, r2.back fun a h => p1.none_ h⟩
  obtain ⟨c, e3, e4, e5⟩ := w
  subst e3
  obtain ⟨ob, h⟩ := r1.1.dm e4 e5
  exact r2.old h
theorem kwArr_map {α : Type} (z : α) (ps ks : List Str) (us ws : List α) : kwArr z ps ks us ws = us ++ ((ps.drop us.length).map fun p => ks.idxOf p).map fun i => ws.getD i z := by
  unfold kwArr
  rw [List.map_map]; rfl
theorem idx_nodup {ks : List Str} : ∀ {qs : List Str}, (∀ p ∈ qs, p ∈ ks) → qs.Nodup → (qs.map fun p => ks.idxOf p).Nodup
  | [], _, _ => List.nodup_nil
  | q :: qs, h, nd => by
    rw [List.map_cons, List.nodup_cons]
    rw [List.nodup_cons] at nd
    refine ⟨fun hm => ?_, idx_nodup (fun p hp => h p (by simp [hp])) nd.2⟩
    obtain ⟨p, hp, e⟩ := List.mem_map.mp hm
    have h1 := List.idxOf_lt_length_of_mem (h q (by simp))
    have h2 := List.idxOf_lt_length_of_mem (h p (by simp [hp]))
    have e1 : ks[ks.idxOf q] = q := by simp
    have e2 : ks[ks.idxOf p] = p := by simp
    have : p = q := by
      rw [← e2, ← e1]
      congr 1
    exact nd.1 (this ▸ hp)
theorem so_callk {fn : Fn} {j : Nat} {f : Addr} {fd : FuncData} {ks : List Str} {is iks : Exs} (hT : T.fn j = some fn) (F : FnAt X x fn f fd) (hb : KBn X.K fd fn.ps is.len ks (kwArr .none fn.ps ks) (kwArr .non fn.ps ks)) (hin : ∀ q ∈ fn.ps.drop is.len, q ∈ ks) (hnd : fn.ps.Nodup) (hkl : iks.len = ks.length)
    (h : SA X es (evs T is)) (hk : SK X kws (evs T iks)) (pc : ∀ {t tk : TA}, PAn X es t → PK X kws tk → PE X (.Call (.Name x p) es kws pos) (tCallN is.len ks.length (spF X.K fn) (kwArr .non fn.ps ks) E0_ t tk)) :
    SO X (.Call (.Name x p) es kws pos) (ev T (.call j is ((fn.ps.drop is.len).map fun q => ks.idxOf q) iks)) := by
  obtain ⟨t, pt, qt⟩ := h
  obtain ⟨tk, pk, qk⟩ := hk
  refine ⟨_, pc pt pk, fun ρ σ H Z o ρ' Q s e k => ?_⟩
  obtain ⟨⟨os, ρ1⟩, e1, e⟩ := bnd (show (evs T is ρ).bind _ = some _ from e)
  obtain ⟨⟨oks, ρ2⟩, e2, e⟩ := bnd e
  have l1 : os.length = is.len := evs_len e1
  have l2 : oks.length = iks.len := evs_len e2
  have e' : ((T.fn j).bind fun fn' => if os.length + ((fn.ps.drop is.len).map fun q => ks.idxOf q).length = fn'.ps.length then callF fn' (os ++ ((fn.ps.drop is.len).map fun q => ks.idxOf q).map fun i => oks.getD i (Od.t .emp)) ρ2 else none) = some (o, ρ') := e
  rw [hT] at e'
  have e3 : (if os.length + ((fn.ps.drop is.len).map fun q => ks.idxOf q).length = fn.ps.length then callF fn (os ++ ((fn.ps.drop is.len).map fun q => ks.idxOf q).map fun i => oks.getD i (Od.t .emp)) ρ2 else none) = some (o, ρ') := e'
  by_cases hc : os.length + ((fn.ps.drop is.len).map fun q => ks.idxOf q).length = fn.ps.length
  · rw [if_pos hc] at e3
    refine qt ρ σ H Z os ρ1 _ s e1 fun vs H1 Z1 s1 p1 r1 => ?_
    refine qk ρ1 σ H1 Z1 oks ρ2 _ s1 e2 fun zs H2 Z2 s2 p2 r2 => ?_
    have l3 := r1.length
    have l4 := r2.length
    refine ⟨l3.trans l1, l4.trans (l2.trans hkl), ?_⟩
    have i1 := OdI.of (r1.stp s1 p2)
    have i2 := OdI.of (r2.back fun a h => p1.none_ h)
    have i3 := i2.pick (ix := (fn.ps.drop os.length).map fun q => ks.idxOf q) (fun i hi => by
      obtain ⟨q, hq, e⟩ := List.mem_map.mp hi
      rw [l1] at hq
      have := List.idxOf_lt_length_of_mem (hin q hq)
      omega) (idx_nodup (fun q hq => hin q (by rw [← l1]; exact hq)) (hnd.sublist (List.drop_sublist _ _)))
    have i4 := i1.append i3 (fun i j o1 v1 o2 v2 a a1 a2 a3 a4 w1 w2 => by
      -- the keywords' values are newer than the positional ones
      obtain ⟨c, ec, hc1, hv1⟩ := w1
      obtain ⟨c2, ec2, hc2, hv2⟩ := w2
      subst ec ec2
      have old : ∃ ob, H1 a = some ob := ((OdI.of r1).at_ i _ _ a1 a2).1.1.dm hc1 hv1
      have i2' := (OdI.of r2).pick (ix := (fn.ps.drop os.length).map fun q => ks.idxOf q) (fun i hi => by
        obtain ⟨q, hq, e⟩ := List.mem_map.mp hi
        rw [l1] at hq
        have := List.idxOf_lt_length_of_mem (hin q hq)
        omega) (idx_nodup (fun q hq => hin q (by rw [← l1]; exact hq)) (hnd.sublist (List.drop_sublist _ _)))
      have nw := (i2'.at_ j _ _ a3 a4).2 a hc2 hv2
      obtain ⟨ob, h⟩ := old
      rw [h] at nw; cases nw)
    rw [l1] at i4
    have ev' : vs ++ ((fn.ps.drop is.len).map fun q => ks.idxOf q).map (fun i => zs.getD i V.non) = kwArr .non fn.ps ks vs zs := by rw [kwArr_map, l3, l1]
    rw [ev'] at i4
    exact callF_ok (p1.trans p2) s2 i4.to (by rw [List.length_append, List.length_map]; exact hc) e3 k
  · rw [if_neg hc] at e3; cases e3
end
end Lt
namespace Lt
open PySem L2 PySem.Spec PyProof.Rows
/-- the keys of the dict at d; its rows and its state are fixed -/
def ItKs (d : Addr) (rows : List Row) (ep : Nat) : It :=
  ⟨fun i H => H d = some (.ext (dφ d rows ep)) ∧ i < rows.length, fun i H x H' => H' = H ∧ ∃ r, rows[i]? = some r ∧ x = r.2.1, fun i H => H d = some (.ext (dφ d rows ep)) ∧ rows.length ≤ i⟩
theorem paired_get' {α β : Type} {R : α → β → Prop} : ∀ {l₁ : List α} {l₂ : List β} {i : Nat} {a : α}, Paired R l₁ l₂ → l₁[i]? = some a → ∃ b, l₂[i]? = some b ∧ R a b
  | _, _, i, a, .nil, h => by simp at h
  | _, _, 0, a, .cons r t, h => by
    cases (show some _ = some a from h)
    exact ⟨_, rfl, r⟩
  | _, _, i + 1, a, .cons r t, h => by
    obtain ⟨b, h1, h2⟩ := paired_get' (i := i) t (by simpa using h)
    exact ⟨b, by simpa using h1, h2⟩
section
variable {P : Program} {w : World} {K : PySem.W.Frag} {tg : Expr} {d : Addr}
theorem turn_keysE {rows : List Row} {ep : Nat} (it : Addr) : Turn P w K tg (ItKs d rows ep) [it] it (fun i h => h.IsKeyIter it d i rows.length ep) where
  mem := by simp
  obj := fun i h st b hb => by
    have e : b = it := by simpa using hb
    subst e
    obtain ⟨oi, e, c, dd⟩ := st
    exact ⟨oi, e, fun v z => by rw [dd] at z; cases z⟩
  keep := fun i h h' st k => st.at fun oi e => k it (by simp) oi e
  item := by
    intro X hP hw hK hc i pins s σ H E I hf st hg
    subst hP hw hK
    obtain ⟨hd, hi⟩ := hg
    obtain ⟨f0, f1, f2, f3, f4, f5⟩ := hf it (by simp)
    obtain ⟨⟨hs, o, es, xs, hgd, hx, hdt, he, hp⟩, _⟩ := I.hok d _ hd
    obtain ⟨r, hr⟩ : ∃ r, rows[i]? = some r := ⟨rows[i], List.getElem?_eq_getElem hi⟩
    obtain ⟨x, hxi, _, rk, _⟩ := paired_get' hp hr
    have hlen : es.size = rows.length := by rw [← Array.length_toList, he, List.length_map, Paired.length hp]
    have hen : es[i]? = some (entryN x) := by
      have : es.toList[i]? = (xs.map entryN)[i]? := by rw [he]
      rw [List.getElem?_map, hxi, Array.getElem?_toList] at this
      exact this
    refine next_key_item st hgd hdt hlen hen fun h' st' sb => ?_
    have I1 : Inv X pins σ H { s with heap := h' } := I.turned (t' := s.toks) (fun b ob hb e => (sb.2 b hb).trans e) f0 f1 f3 f4 f5
    obtain ⟨oi, e, c, dd⟩ := id st'
    exact ⟨x.2.1, rfl, go_of (s := { s with heap := h' }) e c dd (by decide) ⟨r.2.1, H, I1, rk, ⟨rfl, r, hr, rfl⟩, st', fun b hb => (hf b hb).1⟩⟩
  done := by
    intro X hP hw hK hc i pins s σ H E I hf st hg
    subst hP hw hK
    obtain ⟨hd, hi⟩ := hg
    obtain ⟨f0, f1, f2, f3, f4, f5⟩ := hf it (by simp)
    obtain ⟨⟨hs, o, es, xs, hgd, hx, hdt, he, hp⟩, _⟩ := I.hok d _ hd
    have hlen : es.size = rows.length := by rw [← Array.length_toList, he, List.length_map, Paired.length hp]
    exact next_key_end (I.ok.hd hc) st hgd hdt hlen hi fun h' eb => ⟨rfl, I.turned (t' := s.toks) (fun b ob hb e => eb b ob hb e) f0 f1 f3 f4 f5⟩
  self := fun A i s Q E st h => by
    refine wpAny_pyIter_slot st.typeIs F.slot_dict_keyiterator_iter (wpAny_call_entry F.slot_dict_keyiterator_iter st.typeIs F.entry_dict_keyiterator_iter ?_ (F.args_dict_keyiterator_iter_1 _))
    show wpAny _ _ (ret (.ref it)) _ _ s
    exact wpAny_pure ⟨_, rfl, "dict_keyiterator", _, st.typeIs, F.slot_dict_keyiterator_next.lookup, h⟩
end
def iKeysE (td : TE) : TI := fun σ H R => td σ H fun x H1 => ∃ d rows ep, x = .ref d ∧ H1 d = some (.ext (dφ d rows ep)) ∧ R (ItKs d rows ep) H1
theorem pi_keysE {X : Cx} {tg e : Expr} {td : TE} (he : PE X e td) : PI X tg e (iKeysE td) := by
  refine ⟨fun pins s σ H R I h => ?_⟩
  refine thn (he.run pins s σ H _ I h) fun u s1 ⟨x, H1, I1, rx, d, rows, ep, ex, hd, q⟩ => ?_
  subst ex
  obtain rfl : u = Value.ref d := rx
  obtain ⟨⟨hs, o, es, xs, hgd, hx, hdt, he, hp⟩, _⟩ := I1.hok d _ hd
  have hlen : es.size = rows.length := by rw [← Array.length_toList, he, List.length_map, Paired.length hp]
  refine iter_keys hs hgd hx hdt (pi_one (tk := s1.toks) I1 _ (turn_keysE _) ⟨_, Heap.get?_push_size _ rfl, rfl, ?_⟩ q)
  rw [hlen] <;> rfl
end Lt
namespace Lt
open PySem L2 PySem.Spec PyProof.Rows
section
variable {K : PySem.W.Frag} {H0 H H' : Hp} {Z Z' : Addr → Prop} {ρ : Rho} {σ : L2.St}
/-- a slot is stored -/
theorem set_ok (s : Sta K H Z ρ σ) {i : Nat} {c : Cell} {v : V} (cv : CellV K H Z c v) (no : ∀ a, isOw c = true → v = .ref a → ¬ Ow ρ σ a) :
    Sta K H Z (ρ.set i c) (σ.set i (some v)) ∧ ∀ a, Ow (ρ.set i c) (σ.set i (some v)) a → Ow ρ σ a ∨ (isOw c = true ∧ v = .ref a) := by
  by_cases hi : i < ρ.length
  · have hi' : i < σ.length := by rw [← s.len]; exact hi
    have ca := cellAt_set (c := c) hi
    have sa : ∀ j, (σ.set i (some v))[j]? = if j = i then some (some v) else σ[j]? := fun j => by
      by_cases hj : j = i
      · subst hj; rw [if_pos rfl, List.getElem?_set_self hi']
      · rw [if_neg hj, List.getElem?_set_ne (Ne.symm hj)]
    have ow : ∀ a, Ow (ρ.set i c) (σ.set i (some v)) a → Ow ρ σ a ∨ (isOw c = true ∧ v = .ref a) := fun a ⟨j, h1, h2⟩ => by
      rw [ca j] at h1
      rw [sa j] at h2
      by_cases hj : j = i
      · rw [if_pos hj] at h1 h2
        exact .inr ⟨h1, Option.some.inj (Option.some.inj h2)⟩
      · rw [if_neg hj] at h1 h2
        exact .inl ⟨j, h1, h2⟩
    refine ⟨⟨by rw [List.length_set, List.length_set, s.len], fun j hj => ?_, fun j k a h1 h2 h3 h4 => ?_, s.zd⟩, ow⟩
    · rw [ca j] at hj ⊢
      rw [sa j]
      by_cases hji : j = i
      · rw [if_pos hji, if_pos hji]; exact ⟨v, rfl, cv⟩
      · rw [if_neg hji] at hj ⊢
        rw [if_neg hji]; exact s.at_ j hj
    · rw [ca j] at h1
      rw [ca k] at h2
      rw [sa j] at h3
      rw [sa k] at h4
      by_cases hj : j = i <;> by_cases hk : k = i
      · rw [hj, hk]
      · rw [if_pos hj] at h1 h3
        rw [if_neg hk] at h2 h4
        exact (no a h1 (Option.some.inj (Option.some.inj h3)) ⟨k, h2, h4⟩).elim
      · rw [if_neg hj] at h1 h3
        rw [if_pos hk] at h2 h4
        exact (no a h2 (Option.some.inj (Option.some.inj h4)) ⟨j, h1, h3⟩).elim
      · rw [if_neg hj] at h1 h3
        rw [if_neg hk] at h2 h4
        exact s.inj j k a h1 h2 h3 h4
  · have e1 : ρ.set i c = ρ := List.set_eq_of_length_le (by omega)
    have e2 : σ.set i (some v) = σ := List.set_eq_of_length_le (by rw [← s.len]; omega)
    rw [e1, e2]
    exact ⟨s, fun a w => .inl w⟩
end
def isT : Tg → Prop
  | .t _ => True
  | _ => False
/-- an item of a walk: frozen data, or a pair that was just made -/
def ItemV (K : PySem.W.Frag) (tg : Tg) (H : Hp) (Z : Addr → Prop) (H' : Hp) (d : D) (x : V) : Prop :=
  (H' = H ∧ Rl K H Z d x) ∨ (isT tg ∧ ∃ T x1 x2 d1 d2, x = .ref T ∧ H T = none ∧ H' = upd H T (.tup [x1, x2]) ∧ d = .tuple [d1, d2] ∧ Rl K H Z d1 x1 ∧ Rl K H Z d2 x2)
mutual
def Tg.slots : Tg → List Nat
  | .n i => [i]
  | .t l => Tg.slotsL l
def Tg.slotsL : List Tg → List Nat
  | [] => []
  | g :: gs => g.slots ++ Tg.slotsL gs
end
def SG (X : Cx) (tg : Expr) (it : Tg) : Prop := ∃ g : TG, PG X tg g ∧ ∀ (ρ : Rho) (σ : L2.St) (H : Hp) (Z : Addr → Prop) (H' : Hp) (d : D) (x : V) (ρ' : Rho) (Q : L2.St → Hp → Prop), Sta X.K H Z ρ σ → ItemV X.K it H Z H' d x → bindTg it d ρ = some ρ' →
  (∀ σ' Z', Sta X.K H' Z' ρ' σ' → Stp (Ow ρ σ) (Ow ρ' σ') H Z H' Z' → (∀ j, j ∉ it.slots → σ'[j]? = σ[j]?) → (∀ a, Z a → Z' a) → Q σ' H') → g x σ H' Q
def SGs (X : Cx) (tgs : List Expr) (its : List Tg) : Prop := ∃ g : TGs, PGs X tgs g ∧ ∀ (ρ : Rho) (σ : L2.St) (H : Hp) (Z : Addr → Prop) (ds : List D) (xs : List V) (ρ' : Rho) (Q : L2.St → Hp → Prop), Sta X.K H Z ρ σ → Rls X.K H Z ds xs → bindTg.go its ds ρ = some ρ' →
  (∀ σ', Sta X.K H Z ρ' σ' → (∀ a, Ow ρ' σ' a → Ow ρ σ a) → (∀ j, j ∉ Tg.slotsL its → σ'[j]? = σ[j]?) → Q σ' H) → g xs σ H Q
section
variable {X : Cx} {T : Tab} {pos : Pos}
theorem Stp.sub {W W1 W2 : Addr → Prop} {H : Hp} {Z : Addr → Prop} {H' : Hp} {Z' : Addr → Prop} (p : Stp W W1 H Z H' Z') (h : ∀ a, W2 a → W1 a) : Stp W W2 H Z H' Z' := ⟨p.fr, p.dom, p.z, fun a w => p.w a (h a w)⟩
/-- a name takes frozen data; nothing else changes -/
def SGn (X : Cx) (tg : Expr) (it : Tg) : Prop := ∃ g : TG, PG X tg g ∧ ∀ (ρ : Rho) (σ : L2.St) (H : Hp) (Z : Addr → Prop) (d : D) (x : V) (ρ' : Rho) (Q : L2.St → Hp → Prop), Sta X.K H Z ρ σ → Rl X.K H Z d x → bindTg it d ρ = some ρ' →
  (∀ σ', Sta X.K H Z ρ' σ' → (∀ a, Ow ρ' σ' a → Ow ρ σ a) → (∀ j, j ∉ it.slots → σ'[j]? = σ[j]?) → Q σ' H) → g x σ H Q
theorem sgn_name {i : Nat} {x : Str} (hN : X.N.Nodup) (hi : X.N[i]? = some x) (hx : Loc X.env.scope x) (hf : X.fn x = true ∨ X.env.scope.names.lookup x = some .local) : SGn X (.Name x pos) (.n i) := by
  refine ⟨gName i, pg_name hN hi hx hf, fun ρ σ H Z d x ρ' Q s r e k => ?_⟩
  cases (show some (ρ.set i (.dat d)) = some ρ' from e)
  obtain ⟨s', ow⟩ := set_ok s (i := i) (c := .dat d) r (fun _ h => nomatch h)
  refine k _ s' (fun a w => (ow a w).elim id fun z => nomatch z.1) fun j hj => ?_
  have : j ≠ i := fun q => hj (by rw [q]; simp [Tg.slots])
  rw [List.getElem?_set_ne (Ne.symm this)]
theorem sgs_nil : SGs X [] [] := by
  refine ⟨gNil, pgs_nil, fun ρ σ H Z ds xs ρ' Q s r e k => ?_⟩
  cases ds with
  | nil =>
    cases (show some ρ = some ρ' from e)
    exact ⟨r, k σ s (fun _ w => w) fun _ _ => rfl⟩
  | cons d ds => cases e
theorem sgs_cons {e : Expr} {es : List Expr} {t : Tg} {ts : List Tg} (h1 : SGn X e t) (h2 : SGs X es ts) (hs : (assignEach (e :: es) X.env).map (·.2) = assign e X.env :: (assignEach es X.env).map (·.2)) : SGs X (e :: es) (t :: ts) := by
  obtain ⟨g1, p1, q1⟩ := h1
  obtain ⟨g2, p2, q2⟩ := h2
  refine ⟨_, pgs_cons p1 p2 hs, fun ρ σ H Z ds xs ρ' Q s r e k => ?_⟩
  cases ds with
  | nil => cases e
  | cons d ds =>
    obtain ⟨v, vs, rfl, r1, r2⟩ := r
    obtain ⟨ρ1, e1, e2⟩ := bnd (show (bindTg t d ρ).bind (bindTg.go ts ds) = some ρ' from e)
    refine ⟨v, vs, rfl, q1 ρ σ H Z d v ρ1 _ s r1 e1 fun σ1 s1 o1 l1 => ?_⟩
    refine q2 ρ1 σ1 H Z ds vs ρ' _ s1 r2 e2 fun σ2 s2 o2 l2 => ?_
    refine k σ2 s2 (fun a w => o1 a (o2 a w)) fun j hj => ?_
    rw [Tg.slotsL, List.mem_append, not_or] at hj
    rw [l2 j hj.2, l1 j hj.1]
/-- (a, b, ..) = a tuple, a list of that length -/
def gSeq (K : PySem.W.Frag) (n : Nat) (t : TGs) : TG := fun v σ H Q => gTup K n t v σ H Q ∨ gLst K n t v σ H Q
theorem pg_seq {es : List Expr} {k : Nat} {t : TGs} {n : Nat} (cm : X.calm = true) (p : PGs X es t) (hn : (assignEach es X.env).length = n) (hs : (assignEach es X.env).findIdx? (·.1) = none) : PG X (.Tuple es k pos) (gSeq X.K n t) := by
  refine ⟨fun pins s σ H v u Q I r hw => ?_⟩
  rcases hw with hw | hw
  · exact (pg_tup cm p hn hs).run pins s σ H v u Q I r hw
  · exact (pg_lst cm p hn hs).run pins s σ H v u Q I r hw
theorem sgn_tup {es : List Expr} {k0 : Nat} {ts : List Tg} (hc : X.calm = true) (h : SGs X es ts) (hn : (assignEach es X.env).length = ts.length) (hst : (assignEach es X.env).findIdx? (·.1) = none) : SGn X (.Tuple es k0 pos) (.t ts) := by
  obtain ⟨g, p, q⟩ := h
  refine ⟨_, pg_seq hc p hn hst, fun ρ σ H Z d x ρ' Q s r e k => ?_⟩
  have hlen : ∀ {ts : List Tg} {ds : List D} {ρ ρ' : Rho}, bindTg.go ts ds ρ = some ρ' → ds.length = ts.length := by
    intro ts
    induction ts with
    | nil =>
      intro ds ρ ρ' e
      cases ds with
      | nil => rfl
      | cons d ds => cases e
    | cons t ts ih =>
      intro ds ρ ρ' e
      cases ds with
      | nil => cases e
      | cons d ds =>
        obtain ⟨ρ1, e1, e2⟩ := bnd (show (bindTg t d ρ).bind (bindTg.go ts ds) = some ρ' from e)
        rw [List.length_cons, List.length_cons, ih e2]
  cases d <;> (try (cases (show none = some ρ' from e)))
  all_goals
    rename_i ds
    have e' : bindTg.go ts ds ρ = some ρ' := e
  · obtain ⟨a, vs, rfl, l, _, rr⟩ := (show Rl X.K H Z (.list ds) x from r)
    exact .inr ⟨a, vs, rfl, l.sq, by rw [rr.length, hlen e'], q ρ σ H Z ds vs ρ' Q s rr e' fun σ' s' o' l' => k σ' s' o' l'⟩
  · obtain ⟨a, vs, rfl, l, _, rr⟩ := (show Rl X.K H Z (.tuple ds) x from r)
    exact .inl ⟨a, vs, rfl, l.sq, by rw [rr.length, hlen e'], q ρ σ H Z ds vs ρ' Q s rr e' fun σ' s' o' l' => k σ' s' o' l'⟩
theorem SGn.g {tg : Expr} {it : Tg} (h : SGn X tg it) (hn : ¬ isT it) : SG X tg it := by
  obtain ⟨g, p, q⟩ := h
  refine ⟨g, p, fun ρ σ H Z H' d x ρ' Q s iv e k => ?_⟩
  rcases iv with ⟨rfl, r⟩ | ⟨ht, _⟩
  · exact q ρ σ H' Z d x ρ' Q s r e fun σ' s' o l => k σ' Z s' (Stp.refl.sub fun a w => o a w) l fun _ z => z
  · exact (hn ht).elim
theorem sg_tup {es : List Expr} {k0 : Nat} {ts : List Tg} (hc : X.calm = true) (h : SGs X es ts) (hn : (assignEach es X.env).length = ts.length) (hst : (assignEach es X.env).findIdx? (·.1) = none) : SG X (.Tuple es k0 pos) (.t ts) := by
  obtain ⟨g0, p0, q0⟩ := h
  refine ⟨_, pg_seq hc p0 hn hst, fun ρ σ H Z H' d x ρ' Q s iv e k => ?_⟩
  have hlen : ∀ {ts : List Tg} {ds : List D} {ρ ρ' : Rho}, bindTg.go ts ds ρ = some ρ' → ds.length = ts.length := by
    intro ts
    induction ts with
    | nil =>
      intro ds ρ ρ' e
      cases ds with
      | nil => rfl
      | cons d ds => cases e
    | cons t ts ih =>
      intro ds ρ ρ' e
      cases ds with
      | nil => cases e
      | cons d ds =>
        obtain ⟨ρ1, e1, e2⟩ := bnd (show (bindTg t d ρ).bind (bindTg.go ts ds) = some ρ' from e)
        rw [List.length_cons, List.length_cons, ih e2]
  rcases iv with ⟨rfl, r⟩ | ⟨_, T, x1, x2, d1, d2, rfl, hT, rfl, rfl, r1, r2⟩
  · cases d <;> (try (cases (show none = some ρ' from e)))
    all_goals
      rename_i ds
      have e' : bindTg.go ts ds ρ = some ρ' := e
    · obtain ⟨a, vs, rfl, l, _, rr⟩ := (show Rl X.K H' Z (.list ds) x from r)
      exact .inr ⟨a, vs, rfl, l.sq, by rw [rr.length, hlen e'], q0 ρ σ H' Z ds vs ρ' Q s rr e' fun σ' s' o' l' => k σ' Z s' (Stp.refl.sub fun a w => o' a w) l' fun _ z => z⟩
    · obtain ⟨a, vs, rfl, l, _, rr⟩ := (show Rl X.K H' Z (.tuple ds) x from r)
      exact .inl ⟨a, vs, rfl, l.sq, by rw [rr.length, hlen e'], q0 ρ σ H' Z ds vs ρ' Q s rr e' fun σ' s' o' l' => k σ' Z s' (Stp.refl.sub fun a w => o' a w) l' fun _ z => z⟩
  · have e' : bindTg.go ts [d1, d2] ρ = some ρ' := e
    obtain ⟨p1, s1, kp, _⟩ := alloc (W0 := Ow ρ σ) (H0 := H) (Z0 := Z) Stp.refl s hT (.tup [x1, x2]) False
    have rr : Rls X.K (upd H T (.tup [x1, x2])) (fun x => Z x ∨ (False ∧ x = T)) [d1, d2] [x1, x2] := Rls.cons (Rl.keep kp _ _ r1) (Rls.cons (Rl.keep kp _ _ r2) Rls.nil)
    exact .inl ⟨T, [x1, x2], rfl, .inl (.inl upd_same), by have := hlen e'; simpa using this, q0 ρ σ _ _ [d1, d2] [x1, x2] ρ' Q s1 rr e' fun σ' s' o' l' => k σ' _ s' (p1.sub fun a w => o' a w) l' fun _ z => .inl z⟩
def ItOk (K : PySem.W.Frag) (tg : Tg) (J : It) (ds : List D) (H : Hp) (Z : Addr → Prop) : Prop := ∀ i H' Z', Keep H Z H' Z' → (i < ds.length → J.go i H') ∧ (i = ds.length → J.stop i H') ∧ ∀ x H'' d, ds[i]? = some d → J.yld i H' x H'' → ItemV K tg H' Z' H'' d x
def SI (X : Cx) (tg it : Expr) (itg : Tg) (f : Rho → Option (List D × Rho)) : Prop := ∃ wi : TI, PI X tg it wi ∧ ∀ (ρ : Rho) (σ : L2.St) (H : Hp) (Z : Addr → Prop) (ds : List D) (ρ' : Rho) (R : It → Hp → Prop), Sta X.K H Z ρ σ → f ρ = some (ds, ρ') →
  (∀ J H' Z', Sta X.K H' Z' ρ' σ → Stp (Ow ρ σ) (Ow ρ' σ) H Z H' Z' → ItOk X.K itg J ds H' Z' → ds.length ≤ sizeLine → R J H') → wi σ H R
theorem pi_or {tg it : Expr} {w1 w2 : TI} (h1 : PI X tg it w1) (h2 : PI X tg it w2) : PI X tg it (fun σ H R => w1 σ H R ∨ w2 σ H R) := by
  constructor
  rintro pins s σ H R inv (w | w)
  · exact h1.run pins s σ H R inv w
  · exact h2.run pins s σ H R inv w
theorem seqD_some {d : D} {ds : List D} (h : seqD d = some ds) : d = .list ds ∨ d = .tuple ds := by
  cases d with
  | list xs => cases (show some xs = some ds from h); exact .inl rfl
  | tuple xs => cases (show some xs = some ds from h); exact .inr rfl
  | _ => cases h
theorem walkD_some {d : D} {ds : List D} (h : walkD d = some ds) : d = .list ds ∨ d = .tuple ds ∨ (∃ kvs, d = .dict kvs ∧ ds = kvs.map (·.1)) ∨ ∃ z : Str, d = .str z ∧ z.length ≤ 16777216 ∧ ds = z.cps.toList.map fun c => .str ⟨#[c]⟩ := by
  cases d with
  | list xs => cases (show some xs = some ds from h); exact .inl rfl
  | tuple xs => cases (show some xs = some ds from h); exact .inr (.inl rfl)
  | dict kvs => cases (show some (kvs.map (·.1)) = some ds from h); exact .inr (.inr (.inl ⟨kvs, rfl, rfl⟩))
  | str z =>
    have h' : (if z.length ≤ 16777216 then some (z.cps.toList.map fun c => (PyData.str ⟨#[c]⟩ : D)) else none) = some ds := h
    by_cases hz : z.length ≤ 16777216
    · rw [if_pos hz] at h'
      cases h'
      exact .inr (.inr (.inr ⟨z, rfl, hz, rfl⟩))
    · rw [if_neg hz] at h'; cases h'
  | _ => cases h
theorem si_seq {tg e : Expr} {itg : Tg} {i : Ex} (h : SO X e (ev T i)) : SI X tg e itg (evi T (.seq i)) := by
  obtain ⟨t, p, q⟩ := h
  refine ⟨_, pi_or (pi_list p) (pi_or (pi_tup p) (pi_or (pi_keysE p) (pi_str p))), fun ρ σ H Z ds ρ' R s e k => ?_⟩
  obtain ⟨⟨o, ρ1⟩, e1, e⟩ := bnd (show (ev T i ρ).bind _ = some _ from e)
  obtain ⟨⟨d, ρ2⟩, e2, e⟩ := bnd e
  obtain ⟨ds', e3, e⟩ := mpd e
  cases e
  rcases walkD_some e3 with rfl | rfl | ⟨kvs, rfl, rfl⟩ | ⟨z, rfl, hz, rfl⟩
  · obtain ⟨xs, rfl⟩ : ∃ xs, xs = ds := ⟨ds, rfl⟩
    refine .inl (q ρ σ H Z o ρ1 _ s e1 fun v H1 Z1 s1 p1 r1 n1 => ?_)
    obtain ⟨Z2, p2, s2, r2, _⟩ := frz_ok p1 s1 r1 n1 e2
    obtain ⟨a, vs, rfl, l, hl, rr⟩ := (show Rl X.K H1 Z2 (.list xs) v from r2)
    refine ⟨a, rfl, ⟨vs, l.sq⟩, k _ _ Z2 s2 p2 (fun i H' Z' kp => ?_) hl⟩
    have l' := l.keep kp
    have rr' := Rls.keep kp xs vs rr
    have hlen := rr.length
    refine ⟨fun hi => ?_, fun hi => ⟨vs, l'.sq, by omega⟩, fun x H'' d hd hy => ?_⟩
    · exact ⟨vs, vs[i]'(by omega), l'.sq, List.getElem?_eq_getElem _⟩
    · obtain ⟨e5, e6⟩ := hy
      obtain ⟨u, h3, h4⟩ := rr'.get hd
      have := e6 vs l'.sq
      rw [h3] at this
      cases this
      exact .inl ⟨e5, h4⟩
  · obtain ⟨xs, rfl⟩ : ∃ xs, xs = ds := ⟨ds, rfl⟩
    refine .inr (.inl (q ρ σ H Z o ρ1 _ s e1 fun v H1 Z1 s1 p1 r1 n1 => ?_))
    obtain ⟨Z2, p2, s2, r2, _⟩ := frz_ok p1 s1 r1 n1 e2
    obtain ⟨a, vs, rfl, l, hl, rr⟩ := (show Rl X.K H1 Z2 (.tuple xs) v from r2)
    refine ⟨a, rfl, ⟨vs, l.sq⟩, k _ _ Z2 s2 p2 (fun i H' Z' kp => ?_) hl⟩
    have l' := l.keep kp
    have rr' := Rls.keep kp xs vs rr
    have hlen := rr.length
    refine ⟨fun hi => ?_, fun hi => ⟨vs, l'.sq, by omega⟩, fun x H'' d hd hy => ?_⟩
    · exact ⟨vs, vs[i]'(by omega), l'.sq, List.getElem?_eq_getElem _⟩
    · obtain ⟨e5, e6⟩ := hy
      obtain ⟨u, h3, h4⟩ := rr'.get hd
      have := e6 vs l'.sq
      rw [h3] at this
      cases this
      exact .inl ⟨e5, h4⟩
  · refine .inr (.inr (.inl (q ρ σ H Z o ρ1 _ s e1 fun v H1 Z1 s1 p1 r1 n1 => ?_)))
    obtain ⟨Z2, p2, s2, r2, _⟩ := frz_ok p1 s1 r1 n1 e2
    obtain ⟨a, rows, ep, rfl, ⟨h, hz⟩, hl, rk, _⟩ := (show Rl X.K H1 Z2 (.dict kvs) v from r2)
    have rr := rlk_rows rk
    have hlen : rows.length = kvs.length := (Paired.length rr).symm
    refine ⟨a, rows, ep, rfl, h, k _ _ Z2 s2 p2 (fun i H' Z' kp => ?_) (by rw [List.length_map, sizeLine_eq]; omega)⟩
    have h' := kp.h a _ hz h
    rw [List.length_map]
    refine ⟨fun hi => ⟨h', by omega⟩, fun hi => ⟨h', by omega⟩, fun x H'' d hd hy => ?_⟩
    obtain ⟨e5, r, e6, e7⟩ := hy
    rw [List.getElem?_map] at hd
    obtain ⟨p, e8, e9⟩ := mpd hd
    obtain ⟨r', e10, _, _, q3, _⟩ := paired_get' rr e8
    rw [e6] at e10
    cases e10
    subst e9 e7
    exact .inl ⟨e5, Rl.keep kp _ _ q3⟩
  · refine .inr (.inr (.inr (q ρ σ H Z o ρ1 _ s e1 fun v H1 Z1 s1 p1 r1 n1 => ?_)))
    obtain ⟨Z2, p2, s2, r2, _⟩ := frz_ok p1 s1 r1 n1 e2
    obtain rfl : v = V.str z := r2
    have hl : z.cps.toList.length = z.cps.size := Array.length_toList
    refine ⟨z, rfl, k _ _ Z2 s2 p2 (fun i H' Z' kp => ?_) (by rw [List.length_map, hl, sizeLine_eq]; exact hz)⟩
    rw [List.length_map, hl]
    refine ⟨fun hi => hi, fun hi => (by rw [hi]; exact Nat.le_refl _), fun x H'' d hd hy => ?_⟩
    obtain ⟨e5, c, e6, e7⟩ := hy
    rw [List.getElem?_map, Array.getElem?_toList, e6] at hd
    cases (show some _ = some d from hd)
    subst e7
    exact .inl ⟨e5, rfl⟩
theorem itr_ok {K : PySem.W.Frag} {itg : Tg} {lo : Int} {n : Nat} {H : Hp} {Z : Addr → Prop} : ItOk K itg (L2.Itr lo n) ((List.range n).map fun k : Nat => (.int (lo + (k : Nat)) : D)) H Z := by
  intro i H' Z' kp
  rw [List.length_map, List.length_range]
  refine ⟨fun hi => hi, fun hi => by rw [hi]; exact Nat.le_refl n, fun x H'' d hd hy => ?_⟩
  obtain ⟨rfl, rfl⟩ := hy
  rw [List.getElem?_map] at hd
  obtain ⟨m, e1, e2⟩ := mpd hd
  have hi : i < n := by
    have := (List.getElem?_eq_some_iff.mp e1).1
    simpa using this
  rw [List.getElem?_range hi] at e1
  cases e1
  subst e2
  exact .inl ⟨rfl, rfl⟩
theorem si_rng1 {tg a : Expr} {itg : Tg} {i : Ex} {p pos : Pos} (hg : Gl X "range") (hm : X.mg "range" = none) (ha : SO X a (ev T i)) (hs : starEach [a] X.env = [(false, eval a X.env)]) : SI X tg (.Call (.Name "range" p) [a] [] pos) itg (evi T (.rng1 i)) := by
  obtain ⟨t, pt, qt⟩ := ha
  refine ⟨_, pi_range1 hg hm (pa_cons pt pa_nil hs) hs, fun ρ σ H Z ds ρ' R s e k => ?_⟩
  obtain ⟨⟨o, ρ1⟩, e1, e⟩ := bnd (show (ev T i ρ).bind _ = some _ from e)
  obtain ⟨d, e2, e⟩ := bnd e
  obtain ⟨ds', e3, e⟩ := mpd e
  cases e
  refine qt ρ σ H Z o ρ1 _ s e1 fun v H1 Z1 s1 p1 r1 _ => ?_
  have rv := r1.vw s1 e2
  clear e
  cases d <;> (try (cases (show none = some ds from e3)))
  rename_i n
  cases (VwV.int rv)
  have e4 : (if -(2 ^ 62) ≤ n ∧ n ≤ 16777216 then some ((List.range n.toNat).map fun k : Nat => (.int (k : Nat) : D)) else none) = some ds := e3
  by_cases hn : -(2 ^ 62) ≤ n ∧ n ≤ 16777216
  · rw [if_pos hn] at e4
    cases e4
    refine ⟨n, rfl, hn.1, by omega, k _ _ Z1 s1 p1 ?_ (by rw [List.length_map, List.length_range, sizeLine_eq]; omega)⟩
    have := itr_ok (K := X.K) (itg := itg) (lo := 0) (n := n.toNat) (H := H1) (Z := Z1)
    simpa using this
  · rw [if_neg hn] at e4; cases e4
theorem si_rng2 {tg a b : Expr} {itg : Tg} {i j : Ex} {p pos : Pos} (hg : Gl X "range") (hm : X.mg "range" = none) (ha : SO X a (ev T i)) (hb : SO X b (ev T j)) (hs : starEach [a, b] X.env = [(false, eval a X.env), (false, eval b X.env)]) (hs2 : starEach [b] X.env = [(false, eval b X.env)]) : SI X tg (.Call (.Name "range" p) [a, b] [] pos) itg (evi T (.rng2 i j)) := by
  obtain ⟨ta, pa, qa⟩ := ha
  obtain ⟨tb, pb, qb⟩ := hb
  refine ⟨_, pi_range2 hg hm (pa_cons pa (pa_cons pb pa_nil hs2) (by rw [hs, hs2])) hs hs2, fun ρ σ H Z ds ρ' R s e k => ?_⟩
  obtain ⟨⟨o, ρ1⟩, e1, e⟩ := bnd (show (ev T i ρ).bind _ = some _ from e)
  obtain ⟨⟨o2, ρ2⟩, e2, e⟩ := bnd e
  obtain ⟨x, e3, e⟩ := bnd e
  obtain ⟨y, e4, e⟩ := bnd e
  obtain ⟨ds', e5, e⟩ := mpd e
  cases e
  refine two qa qb s e1 e2 fun v w H2 Z2 s2 p2 r1 r2 _ _ => ?_
  have rv := r1.vw s2 e3
  have rw' := r2.vw s2 e4
  clear e
  cases x <;> cases y <;> (try (cases (show none = some ds from e5)))
  rename_i m n
  cases (VwV.int rv)
  cases (VwV.int rw')
  have e6 : (if -(2 ^ 62) ≤ m ∧ m < 2 ^ 62 ∧ -(2 ^ 62) ≤ n ∧ n < 2 ^ 62 ∧ n - m ≤ 16777216 then some ((List.range (n - m).toNat).map fun k : Nat => (.int (m + (k : Nat)) : D)) else none) = some ds := e5
  by_cases hn : -(2 ^ 62) ≤ m ∧ m < 2 ^ 62 ∧ -(2 ^ 62) ≤ n ∧ n < 2 ^ 62 ∧ n - m ≤ 16777216
  · rw [if_pos hn] at e6
    cases e6
    exact ⟨m, n, rfl, ⟨hn.1, hn.2.1, hn.2.2.1, hn.2.2.2.1⟩, k _ _ Z2 s2 p2 itr_ok (by rw [List.length_map, List.length_range, sizeLine_eq]; omega)⟩
  · rw [if_neg hn] at e6; cases e6
end
end Lt
namespace Lt
open PySem L2 PySem.Spec PyProof.Rows
/-- x.partition(sep), its tuple without a dict of its own -/
def rPart : V → List V → Hp → VK → Prop := fun x xs H Q => ∃ a b, x = .str a ∧ xs = [.str b] ∧ (b.length == 0) = false ∧ a.length ≤ sizeLine ∧
  NewT H Q [.str (Txt.partition a b).1, .str (Txt.partition a b).2.1, .str (Txt.partition a b).2.2]
section
variable {X : Cx}
theorem mt_partF : MtR X "str.partition" rPart := by
  rintro pins s σ H x xs v us Q I rx rs ⟨a, b, rfl, rfl, hb, hz, h⟩
  obtain ⟨t, rfl⟩ := rx
  obtain ⟨w, rfl, ru⟩ := rs.one
  obtain ⟨u, rfl⟩ := ru
  have h3 : ∀ l : List Value, l.length = 3 → l.length ≤ sizeLine := fun l e => by rw [e, sizeLine_eq]; decide
  refine call_meets F.slot_str_partition (typeIs_str _ _ _) F.entry_str_partition (F.args_str_partition_2 _ _) (meets_str_partition a b t u hb hz) ?_
  unfold Txt.partition at h
  revert h
  cases Builtin.Str.occurrences a b 0 a.length 1 with
  | nil => exact fun h => h.use I (.cons ⟨_, rfl⟩ (.cons ⟨_, rfl⟩ (.cons ⟨_, rfl⟩ .nil))) (by rw [sizeLine_eq]; exact (by decide : (3 : Nat) ≤ 16777216)) _
  | cons i r => exact fun h => h.use I (.cons ⟨_, rfl⟩ (.cons ⟨_, rfl⟩ (.cons ⟨_, rfl⟩ .nil))) (by rw [sizeLine_eq]; exact (by decide : (3 : Nat) ≤ 16777216)) _
end
def rJoin (K : PySem.W.Frag) : V → List V → Hp → VK → Prop := fun x xs H Q => ∃ a p, ∃ ys : List Str, x = .str a ∧ xs = [.ref p] ∧ (SqL K H p (ys.map V.str) ∨ SqT K H p (ys.map V.str)) ∧
  (ys.map (·.length)).sum + ys.length * a.length ≤ 16777216 ∧ Q (.str (Txt.join a ys)) H
def rSplit : V → List V → Hp → VK → Prop := fun x xs H Q => ∃ a b, x = .str a ∧ xs = [.str b] ∧ (b.length == 0) = false ∧ a.length + 2 ≤ sizeLine ∧ rNewStrs (Txt.split a b) H Q
def rStarts (f : Str → Str → Bool) : V → List V → Hp → VK → Prop := fun x xs H Q => ∃ a b, x = .str a ∧ xs = [.str b] ∧ Q (.bl (f a b)) H
def rSm (K : PySem.W.Frag) : Sf → V → List V → Hp → VK → Prop
  | .join => rJoin K
  | .split => rSplit
  | .partition => rPart
  | .startswith => rStarts Txt.startswith
  | .endswith => rStarts Txt.endswith
theorem pe_sm {X : Cx} {o e : Expr} {to te : TE} {apos pos : Pos} (m : Sf) (ho : PE X o to) (he : PE X e te) (hs : starEach [e] X.env = [(false, eval e X.env)]) (hbase : attributeBase o m.nm X.env (eval o X.env) = eval o X.env) (hline : (apos.endLine == pos.line) = true) :
    PE X (.Call (.Attribute o m.nm apos) [e] [] pos) (tM1 (rSm X.K m) to te) := by
  cases m with
  | join => exact pe_m1 F.slot_str_join F.type_str_join mt_join ho he hs hbase hline
  | split => exact pe_m1 F.slot_str_split F.type_str_split mt_split ho he hs hbase hline
  | partition => exact pe_m1 F.slot_str_partition F.type_str_partition mt_partF ho he hs hbase hline
  | startswith => exact pe_m1 F.slot_str_startswith F.type_str_startswith mt_startswith ho he hs hbase hline
  | endswith => exact pe_m1 F.slot_str_endswith F.type_str_endswith mt_endswith ho he hs hbase hline
section
variable {K : PySem.W.Frag} {W : Addr → Prop} {H0 H : Hp} {Z0 Z : Addr → Prop} {ρ : Rho} {σ : L2.St} {Q : VK}
theorem Rls.strs : ∀ {ds : List D} {vs : List V} {ns : List Str}, Rls K H Z ds vs → asStrs ds = some ns → vs = ns.map V.str
  | [], _, ns, r, e => by
    cases (show some [] = some ns from e)
    exact r
  | d :: ds, vs, ns, ⟨v, r, e, h1, h2⟩, h => by
    cases d with
    | str i =>
      obtain ⟨ms, q1, q2⟩ := mpd (show (asStrs ds).map (i :: ·) = some ns from h)
      subst q2
      rw [e, Rls.strs h2 q1]
      cases (show v = V.str i from h1)
      rfl
    | _ => cases (show none = some ns from h)
theorem strs_rls : ∀ {ys : List Str}, Rls K H Z (ys.map PyData.str) (ys.map V.str)
  | [] => Rls.nil
  | _ :: _ => Rls.cons rfl strs_rls
theorem sm_ok {m : Sf} {s : Str} {y : D} {c : Cell} {w : V} (e : smD m s y = some c) (ry : VwV K H Z y w) (p : Stp W (Ow ρ σ) H0 Z0 H Z) (st : Sta K H Z ρ σ) (f : Fin_ K W H0 Z0 ρ σ c Q) : rSm K m (.str s) [w] H Q := by
  have jn : ∀ {xs : List D} {ws : List V}, joinD s xs = some c → Rls K H Z xs ws → ∃ ys : List Str, ws = ys.map V.str ∧ (ys.map (·.length)).sum + ys.length * s.length ≤ 16777216 ∧ Q (.str (Txt.join s ys)) H := by
    intro xs ws e rr
    obtain ⟨ys, e1, e2⟩ := bnd (show (asStrs xs).bind _ = some c from e)
    by_cases h : (ys.map (·.length)).sum + ys.length * s.length ≤ 16777216
    · rw [if_pos h] at e2
      cases e2
      exact ⟨ys, rr.strs e1, h, f.same p st rfl⟩
    · rw [if_neg h] at e2; cases e2
  cases m with
  | join =>
    cases y <;> (try (cases (show none = some c from e)))
    · obtain ⟨a, vs, rfl, h, _, rr⟩ := ry.lst
      obtain ⟨ys, rfl, h2, h3⟩ := jn e rr
      exact ⟨s, a, ys, rfl, rfl, .inl h, h2, h3⟩
    · obtain ⟨a, vs, rfl, h, _, rr⟩ := ry.tup
      obtain ⟨ys, rfl, h2, h3⟩ := jn e rr
      exact ⟨s, a, ys, rfl, rfl, .inr h, h2, h3⟩
  | split =>
    cases y <;> (try (cases (show none = some c from e)))
    rename_i b
    cases (show w = V.str b from ry)
    have e' : (if (b.length == 0) = false ∧ s.length + 2 ≤ 16777216 then some (Cell.own ((Txt.split s b).map .str)) else none) = some c := e
    by_cases h : (b.length == 0) = false ∧ s.length + 2 ≤ 16777216
    · rw [if_pos h] at e'
      cases e'
      have hl : (Txt.split s b).length ≤ sizeLine := Nat.le_trans (PyProof.Rows.split_le s b) (by rw [sizeLine_eq]; omega)
      exact ⟨s, b, rfl, rfl, h.1, by rw [sizeLine_eq]; exact h.2, f.lst p st strs_rls (by rw [List.length_map]; exact hl)⟩
    · rw [if_neg h] at e'; cases e'
  | partition =>
    cases y <;> (try (cases (show none = some c from e)))
    rename_i b
    cases (show w = V.str b from ry)
    have e' : (if (b.length == 0) = false ∧ s.length ≤ 16777216 then some (Cell.dat (.tuple [.str (Txt.partition s b).1, .str (Txt.partition s b).2.1, .str (Txt.partition s b).2.2])) else none) = some c := e
    by_cases h : (b.length == 0) = false ∧ s.length ≤ 16777216
    · rw [if_pos h] at e'
      cases e'
      exact ⟨s, b, rfl, rfl, h.1, by rw [sizeLine_eq]; exact h.2, f.tup p st (strs_rls (ys := [_, _, _])) (by rw [sizeLine_eq]; exact (by decide : (3 : Nat) ≤ 16777216))⟩
    · rw [if_neg h] at e'; cases e'
  | startswith =>
    cases y <;> (try (cases (show none = some c from e)))
    rename_i b
    cases (show w = V.str b from ry)
    cases (show some _ = some c from e)
    exact ⟨s, b, rfl, rfl, f.same p st rfl⟩
  | endswith =>
    cases y <;> (try (cases (show none = some c from e)))
    rename_i b
    cases (show w = V.str b from ry)
    cases (show some _ = some c from e)
    exact ⟨s, b, rfl, rfl, f.same p st rfl⟩
end
section
variable {X : Cx} {T : Tab} {a e o : Expr} {es : List Expr} {pos : Pos}
theorem strD_some {x : D} {s : Str} (h : strD x = some s) : x = .str s := by
  cases x <;> first | (cases (show some _ = some s from h); rfl) | cases h
theorem so_sm {m : Sf} {ia ie : Ex} {apos : Pos} (ho : SO X o (ev T ia)) (he : SO X e (ev T ie)) (hs : starEach [e] X.env = [(false, eval e X.env)]) (hbase : attributeBase o m.nm X.env (eval o X.env) = eval o X.env) (hline : (apos.endLine == pos.line) = true) :
    SO X (.Call (.Attribute o m.nm apos) [e] [] pos) (ev T (.sm m ia ie)) := by
  obtain ⟨ta, pa, qa⟩ := ho
  obtain ⟨tb, pb, qb⟩ := he
  refine ⟨_, pe_sm m pa pb hs hbase hline, fun ρ σ H Z o ρ' Q s e k => ?_⟩
  obtain ⟨⟨x, ρ1⟩, e1, e⟩ := bnd (show (ev T ia ρ).bind _ = some _ from e)
  obtain ⟨dx, e2, e⟩ := bnd e
  obtain ⟨st, e3, e⟩ := bnd e
  obtain ⟨⟨y, ρ2⟩, e4, e⟩ := bnd e
  obtain ⟨dy, e5, e⟩ := bnd e
  obtain ⟨c, e6, e⟩ := mpd e
  cases e
  have e3' := strD_some e3
  subst e3'
  refine qa ρ σ H Z x ρ1 _ s e1 fun v H1 Z1 s1 p1 r1 _ => ?_
  have rv : v = V.str st := r1.vw s1 e2
  subst rv
  refine ⟨⟨st, rfl⟩, qb ρ1 σ H1 Z1 y ρ2 _ s1 e4 fun w H2 Z2 s2 p2 r2 _ => ?_⟩
  exact sm_ok e6 (r2.vw s2 e5) (p1.trans p2) s2 (Fin_.of k)
/-- [*a, e, ..] -/
theorem so_lsS {ia : Ex} {is : Exs} {sp : Pos} (ha : SO X a (ev T ia)) (h : SA X es (evs T is)) (hs : starEach (.Starred a sp :: es) X.env = (true, eval a X.env) :: starEach es X.env) : SO X (.List (.Starred a sp :: es) pos) (ev T (.lsS ia is)) := by
  obtain ⟨ta, pa, qa⟩ := ha
  obtain ⟨t, p, q⟩ := h
  refine ⟨_, pe_lst (StX.pa_star pa p.1 hs), fun ρ σ H Z o ρ' Q s e k => ?_⟩
  obtain ⟨⟨x, ρ1⟩, e1, e⟩ := bnd (show (ev T ia ρ).bind _ = some _ from e)
  obtain ⟨⟨d, ρ2⟩, e2, e⟩ := bnd e
  obtain ⟨ds, e3, e⟩ := bnd e
  obtain ⟨⟨os, ρ3⟩, e4, e⟩ := bnd e
  obtain ⟨⟨ws, ρ4⟩, e5, e⟩ := bnd e
  by_cases hl : ds.length + ws.length ≤ 16777216
  · rw [if_pos hl] at e
    cases e
    refine qa ρ σ H Z x ρ1 _ s e1 fun v H1 Z1 s1 p1 r1 n1 => ?_
    obtain ⟨Z2, p2, s2, r2, _⟩ := frz_ok p1 s1 r1 n1 e2
    have hsq : ∃ b xs, v = V.ref b ∧ (SqT X.K H1 b xs ∨ SqL X.K H1 b xs) ∧ Rls X.K H1 Z2 ds xs := by
      rcases seqD_some e3 with rfl | rfl
      · obtain ⟨b, xs, rfl, l, _, rr⟩ := (show Rl X.K H1 Z2 (.list ds) v from r2)
        exact ⟨b, xs, rfl, .inr l.sq, rr⟩
      · obtain ⟨b, xs, rfl, l, _, rr⟩ := (show Rl X.K H1 Z2 (.tuple ds) v from r2)
        exact ⟨b, xs, rfl, .inl l.sq, rr⟩
    obtain ⟨b, xs, rfl, hq, rr⟩ := hsq
    refine ⟨b, xs, rfl, hq, ?_⟩
    refine q ρ2 σ H1 Z2 os ρ3 _ s2 e4 fun vs H3 Z3 s3 p3 r3 => ?_
    obtain ⟨Z4, p4, s4, r4, _⟩ := frzs_ok p3 s3 r3 e5
    have rr4 : Rls X.K H3 Z4 ds xs := Rls.keep (s2.keep p4) ds xs rr
    have l1 := rr.length
    have l2 := r4.length
    have hz : (ds ++ ws).length ≤ sizeLine := by rw [List.length_append, sizeLine_eq]; exact hl
    rw [List.length_append] at hz
    exact ⟨by rw [List.length_append]; omega, (Fin_.of k).lst (p2.trans p4) s4 (rr4.append r4) (by rw [List.length_append]; exact hz)⟩
  · rw [if_neg hl] at e; cases e
/-- [e, *a] -/
theorem so_lsE {ia ie : Ex} {sp : Pos} (he : SO X e (ev T ie)) (ha : SO X a (ev T ia)) (hs1 : starEach [e, .Starred a sp] X.env = (false, eval e X.env) :: starEach [.Starred a sp] X.env) (hs2 : starEach [.Starred a sp] X.env = (true, eval a X.env) :: starEach [] X.env) : SO X (.List [e, .Starred a sp] pos) (ev T (.lsE ie ia)) := by
  obtain ⟨te, pe, qe⟩ := he
  obtain ⟨ta, pa, qa⟩ := ha
  refine ⟨_, pe_lst (pa_cons pe (StX.pa_star pa pa_nil hs2) hs1), fun ρ σ H Z o ρ' Q s e k => ?_⟩
  obtain ⟨⟨x, ρ1⟩, e1, e⟩ := bnd (show (ev T ie ρ).bind _ = some _ from e)
  obtain ⟨⟨y, ρ2⟩, e2, e⟩ := bnd e
  obtain ⟨⟨d, ρ3⟩, e3, e⟩ := bnd e
  obtain ⟨ds, e4, e⟩ := bnd e
  obtain ⟨⟨g, ρ4⟩, e5, e⟩ := bnd e
  by_cases hl : ds.length + 1 ≤ 16777216
  · rw [if_pos hl] at e
    cases e
    refine qe ρ σ H Z x ρ1 _ s e1 fun v H1 Z1 s1 p1 r1 n1 => ?_
    refine qa ρ1 σ H1 Z1 y ρ2 _ s1 e2 fun w H2 Z2 s2 p2 r2 n2 => ?_
    obtain ⟨Z3, p3, s3, r3, kp3⟩ := frz_ok p2 s2 r2 n2 e3
    have hsq : ∃ b xs, w = V.ref b ∧ (SqT X.K H2 b xs ∨ SqL X.K H2 b xs) ∧ Rls X.K H2 Z3 ds xs := by
      rcases seqD_some e4 with rfl | rfl
      · obtain ⟨b, xs, rfl, l, _, rr⟩ := (show Rl X.K H2 Z3 (.list ds) w from r3)
        exact ⟨b, xs, rfl, .inr l.sq, rr⟩
      · obtain ⟨b, xs, rfl, l, _, rr⟩ := (show Rl X.K H2 Z3 (.tuple ds) w from r3)
        exact ⟨b, xs, rfl, .inl l.sq, rr⟩
    obtain ⟨b, xs, rfl, hq, rr⟩ := hsq
    refine ⟨b, xs, rfl, hq, ?_⟩
    have r1' := r1.stp s1 p3
    obtain ⟨Z5, p5, s5, r5, k5, _⟩ := frz_ok (p1.trans p3) s3 r1' (n1.back fun _ h => h) e5
    have rr5 : Rls X.K H2 Z5 ds xs := Rls.keep ⟨fun _ _ _ h => h, k5⟩ ds xs rr
    have l1 := rr.length
    have hz : ds.length + 1 ≤ sizeLine := by rw [sizeLine_eq]; exact hl
    exact ⟨by simp only [List.length_cons, List.length_append, List.length_nil]; omega, (Fin_.of k).lst p5 s5 (Rls.cons r5 (by rw [List.append_nil]; exact rr5)) (by rw [List.length_cons]; exact hz)⟩
  · rw [if_neg hl] at e; cases e
end
end Lt
namespace Lt
open PySem L2 PySem.Spec PyProof.Rows
theorem wipe_at (σ : L2.St) : ∀ (vs : List Nat) (j : Nat), (wipe σ vs)[j]? = if j ∈ vs then (if j < σ.length then some none else none) else σ[j]?
  | [], j => by simp [wipe]
  | v :: vs, j => by
    unfold wipe
    by_cases h : j = v
    · subst h
      rw [if_pos (by simp)]
      by_cases hl : j < σ.length
      · rw [if_pos hl, List.getElem?_set_self (by rw [wipe_length]; exact hl)]
      · rw [if_neg hl, List.getElem?_eq_none (by rw [List.length_set, wipe_length]; omega)]
    · rw [List.getElem?_set_ne (Ne.symm h), wipe_at σ vs j]
      have : (j ∈ v :: vs) ↔ j ∈ vs := by simp [h]
      simp only [this]
theorem wipeR_len (ρ : Rho) : ∀ vs : List Nat, (wipeR ρ vs).length = ρ.length
  | [] => rfl
  | v :: vs => by unfold wipeR; rw [List.length_set, wipeR_len ρ vs]
theorem cellAt_out {ρ : Rho} {j : Nat} (h : ρ.length ≤ j) : cellAt ρ j = .emp := by
  unfold cellAt
  rw [List.getD_eq_getElem?_getD, List.getElem?_eq_none h]; rfl
theorem cellAt_setE (ρ : Rho) (i j : Nat) : cellAt (ρ.set i .emp) j = if j = i then .emp else cellAt ρ j := by
  by_cases h : i < ρ.length
  · exact cellAt_set h j
  · by_cases hj : j = i
    · rw [if_pos hj]; exact cellAt_out (by rw [List.length_set]; omega)
    · rw [if_neg hj, List.set_eq_of_length_le (by omega)]
theorem wipeR_at (ρ : Rho) : ∀ (vs : List Nat) (j : Nat), cellAt (wipeR ρ vs) j = if j ∈ vs then .emp else cellAt ρ j
  | [], j => by simp [wipeR]
  | v :: vs, j => by
    unfold wipeR
    rw [cellAt_setE, wipeR_at ρ vs j]
    by_cases h : j = v
    · simp [h]
    · have : (j ∈ v :: vs) ↔ j ∈ vs := by simp [h]
      simp only [this, if_neg h]
theorem backR_len (ρ ρ' : Rho) : ∀ vs : List Nat, (backR ρ ρ' vs).length = ρ'.length
  | [] => rfl
  | v :: vs => by unfold backR; rw [List.length_set, backR_len ρ ρ' vs]
theorem backR_at {ρ ρ' : Rho} (hl : ρ'.length = ρ.length) : ∀ (vs : List Nat) (j : Nat), cellAt (backR ρ ρ' vs) j = if j ∈ vs then cellAt ρ j else cellAt ρ' j
  | [], j => by simp [backR]
  | v :: vs, j => by
    unfold backR
    by_cases h : v < ρ.length
    · rw [cellAt_set (by rw [backR_len, hl]; exact h), backR_at hl vs j]
      by_cases hj : j = v
      · simp [hj]
      · have : (j ∈ v :: vs) ↔ j ∈ vs := by simp [hj]
        simp only [this, if_neg hj]
    · rw [List.set_eq_of_length_le (by rw [backR_len]; omega), backR_at hl vs j]
      by_cases hj : j = v
      · subst hj
        rw [if_pos (List.mem_cons_self ..)]
        have e1 : cellAt ρ j = .emp := cellAt_out (by omega)
        have e2 : cellAt ρ' j = .emp := cellAt_out (by omega)
        rw [e1, e2]; split <;> rfl
      · have : (j ∈ v :: vs) ↔ j ∈ vs := by simp [hj]
        simp only [this]
section
variable {K : PySem.W.Frag} {H H' : Hp} {Z Z' : Addr → Prop} {ρ ρ2 : Rho} {σ : L2.St} {vs : List Nat}
theorem wipe_ow {a : Addr} (w : Ow (wipeR ρ vs) (wipe σ vs) a) : ∃ j, j ∉ vs ∧ isOw (cellAt ρ j) = true ∧ σ[j]? = some (some (.ref a)) := by
  obtain ⟨j, h1, h2⟩ := w
  rw [wipeR_at] at h1
  rw [wipe_at] at h2
  by_cases hj : j ∈ vs
  · rw [if_pos hj] at h1; cases h1
  · rw [if_neg hj] at h1 h2
    exact ⟨j, hj, h1, h2⟩
theorem wipe_sub {a : Addr} (w : Ow (wipeR ρ vs) (wipe σ vs) a) : Ow ρ σ a := by
  obtain ⟨j, _, h⟩ := wipe_ow w
  exact ⟨j, h⟩
theorem Sta.wipe (s : Sta K H Z ρ σ) (vs : List Nat) : Sta K H Z (wipeR ρ vs) (wipe σ vs) := by
  refine ⟨by rw [wipeR_len, wipe_length, s.len], fun j hj => ?_, fun i j a h1 h2 h3 h4 => ?_, s.zd⟩
  · rw [wipeR_at] at hj ⊢
    by_cases h : j ∈ vs
    · rw [if_pos h] at hj; exact (hj rfl).elim
    · rw [if_neg h] at hj ⊢
      obtain ⟨v, e, c⟩ := s.at_ j hj
      exact ⟨v, by rw [wipe_at, if_neg h]; exact e, c⟩
  · rw [wipeR_at] at h1 h2
    rw [wipe_at] at h3 h4
    by_cases hi : i ∈ vs
    · rw [if_pos hi] at h1; cases h1
    · by_cases hj : j ∈ vs
      · rw [if_pos hj] at h2; cases h2
      · rw [if_neg hi] at h1 h3
        rw [if_neg hj] at h2 h4
        exact s.inj i j a h1 h2 h3 h4
theorem Sta.back (s : Sta K H Z ρ σ) (s2 : Sta K H' Z' (wipeR ρ2 vs) (L2.wipe σ vs)) (p : Stp (Ow (wipeR ρ vs) (L2.wipe σ vs)) (Ow (wipeR ρ2 vs) (L2.wipe σ vs)) H Z H' Z') :
    Sta K H' Z' (backR ρ ρ2 vs) σ ∧ Stp (Ow ρ σ) (Ow (backR ρ ρ2 vs) σ) H Z H' Z' ∧ ∀ a, Ow (backR ρ ρ2 vs) σ a → Ow ρ σ a ∨ Ow (wipeR ρ2 vs) (L2.wipe σ vs) a := by
  have hl2 : ρ2.length = σ.length := by
    have := s2.len
    rwa [wipeR_len, wipe_length] at this
  have hl : ρ2.length = ρ.length := by rw [hl2, s.len]
  have ca := backR_at hl vs
  have o2 : ∀ {j a}, j ∉ vs → isOw (cellAt ρ2 j) = true → σ[j]? = some (some (.ref a)) → Ow (wipeR ρ2 vs) (L2.wipe σ vs) a := fun {j a} hj h1 h2 => ⟨j, by rw [wipeR_at, if_neg hj]; exact h1, by rw [wipe_at, if_neg hj]; exact h2⟩
  have nw : ∀ {j a}, j ∈ vs → isOw (cellAt ρ j) = true → σ[j]? = some (some (.ref a)) → ¬ Ow (wipeR ρ vs) (L2.wipe σ vs) a := fun {j a} hj h1 h2 w => by
    obtain ⟨k, hk, h3, h4⟩ := wipe_ow w
    exact hk (by rw [s.inj k j a h3 h1 h4 h2]; exact hj)
  have os : ∀ a, Ow (backR ρ ρ2 vs) σ a → Ow ρ σ a ∨ Ow (wipeR ρ2 vs) (L2.wipe σ vs) a := fun a ⟨j, h1, h2⟩ => by
    rw [ca j] at h1
    by_cases hj : j ∈ vs
    · rw [if_pos hj] at h1; exact .inl ⟨j, h1, h2⟩
    · rw [if_neg hj] at h1; exact .inr (o2 hj h1 h2)
  refine ⟨⟨by rw [backR_len]; exact hl2, fun j hj => ?_, fun i j a h1 h2 h3 h4 => ?_, s2.zd⟩, ⟨fun a o e n => p.fr a o e fun w => n (wipe_sub w), p.dom, p.z, fun a w => ?_⟩, os⟩
  · rw [ca j] at hj ⊢
    by_cases h : j ∈ vs
    · rw [if_pos h] at hj ⊢
      obtain ⟨v, e, c⟩ := s.at_ j hj
      exact ⟨v, e, c.stp p (fun a z w => s.nz (wipe_sub w) z) fun a h1 h2 => nw h h1 (by rw [e, h2])⟩
    · rw [if_neg h] at hj ⊢
      obtain ⟨v, e, c⟩ := s2.at_ j (by rw [wipeR_at, if_neg h]; exact hj)
      rw [wipe_at, if_neg h] at e
      rw [wipeR_at, if_neg h] at c
      exact ⟨v, e, c⟩
  · have mix : ∀ {i j}, i ∈ vs → j ∉ vs → isOw (cellAt ρ i) = true → isOw (cellAt ρ2 j) = true → σ[i]? = some (some (.ref a)) → σ[j]? = some (some (.ref a)) → False := fun {i j} hi hj h1 h2 h3 h4 => by
      rcases p.w a (o2 hj h2 h4) with w | w
      · exact nw hi h1 h3 w
      · obtain ⟨o, e⟩ := s.dm ⟨i, h1, h3⟩
        rw [w] at e; cases e
    rw [ca i] at h1
    rw [ca j] at h2
    by_cases hi : i ∈ vs <;> by_cases hj : j ∈ vs
    · rw [if_pos hi] at h1; rw [if_pos hj] at h2
      exact s.inj i j a h1 h2 h3 h4
    · rw [if_pos hi] at h1; rw [if_neg hj] at h2
      exact (mix hi hj h1 h2 h3 h4).elim
    · rw [if_neg hi] at h1; rw [if_pos hj] at h2
      exact (mix hj hi h2 h1 h4 h3).elim
    · rw [if_neg hi] at h1; rw [if_neg hj] at h2
      exact s2.inj i j a (by rw [wipeR_at, if_neg hi]; exact h1) (by rw [wipeR_at, if_neg hj]; exact h2) (by rw [wipe_at, if_neg hi]; exact h3) (by rw [wipe_at, if_neg hj]; exact h4)
  · rcases os a w with w | w
    · exact .inl w
    · rcases p.w a w with w | w
      · exact .inl (wipe_sub w)
      · exact .inr w
/-- an object that nobody knows is written -/
theorem Stp.upd {W W' : Addr → Prop} (p : Stp W W' H Z H' Z') {a : Addr} (h : H a = none) (o : HO) : Stp W W' H Z (upd H' a o) Z' := by
  refine ⟨fun x o' e n => ?_, fun x o' e => ?_, p.z, p.w⟩
  · rw [upd_ne (ne_of_none e h)]; exact p.fr x o' e n
  · rw [upd_ne (ne_of_none e h)]; exact p.dom x o' e
theorem Sta.upd (s : Sta K H Z ρ σ) {a : Addr} (hw : ¬ Ow ρ σ a) (hz : ¬ Z a) (o : HO) : Sta K (upd H a o) Z ρ σ := by
  have kp : Keep H Z (L2.upd H a o) Z := ⟨fun x o' z e => by rw [upd_ne (show x ≠ a from fun q => hz (by rw [← q]; exact z))]; exact e, fun _ z => z⟩
  refine ⟨s.len, fun j hj => ?_, s.inj, fun x z => ?_⟩
  · obtain ⟨u, e1, c⟩ := s.at_ j hj
    refine ⟨u, e1, ?_⟩
    cases qj : cellAt ρ j with
    | emp => exact (hj qj).elim
    | dat d' => rw [qj] at c; exact Rl.keep kp d' u c
    | dic kvs =>
      rw [qj] at c
      obtain ⟨b, e2, db⟩ := c
      exact ⟨b, e2, db.move kp (fun o h => by rw [upd_ne (show b ≠ a from fun q => hw ⟨j, by rw [qj]; rfl, by rw [e1, e2, q]⟩)]; exact h) db.nz⟩
    | own es =>
      rw [qj] at c
      obtain ⟨b, ws, e2, hb, nb, lb, rb⟩ := c
      exact ⟨b, ws, e2, by rw [upd_ne (show b ≠ a from fun q => hw ⟨j, by rw [qj]; rfl, by rw [e1, e2, q]⟩)]; exact hb, nb, lb, Rls.keep kp es ws rb⟩
  · obtain ⟨o', e⟩ := s.zd x z
    rw [upd_ne (show x ≠ a from fun q => hz (by rw [← q]; exact z))]; exact ⟨o', e⟩
end
mutual
theorem bindTg_len : ∀ (t : Tg) (d : D) (ρ ρ' : Rho), bindTg t d ρ = some ρ' → ρ'.length = ρ.length
  | .n i, d, ρ, ρ', e => by
    cases (show some (ρ.set i (.dat d)) = some ρ' from e)
    exact List.length_set ..
  | .t ts, d, ρ, ρ', e => by
    cases d <;> (try (cases (show none = some ρ' from e)))
    all_goals
      rename_i ds
      exact bindGo_len ts ds ρ ρ' e
theorem bindGo_len : ∀ (ts : List Tg) (ds : List D) (ρ ρ' : Rho), bindTg.go ts ds ρ = some ρ' → ρ'.length = ρ.length
  | [], [], ρ, ρ', e => by cases (show some ρ = some ρ' from e); rfl
  | [], d :: ds, ρ, ρ', e => by cases e
  | t :: ts, [], ρ, ρ', e => by cases e
  | t :: ts, d :: ds, ρ, ρ', e => by
    obtain ⟨ρ1, e1, e2⟩ := bnd (show (bindTg t d ρ).bind (bindTg.go ts ds) = some ρ' from e)
    rw [bindGo_len ts ds ρ1 ρ' e2, bindTg_len t d ρ ρ1 e1]
end
/-- what a block starts with -/
abbrev BkI := Shared × Hp × Addr × List (Str × Addr) × List Addr
abbrev Bk (X : Cx) (scope : Scope) (c : BkI) : Cx := X.blk c.1 c.2.1 scope (compEnvC scope c.2.2.2.1 c.2.2.1 X.env) c.2.2.2.2
def LawE (K : PySem.W.Frag) (t : TE) (f : Rho → Option (Od × Rho)) : Prop := ∀ (ρ : Rho) (σ : L2.St) (H : Hp) (Z : Addr → Prop) (o : Od) (ρ' : Rho) (Q : VK), Sta K H Z ρ σ → f ρ = some (o, ρ') →
  (∀ v H' Z', Sta K H' Z' ρ' σ → Stp (Ow ρ σ) (Ow ρ' σ) H Z H' Z' → OdV K H' Z' ρ' σ o v → NewV H o v → Q v H') → t σ H Q
def LawC (K : PySem.W.Frag) (t : TT) (f : Rho → Option (Bool × Rho)) : Prop := ∀ (ρ : Rho) (σ : L2.St) (H : Hp) (Z : Addr → Prop) (b : Bool) (ρ' : Rho) (Q : Bool → Hp → Prop), Sta K H Z ρ σ → f ρ = some (b, ρ') →
  (∀ H' Z', Sta K H' Z' ρ' σ → Stp (Ow ρ σ) (Ow ρ' σ) H Z H' Z' → Q b H') → t σ H Q
def LawG (K : PySem.W.Frag) (g : TG) (it : Tg) : Prop := ∀ (ρ : Rho) (σ : L2.St) (H : Hp) (Z : Addr → Prop) (H' : Hp) (d : D) (x : V) (ρ' : Rho) (Q : L2.St → Hp → Prop), Sta K H Z ρ σ → ItemV K it H Z H' d x → bindTg it d ρ = some ρ' →
  (∀ σ' Z', Sta K H' Z' ρ' σ' → Stp (Ow ρ σ) (Ow ρ' σ') H Z H' Z' → (∀ j, j ∉ it.slots → σ'[j]? = σ[j]?) → (∀ a, Z a → Z' a) → Q σ' H') → g x σ H' Q
/-- the tests of a comprehension -/
def SC (X : Cx) (ifs : List Expr) (f : Rho → Option (Bool × Rho)) : Prop := ∃ t : TT, PTs X ifs t ∧ LawC X.K t f
section
variable {X : Cx} {T : Tab} {scope : Scope}
theorem sc_nil : SC X [] (evc T .no) := by
  refine ⟨tYes, pts_nil, fun ρ σ H Z b ρ' Q s e k => ?_⟩
  cases (show some (true, ρ) = some (b, ρ') from e)
  exact k H Z s Stp.refl
theorem sc_one {c : Expr} {i : Ex} (h : ST X c (ev T i)) : SC X [c] (evc T (.so i)) := by
  obtain ⟨t, p, q⟩ := h
  refine ⟨t, pts_one p, fun ρ σ H Z b ρ' Q s e k => ?_⟩
  obtain ⟨⟨o, ρ1⟩, e1, e⟩ := bnd (show (ev T i ρ).bind _ = some _ from e)
  obtain ⟨b', e2, e⟩ := mpd e
  cases e
  exact q ρ σ H Z o ρ1 _ Q s e1 e2 k
theorem so_all {e : Expr} {f : Rho → Option (Od × Rho)} (h : ∀ c, SO (Bk X scope c) e f) : ∃ t, (∀ c, PE (Bk X scope c) e t) ∧ LawE X.K t f :=
  ⟨fun σ H Q => ∀ c, (h c).choose σ H Q, fun c => ⟨fun pins s σ H Q I q => (h c).choose_spec.1.run pins s σ H Q I (q c)⟩, fun ρ σ H Z o ρ' Q s e k c => (h c).choose_spec.2 ρ σ H Z o ρ' Q s e k⟩
theorem sc_all {es : List Expr} {f : Rho → Option (Bool × Rho)} (h : ∀ c, SC (Bk X scope c) es f) : ∃ t, (∀ c, PTs (Bk X scope c) es t) ∧ LawC X.K t f :=
  ⟨fun σ H Q => ∀ c, (h c).choose σ H Q, fun c => ⟨fun pins s σ H Q I q => (h c).choose_spec.1.run pins s σ H Q I (q c)⟩, fun ρ σ H Z o ρ' Q s e k c => (h c).choose_spec.2 ρ σ H Z o ρ' Q s e k⟩
theorem sg_all {tg : Expr} {it : Tg} (h : ∀ c, SG (Bk X scope c) tg it) : ∃ t, (∀ c, PG (Bk X scope c) tg t) ∧ LawG X.K t it :=
  ⟨fun v σ H Q => ∀ c, (h c).choose v σ H Q, fun c => ⟨fun pins s σ H v u Q I r q => (h c).choose_spec.1.run pins s σ H v u Q I r (q c)⟩, fun ρ σ H Z H' d x ρ' Q s iv e k c => (h c).choose_spec.2 ρ σ H Z H' d x ρ' Q s iv e k⟩
end
def lcTurn (T : Tab) (elt : Ex) (tg : Tg) (c : Oex) (d : D) (ρ : Rho) : Option (Option D × Rho) :=
  (bindTg tg d ρ).bind fun ρ => (evc T c ρ).bind fun k => if k.1 then (ev T elt k.2).bind fun y => (frz y.2 y.1).map fun z => (some z.1, z.2) else some (none, k.2)
theorem lc_loop {K : PySem.W.Frag} {T : Tab} {elt : Ex} {itg : Tg} {ic : Oex} {g : TG} {tt : TT} {te : TE} (lg : LawG K g itg) (lt : LawC K tt (evc T ic)) (le : LawE K te (ev T elt)) {vs : List Nat} (hsub : ∀ i ∈ itg.slots, i ∈ vs)
    {J : It} {ds : List D} {ρ1 ρ2 : Rho} {σ : L2.St} {H1 : Hp} {Z1 : Addr → Prop} {out : List D} {Q : VK} (s : Sta K H1 Z1 ρ1 σ) (hJ : ItOk K itg J ds H1 Z1) (hl : ds.length ≤ sizeLine) (e : lcLoop (lcTurn T elt itg ic) vs ds ρ1 = some (out, ρ2))
    {A : Addr} (hA : H1 A = none) (k : ∀ H' Z', Sta K H' Z' (backR ρ1 ρ2 vs) σ → Stp (Ow ρ1 σ) (Ow (backR ρ1 ρ2 vs) σ) H1 Z1 H' Z' → ResV K H' Z' (backR ρ1 ρ2 vs) σ (.own out) (.ref A) → Q (.ref A) H') :
    ∃ W : Nat → Nat → Hp → Prop, (∃ m, W 0 m (upd H1 A (.lst []))) ∧ ∀ i m H, W i m H →
  (J.stop i H ∧ Q (.ref A) H) ∨ (J.go i H ∧ ∃ Nx : Hp → Prop, (∀ H', Nx H' → ∃ m', m' < m ∧ W (i + 1) m' H') ∧ ∀ x H', J.yld i H x H' → g x (wipe σ vs) H' fun σ2 H2 => wipe σ2 vs = wipe σ vs ∧ tt σ2 H2 fun b H3 =>
    if b = true then te σ2 H3 fun y H4 => ∃ acc, H4 A = some (.lst acc) ∧ acc.length < sizeLine ∧ Nx (upd H4 A (.lst (acc ++ [y]))) else Nx H3) := by
  have W0 : (∀ a, Z1 a → ¬ Ow (wipeR ρ1 vs) (wipe σ vs) a) := fun a z w => s.nz (wipe_sub w) z
  refine ⟨fun i m H => m = ds.length - i ∧ i ≤ ds.length ∧ ∃ (ρi : Rho) (Z : Addr → Prop) (acc : List V) (ad rest : List D), Sta K H Z (wipeR ρi vs) (wipe σ vs) ∧ Stp (Ow (wipeR ρ1 vs) (wipe σ vs)) (Ow (wipeR ρi vs) (wipe σ vs)) H1 Z1 H Z ∧
    H A = some (.lst acc) ∧ ¬ Z A ∧ ¬ Ow (wipeR ρi vs) (wipe σ vs) A ∧ Rls K H Z ad acc ∧ ad.length ≤ i ∧ lcLoop (lcTurn T elt itg ic) vs (ds.drop i) ρi = some (rest, ρ2) ∧ ad ++ rest = out, ⟨ds.length, ?_⟩, ?_⟩
  · have nw : ¬ Ow ρ1 σ A := fun w => by
      obtain ⟨o, e⟩ := s.dm w
      rw [hA] at e; cases e
    have nz : ¬ Z1 A := fun z => by
      obtain ⟨o, e⟩ := s.zd A z
      rw [hA] at e; cases e
    exact ⟨by simp, Nat.zero_le _, ρ1, Z1, [], [], out, (s.wipe vs).upd (fun w => nw (wipe_sub w)) nz _, Stp.refl.upd hA _, upd_same, nz, fun w => nw (wipe_sub w), Rls.nil, Nat.le_refl _, e, rfl⟩
  rintro i m H ⟨rfl, hi, ρi, Z, acc, ad, rest, sw, pw, hAc, nz, nw, rr, hal, el, hout⟩
  have kp : Keep H1 Z1 H Z := pw.keep W0
  obtain ⟨j1, j2, j3⟩ := hJ i H Z kp
  by_cases hlt : i < ds.length
  · refine .inr ⟨j1 hlt, fun H' => ∃ (ρi : Rho) (Z : Addr → Prop) (acc : List V) (ad rest : List D), Sta K H' Z (wipeR ρi vs) (wipe σ vs) ∧ Stp (Ow (wipeR ρ1 vs) (wipe σ vs)) (Ow (wipeR ρi vs) (wipe σ vs)) H1 Z1 H' Z ∧
      H' A = some (.lst acc) ∧ ¬ Z A ∧ ¬ Ow (wipeR ρi vs) (wipe σ vs) A ∧ Rls K H' Z ad acc ∧ ad.length ≤ i + 1 ∧ lcLoop (lcTurn T elt itg ic) vs (ds.drop (i + 1)) ρi = some (rest, ρ2) ∧ ad ++ rest = out, fun H' h => ⟨ds.length - (i + 1), by omega, rfl, hlt, h⟩, fun x H' hy => ?_⟩
    have hdi : ds[i]? = some ds[i] := List.getElem?_eq_getElem hlt
    have iv := j3 x H' _ hdi hy
    rw [List.drop_eq_getElem_cons hlt] at el
    obtain ⟨⟨oy, ρ3⟩, et, el⟩ := bnd (show (lcTurn T elt itg ic ds[i] (wipeR ρi vs)).bind _ = some _ from el)
    obtain ⟨⟨rest', ρ4⟩, el2, eq⟩ := mpd el
    obtain ⟨ρa, ea, et⟩ := bnd (show (bindTg itg ds[i] (wipeR ρi vs)).bind _ = some _ from et)
    obtain ⟨⟨b, ρb⟩, eb, et⟩ := bnd et
    have e4 : ρ4 = ρ2 := (Prod.mk.inj eq).2
    have e5 : oy.elim rest' (· :: rest') = rest := by
      rw [← (Prod.mk.inj eq).1]; cases oy <;> rfl
    clear eq
    subst e4
    refine lg _ _ H Z H' ds[i] x ρa _ sw iv ea fun σa Za sa pa la _ => ?_
    have hwa : wipe σa vs = wipe σ vs := by
      have hlen : σa.length = σ.length := by
        rw [← sa.len, bindTg_len _ _ _ _ ea, sw.len, wipe_length]
      apply List.ext_getElem?
      intro j
      rw [wipe_at, wipe_at, hlen]
      by_cases hj : j ∈ vs
      · rw [if_pos hj, if_pos hj]
      · rw [if_neg hj, if_neg hj, la j fun q => hj (hsub j q), wipe_at, if_neg hj]
    refine ⟨hwa, lt ρa σa H' Za b ρb _ sa eb fun Hb Zb sb pb => ?_⟩
    have pab := pa.trans pb
    cases b with
    | false =>
      rw [if_neg (by intro q; cases q)]
      cases (show some (none, ρb) = some (oy, ρ3) from et)
      have e5 : rest' = rest := e5
      subst e5
      obtain ⟨hA', hz'⟩ := pab.fr A _ hAc nw
      have sw' := sb.wipe vs
      rw [hwa] at sw'
      refine ⟨ρ3, Zb, acc, ad, rest', sw', pw.trans (pab.sub fun a w => ?_), hA', fun z => nz (hz' z), fun w => ?_, Rls.keep (pab.keep fun a z w => sw.nz w z) _ _ rr, by omega, el2, hout⟩
      · rw [← hwa] at w; exact wipe_sub w
      · rw [← hwa] at w
        rcases pab.w A (wipe_sub w) with w | w
        · exact nw w
        · rw [hAc] at w; cases w
    | true =>
      rw [if_pos rfl]
      obtain ⟨⟨oc, ρc⟩, ec, et⟩ := bnd (show (ev T elt ρb).bind _ = some _ from et)
      obtain ⟨⟨dc, ρd⟩, ed, et⟩ := mpd et
      cases et
      have e5 : dc :: rest' = rest := e5
      subst e5
      refine le ρb σa Hb Zb oc ρc _ sb ec fun v Hc Zc sc pc rc nc => ?_
      obtain ⟨Zd, pd, sd, rd, _⟩ := frz_ok (pab.trans pc) sc rc (nc.back fun a h => pab.none_ h) ed
      obtain ⟨hA', hz'⟩ := pd.fr A _ hAc nw
      have nzd : ¬ Zd A := fun z => nz (hz' z)
      have nwd : ¬ Ow ρd σa A := fun w => by
        rcases pd.w A w with w | w
        · exact nw w
        · rw [hAc] at w; cases w
      have hal' : acc.length = ad.length := rr.length
      refine ⟨acc, hA', by omega, ρd, Zd, acc ++ [v], ad ++ [dc], rest', ?_, ?_, upd_same, nzd, fun w => ?_, ?_, ?_, el2, by rw [List.append_assoc]; exact hout⟩
      · have := (sd.upd (a := A) nwd nzd (.lst (acc ++ [v]))).wipe vs
        rwa [hwa] at this
      · refine (pw.trans (pd.sub fun a w => ?_)).upd hA _
        rw [← hwa] at w; exact wipe_sub w
      · rw [← hwa] at w; exact nwd (wipe_sub w)
      · have kq : Keep Hc Zd (upd Hc A (.lst (acc ++ [v]))) Zd := ⟨fun x o z e => by rw [upd_ne (show x ≠ A from fun q => nzd (by rw [← q]; exact z))]; exact e, fun _ z => z⟩
        exact Rls.keep kq _ _ (Rls.append (Rls.keep (pd.keep fun a z w => sw.nz w z) _ _ rr) (Rls.cons rd Rls.nil))
      · rw [List.length_append]
        have : [dc].length = 1 := rfl
        omega
  · have hie : i = ds.length := by omega
    refine .inl ⟨j2 hie, ?_⟩
    rw [List.drop_eq_nil_of_le (by omega)] at el
    cases (show some ([], ρi) = some (rest, ρ2) from el)
    rw [List.append_nil] at hout
    subst hout
    obtain ⟨s3, p3, o3⟩ := s.back sw pw
    refine k H Z s3 p3 ⟨⟨A, acc, rfl, hAc, nz, by omega, rr⟩, fun a _ e w => ?_⟩
    cases e
    rcases o3 A w with w | w
    · obtain ⟨o, e⟩ := s.dm w
      rw [hA] at e; cases e
    · exact nw w
section
variable {X : Cx} {T : Tab}
theorem tLc_ok {elt tg iter : Expr} {ifs : List Expr} {itg : Tg} {iit : Itr} {ie : Ex} {ic : Oex} {g : TG} {tt : TT} {te : TE} {vs : List Nat} {wi : TI} (lg : LawG X.K g itg) (lt : LawC X.K tt (evc T ic)) (le : LawE X.K te (ev T ie)) (hsub : ∀ i ∈ itg.slots, i ∈ vs)
    (qi : ∀ (ρ : Rho) (σ : L2.St) (H : Hp) (Z : Addr → Prop) (ds : List D) (ρ' : Rho) (R : It → Hp → Prop), Sta X.K H Z ρ σ → evi T iit ρ = some (ds, ρ') → (∀ J H' Z', Sta X.K H' Z' ρ' σ → Stp (Ow ρ σ) (Ow ρ' σ) H Z H' Z' → ItOk X.K itg J ds H' Z' → ds.length ≤ sizeLine → R J H') → wi σ H R)
    : LawE X.K (tLc wi g tt te vs) (ev T (.lc ie itg iit ic vs)) := by
  intro ρ σ H Z o ρ' Q s e k
  obtain ⟨⟨ds, ρ1⟩, e1, e⟩ := bnd (show (evi T iit ρ).bind _ = some _ from e)
  obtain ⟨⟨out, ρ2⟩, e2, e⟩ := mpd e
  cases e
  refine qi ρ σ H Z ds ρ1 _ s e1 fun J H1 Z1 s1 p1 jo hl A hA => ?_
  exact lc_loop lg lt le hsub s1 jo hl e2 hA fun H' Z' s' p' r' => k _ H' Z' s' (p1.trans p') r' fun a _ q => by cases q; exact p1.none_ hA
theorem so_lc {elt tg iter : Expr} {ifs : List Expr} {scope : Scope} {own : List (Str × Nat)} {pos : Pos} {itg : Tg} {iit : Itr} {ie : Ex} {ic : Oex} (hc : X.calm = true) (hN : X.N.Nodup) (hi : SI X tg iter itg (evi T iit)) (ok : BlkOk X.N X.env.scope scope own)
    (hg : ∀ c, SG (Bk X scope c) tg itg) (ht : ∀ c, SC (Bk X scope c) ifs (evc T ic)) (he : ∀ c, SO (Bk X scope c) elt (ev T ie)) (hsub : ∀ i ∈ itg.slots, i ∈ own.map (·.2)) (hs : ∀ x, foldedSetIterable iter X.env x = pure x) :
    SO X (.ListComp elt [⟨tg, iter, ifs, 0⟩] scope pos) (ev T (.lc ie itg iit ic (own.map (·.2)))) := by
  obtain ⟨g, pg, lg⟩ := sg_all hg
  obtain ⟨tt, pt, lt⟩ := sc_all ht
  obtain ⟨te, pe, le⟩ := so_all he
  obtain ⟨wi, pi, qi⟩ := hi
  exact ⟨_, pe_lc hc hN pi ok (fun s H C cl fp => pg (s, H, C, cl, fp)) (fun s H C cl fp => pt (s, H, C, cl, fp)) (fun s H C cl fp => pe (s, H, C, cl, fp)) hs, tLc_ok (elt := elt) (tg := tg) (iter := iter) (ifs := ifs) lg lt le hsub qi⟩
end
end Lt
namespace Lt
open PySem L2 PySem.Spec PyProof.Rows
/-- the list being made at A, unknown to the slots -/
structure Mk (K : PySem.W.Frag) (A : Addr) (H : Hp) (Z : Addr → Prop) (ρ : Rho) (σ : L2.St) (ad : List D) : Prop where
  at_ : ∃ acc, H A = some (.lst acc) ∧ Rls K H Z ad acc
  nz : ¬ Z A
  nw : ¬ Ow ρ σ A
section
variable {K : PySem.W.Frag} {A : Addr} {H H' : Hp} {Z Z' : Addr → Prop} {ρ ρ' : Rho} {σ σ' : L2.St} {ad : List D}
theorem Mk.stp {W W' : Addr → Prop} (m : Mk K A H Z ρ σ ad) (p : Stp W W' H Z H' Z') (hW : ∀ a, W a → Ow ρ σ a) (hW' : ∀ a, Ow ρ' σ' a → W' a) (nz : ∀ a, Z a → ¬ W a) : Mk K A H' Z' ρ' σ' ad := by
  obtain ⟨⟨acc, h1, h2⟩, h3, h4⟩ := m
  have nW : ¬ W A := fun w => h4 (hW A w)
  obtain ⟨e, z⟩ := p.fr A _ h1 nW
  refine ⟨⟨acc, e, Rls.keep (p.keep nz) _ _ h2⟩, fun zz => h3 (z zz), fun w => ?_⟩
  rcases p.w A (hW' A w) with w | w
  · exact nW w
  · rw [h1] at w; cases w
end
/-- a list that nobody knows changes too -/
theorem Stp.orA {W W' : Addr → Prop} {H H' : Hp} {Z Z' : Addr → Prop} (p : Stp W W' H Z H' Z') (A : Addr) : Stp (fun a => W a ∨ a = A) (fun a => W' a ∨ a = A) H Z H' Z' :=
  ⟨fun a o e n => p.fr a o e fun w => n (.inl w), p.dom, p.z, fun a w => w.elim (fun w => (p.w a w).imp .inl id) fun w => .inl (.inr w)⟩
theorem Stp.updA {W W' : Addr → Prop} {H H' : Hp} {Z Z' : Addr → Prop} {A : Addr} (p : Stp (fun a => W a ∨ a = A) W' H Z H' Z') (o : HO) : Stp (fun a => W a ∨ a = A) W' H Z (L2.upd H' A o) Z' := by
  refine ⟨fun x o' e n => ?_, fun x o' e => ?_, p.z, p.w⟩
  · rw [upd_ne (show x ≠ A from fun q => n (.inr q))]; exact p.fr x o' e n
  · by_cases q : x = A
    · subst q; exact ⟨o, upd_same⟩
    · rw [upd_ne q]; exact p.dom x o' e
theorem lc_gen {K : PySem.W.Frag} {T : Tab} {elt : Ex} {itg : Tg} {ic : Oex} {g : TG} {tt : TT} {te : TE} (lg : LawG K g itg) (lt : LawC K tt (evc T ic)) (le : LawE K te (ev T elt)) {vs : List Nat} (hsub : ∀ i ∈ itg.slots, i ∈ vs)
    {J : It} {ds : List D} {ρ1 ρ2 : Rho} {σ : L2.St} {H1 : Hp} {Z1 : Addr → Prop} {out ad0 : List D} {End : Hp → Prop} (s : Sta K H1 Z1 ρ1 σ) (hJ : ItOk K itg J ds H1 Z1) (e : lcLoop (lcTurn T elt itg ic) vs ds ρ1 = some (out, ρ2))
    {A : Addr} (hA : Mk K A H1 Z1 (wipeR ρ1 vs) (wipe σ vs) ad0) (hl : ad0.length + out.length ≤ sizeLine)
    (k : ∀ H' Z', Sta K H' Z' (wipeR ρ2 vs) (wipe σ vs) → Stp (fun a => Ow (wipeR ρ1 vs) (wipe σ vs) a ∨ a = A) (fun a => Ow (wipeR ρ2 vs) (wipe σ vs) a ∨ a = A) H1 Z1 H' Z' → Mk K A H' Z' (wipeR ρ2 vs) (wipe σ vs) (ad0 ++ out) → End H') :
    ∃ W : Nat → Nat → Hp → Prop, (∃ m, W 0 m H1) ∧ ∀ i m H, W i m H →
  (J.stop i H ∧ End H) ∨ (J.go i H ∧ ∃ Nx : Hp → Prop, (∀ H', Nx H' → ∃ m', m' < m ∧ W (i + 1) m' H') ∧ ∀ x H', J.yld i H x H' → g x (wipe σ vs) H' fun σ2 H2 => wipe σ2 vs = wipe σ vs ∧ tt σ2 H2 fun b H3 =>
    if b = true then te σ2 H3 fun y H4 => ∃ acc, H4 A = some (.lst acc) ∧ acc.length < sizeLine ∧ Nx (upd H4 A (.lst (acc ++ [y]))) else Nx H3) := by
  have W0 : (∀ a, Z1 a → ¬ (Ow (wipeR ρ1 vs) (wipe σ vs) a ∨ a = A)) := fun a z w => w.elim (fun w => s.nz (wipe_sub w) z) fun w => hA.nz (w ▸ z)
  refine ⟨fun i m H => m = ds.length - i ∧ i ≤ ds.length ∧ ∃ (ρi : Rho) (Z : Addr → Prop) (ad rest : List D), Sta K H Z (wipeR ρi vs) (wipe σ vs) ∧ Stp (fun a => Ow (wipeR ρ1 vs) (wipe σ vs) a ∨ a = A) (fun a => Ow (wipeR ρi vs) (wipe σ vs) a ∨ a = A) H1 Z1 H Z ∧
    Mk K A H Z (wipeR ρi vs) (wipe σ vs) ad ∧ lcLoop (lcTurn T elt itg ic) vs (ds.drop i) ρi = some (rest, ρ2) ∧ ad ++ rest = ad0 ++ out, ⟨ds.length, by simp, Nat.zero_le _, ρ1, Z1, ad0, out, s.wipe vs, Stp.refl, hA, e, rfl⟩, ?_⟩
  rintro i m H ⟨rfl, hi, ρi, Z, ad, rest, sw, pw, mk, el, hout⟩
  have kp : Keep H1 Z1 H Z := pw.keep W0
  obtain ⟨j1, j2, j3⟩ := hJ i H Z kp
  by_cases hlt : i < ds.length
  · refine .inr ⟨j1 hlt, fun H' => ∃ (ρi : Rho) (Z : Addr → Prop) (ad rest : List D), Sta K H' Z (wipeR ρi vs) (wipe σ vs) ∧ Stp (fun a => Ow (wipeR ρ1 vs) (wipe σ vs) a ∨ a = A) (fun a => Ow (wipeR ρi vs) (wipe σ vs) a ∨ a = A) H1 Z1 H' Z ∧
      Mk K A H' Z (wipeR ρi vs) (wipe σ vs) ad ∧ lcLoop (lcTurn T elt itg ic) vs (ds.drop (i + 1)) ρi = some (rest, ρ2) ∧ ad ++ rest = ad0 ++ out, fun H' h => ⟨ds.length - (i + 1), by omega, rfl, hlt, h⟩, fun x H' hy => ?_⟩
    have hdi : ds[i]? = some ds[i] := List.getElem?_eq_getElem hlt
    have iv := j3 x H' _ hdi hy
    rw [List.drop_eq_getElem_cons hlt] at el
    obtain ⟨⟨oy, ρ3⟩, et, el⟩ := bnd (show (lcTurn T elt itg ic ds[i] (wipeR ρi vs)).bind _ = some _ from el)
    obtain ⟨⟨rest', ρ4⟩, el2, eq⟩ := mpd el
    obtain ⟨ρa, ea, et⟩ := bnd (show (bindTg itg ds[i] (wipeR ρi vs)).bind _ = some _ from et)
    obtain ⟨⟨b, ρb⟩, eb, et⟩ := bnd et
    have e4 : ρ4 = ρ2 := (Prod.mk.inj eq).2
    have e5 : oy.elim rest' (· :: rest') = rest := by
      rw [← (Prod.mk.inj eq).1]; cases oy <;> rfl
    clear eq
    subst e4
    refine lg _ _ H Z H' ds[i] x ρa _ sw iv ea fun σa Za sa pa la _ => ?_
    have hwa : wipe σa vs = wipe σ vs := by
      have hlen : σa.length = σ.length := by
        rw [← sa.len, bindTg_len _ _ _ _ ea, sw.len, wipe_length]
      apply List.ext_getElem?
      intro j
      rw [wipe_at, wipe_at, hlen]
      by_cases hj : j ∈ vs
      · rw [if_pos hj, if_pos hj]
      · rw [if_neg hj, if_neg hj, la j fun q => hj (hsub j q), wipe_at, if_neg hj]
    refine ⟨hwa, lt ρa σa H' Za b ρb _ sa eb fun Hb Zb sb pb => ?_⟩
    have pab := pa.trans pb
    have mkb : Mk K A Hb Zb ρb σa ad := mk.stp pab (fun _ w => w) (fun _ w => w) fun a z w => sw.nz w z
    cases b with
    | false =>
      rw [if_neg (by intro q; cases q)]
      cases (show some (none, ρb) = some (oy, ρ3) from et)
      have e5 : rest' = rest := e5
      subst e5
      have sw' := sb.wipe vs
      rw [hwa] at sw'
      refine ⟨ρ3, Zb, ad, rest', sw', pw.trans ((pab.sub (W2 := Ow (wipeR ρ3 vs) (wipe σ vs)) fun a w => ?_).orA A), ⟨mkb.at_, mkb.nz, fun w => ?_⟩, el2, hout⟩
      · rw [← hwa] at w; exact wipe_sub w
      · rw [← hwa] at w; exact mkb.nw (wipe_sub w)
    | true =>
      rw [if_pos rfl]
      obtain ⟨⟨oc, ρc⟩, ec, et⟩ := bnd (show (ev T elt ρb).bind _ = some _ from et)
      obtain ⟨⟨dc, ρd⟩, ed, et⟩ := mpd et
      cases et
      have e5 : dc :: rest' = rest := e5
      subst e5
      refine le ρb σa Hb Zb oc ρc _ sb ec fun v Hc Zc sc pc rc nc => ?_
      obtain ⟨Zd, pd, sd, rd, _⟩ := frz_ok (pab.trans pc) sc rc (nc.back fun a h => pab.none_ h) ed
      have mkd : Mk K A Hc Zd ρd σa ad := mk.stp pd (fun _ w => w) (fun _ w => w) fun a z w => sw.nz w z
      obtain ⟨acc, hA', rr⟩ := mkd.at_
      have hal' : acc.length = ad.length := rr.length
      have hlen : ad.length < ad0.length + out.length := by
        have := congrArg List.length hout
        rw [List.length_append, List.length_append, List.length_cons] at this
        omega
      refine ⟨acc, hA', by omega, ρd, Zd, ad ++ [dc], rest', ?_, ?_, ⟨⟨acc ++ [v], upd_same, ?_⟩, mkd.nz, fun w => ?_⟩, el2, by rw [List.append_assoc]; exact hout⟩
      · have := (sd.upd (a := A) mkd.nw mkd.nz (.lst (acc ++ [v]))).wipe vs
        rwa [hwa] at this
      · exact (pw.trans ((pd.sub (W2 := Ow (wipeR ρd vs) (wipe σ vs)) fun a w => by rw [← hwa] at w; exact wipe_sub w).orA A)).updA _
      · have kq : Keep Hc Zd (upd Hc A (.lst (acc ++ [v]))) Zd := ⟨fun x o z e => by rw [upd_ne (show x ≠ A from fun q => mkd.nz (by rw [← q]; exact z))]; exact e, fun _ z => z⟩
        exact Rls.keep kq _ _ (Rls.append rr (Rls.cons rd Rls.nil))
      · rw [← hwa] at w; exact mkd.nw (wipe_sub w)
  · have hie : i = ds.length := by omega
    refine .inl ⟨j2 hie, ?_⟩
    rw [List.drop_eq_nil_of_le (by omega)] at el
    cases (show some ([], ρi) = some (rest, ρ2) from el)
    rw [List.append_nil] at hout
    subst hout
    exact k H Z sw pw mk
theorem wipe2 {σ : L2.St} {vs vs1 : List Nat} (h : ∀ i ∈ vs1, i ∈ vs) : wipe (wipe σ vs1) vs = wipe σ vs := by
  apply List.ext_getElem?
  intro j
  rw [wipe_at (wipe σ vs1) vs j, wipe_at σ vs j, wipe_length]
  by_cases hj : j ∈ vs
  · rw [if_pos hj, if_pos hj]
  · rw [if_neg hj, if_neg hj, wipe_at, if_neg fun z => hj (h j z)]
theorem rho_ext {ρ ρ' : Rho} (hl : ρ.length = ρ'.length) (h : ∀ j, cellAt ρ j = cellAt ρ' j) : ρ = ρ' := by
  apply List.ext_getElem?
  intro j
  have := h j
  unfold cellAt at this
  rw [List.getD_eq_getElem?_getD, List.getD_eq_getElem?_getD] at this
  by_cases hj : j < ρ.length
  · rw [List.getElem?_eq_getElem hj, List.getElem?_eq_getElem (by omega)] at this ⊢
    exact congrArg some this
  · rw [List.getElem?_eq_none (by omega), List.getElem?_eq_none (by omega)]
theorem wipeR2 {ρ : Rho} {vs vs1 : List Nat} (h : ∀ i ∈ vs1, i ∈ vs) : wipeR (wipeR ρ vs1) vs = wipeR ρ vs := by
  refine rho_ext (by rw [wipeR_len, wipeR_len, wipeR_len]) fun j => ?_
  rw [wipeR_at (wipeR ρ vs1) vs j, wipeR_at ρ vs j]
  by_cases hj : j ∈ vs
  · rw [if_pos hj, if_pos hj]
  · rw [if_neg hj, if_neg hj, wipeR_at, if_neg fun z => hj (h j z)]
def lcTurn2 (T : Tab) (elt : Ex) (tg : Tg) (c : Oex) (tg2 : Tg) (it2 : Itr) (c2 : Oex) (own2 : List Nat) (d : D) (ρ : Rho) : Option (List D × Rho) :=
  (bindTg tg d ρ).bind fun ρ => (evc T c ρ).bind fun k => if k.1 then (evi T it2 k.2).bind fun w => lcLoop (lcTurn T elt tg2 c2) own2 w.1 w.2 else some ([], k.2)
/-- what a source of a block's inside gives -/
def LawI (K : PySem.W.Frag) (wi : TI) (itg : Tg) (f : Rho → Option (List D × Rho)) : Prop := ∀ (ρ : Rho) (σ : L2.St) (H : Hp) (Z : Addr → Prop) (ds : List D) (ρ' : Rho) (R : It → Hp → Prop), Sta K H Z ρ σ → f ρ = some (ds, ρ') →
  (∀ J H' Z', Sta K H' Z' ρ' σ → Stp (Ow ρ σ) (Ow ρ' σ) H Z H' Z' → ItOk K itg J ds H' Z' → ds.length ≤ sizeLine → R J H') → wi σ H R
theorem lc2_loop {K : PySem.W.Frag} {T : Tab} {elt : Ex} {itg itg1 : Tg} {ic ic1 : Oex} {it1 : Itr} {g g1 : TG} {tt tt1 : TT} {te : TE} {wi1 : TI} (lg : LawG K g itg) (lt : LawC K tt (evc T ic)) (li : LawI K wi1 itg1 (evi T it1)) (lg1 : LawG K g1 itg1) (lt1 : LawC K tt1 (evc T ic1)) (le : LawE K te (ev T elt)) {vs vs1 : List Nat} (hsub : ∀ i ∈ itg.slots, i ∈ vs) (hsub1 : ∀ i ∈ itg1.slots, i ∈ vs1) (hv : ∀ i ∈ vs1, i ∈ vs)
    {J : It} {ds : List D} {ρ1 ρ2 : Rho} {σ : L2.St} {H1 : Hp} {Z1 : Addr → Prop} {out : List D} {Q : VK} (s : Sta K H1 Z1 ρ1 σ) (hJ : ItOk K itg J ds H1 Z1) (hl : out.length ≤ sizeLine) (e : lcLoopL (lcTurn2 T elt itg ic itg1 it1 ic1 vs1) vs ds ρ1 = some (out, ρ2))
    {A : Addr} (hA : H1 A = none) (k : ∀ H' Z', Sta K H' Z' (backR ρ1 ρ2 vs) σ → Stp (Ow ρ1 σ) (Ow (backR ρ1 ρ2 vs) σ) H1 Z1 H' Z' → ResV K H' Z' (backR ρ1 ρ2 vs) σ (.own out) (.ref A) → Q (.ref A) H') :
    ∃ W : Nat → Nat → Hp → Prop, (∃ m, W 0 m (upd H1 A (.lst []))) ∧ ∀ i m H, W i m H →
  (J.stop i H ∧ Q (.ref A) H) ∨ (J.go i H ∧ ∃ Nx : Hp → Prop, (∀ H', Nx H' → ∃ m', m' < m ∧ W (i + 1) m' H') ∧ ∀ x H', J.yld i H x H' → g x (wipe σ vs) H' fun σ2 H2 => wipe σ2 vs = wipe σ vs ∧ tt σ2 H2 fun b H3 =>
    if b = true then wi1 σ2 H3 fun J1 H4 => ∃ W1 : Nat → Nat → Hp → Prop, (∃ m, W1 0 m H4) ∧ ∀ j k H, W1 j k H →
      (J1.stop j H ∧ Nx H) ∨ (J1.go j H ∧ ∃ Nx1 : Hp → Prop, (∀ H', Nx1 H' → ∃ k', k' < k ∧ W1 (j + 1) k' H') ∧ ∀ x H', J1.yld j H x H' → g1 x (wipe σ2 vs1) H' fun σ3 H5 => wipe σ3 vs1 = wipe σ2 vs1 ∧ tt1 σ3 H5 fun b H6 =>
        if b = true then te σ3 H6 fun y H7 => ∃ acc, H7 A = some (.lst acc) ∧ acc.length < sizeLine ∧ Nx1 (upd H7 A (.lst (acc ++ [y]))) else Nx1 H6)
    else Nx H3) := by
  have W0 : (∀ a, Z1 a → ¬ Ow (wipeR ρ1 vs) (wipe σ vs) a) := fun a z w => s.nz (wipe_sub w) z
  have nw : ¬ Ow ρ1 σ A := fun w => by
    obtain ⟨o, e⟩ := s.dm w
    rw [hA] at e; cases e
  have nz : ¬ Z1 A := fun z => by
    obtain ⟨o, e⟩ := s.zd A z
    rw [hA] at e; cases e
  refine ⟨fun i m H => m = ds.length - i ∧ i ≤ ds.length ∧ ∃ (ρi : Rho) (Z : Addr → Prop) (ad rest : List D), Sta K H Z (wipeR ρi vs) (wipe σ vs) ∧ Stp (Ow (wipeR ρ1 vs) (wipe σ vs)) (Ow (wipeR ρi vs) (wipe σ vs)) H1 Z1 H Z ∧
    Mk K A H Z (wipeR ρi vs) (wipe σ vs) ad ∧ lcLoopL (lcTurn2 T elt itg ic itg1 it1 ic1 vs1) vs (ds.drop i) ρi = some (rest, ρ2) ∧ ad ++ rest = out, ⟨ds.length, by simp, Nat.zero_le _, ρ1, Z1, [], out, (s.wipe vs).upd (fun w => nw (wipe_sub w)) nz _, Stp.refl.upd hA _, ⟨⟨[], upd_same, Rls.nil⟩, nz, fun w => nw (wipe_sub w)⟩, e, rfl⟩, ?_⟩
  rintro i m H ⟨rfl, hi, ρi, Z, ad, rest, sw, pw, mk, el, hout⟩
  have kp : Keep H1 Z1 H Z := pw.keep W0
  obtain ⟨j1, j2, j3⟩ := hJ i H Z kp
  by_cases hlt : i < ds.length
  · refine .inr ⟨j1 hlt, fun H' => ∃ (ρi : Rho) (Z : Addr → Prop) (ad rest : List D), Sta K H' Z (wipeR ρi vs) (wipe σ vs) ∧ Stp (Ow (wipeR ρ1 vs) (wipe σ vs)) (Ow (wipeR ρi vs) (wipe σ vs)) H1 Z1 H' Z ∧
      Mk K A H' Z (wipeR ρi vs) (wipe σ vs) ad ∧ lcLoopL (lcTurn2 T elt itg ic itg1 it1 ic1 vs1) vs (ds.drop (i + 1)) ρi = some (rest, ρ2) ∧ ad ++ rest = out, fun H' h => ⟨ds.length - (i + 1), by omega, rfl, hlt, h⟩, fun x H' hy => ?_⟩
    have hdi : ds[i]? = some ds[i] := List.getElem?_eq_getElem hlt
    have iv := j3 x H' _ hdi hy
    rw [List.drop_eq_getElem_cons hlt] at el
    obtain ⟨⟨ys, ρ3⟩, et, el⟩ := bnd (show (lcTurn2 T elt itg ic itg1 it1 ic1 vs1 ds[i] (wipeR ρi vs)).bind _ = some _ from el)
    obtain ⟨⟨rest', ρ4⟩, el2, eq⟩ := mpd el
    obtain ⟨ρa, ea, et⟩ := bnd (show (bindTg itg ds[i] (wipeR ρi vs)).bind _ = some _ from et)
    obtain ⟨⟨b, ρb⟩, eb, et⟩ := bnd et
    have e4 : ρ4 = ρ2 := (Prod.mk.inj eq).2
    have e5 : ys ++ rest' = rest := (Prod.mk.inj eq).1
    clear eq
    subst e4
    refine lg _ _ H Z H' ds[i] x ρa _ sw iv ea fun σa Za sa pa la _ => ?_
    have hwa : wipe σa vs = wipe σ vs := by
      have hlen : σa.length = σ.length := by
        rw [← sa.len, bindTg_len _ _ _ _ ea, sw.len, wipe_length]
      apply List.ext_getElem?
      intro j
      rw [wipe_at, wipe_at, hlen]
      by_cases hj : j ∈ vs
      · rw [if_pos hj, if_pos hj]
      · rw [if_neg hj, if_neg hj, la j fun q => hj (hsub j q), wipe_at, if_neg hj]
    refine ⟨hwa, lt ρa σa H' Za b ρb _ sa eb fun Hb Zb sb pb => ?_⟩
    have pab := pa.trans pb
    have mkb : Mk K A Hb Zb ρb σa ad := mk.stp pab (fun _ w => w) (fun _ w => w) fun a z w => sw.nz w z
    cases b with
    | false =>
      rw [if_neg (by intro q; cases q)]
      cases (show some ([], ρb) = some (ys, ρ3) from et)
      have e5 : rest' = rest := e5
      subst e5
      have sw' := sb.wipe vs
      rw [hwa] at sw'
      refine ⟨_, Zb, ad, rest', sw', pw.trans (pab.sub fun a w => ?_), ⟨mkb.at_, mkb.nz, fun w => ?_⟩, el2, hout⟩
      · rw [← hwa] at w; exact wipe_sub w
      · rw [← hwa] at w; exact mkb.nw (wipe_sub w)
    | true =>
      rw [if_pos rfl]
      obtain ⟨⟨ds2, ρw⟩, ew, et⟩ := bnd (show (evi T it1 ρb).bind _ = some (ys, ρ3) from et)
      refine li ρb σa Hb Zb ds2 ρw _ sb ew fun J1 H4 Z4 s4 p4 jo4 hl4 => ?_
      have mk4 : Mk K A H4 Z4 ρw σa ad := mkb.stp p4 (fun _ w => w) (fun _ w => w) fun a z w => sb.nz w z
      have hlen : ad.length + ys.length ≤ sizeLine := by
        have := congrArg List.length hout
        rw [← e5, List.length_append, List.length_append] at this
        omega
      refine lc_gen lg1 lt1 le hsub1 s4 jo4 et ⟨mk4.at_, mk4.nz, fun w => mk4.nw (wipe_sub w)⟩ hlen fun H5 Z5 s5 p5 mk5 => ?_
      have s6 := s5.wipe vs
      rw [wipeR2 hv, wipe2 hv, hwa] at s6
      have ow6 : ∀ a, Ow (wipeR ρ3 vs) (wipe σ vs) a → Ow (wipeR ρ3 vs1) (wipe σa vs1) a := fun a w => by
        rw [← wipeR2 hv, ← hwa, ← wipe2 hv] at w
        exact wipe_sub w
      have q1 : Stp (Ow (wipeR ρi vs) (wipe σ vs)) (Ow ρw σa) H Z H4 Z4 := pab.trans p4
      have q2 : Stp (fun a => Ow (wipeR ρi vs) (wipe σ vs) a ∨ a = A) (fun a => Ow (wipeR ρw vs1) (wipe σa vs1) a ∨ a = A) H Z H4 Z4 := (q1.sub (W2 := Ow (wipeR ρw vs1) (wipe σa vs1)) fun a w => wipe_sub w).orA A
      have q3 := q2.trans p5
      have q4 : Stp (Ow (wipeR ρ1 vs) (wipe σ vs)) (fun a => Ow (wipeR ρi vs) (wipe σ vs) a ∨ a = A) H1 Z1 H Z := ⟨pw.fr, pw.dom, pw.z, fun a w => w.elim (fun w => pw.w a w) fun w => .inr (w ▸ hA)⟩
      refine ⟨ρ3, Z5, ad ++ ys, rest', s6, (q4.trans q3).sub fun a w => .inl (ow6 a w), ⟨mk5.at_, mk5.nz, fun w => mk5.nw (ow6 A w)⟩, el2, by rw [List.append_assoc, e5]; exact hout⟩
  · have hie : i = ds.length := by omega
    refine .inl ⟨j2 hie, ?_⟩
    rw [List.drop_eq_nil_of_le (by omega)] at el
    cases (show some ([], ρi) = some (rest, ρ2) from el)
    rw [List.append_nil] at hout
    subst hout
    obtain ⟨s3, p3, o3⟩ := s.back sw pw
    obtain ⟨acc, hAc, rr⟩ := mk.at_
    refine k H Z s3 p3 ⟨⟨A, acc, rfl, hAc, mk.nz, by omega, rr⟩, fun a _ e w => ?_⟩
    cases e
    rcases o3 A w with w | w
    · obtain ⟨o, e⟩ := s.dm w
      rw [hA] at e; cases e
    · exact mk.nw w
theorem si_all {X : Cx} {scope : Scope} {tg it : Expr} {itg : Tg} {f : Rho → Option (List D × Rho)} (h : ∀ c, SI (Bk X scope c) tg it itg f) : ∃ wi, (∀ c, PI (Bk X scope c) tg it wi) ∧ LawI X.K wi itg f :=
  ⟨fun σ H R => ∀ c, (h c).choose σ H R, fun c => ⟨fun pins s σ H R I q => (h c).choose_spec.1.run pins s σ H R I (q c)⟩, fun ρ σ H Z ds ρ' R s e k c => (h c).choose_spec.2 ρ σ H Z ds ρ' R s e k⟩
section
variable {X : Cx} {T : Tab}
theorem tLc2_ok {itg itg1 : Tg} {iit iit1 : Itr} {ie : Ex} {ic ic1 : Oex} {g g1 : TG} {tt tt1 : TT} {te : TE} {vs vs1 : List Nat} {wi wi1 : TI} (lg : LawG X.K g itg) (lt : LawC X.K tt (evc T ic)) (li : LawI X.K wi1 itg1 (evi T iit1)) (lg1 : LawG X.K g1 itg1) (lt1 : LawC X.K tt1 (evc T ic1)) (le : LawE X.K te (ev T ie)) (hsub : ∀ i ∈ itg.slots, i ∈ vs) (hsub1 : ∀ i ∈ itg1.slots, i ∈ vs1) (hv : ∀ i ∈ vs1, i ∈ vs)
    (qi : LawI X.K wi itg (evi T iit)) : LawE X.K (tLc2 wi g tt wi1 g1 tt1 te vs vs1) (ev T (.lc2 ie itg iit ic itg1 iit1 ic1 vs vs1)) := by
  intro ρ σ H Z o ρ' Q s e k
  obtain ⟨⟨ds, ρ1⟩, e1, e⟩ := bnd (show (evi T iit ρ).bind _ = some _ from e)
  obtain ⟨⟨out, ρ2⟩, e2, e⟩ := bnd (show (lcLoopL (lcTurn2 T ie itg ic itg1 iit1 ic1 vs1) vs ds ρ1).bind _ = some (o, ρ') from e)
  have e' : (if out.length ≤ 16777216 then some (Od.t (.own out), backR ρ1 ρ2 vs) else none) = some (o, ρ') := e
  by_cases hl : out.length ≤ 16777216
  · rw [if_pos hl] at e'
    cases e'
    refine qi ρ σ H Z ds ρ1 _ s e1 fun J H1 Z1 s1 p1 jo _ A hA => ?_
    exact lc2_loop lg lt li lg1 lt1 le hsub hsub1 hv s1 jo (by rw [sizeLine_eq]; exact hl) e2 hA fun H' Z' s' p' r' => k _ H' Z' s' (p1.trans p') r' fun a _ q => by cases q; exact p1.none_ hA
  · rw [if_neg hl] at e'; cases e'
theorem so_lc2 {elt tg iter tg1 iter1 : Expr} {ifs ifs1 : List Expr} {scope : Scope} {own : List (Str × Nat)} {pos : Pos} {itg itg1 : Tg} {iit iit1 : Itr} {ie : Ex} {ic ic1 : Oex} {vs1 : List Nat} (hc : X.calm = true) (hN : X.N.Nodup) (hi : SI X tg iter itg (evi T iit)) (ok : BlkOk X.N X.env.scope scope own)
    (hg : ∀ c, SG (Bk X scope c) tg itg) (ht : ∀ c, SC (Bk X scope c) ifs (evc T ic)) (hi1 : ∀ c, SI (Bk X scope c) tg1 iter1 itg1 (evi T iit1)) (hg1 : ∀ c, SG (Bk X scope c) tg1 itg1) (ht1 : ∀ c, SC (Bk X scope c) ifs1 (evc T ic1)) (he : ∀ c, SO (Bk X scope c) elt (ev T ie)) (hsub : ∀ i ∈ itg.slots, i ∈ own.map (·.2)) (hsub1 : ∀ i ∈ itg1.slots, i ∈ vs1) (hv : ∀ i ∈ vs1, i ∈ own.map (·.2))
    (hs : ∀ x, foldedSetIterable iter X.env x = pure x) (hs1 : ∀ env x, foldedSetIterable iter1 env x = pure x) :
    SO X (.ListComp elt [⟨tg, iter, ifs, 0⟩, ⟨tg1, iter1, ifs1, 0⟩] scope pos) (ev T (.lc2 ie itg iit ic itg1 iit1 ic1 (own.map (·.2)) vs1)) := by
  obtain ⟨g, pg, lg⟩ := sg_all hg
  obtain ⟨tt, pt, lt⟩ := sc_all ht
  obtain ⟨wi1, pi1, li1⟩ := si_all hi1
  obtain ⟨g1, pg1, lg1⟩ := sg_all hg1
  obtain ⟨tt1, pt1, lt1⟩ := sc_all ht1
  obtain ⟨te, pe, le⟩ := so_all he
  obtain ⟨wi, pi, qi⟩ := hi
  exact ⟨_, pe_lc2 hc hN pi ok hv (fun s H C cl fp => pg (s, H, C, cl, fp)) (fun s H C cl fp => pt (s, H, C, cl, fp)) (fun s H C cl fp => pi1 (s, H, C, cl, fp)) (fun s H C cl fp => pg1 (s, H, C, cl, fp)) (fun s H C cl fp => pt1 (s, H, C, cl, fp)) (fun s H C cl fp => pe (s, H, C, cl, fp)) hs hs1, tLc2_ok lg lt li1 lg1 lt1 le hsub hsub1 hv qi⟩
end
end Lt
namespace Lt
open PySem L2 PySem.Spec PyProof.Rows
section
variable {X : Cx}
/-- one turn's end of a dict comprehension: the row is put -/
def PutE (K : PySem.W.Frag) (dd : Addr) (y z : V) (Hc : Hp) (go : Hp → Prop) : Prop := ∃ (Zc : Addr → Prop) (rws : List (D × D)) (kd vd : D),
  (DicR K Hc Zc rws dd ∧ rws.length < 16777215) ∧ (keyIn rws kd = true ∧ Rl K Hc Zc kd y ∧ Rl K Hc Zc vd z) ∧ ∀ rw2 ep2, RowsV K Hc Zc (dPut rws kd vd) rw2 → (rw2.map (·.1)).Nodup → go (upd Hc dd (.ext (dφ dd rw2 ep2)))
/-- the turns: state W i m, i rounds gone, m a measure -/
def TurnsE (K : PySem.W.Frag) (J : It) (g : TG) (tt : TT) (tk tv : TE) (sl : L2.St) (vs : List Nat) (dd : Addr) (fin : Hp → Prop) (W : Nat → Nat → Hp → Prop) : Prop := ∀ i m Hc, W i m Hc →
  (J.stop i Hc ∧ fin Hc) ∨ ∃ Nx : Hp → Prop, (J.go i Hc ∧ ∀ Hn, Nx Hn → ∃ m', m' < m ∧ W (i + 1) m' Hn) ∧
    ∀ x Hy, J.yld i Hc x Hy → g x sl Hy fun σ2 H2 => wipe σ2 vs = sl ∧ tt σ2 H2 fun keep H3 => if keep = true then tk σ2 H3 fun y H4 => tv σ2 H4 fun z H5 => PutE K dd y z H5 Nx else Nx H3
def tDcE (K : PySem.W.Frag) (wi : TI) (g : TG) (tt : TT) (tk tv : TE) (vs : List Nat) : TE := fun σ H Q => wi σ H fun J H1 => ∀ dd, H1 dd = none →
  ∃ W : Nat → Nat → Hp → Prop, (∃ m, W 0 m (upd H1 dd (.ext (dφ dd [] 0)))) ∧ TurnsE K J g tt tk tv (wipe σ vs) vs dd (fun Hc => Q (.ref dd) Hc) W
section
variable {pins : List (Addr × Obj)} {σ sl : L2.St} {H0 : Hp} {s0 : Shared} {scope : Scope} {ce : Env} {fp : List Addr} {vs : List Nat} {J : It} {it dd : Addr} {tn : Nat → Heap → Prop} {tg kx vx iter : Expr} {ifs : List Expr} {pos : Pos}
  {g : TG} {tt : TT} {tk tv : TE} {W : Nat → Nat → Hp → Prop} {fin : Hp → Prop} {R : Result → Shared → Prop}
/-- the block's loop -/
theorem loopE (hu : X.A.units + 65 < cLine) (hc : X.calm = true) (T : Turn X.prog X.w X.K tg J fp it tn) (pg : PG (X.blk s0 H0 scope ce fp) tg g) (pt : PTs (X.blk s0 H0 scope ce fp) ifs tt) (pk : PE (X.blk s0 H0 scope ce fp) kx tk) (pv : PE (X.blk s0 H0 scope ce fp) vx tv)
    (hsl : sl = wipe σ vs) (turns : TurnsE X.K J g tt tk tv sl vs dd fin W)
    (out : ∀ Hc s', Inv (X.blk s0 H0 scope ce fp) [] sl Hc s' → fin Hc → R (.ok .next) s') {m0 : Nat} {Hb : Hp} {sb : Shared} (Ib : Inv (X.blk s0 H0 scope ce fp) [] sl Hb sb) (tb : tn 0 sb.heap) (nb : ∀ b ∈ fp, Hb b = none) (wb : W 0 m0 Hb) :
    codeAny (model X.prog X.w) X.A (.compLoop (.DictComp kx vx [⟨tg, iter, ifs, 0⟩] scope pos) 0 (.ref it) (.ref dd) ce) R sb := by
  let Y : Cx := X.blk s0 H0 scope ce fp
  have own : ∀ {σ' : L2.St} {Hc : Hp} {s' : Shared}, Inv Y [] σ' Hc s' → (∀ b ∈ fp, Hc b = none) → ∀ b ∈ fp, FpOk Y [] Hc b := by
    intro σ' Hc s' I' hn b hb
    refine ⟨hn b hb, (I'.ok.exf b hb).1, I'.ok.exfs b hb, .inl hb, (fun x c e => (I'.ok.exf b hb).2 x c e), fun p hp => ?_⟩
    cases hp
  refine compLoop_anyD (fun n s' => ∃ i Hc, (Inv Y [] sl Hc s' ∧ W i n Hc) ∧ tn i s'.heap ∧ ∀ b ∈ fp, Hc b = none) ?_ m0 ⟨0, Hb, ⟨Ib, wb⟩, tb, nb⟩
  rintro n s1 ⟨i, H1, ⟨I1, w1⟩, t1, n1⟩
  rcases turns i n H1 w1 with ⟨st, fi⟩ | ⟨Nx, ⟨go, dec⟩, step⟩
  · refine thnF (T.done Y rfl rfl rfl hc i [] s1 sl H1 (fun _ _ => False) I1 (own I1 n1) t1 st) ?_
    rintro r s2 ⟨rfl, I2⟩
    exact out H1 s2 I2 fi
  · refine thnF (T.item Y rfl rfl rfl hc i [] s1 sl H1 (fun _ _ => False) I1 (own I1 n1) t1 go) ?_
    rintro r s2 ⟨u, rfl, h2⟩
    refine thnF h2 ?_
    rintro _ s3 ⟨x, H3, I3, r3, y3, t3, n3⟩
    have I3' := I3.pinned (own I3 n3) (T.obj _ _ t3)
    refine thnF (pg.run _ s3 sl H3 x u _ I3' r3 (step x H3 y3)) ?_
    rintro _ s4 ⟨σ4, H4, I4, e4, q4⟩
    refine thnF (pt.run _ s4 σ4 H4 _ I4 q4) ?_
    rintro keep s5 ⟨H5, I5, q5⟩
    have back : ∀ {s' : Shared} {Hc : Hp}, Inv Y ([] ++ pinsAt fp s3.heap) σ4 Hc s' → Nx Hc → ∃ m, m < n ∧ ∃ i Hc, (Inv Y [] sl Hc s' ∧ W i m Hc) ∧ tn i s'.heap ∧ ∀ b ∈ fp, Hc b = none := by
      intro s' Hc I' nx
      obtain ⟨m', lt, w'⟩ := dec Hc nx
      have pin : ∀ b ∈ fp, ∀ o, s3.heap.get? b = some o → s'.heap.get? b = some o ∧ Hc b = none := fun b hb o e => by
        have z := I'.pin (b, o) (List.mem_append_right _ (List.mem_append_right _ (mem_pinsAt hb e)))
        exact ⟨z.1, z.2.1⟩
      have len : sl.length = σ4.length := by rw [← e4, wipe_length]
      have I'' : Inv Y [] sl Hc s' := (I'.unpinned (pins := [])).weak len fun j v e => by
        rw [← e4] at e
        exact (wipe_some e).1
      refine ⟨m', lt, i + 1, Hc, ⟨I'', w'⟩, T.keep _ _ _ t3 fun b hb o e => (pin b hb o e).1, fun b hb => ?_⟩
      obtain ⟨o, e, _⟩ := T.obj _ _ t3 b hb
      exact (pin b hb o e).2
    cases keep with
    | false =>
      rw [if_neg Bool.false_ne_true] at q5
      exact back I5 q5
    | true =>
      rw [if_pos rfl] at q5
      refine thnF (pk.run _ s5 σ4 H5 _ I5 q5) ?_
      rintro vk s6 ⟨yk, H6, I6, r6, q6⟩
      refine thnF (pv.run _ s6 σ4 H6 _ I6 q6) ?_
      rintro vz s7 ⟨yz, H7, I7, r7, Z7, rws, kd, vd, ⟨g7, l7⟩, ⟨k7, rk, rv⟩, nx⟩
      exact Lt.d_dictSet (X := Y) hu I7 g7 l7 k7 rk r6 rv r7 fun rw2 ep2 s8 I8 h8 n8 => back I8 (nx rw2 ep2 h8 n8)
end
/-- the comprehension's run; use: what is done with the new dict ahead of the block's end -/
theorem dcE_run {kx vx tg iter : Expr} {ifs : List Expr} {scope : Scope} {own : List (Str × Nat)} {pos : Pos} {wi : TI} {g : TG} {tt : TT} {tk tv : TE} (hu : X.A.units + 65 < cLine) (hc : X.calm = true) (hN : X.N.Nodup) (hi : PI X tg iter wi) (ok : BlkOk X.N X.env.scope scope own)
    (hg : ∀ c, PG (Bk X scope c) tg g) (ht : ∀ c, PTs (Bk X scope c) ifs tt) (hk : ∀ c, PE (Bk X scope c) kx tk) (hv : ∀ c, PE (Bk X scope c) vx tv) (hs : ∀ x, foldedSetIterable iter X.env x = pure x)
    {use : Option (Value → Sem Unit)} {Qf : Value → Shared → Prop} {pos' : Pos} {pins : List (Addr × Obj)} {s : Shared} {σ : L2.St} {H : Hp} {Q : VK} (I : Inv X pins σ H s) (h : tDcE X.K wi g tt tk tv (own.map (·.2)) σ H Q)
    (out : ∀ dd C s' m Hc, Inv X pins σ Hc s' → Q (.ref dd) Hc → s'.heap.Ns C m → FpOk X pins Hc C → compPost (model X.prog X.w) X.A X.xe use Qf (.ref dd) C (.ok .next) s') :
    wpAny (model X.prog X.w) X.A (comprehension (.DictComp kx vx [⟨tg, iter, ifs, 0⟩] scope pos) scope X.env pos' newDict false (eval iter X.env) use) Qf X.xe s := by
  have caught : ∀ q ∈ scope.names, q.2 = .free → ∃ c, X.env.cells.lookup q.1 = some c := fun q hq e => (ok.free q hq e).elim (fun k => I.ok.has _ (.inl k)) fun k => I.ok.has _ (.inr k)
  refine wpAny_comprehension_free (use := use) rfl hs (closure_ok caught) ok.kind (fun q hq e => by rw [ok.uniq q hq, e]) ?_
  refine thn (hi.run pins s σ H _ I h) fun xv s1 h1 => thn h1 ?_
  rintro itv s2 ⟨it, fp, tn, J, H2, rfl, I2, T, t2, f2, q2⟩
  refine wpAny_newObj_type (newEnv_comp ?_)
  -- the new dict
  generalize hdd : s2.heap.objs.size = dd
  obtain ⟨W, ⟨m0, w0⟩, turns⟩ := q2 dd (I2.hok.fresh (Nat.le_of_eq hdd))
  have kp : ∀ b o, s2.heap.get? b = some o → (s2.heap.push { cls := .type "dict", data := .dict #[] }).get? b = some o := fun b o e => Heap.get?_push_of_some _ e
  let s3 : Shared := { s2 with heap := s2.heap.push { cls := .type "dict", data := .dict #[] } }
  have I3 : Inv X pins σ (upd H2 dd (.ext (dφ dd [] 0))) s3 := I2.laid (t' := s2.toks) kp (Nat.le_of_eq hdd) (by rw [← hdd]; exact ext_ok (dφ_new I2.big))
  have lt : ∀ b ∈ fp, b < s2.heap.objs.size := fun b hb => by
    obtain ⟨o, e, _⟩ := T.obj _ _ t2 b hb
    exact Heap.lt_size e
  have f3 : ∀ b ∈ fp, FpOk X pins (upd H2 dd (.ext (dφ dd [] 0))) b ∧ b < s3.heap.objs.size := fun b hb => by
    have l := lt b hb
    have nd : b ≠ dd := by rw [← hdd]; exact Nat.ne_of_lt l
    exact ⟨⟨(upd_ne nd).trans (f2 b hb).1, (f2 b hb).2⟩, by show b < (Heap.push _ _).objs.size; rw [Heap.size_push]; exact Nat.lt_succ_of_lt l⟩
  have t3 : tn 0 s3.heap := T.keep _ _ _ t2 fun b _ o e => kp b o e
  have I4 := block_start I3 ok hN f3
  let bk : BkI := (s3, upd H2 dd (.ext (dφ dd [] 0)), s3.heap.objs.size, cellsFrom (s3.heap.objs.size + 1) scope.names (cloFrom X.env.cells scope.names []), fp)
  let s4 : Shared := { s3 with heap := pushCells (s3.heap.push { cls := .type "dict", data := .dict #[] }) scope.names }
  have t4 : tn 0 s4.heap := T.keep _ _ _ t3 fun b _ o e => pushCells_keeps _ _ _ _ (Heap.get?_push_of_some _ e)
  refine codeAny_compStart_dict ?_ (T.self X.A 0 _ _ _ t4 ?_)
  all_goals
    refine loopE (sl := wipe σ (own.map (·.2))) hu hc T (hg bk) (ht bk) (hk bk) (hv bk) rfl turns (fun Hc s5 I5 q5 => ?_) I4 t4 (fun b hb => (f3 b hb).1.1) w0
    have I6 : Inv X pins σ Hc s5 := I3.call' (ch := fp) I5.os I5.base I5.hok I5.bare fun b hb => by
      obtain ⟨⟨_, a1, _, a3, a4, a5⟩, _⟩ := f3 b hb
      exact ⟨a3, a1, a4, a5⟩
    have free : Hc s3.heap.objs.size = none := I5.free
    obtain ⟨m, hm, _⟩ := I5.loc
    exact out dd _ s5 m Hc I6 q5 hm (I3.fpOk (Nat.le_refl _) free)
/-- {k: v for tg in iter if ..} -/
theorem pe_dcE {kx vx tg iter : Expr} {ifs : List Expr} {scope : Scope} {own : List (Str × Nat)} {pos : Pos} {wi : TI} {g : TG} {tt : TT} {tk tv : TE} (hu : X.A.units + 65 < cLine) (hc : X.calm = true) (hN : X.N.Nodup) (hi : PI X tg iter wi) (ok : BlkOk X.N X.env.scope scope own)
    (hg : ∀ c, PG (Bk X scope c) tg g) (ht : ∀ c, PTs (Bk X scope c) ifs tt) (hk : ∀ c, PE (Bk X scope c) kx tk) (hv : ∀ c, PE (Bk X scope c) vx tv) (hs : ∀ x, foldedSetIterable iter X.env x = pure x) :
    PE X (.DictComp kx vx [⟨tg, iter, ifs, 0⟩] scope pos) (tDcE X.K wi g tt tk tv (own.map (·.2))) := by
  refine ⟨fun pins s σ H Q I h => ?_⟩
  rw [arm_eval_DictComp]
  refine dcE_run hu hc hN hi ok hg ht hk hv hs I h fun dd C s5 m Hc I6 q5 hm f => ⟨m, hm, fun h' sb => ?_⟩
  obtain ⟨b0, b1, _, b3, b4, b5⟩ := f
  exact ⟨.ref dd, Hc, I6.turned (t' := s5.toks) (fun b o hb e => (sb.2 b hb).trans e) b0 b1 b3 b4 b5, rfl, q5⟩
/-- y = {k: v for tg in iter if ..} -/
theorem ps_setDcE {i : Nat} {y : Str} {py : Pos} {kx vx tg iter : Expr} {ifs : List Expr} {scope : Scope} {own : List (Str × Nat)} {pos spos : Pos} {wi : TI} {g : TG} {tt : TT} {tk tv : TE} (hu : X.A.units + 65 < cLine) (hc : X.calm = true) (hN : X.N.Nodup) (hy : X.N[i]? = some y) (hyl : X.env.scope.names.lookup y = some .local)
    (hsw : swapsWith (.DictComp kx vx [⟨tg, iter, ifs, 0⟩] scope pos) (some (.Name y py)) spos.line X.env = pure true) (hi : PI X tg iter wi) (ok : BlkOk X.N X.env.scope scope own)
    (hg : ∀ c, PG (Bk X scope c) tg g) (ht : ∀ c, PTs (Bk X scope c) ifs tt) (hk : ∀ c, PE (Bk X scope c) kx tk) (hv : ∀ c, PE (Bk X scope c) vx tv) (hs : ∀ x, foldedSetIterable iter X.env x = pure x) :
    PS X (.Assign [.Name y py] (.DictComp kx vx [⟨tg, iter, ifs, 0⟩] scope pos) spos) (tAsg (tDcE X.K wi g tt tk tv (own.map (·.2))) (gName i)) := by
  refine ⟨fun pins s σ H Dn I h => ?_⟩
  have h' : tDcE X.K wi g tt tk tv (own.map (·.2)) σ H (fun x H1 => gName i x σ H1 Dn.nx) := h
  rw [exec_Assign_Name_used _ _ _ _ hsw]
  refine wpAny_bind (wpAny_standAt (wpAny_bind ?_))
  show wpAny _ X.A (do let _ ← comprehension (.DictComp kx vx [⟨tg, iter, ifs, 0⟩] scope pos) scope X.env (firstIterPos [⟨tg, iter, ifs, 0⟩] pos) newDict false (eval iter X.env) (some (assign (.Name y py) X.env))) _ _ s
  refine wpAny_bind (thn (dcE_run (Qf := fun _ s' => SP X pins Dn .next s') hu hc hN hi ok hg ht hk hv hs I h' fun dd C s5 m Hc I6 q5 hm f => ?_) fun _ s' hq => wpAny_pure (wpAny_pure hq))
  show wpAny _ _ (assign (.Name y py) X.env (.ref dd)) _ _ _
  refine wpAny_assign_Name (store_ok2 (v := V.ref dd) I6 hN hy (.inl hyl) rfl ?_ (.inr hyl))
  rintro s6 I7 ⟨ad, sb, had⟩
  obtain ⟨b0, b1, _, b3, b4, b5⟩ := f
  have ne : C ≠ ad := had.elim (fun z => by rw [z]; exact b1) fun z e => b4 y ad z e.symm
  exact ⟨m, hm.sameBut sb ne, fun h3 sb3 => ⟨_, Hc, I7.turned (t' := s6.toks) (fun b o hb e => (sb3.2 b hb).trans e) b0 b1 b3 b4 b5, q5⟩⟩
end
theorem dPut_len2 : ∀ {kvs : List (D × D)} {d y : D}, (dPut kvs d y).length ≤ kvs.length + 1
  | [], d, y => Nat.le_refl _
  | p :: r, d, y => by
    unfold dPut
    split
    · simp
    · have := dPut_len2 (kvs := r) (d := d) (y := y)
      simp only [List.length_cons]
      omega
def dcTurn (T : Tab) (ek ev_ : Ex) (tg : Tg) (c : Oex) (d : D) (ρ : Rho) : Option (Option (D × D) × Rho) :=
  (bindTg tg d ρ).bind fun ρ => (evc T c ρ).bind fun b => if b.1 then (ev T ek b.2).bind fun y => (ev T ev_ y.2).bind fun z => (frz z.2 y.1).bind fun u => (frz u.2 z.1).map fun w => (some (u.1, w.1), w.2) else some (none, b.2)
/-- two operands, frozen -/
theorem two_frz {K : PySem.W.Frag} {ρ ρ1 ρ2 ρ3 ρ4 : Rho} {σ : L2.St} {H H1 H2 : Hp} {Z Z1 Z2 : Addr → Prop} {W0 : Addr → Prop} {H0 : Hp} {Z0 : Addr → Prop} {o1 o2 : Od} {v w : V} {x y : D}
    (p0 : Stp W0 (Ow ρ σ) H0 Z0 H Z) (p1 : Stp (Ow ρ σ) (Ow ρ1 σ) H Z H1 Z1) (s1 : Sta K H1 Z1 ρ1 σ) (r1 : OdV K H1 Z1 ρ1 σ o1 v) (n1 : NewV H o1 v) (p2 : Stp (Ow ρ1 σ) (Ow ρ2 σ) H1 Z1 H2 Z2) (s2 : Sta K H2 Z2 ρ2 σ) (r2 : OdV K H2 Z2 ρ2 σ o2 w) (n2 : NewV H1 o2 w)
    (e3 : frz ρ2 o1 = some (x, ρ3)) (e4 : frz ρ3 o2 = some (y, ρ4)) : ∃ Z', Stp W0 (Ow ρ4 σ) H0 Z0 H2 Z' ∧ Sta K H2 Z' ρ4 σ ∧ Rl K H2 Z' x v ∧ Rl K H2 Z' y w := by
  have ef : frzs ρ2 [o1, o2] = some ([x, y], ρ4) := by
    show (frz ρ2 o1).bind _ = _
    rw [e3]
    show ((frz ρ3 o2).bind _).map _ = _
    rw [e4]; rfl
  have R : OdVs K H H2 Z2 ρ2 σ [o1, o2] [v, w] := by
    refine ⟨v, [w], rfl, r1.stp s1 p2, n1, fun a wt => ?_, w, [], rfl, r2, n2.back fun a h => p1.none_ h, fun a _ => trivial, rfl⟩
    obtain ⟨c, e3, e4, e5⟩ := wt
    subst e3
    obtain ⟨ob, h⟩ := r1.1.dm e4 e5
    refine ⟨?_, trivial⟩
    rintro ⟨c', e6, e7, e8⟩
    subst e6
    rw [n2 a e7 e8] at h; cases h
  obtain ⟨Z3, p3, s3, ⟨v', r', e5, rx, w', r'', e6, ry, e7⟩, _, _, _⟩ := frzs_ok (p1.trans p2) s2 R ef
  cases e5
  cases e6
  exact ⟨Z3, p0.trans p3, s3, rx, ry⟩
theorem dc_loop {K : PySem.W.Frag} {T : Tab} {ik iv : Ex} {itg : Tg} {ic : Oex} {g : TG} {tt : TT} {tk tv : TE} (lg : LawG K g itg) (lt : LawC K tt (evc T ic)) (lk : LawE K tk (ev T ik)) (lv : LawE K tv (ev T iv)) {vs : List Nat} (hsub : ∀ i ∈ itg.slots, i ∈ vs)
    {J : It} {ds : List D} {ρ1 ρ2 : Rho} {σ : L2.St} {H1 : Hp} {Z1 : Addr → Prop} {out : List (D × D)} {Q : VK} (s : Sta K H1 Z1 ρ1 σ) (hJ : ItOk K itg J ds H1 Z1) (e : dcLoop (dcTurn T ik iv itg ic) vs ds [] ρ1 = some (out, ρ2))
    {A : Addr} (hA : H1 A = none) (k : ∀ H' Z', Sta K H' Z' (backR ρ1 ρ2 vs) σ → Stp (Ow ρ1 σ) (Ow (backR ρ1 ρ2 vs) σ) H1 Z1 H' Z' → ResV K H' Z' (backR ρ1 ρ2 vs) σ (.dic out) (.ref A) → Q (.ref A) H') :
    ∃ W : Nat → Nat → Hp → Prop, (∃ m, W 0 m (upd H1 A (.ext (dφ A [] 0)))) ∧ TurnsE K J g tt tk tv (wipe σ vs) vs A (fun Hc => Q (.ref A) Hc) W := by
  have W0 : (∀ a, Z1 a → ¬ Ow (wipeR ρ1 vs) (wipe σ vs) a) := fun a z w => s.nz (wipe_sub w) z
  let St : Nat → Hp → Prop := fun i H => ∃ (ρi : Rho) (Z : Addr → Prop) (kvs : List (D × D)), (Sta K H Z (wipeR ρi vs) (wipe σ vs) ∧ Stp (Ow (wipeR ρ1 vs) (wipe σ vs)) (Ow (wipeR ρi vs) (wipe σ vs)) H1 Z1 H Z) ∧
    (DicR K H Z kvs A ∧ ¬ Z A ∧ ¬ Ow (wipeR ρi vs) (wipe σ vs) A) ∧ dcLoop (dcTurn T ik iv itg ic) vs (ds.drop i) kvs ρi = some (out, ρ2)
  refine ⟨fun i m H => m = ds.length - i ∧ i ≤ ds.length ∧ St i H, ⟨ds.length, ?_⟩, ?_⟩
  · have nw : ¬ Ow ρ1 σ A := fun w => by
      obtain ⟨o, e⟩ := s.dm w
      rw [hA] at e; cases e
    have nz : ¬ Z1 A := fun z => by
      obtain ⟨o, e⟩ := s.zd A z
      rw [hA] at e; cases e
    exact ⟨by simp, Nat.zero_le _, ρ1, Z1, [], ⟨(s.wipe vs).upd (fun w => nw (wipe_sub w)) nz _, Stp.refl.upd hA _⟩, ⟨⟨[], 0, upd_same, Nat.zero_le _, .nil, List.nodup_nil, true, fun _ h => by cases h⟩, nz, fun w => nw (wipe_sub w)⟩, e⟩
  rintro i m H ⟨rfl, hi, ρi, Z, kvs, ⟨sw, pw⟩, ⟨dr, nz, nw⟩, el⟩
  have kp : Keep H1 Z1 H Z := pw.keep W0
  obtain ⟨j1, j2, j3⟩ := hJ i H Z kp
  obtain ⟨ob, hAc⟩ := dr.hd
  by_cases hlt : i < ds.length
  · refine .inr ⟨St (i + 1), ⟨j1 hlt, fun H' h => ⟨ds.length - (i + 1), by omega, rfl, hlt, h⟩⟩, fun x H' hy => ?_⟩
    have iv := j3 x H' _ (List.getElem?_eq_getElem hlt) hy
    rw [List.drop_eq_getElem_cons hlt] at el
    obtain ⟨⟨oy, ρ3⟩, et, el⟩ := bnd (show (dcTurn T ik _ itg ic ds[i] (wipeR ρi vs)).bind _ = some _ from el)
    obtain ⟨ρa, ea, et⟩ := bnd (show (bindTg itg ds[i] (wipeR ρi vs)).bind _ = some _ from et)
    obtain ⟨⟨b, ρb⟩, eb, et⟩ := bnd et
    refine lg _ _ H Z H' ds[i] x ρa _ sw iv ea fun σa Za sa pa la _ => ?_
    have hwa : wipe σa vs = wipe σ vs := by
      have hlen : σa.length = σ.length := by
        rw [← sa.len, bindTg_len _ _ _ _ ea, sw.len, wipe_length]
      apply List.ext_getElem?
      intro j
      rw [wipe_at, wipe_at, hlen]
      by_cases hj : j ∈ vs
      · rw [if_pos hj, if_pos hj]
      · rw [if_neg hj, if_neg hj, la j fun q => hj (hsub j q), wipe_at, if_neg hj]
    refine ⟨hwa, lt ρa σa H' Za b ρb _ sa eb fun Hb Zb sb pb => ?_⟩
    have pab := pa.trans pb
    cases b with
    | false =>
      rw [if_neg (by intro q; cases q)]
      cases (show some (none, ρb) = some (oy, ρ3) from et)
      have sw' := sb.wipe vs
      rw [hwa] at sw'
      refine ⟨ρ3, Zb, kvs, ⟨sw', pw.trans (pab.sub fun a w => ?_)⟩, ⟨dr.move (pab.keep fun a z w => sw.nz w z) fun o h => (pab.fr A o h nw).1, fun z => nz ((pab.fr A _ hAc nw).2 z), fun w => ?_⟩, el⟩
      · rw [← hwa] at w; exact wipe_sub w
      · rw [← hwa] at w
        rcases pab.w A (wipe_sub w) with w | w
        · exact nw w
        · rw [hAc] at w; cases w
    | true =>
      rw [if_pos rfl]
      obtain ⟨⟨ok, ρc⟩, ec, et⟩ := bnd (show (ev T ik ρb).bind _ = some _ from et)
      obtain ⟨⟨ov, ρd⟩, ed, et⟩ := bnd et
      obtain ⟨⟨dk, ρe⟩, ee, et⟩ := bnd et
      obtain ⟨⟨dv, ρf⟩, ef, et⟩ := mpd et
      cases et
      have el' : (if (keyIn kvs dk && decide (kvs.length < 16777215)) = true then dcLoop (dcTurn T ik _ itg ic) vs (ds.drop (i + 1)) (dPut kvs dk dv) ρf else none) = some (out, ρ2) := el
      by_cases hk : (keyIn kvs dk && decide (kvs.length < 16777215)) = true
      case neg => rw [if_neg hk] at el'; cases el'
      rw [if_pos hk] at el'
      rw [Bool.and_eq_true, decide_eq_true_eq] at hk
      refine lk ρb σa Hb Zb ok ρc _ sb ec fun v Hc Zc sc pc rc nc => ?_
      refine lv ρc σa Hc Zc ov ρd _ sc ed fun w Hd Zd sd pd rd nd => ?_
      obtain ⟨Ze, pe, se, rk, rv⟩ := two_frz pab pc sc rc nc pd sd rd nd ee ef
      obtain ⟨hA', hz'⟩ := pe.fr A _ hAc nw
      have nze : ¬ Ze A := fun z => nz (hz' z)
      have nwe : ¬ Ow ρf σa A := fun w => by
        rcases pe.w A w with w | w
        · exact nw w
        · rw [hAc] at w; cases w
      have dr' : DicR K Hd Ze kvs A := dr.move (pe.keep fun a z w => sw.nz w z) fun o h => (pe.fr A o h nw).1
      refine ⟨Ze, kvs, dk, dv, ⟨dr', hk.2⟩, ⟨hk.1, rk, rv⟩, fun rw2 ep2 h2 n2 => ?_⟩
      have kq : Keep Hd Ze (upd Hd A (.ext (dφ A rw2 ep2))) Ze := ⟨fun x o z e => by rw [upd_ne (show x ≠ A from fun q => nze (by rw [← q]; exact z))]; exact e, fun _ z => z⟩
      have hlen : (dPut kvs dk dv).length ≤ 16777215 := by
        have := dPut_len2 (kvs := kvs) (d := dk) (y := dv)
        omega
      refine ⟨ρf, Ze, dPut kvs dk dv, ⟨?_, ?_⟩, ⟨⟨rw2, ep2, upd_same, hlen, Paired.mapP h2 fun p r ⟨q0, q1, q2, q3⟩ => ⟨q0, q1, Rl.keep kq _ _ q2, Rl.keep kq _ _ q3⟩, n2, homo_put dr.homo hk.1⟩, nze, fun w => ?_⟩, el'⟩
      · have := (se.upd (a := A) nwe nze (.ext (dφ A rw2 ep2))).wipe vs
        rwa [hwa] at this
      · refine (pw.trans (pe.sub fun a w => ?_)).upd hA _
        rw [← hwa] at w; exact wipe_sub w
      · rw [← hwa] at w; exact nwe (wipe_sub w)
  · have hie : i = ds.length := by omega
    refine .inl ⟨j2 hie, ?_⟩
    rw [List.drop_eq_nil_of_le (by omega)] at el
    cases (show some (kvs, ρi) = some (out, ρ2) from el)
    obtain ⟨s3, p3, o3⟩ := s.back sw pw
    refine k H Z s3 p3 ⟨⟨A, rfl, dr, nz⟩, fun a _ e w => ?_⟩
    cases e
    rcases o3 A w with w | w
    · obtain ⟨o, e⟩ := s.dm w
      rw [hA] at e; cases e
    · exact nw w
theorem tDc_ok {X : Cx} {T : Tab} {itg : Tg} {iit : Itr} {ik iv : Ex} {ic : Oex} {g : TG} {tt : TT} {tk tv : TE} {vs : List Nat} {wi : TI} (lg : LawG X.K g itg) (lt : LawC X.K tt (evc T ic)) (lk : LawE X.K tk (ev T ik)) (lv : LawE X.K tv (ev T iv)) (hsub : ∀ i ∈ itg.slots, i ∈ vs)
    (qi : ∀ (ρ : Rho) (σ : L2.St) (H : Hp) (Z : Addr → Prop) (ds : List D) (ρ' : Rho) (R : It → Hp → Prop), Sta X.K H Z ρ σ → evi T iit ρ = some (ds, ρ') → (∀ J H' Z', Sta X.K H' Z' ρ' σ → Stp (Ow ρ σ) (Ow ρ' σ) H Z H' Z' → ItOk X.K itg J ds H' Z' → ds.length ≤ sizeLine → R J H') → wi σ H R) :
    LawE X.K (tDcE X.K wi g tt tk tv vs) (ev T (.dc ik iv itg iit ic vs)) := by
  intro ρ σ H Z o ρ' Q s e k
  obtain ⟨⟨ds, ρ1⟩, e1, e⟩ := bnd (show (evi T iit ρ).bind _ = some _ from e)
  obtain ⟨⟨out, ρ2⟩, e2, e⟩ := mpd e
  cases e
  refine qi ρ σ H Z ds ρ1 _ s e1 fun J H1 Z1 s1 p1 jo hl A hA => ?_
  exact dc_loop lg lt lk lv hsub s1 jo e2 hA fun H' Z' s' p' r' => k _ H' Z' s' (p1.trans p') r' fun a _ q => by cases q; exact p1.none_ hA
theorem so_dc {X : Cx} {T : Tab} {kx vx tg iter : Expr} {ifs : List Expr} {scope : Scope} {own : List (Str × Nat)} {pos : Pos} {itg : Tg} {iit : Itr} {ik iv : Ex} {ic : Oex} (hu : X.A.units + 65 < cLine) (hc : X.calm = true) (hN : X.N.Nodup) (hi : SI X tg iter itg (evi T iit)) (ok : BlkOk X.N X.env.scope scope own)
    (hg : ∀ c, SG (Bk X scope c) tg itg) (ht : ∀ c, SC (Bk X scope c) ifs (evc T ic)) (hk : ∀ c, SO (Bk X scope c) kx (ev T ik)) (hv : ∀ c, SO (Bk X scope c) vx (ev T iv)) (hsub : ∀ i ∈ itg.slots, i ∈ own.map (·.2)) (hs : ∀ x, foldedSetIterable iter X.env x = pure x) :
    SO X (.DictComp kx vx [⟨tg, iter, ifs, 0⟩] scope pos) (ev T (.dc ik iv itg iit ic (own.map (·.2)))) := by
  obtain ⟨g, pg, lg⟩ := sg_all hg
  obtain ⟨tt, pt, lt⟩ := sc_all ht
  obtain ⟨tk, pk, lk⟩ := so_all hk
  obtain ⟨tv, pv, lv⟩ := so_all hv
  obtain ⟨wi, pi, qi⟩ := hi
  exact ⟨_, pe_dcE hu hc hN pi ok pg pt pk pv hs, tDc_ok lg lt lk lv hsub qi⟩
end Lt
namespace Lt
open PySem L2 PySem.Spec PyProof.Rows
mutual
inductive Sm where
  | set (i : Nat) (e : Ex)
  | asg (tg : Tg) (e : Ex)
  | par (is : List Nat) (es : Exs)
  | put (i : Nat) (k e : Ex)
  | aug (i : Nat) (op : Operator) (e : Ex)
  | exp (e : Ex)
  | ret (e : Ex)
  | retN
  | ite (c : Ex) (a b : Sms)
  | whl (c : Ex) (b : Sms)
  | for_ (tg : Tg) (it : Itr) (b : Sms)
  | brk
  | cnt
  | pas
  | nev
inductive Sms where
  | nil
  | cons (s : Sm) (r : Sms)
end
inductive Out where
  | nx
  | bk
  | ct
  | rt (o : Od)
/-- an operand that is to be stored: another name's value is frozen -/
def celOd (ρ : Rho) : Od → Option (Cell × Rho)
  | .v i => (frz ρ (.v i)).map fun q => (.dat q.1, q.2)
  | .t c => some (c, ρ)
def celOds (ρ : Rho) : List Od → Option (List Cell × Rho)
  | [] => some ([], ρ)
  | o :: os => (celOd ρ o).bind fun r => (celOds r.2 os).map fun q => (r.1 :: q.1, q.2)
def setAll : List Nat → List Cell → Rho → Rho
  | i :: is, c :: cs, ρ => setAll is cs (ρ.set i c)
  | _, _, ρ => ρ
def putL (xs : List D) (i : Int) (d : D) : Option (List D) := (ixN xs.length i).map fun j => xs.set j d
def isOwn : Cell → Option Unit
  | .own _ => some ()
  | .dic _ => some ()
  | _ => none
def putC : Cell → D → D → Option Cell
  | .own xs, .int z, d => (putL xs z d).map .own
  | .dic kvs, y, d => if keyIn kvs y && decide (kvs.length < 16777215) then some (.dic (dPut kvs y d)) else none
  | _, _, _ => none
def intC : Cell → Option Int
  | .dat (.int x) => some x
  | _ => none
def augD : Operator → Int → D → Option Int
  | .Add, x, .int y => some (x + y)
  | .Sub, x, .int y => some (x - y)
  | _, _, _ => none
def whlL (c : Rho → Option (Bool × Rho)) (b : Rho → Option (Out × Rho)) : Nat → Rho → Option (Out × Rho)
  | 0, _ => none
  | n + 1, ρ => (c ρ).bind fun k => if k.1 then (b k.2).bind fun q => match q.1 with
      | .nx => whlL c b n q.2
      | .ct => whlL c b n q.2
      | .bk => some (.nx, q.2)
      | .rt o => some (.rt o, q.2)
    else some (.nx, k.2)
def forL (tg : Tg) (b : Rho → Option (Out × Rho)) : List D → Rho → Option (Out × Rho)
  | [], ρ => some (.nx, ρ)
  | d :: ds, ρ => (bindTg tg d ρ).bind fun ρ => (b ρ).bind fun q => match q.1 with
      | .nx => forL tg b ds q.2
      | .ct => forL tg b ds q.2
      | .bk => some (.nx, q.2)
      | .rt o => some (.rt o, q.2)
mutual
def ex (T : Tab) (n : Nat) : Sm → Rho → Option (Out × Rho)
  | .set i e, ρ => (ev T e ρ).bind fun r => (celOd r.2 r.1).map fun q => (.nx, q.2.set i q.1)
  | .asg tg e, ρ => (ev T e ρ).bind fun r => (frz r.2 r.1).bind fun q => (bindTg tg q.1 q.2).map fun ρ => (.nx, ρ)
  | .par is es, ρ => (evs T es ρ).bind fun r => (celOds r.2 r.1).map fun q => (.nx, setAll is q.1 q.2)
  | .put i k e, ρ => (ev T e ρ).bind fun r => (isOwn (cellAt r.2 i)).bind fun _ => (ev T k r.2).bind fun q => (frz q.2 r.1).bind fun u => (lookD u.2 q.1).bind fun y => (putC (cellAt u.2 i) y u.1).map fun c => (.nx, u.2.set i c)
  | .aug i op e, ρ => (intC (cellAt ρ i)).bind fun x => (ev T e ρ).bind fun r => (lookD r.2 r.1).bind fun y => (augD op x y).map fun z => (.nx, r.2.set i (.dat (.int z)))
  | .exp e, ρ => (ev T e ρ).map fun r => (.nx, r.2)
  | .ret e, ρ => (ev T e ρ).map fun r => (.rt r.1, r.2)
  | .retN, ρ => some (.rt (.t (.dat .none)), ρ)
  | .ite c a b, ρ => (ev T c ρ).bind fun r => (testOd r.2 r.1).bind fun k => if k then exs T n a r.2 else exs T n b r.2
  | .whl c b, ρ => whlL (fun ρ => (ev T c ρ).bind fun r => (testOd r.2 r.1).map fun k => (k, r.2)) (exs T n b) n ρ
  | .for_ tg it b, ρ => (evi T it ρ).bind fun r => forL tg (exs T n b) r.1 r.2
  | .brk, ρ => some (.bk, ρ)
  | .cnt, ρ => some (.ct, ρ)
  | .pas, ρ => some (.nx, ρ)
  | .nev, _ => none
def exs (T : Tab) (n : Nat) : Sms → Rho → Option (Out × Rho)
  | .nil, ρ => some (.nx, ρ)
  | .cons s r, ρ => (ex T n s ρ).bind fun q => match q.1 with
    | .nx => exs T n r q.2
    | o => some (o, q.2)
end
mutual
def Sm.p0 : Sm → Bool
  | .set i _ => i != 0
  | .asg tg _ => !tg.slots.contains 0
  | .par is _ => !is.contains 0
  | .aug i _ _ => i != 0
  | .ite _ a b => a.p0 && b.p0
  | .whl _ b => b.p0
  | .for_ tg _ b => !tg.slots.contains 0 && b.p0
  | _ => true
def Sms.p0 : Sms → Bool
  | .nil => true
  | .cons s r => s.p0 && r.p0
end
def Post (K : PySem.W.Frag) (pin : Bool) (ρ : Rho) (σ : L2.St) (H : Hp) (Z : Addr → Prop) (E : Ends) : Out → Rho → Prop
  | .nx, ρ' => ∀ σ' H' Z', Sta K H' Z' ρ' σ' → Stp (Ow ρ σ) (Ow ρ' σ') H Z H' Z' → (pin = true → σ'[0]? = σ[0]?) → E.nx σ' H'
  | .bk, ρ' => ∀ σ' H' Z', Sta K H' Z' ρ' σ' → Stp (Ow ρ σ) (Ow ρ' σ') H Z H' Z' → (pin = true → σ'[0]? = σ[0]?) → E.bk σ' H'
  | .ct, ρ' => ∀ σ' H' Z', Sta K H' Z' ρ' σ' → Stp (Ow ρ σ) (Ow ρ' σ') H Z H' Z' → (pin = true → σ'[0]? = σ[0]?) → E.ct σ' H'
  | .rt o, ρ' => ∀ σ' v H' Z', Sta K H' Z' ρ' σ' → Stp (Ow ρ σ) (Ow ρ' σ') H Z H' Z' → (pin = true → σ'[0]? = σ[0]?) → OdV K H' Z' ρ' σ' o v → NewV H o v → E.rt v H'
def LawS (K : PySem.W.Frag) (t : TS) (pin : Bool) (f : Rho → Option (Out × Rho)) : Prop := ∀ (ρ : Rho) (σ : L2.St) (H : Hp) (Z : Addr → Prop) (out : Out) (ρ' : Rho) (E : Ends), Sta K H Z ρ σ → f ρ = some (out, ρ') → Post K pin ρ σ H Z E out ρ' → t E σ H
def SS (X : Cx) (T : Tab) (st : Stmt) (s : Sm) : Prop := ∃ t : TS, PS X st t ∧ ∀ n, LawS X.K t s.p0 (ex T n s)
def SSs (X : Cx) (T : Tab) (st : List Stmt) (s : Sms) : Prop := ∃ t : TS, PSs X st t ∧ ∀ n, LawS X.K t s.p0 (exs T n s)
section
variable {K : PySem.W.Frag} {H0 H : Hp} {Z0 Z : Addr → Prop} {ρ ρ' : Rho} {σ : L2.St}
theorem celOd_ok {o : Od} {v : V} {c : Cell} {W0 : Addr → Prop} (p : Stp W0 (Ow ρ σ) H0 Z0 H Z) (s : Sta K H Z ρ σ) (r : OdV K H Z ρ σ o v) (n : NewV H0 o v) (e : celOd ρ o = some (c, ρ')) :
    ∃ Z', Stp W0 (Ow ρ' σ) H0 Z0 H Z' ∧ Sta K H Z' ρ' σ ∧ OdV K H Z' ρ' σ (.t c) v ∧ NewV H0 (.t c) v ∧ (∀ a, OwT (.t c) v a → OwT o v a) ∧ (∀ a, Z a → Z' a) ∧ (∀ a, Z' a → Z a ∨ Ow ρ σ a ∨ OwT (.v 0) v a) ∧ (∀ a, Ow ρ' σ a → Ow ρ σ a) := by
  cases o with
  | t c0 =>
    cases (show some (c0, ρ) = some (c, ρ') from e)
    exact ⟨Z, p, s, r, n, fun _ h => h, fun _ z => z, fun _ z => .inl z, fun _ w => w⟩
  | v i =>
    obtain ⟨⟨d, ρ1⟩, e1, e2⟩ := mpd (show (frz ρ (.v i)).map _ = some _ from e)
    cases e2
    obtain ⟨Z', p', s', r', z1, z2, z3⟩ := frz_ok p s r n e1
    refine ⟨Z', p', s', ⟨r', fun _ h => nomatch h⟩, (fun _ h => nomatch h), fun a ⟨c, h, w, _⟩ => ?_, z1, fun a z => ?_, z3⟩
    · cases h; cases w
    · rcases z2 a z with z | z | ⟨c, h, _⟩
      · exact .inl z
      · exact .inr (.inl z)
      · cases h
theorem celOds_ok {W0 : Addr → Prop} : ∀ {os : List Od} {vs : List V} {cs : List Cell} {ρ ρ' : Rho} {Z : Addr → Prop}, Stp W0 (Ow ρ σ) H0 Z0 H Z → Sta K H Z ρ σ → OdVs K H0 H Z ρ σ os vs → celOds ρ os = some (cs, ρ') →
    ∃ Z', Stp W0 (Ow ρ' σ) H0 Z0 H Z' ∧ Sta K H Z' ρ' σ ∧ OdVs K H0 H Z' ρ' σ (cs.map .t) vs ∧ (∀ a, Z a → Z' a) ∧ (∀ a, Z' a → Z a ∨ Ow ρ σ a) ∧ (∀ a, Ow ρ' σ a → Ow ρ σ a) ∧ (∀ a, OwF a os vs → OwF a (cs.map .t) vs)
  | [], vs, cs, ρ, ρ', Z, p, s, r, e => by
    cases (show some ([], ρ) = some (cs, ρ') from e)
    exact ⟨Z, p, s, r, fun _ z => z, fun _ z => .inl z, fun _ w => w, fun _ h => h⟩
  | o :: os, _, cs, ρ, ρ', Z, p, s, ⟨v, r, ev', hv, hn, hf, q⟩, e => by
    subst ev'
    obtain ⟨⟨c, ρ1⟩, e1, e⟩ := bnd (show (celOd ρ o).bind _ = some _ from e)
    obtain ⟨⟨cs', ρ2⟩, e2, e⟩ := mpd e
    cases e
    obtain ⟨Z1, p1, s1, r1, n1, o1, a1, a2, a3⟩ := celOd_ok p s hv hn e1
    have q1 : OdVs K H0 H Z1 ρ1 σ os r := q.frz (o1 := .v 0) (v1 := v) a1 a2 a3 fun a ⟨c, h, _⟩ => by cases h
    obtain ⟨Z2, p2, s2, r2, b1, b2, b3, b4⟩ := celOds_ok p1 s1 q1 e2
    refine ⟨Z2, p2, s2, ⟨v, r, rfl, r1.frz (o1 := .v 0) (v1 := v) b1 (fun a z => (b2 a z).elim .inl fun w => .inr (.inl w)) b3 (fun a _ ⟨c, h, _⟩ => by cases h), n1, fun a w => b4 a (hf a (o1 a w)), r2⟩, fun a z => b1 a (a1 a z), fun a z => ?_, fun a w => a3 a (b3 a w), fun a h => ⟨fun w => h.1 (o1 a w), b4 a h.2⟩⟩
    rcases b2 a z with z | z
    · rcases a2 a z with z | z | ⟨c, h, _⟩
      · exact .inl z
      · exact .inr z
      · cases h
    · exact .inr (a3 a z)
theorem setAll_ok : ∀ {is : List Nat} {cs : List Cell} {vs : List V} {ρ : Rho} {σ : L2.St}, Sta K H Z ρ σ → OdVs K H0 H Z ρ σ (cs.map .t) vs → is.length = cs.length → ∀ P : L2.St → Prop,
    (∀ σ', Sta K H Z (setAll is cs ρ) σ' → (∀ a, Ow (setAll is cs ρ) σ' a → Ow ρ σ a ∨ H0 a = none) → (∀ j, j ∉ is → σ'[j]? = σ[j]?) → σ' = (is.zip vs).foldl (fun s p => s.set p.1 (some p.2)) σ → P σ') → P ((is.zip vs).foldl (fun s p => s.set p.1 (some p.2)) σ)
  | [], [], vs, ρ, σ, s, r, _, P, k => k σ s (fun _ w => .inl w) (fun _ _ => rfl) (by simp)
  | [], c :: cs, vs, ρ, σ, s, r, h, P, k => by cases h
  | i :: is, [], vs, ρ, σ, s, r, h, P, k => by cases h
  | i :: is, c :: cs, _, ρ, σ, s, ⟨v, r, ev', hv, hn, hf, q⟩, h, P, k => by
    subst ev'
    obtain ⟨s1, ow1⟩ := set_ok s (i := i) hv.1 hv.2
    have tr : ∀ {cs : List Cell} {r : List V}, OdVs K H0 H Z ρ σ (cs.map .t) r → (∀ a, OwT (.t c) v a → OwF a (cs.map .t) r) → OdVs K H0 H Z (ρ.set i c) (σ.set i (some v)) (cs.map .t) r := by
      intro cs
      induction cs with
      | nil => intro r q _; exact q
      | cons d ds ih =>
        rintro _ ⟨w, r, rfl, hv', hn', hf', q'⟩ hd
        refine ⟨w, r, rfl, ⟨hv'.1, fun a h1 h2 h3 => ?_⟩, hn', hf', ih q' fun a z => (hd a z).2⟩
        rcases ow1 a h3 with z | z
        · exact hv'.2 a h1 h2 z
        · exact (hd a ⟨c, rfl, z.1, z.2⟩).1 ⟨d, rfl, h1, h2⟩
    have := setAll_ok (is := is) s1 (tr q hf) (by simpa using h) P (fun σ' s' w' l' e' => k σ' s' (fun a z => ?_) (fun j hj => ?_) (by rw [e']; rfl))
    · exact this
    · rcases w' a z with z | z
      · rcases ow1 a z with z | z
        · exact .inl z
        · exact .inr (hn a z.1 z.2)
      · exact .inr z
    · rw [List.mem_cons, not_or] at hj
      rw [l' j hj.2, List.getElem?_set_ne (Ne.symm hj.1)]
end
section
variable {X : Cx} {T : Tab} {pos : Pos} {e : Expr}
theorem ss_set {i : Nat} {x : Str} {ie : Ex} {p : Pos} (hN : X.N.Nodup) (hi : X.N[i]? = some x) (hx : Loc X.env.scope x) (hf : X.fn x = true ∨ X.env.scope.names.lookup x = some .local) (he : SO X e (ev T ie)) (hs : swapsWith e (some (.Name x p)) pos.line X.env = pure false) :
    SS X T (.Assign [.Name x p] e pos) (.set i ie) := by
  obtain ⟨t, pt, qt⟩ := he
  refine ⟨_, ps_set hN hi hx pt hs hf, fun n ρ σ H Z out ρ' E s e k => ?_⟩
  obtain ⟨⟨o, ρ1⟩, e1, e⟩ := bnd (show (ev T ie ρ).bind _ = some _ from e)
  obtain ⟨⟨c, ρ2⟩, e2, e⟩ := mpd e
  cases e
  refine qt ρ σ H Z o ρ1 _ s e1 fun v H1 Z1 s1 p1 r1 n1 => ?_
  obtain ⟨Z2, p2, s2, r2, n2, _⟩ := celOd_ok p1 s1 r1 n1 e2
  obtain ⟨s3, w3⟩ := set_ok s2 (i := i) r2.1 r2.2
  refine k _ H1 Z2 s3 ⟨p2.fr, p2.dom, p2.z, fun a w => ?_⟩ fun hp => ?_
  · rcases w3 a w with w | w
    · exact p2.w a w
    · exact .inr (n2 a w.1 w.2)
  · have : i ≠ 0 := by simpa [Sm.p0] using hp
    rw [List.getElem?_set_ne this]
theorem ss_setLc {i : Nat} {y : Str} {py : Pos} {elt tg iter : Expr} {ifs : List Expr} {scope : Scope} {own : List (Str × Nat)} {lpos spos : Pos} {itg : Tg} {iit : Itr} {ie : Ex} {ic : Oex} (hc : X.calm = true) (hN : X.N.Nodup) (hy : X.N[i]? = some y) (hyl : X.env.scope.names.lookup y = some .local)
    (hsw : swapsWith (.ListComp elt [⟨tg, iter, ifs, 0⟩] scope lpos) (some (.Name y py)) spos.line X.env = pure true) (hi : SI X tg iter itg (evi T iit)) (ok : BlkOk X.N X.env.scope scope own)
    (hg : ∀ c, SG (Bk X scope c) tg itg) (ht : ∀ c, SC (Bk X scope c) ifs (evc T ic)) (he : ∀ c, SO (Bk X scope c) elt (ev T ie)) (hsub : ∀ i ∈ itg.slots, i ∈ own.map (·.2)) (hs : ∀ x, foldedSetIterable iter X.env x = pure x) :
    SS X T (.Assign [.Name y py] (.ListComp elt [⟨tg, iter, ifs, 0⟩] scope lpos) spos) (.set i (.lc ie itg iit ic (own.map (·.2)))) := by
  obtain ⟨g, pg, lg⟩ := sg_all hg
  obtain ⟨tt, pt, lt⟩ := sc_all ht
  obtain ⟨te, pe, le⟩ := so_all he
  obtain ⟨wi, pi, qi⟩ := hi
  have qt := tLc_ok (X := X) (T := T) (elt := elt) (tg := tg) (iter := iter) (ifs := ifs) lg lt le hsub qi
  refine ⟨_, ps_setLc hc hN hy hyl hsw pi ok (fun s H C cl fp => pg (s, H, C, cl, fp)) (fun s H C cl fp => pt (s, H, C, cl, fp)) (fun s H C cl fp => pe (s, H, C, cl, fp)) hs, fun n ρ σ H Z out ρ' E s e k => ?_⟩
  obtain ⟨⟨o, ρ1⟩, e1, e⟩ := bnd (show (ev T (.lc ie itg iit ic (own.map (·.2))) ρ).bind _ = some _ from e)
  obtain ⟨⟨c, ρ2⟩, e2, e⟩ := mpd e
  cases e
  refine qt ρ σ H Z o ρ1 _ s e1 fun v H1 Z1 s1 p1 r1 n1 => ?_
  obtain ⟨Z2, p2, s2, r2, n2, _⟩ := celOd_ok p1 s1 r1 n1 e2
  obtain ⟨s3, w3⟩ := set_ok s2 (i := i) r2.1 r2.2
  refine k _ H1 Z2 s3 ⟨p2.fr, p2.dom, p2.z, fun a w => ?_⟩ fun hp => ?_
  · rcases w3 a w with w | w
    · exact p2.w a w
    · exact .inr (n2 a w.1 w.2)
  · have : i ≠ 0 := by simpa [Sm.p0] using hp
    rw [List.getElem?_set_ne this]
theorem ss_setDc {i : Nat} {y : Str} {py : Pos} {kx vx tg iter : Expr} {ifs : List Expr} {scope : Scope} {own : List (Str × Nat)} {lpos spos : Pos} {itg : Tg} {iit : Itr} {ik iv : Ex} {ic : Oex} (hu : X.A.units + 65 < cLine) (hc : X.calm = true) (hN : X.N.Nodup) (hy : X.N[i]? = some y) (hyl : X.env.scope.names.lookup y = some .local)
    (hsw : swapsWith (.DictComp kx vx [⟨tg, iter, ifs, 0⟩] scope lpos) (some (.Name y py)) spos.line X.env = pure true) (hi : SI X tg iter itg (evi T iit)) (ok : BlkOk X.N X.env.scope scope own)
    (hg : ∀ c, SG (Bk X scope c) tg itg) (ht : ∀ c, SC (Bk X scope c) ifs (evc T ic)) (hk : ∀ c, SO (Bk X scope c) kx (ev T ik)) (hv : ∀ c, SO (Bk X scope c) vx (ev T iv)) (hsub : ∀ i ∈ itg.slots, i ∈ own.map (·.2)) (hs : ∀ x, foldedSetIterable iter X.env x = pure x) :
    SS X T (.Assign [.Name y py] (.DictComp kx vx [⟨tg, iter, ifs, 0⟩] scope lpos) spos) (.set i (.dc ik iv itg iit ic (own.map (·.2)))) := by
  obtain ⟨g, pg, lg⟩ := sg_all hg
  obtain ⟨tt, pt, lt⟩ := sc_all ht
  obtain ⟨tk, pk, lk⟩ := so_all hk
  obtain ⟨tv, pv, lv⟩ := so_all hv
  obtain ⟨wi, pi, qi⟩ := hi
  refine ⟨_, ps_setDcE hu hc hN hy hyl hsw pi ok pg pt pk pv hs, fun n ρ σ H Z out ρ' E s e k => ?_⟩
  obtain ⟨⟨o, ρ1⟩, e1, e⟩ := bnd (show (ev T (.dc ik iv itg iit ic (own.map (·.2))) ρ).bind _ = some _ from e)
  obtain ⟨⟨c, ρ2⟩, e2, e⟩ := mpd e
  cases e
  refine tDc_ok lg lt lk lv hsub qi ρ σ H Z o ρ1 _ s e1 fun v H1 Z1 s1 p1 r1 n1 => ?_
  obtain ⟨Z2, p2, s2, r2, n2, _⟩ := celOd_ok p1 s1 r1 n1 e2
  obtain ⟨s3, w3⟩ := set_ok s2 (i := i) r2.1 r2.2
  refine k _ H1 Z2 s3 ⟨p2.fr, p2.dom, p2.z, fun a w => ?_⟩ fun hp => ?_
  · rcases w3 a w with w | w
    · exact p2.w a w
    · exact .inr (n2 a w.1 w.2)
  · have : i ≠ 0 := by simpa [Sm.p0] using hp
    rw [List.getElem?_set_ne this]
theorem ss_setLc2 {i : Nat} {y : Str} {py : Pos} {elt tg iter tg1 iter1 : Expr} {ifs ifs1 : List Expr} {scope : Scope} {own : List (Str × Nat)} {lpos spos : Pos} {itg itg1 : Tg} {iit iit1 : Itr} {ie : Ex} {ic ic1 : Oex} {vs1 : List Nat} (hc : X.calm = true) (hN : X.N.Nodup) (hy : X.N[i]? = some y) (hyl : X.env.scope.names.lookup y = some .local)
    (hsw : swapsWith (.ListComp elt [⟨tg, iter, ifs, 0⟩, ⟨tg1, iter1, ifs1, 0⟩] scope lpos) (some (.Name y py)) spos.line X.env = pure true) (hi : SI X tg iter itg (evi T iit)) (ok : BlkOk X.N X.env.scope scope own)
    (hg : ∀ c, SG (Bk X scope c) tg itg) (ht : ∀ c, SC (Bk X scope c) ifs (evc T ic)) (hi1 : ∀ c, SI (Bk X scope c) tg1 iter1 itg1 (evi T iit1)) (hg1 : ∀ c, SG (Bk X scope c) tg1 itg1) (ht1 : ∀ c, SC (Bk X scope c) ifs1 (evc T ic1)) (he : ∀ c, SO (Bk X scope c) elt (ev T ie)) (hsub : ∀ i ∈ itg.slots, i ∈ own.map (·.2)) (hsub1 : ∀ i ∈ itg1.slots, i ∈ vs1) (hv : ∀ i ∈ vs1, i ∈ own.map (·.2))
    (hs : ∀ x, foldedSetIterable iter X.env x = pure x) (hs1 : ∀ env x, foldedSetIterable iter1 env x = pure x) :
    SS X T (.Assign [.Name y py] (.ListComp elt [⟨tg, iter, ifs, 0⟩, ⟨tg1, iter1, ifs1, 0⟩] scope lpos) spos) (.set i (.lc2 ie itg iit ic itg1 iit1 ic1 (own.map (·.2)) vs1)) := by
  obtain ⟨g, pg, lg⟩ := sg_all hg
  obtain ⟨tt, pt, lt⟩ := sc_all ht
  obtain ⟨wi1, pi1, li1⟩ := si_all hi1
  obtain ⟨g1, pg1, lg1⟩ := sg_all hg1
  obtain ⟨tt1, pt1, lt1⟩ := sc_all ht1
  obtain ⟨te, pe, le⟩ := so_all he
  obtain ⟨wi, pi, qi⟩ := hi
  have qt := tLc2_ok (X := X) (T := T) lg lt li1 lg1 lt1 le hsub hsub1 hv qi
  refine ⟨_, ps_setLc2 hc hN hy hyl hsw pi ok hv (fun s H C cl fp => pg (s, H, C, cl, fp)) (fun s H C cl fp => pt (s, H, C, cl, fp)) (fun s H C cl fp => pi1 (s, H, C, cl, fp)) (fun s H C cl fp => pg1 (s, H, C, cl, fp)) (fun s H C cl fp => pt1 (s, H, C, cl, fp)) (fun s H C cl fp => pe (s, H, C, cl, fp)) hs hs1, fun n ρ σ H Z out ρ' E s e k => ?_⟩
  obtain ⟨⟨o, ρ1⟩, e1, e⟩ := bnd (show (ev T (.lc2 ie itg iit ic itg1 iit1 ic1 (own.map (·.2)) vs1) ρ).bind _ = some _ from e)
  obtain ⟨⟨c, ρ2⟩, e2, e⟩ := mpd e
  cases e
  refine qt ρ σ H Z o ρ1 _ s e1 fun v H1 Z1 s1 p1 r1 n1 => ?_
  obtain ⟨Z2, p2, s2, r2, n2, _⟩ := celOd_ok p1 s1 r1 n1 e2
  obtain ⟨s3, w3⟩ := set_ok s2 (i := i) r2.1 r2.2
  refine k _ H1 Z2 s3 ⟨p2.fr, p2.dom, p2.z, fun a w => ?_⟩ fun hp => ?_
  · rcases w3 a w with w | w
    · exact p2.w a w
    · exact .inr (n2 a w.1 w.2)
  · have : i ≠ 0 := by simpa [Sm.p0] using hp
    rw [List.getElem?_set_ne this]
theorem ss_asg {tg : Expr} {itg : Tg} {ie : Ex} (hg : SG X tg itg) (he : SO X e (ev T ie)) (hs : swapsWithSole [tg] e pos.line X.env = pure false) (hw : swappedStores [tg] e X.env = pure none) (h1 : (assignEach [tg] X.env).map (·.2) = [assign tg X.env]) :
    SS X T (.Assign [tg] e pos) (.asg itg ie) := by
  obtain ⟨t, pt, qt⟩ := he
  obtain ⟨g, pg, qg⟩ := hg
  refine ⟨_, ps_asg pt pg hs hw h1, fun n ρ σ H Z out ρ' E s e k => ?_⟩
  obtain ⟨⟨o, ρ1⟩, e1, e⟩ := bnd (show (ev T ie ρ).bind _ = some _ from e)
  obtain ⟨⟨d, ρ2⟩, e2, e⟩ := bnd e
  obtain ⟨ρ3, e3, e⟩ := mpd e
  cases e
  refine qt ρ σ H Z o ρ1 _ s e1 fun v H1 Z1 s1 p1 r1 n1 => ?_
  obtain ⟨Z2, p2, s2, r2, _⟩ := frz_ok p1 s1 r1 n1 e2
  refine qg ρ2 σ H1 Z2 H1 d v ρ' _ s2 (.inl ⟨rfl, r2⟩) e3 fun σ' Z' s3 p3 l3 _ => ?_
  refine k σ' H1 Z' s3 (p2.trans p3) fun hp => l3 0 ?_
  simpa [Sm.p0] using hp
theorem ss_par2 {i j : Nat} {x y : Str} {a b : Expr} {px py pt : Pos} {kt k2 pt2} {is : Exs} (hc : X.calm = true) (hN : X.N.Nodup) (hi : X.N[i]? = some x) (hj : X.N[j]? = some y) (hij : i ≠ j)
    (hx : X.env.scope.names.lookup x = some .local) (hy : X.env.scope.names.lookup y = some .local) (ha : SA X [a, b] (evs T is)) (hl : is.len = 2)
    (hw : swappedStores [.Tuple [.Name x px, .Name y py] kt pt] (.Tuple [a, b] k2 pt2) X.env = pure (some [x, y]))
    (hs : swapsWithSole [.Tuple [.Name x px, .Name y py] kt pt] (.Tuple [a, b] k2 pt2) pos.line X.env = pure false) :
    SS X T (.Assign [.Tuple [.Name x px, .Name y py] kt pt] (.Tuple [a, b] k2 pt2) pos) (.par [i, j] is) := by
  obtain ⟨t, pt', qt⟩ := ha
  refine ⟨_, ps_par hc hN hi hj hij hx hy pt'.1 hw hs, fun n ρ σ H Z out ρ' E s e k => ?_⟩
  obtain ⟨⟨os, ρ1⟩, e1, e⟩ := bnd (show (evs T is ρ).bind _ = some _ from e)
  obtain ⟨⟨cs, ρ2⟩, e2, e⟩ := mpd e
  cases e
  refine qt ρ σ H Z os ρ1 _ s e1 fun vs H1 Z1 s1 p1 r1 => ?_
  obtain ⟨Z2, p2, s2, r2, _⟩ := celOds_ok p1 s1 r1 e2
  have lv : vs.length = 2 := by rw [r1.length, evs_len e1, hl]
  have lc : cs.length = 2 := by
    have := r2.length
    rw [List.length_map] at this
    omega
  match vs, lv with
  | [v, w], _ =>
    refine ⟨v, w, rfl, ?_⟩
    have := setAll_ok (is := [i, j]) s2 r2 (by rw [lc]; rfl) (fun σ' => E.nx σ' H1) fun σ' s3 w3 l3 _ => k σ' H1 Z2 s3 ⟨p2.fr, p2.dom, p2.z, fun a w => ?_⟩ fun hp => ?_
    · exact this
    · exact (w3 a w).elim (p2.w a) .inr
    · refine l3 0 ?_
      simpa [Sm.p0] using hp
theorem ss_par3 {i j l : Nat} {x y z : Str} {a b c : Expr} {px py pz pt : Pos} {kt k2 pt2} {is : Exs} (hc : X.calm = true) (hN : X.N.Nodup) (hi : X.N[i]? = some x) (hj : X.N[j]? = some y) (hl' : X.N[l]? = some z) (hij : i ≠ j) (hil : i ≠ l) (hjl : j ≠ l)
    (hx : X.env.scope.names.lookup x = some .local) (hy : X.env.scope.names.lookup y = some .local) (hz : X.env.scope.names.lookup z = some .local) (ha : SA X [a, b, c] (evs T is)) (hl : is.len = 3)
    (hw : swappedStores [.Tuple [.Name x px, .Name y py, .Name z pz] kt pt] (.Tuple [a, b, c] k2 pt2) X.env = pure (some [x, y, z]))
    (hs : swapsWithSole [.Tuple [.Name x px, .Name y py, .Name z pz] kt pt] (.Tuple [a, b, c] k2 pt2) pos.line X.env = pure false) :
    SS X T (.Assign [.Tuple [.Name x px, .Name y py, .Name z pz] kt pt] (.Tuple [a, b, c] k2 pt2) pos) (.par [i, j, l] is) := by
  obtain ⟨t, pt', qt⟩ := ha
  refine ⟨_, ps_par3 hc hN hi hj hl' hij hil hjl hx hy hz pt'.1 hw hs, fun n ρ σ H Z out ρ' E s e k => ?_⟩
  obtain ⟨⟨os, ρ1⟩, e1, e⟩ := bnd (show (evs T is ρ).bind _ = some _ from e)
  obtain ⟨⟨cs, ρ2⟩, e2, e⟩ := mpd e
  cases e
  refine qt ρ σ H Z os ρ1 _ s e1 fun vs H1 Z1 s1 p1 r1 => ?_
  obtain ⟨Z2, p2, s2, r2, _⟩ := celOds_ok p1 s1 r1 e2
  have lv : vs.length = 3 := by rw [r1.length, evs_len e1, hl]
  have lc : cs.length = 3 := by
    have := r2.length
    rw [List.length_map] at this
    omega
  match vs, lv with
  | [u, v, w], _ =>
    refine ⟨u, v, w, rfl, ?_⟩
    have := setAll_ok (is := [i, j, l]) s2 r2 (by rw [lc]; rfl) (fun σ' => E.nx σ' H1) fun σ' s3 w3 l3 _ => k σ' H1 Z2 s3 ⟨p2.fr, p2.dom, p2.z, fun a w => ?_⟩ fun hp => ?_
    · exact this
    · exact (w3 a w).elim (p2.w a) .inr
    · refine l3 0 ?_
      simpa [Sm.p0] using hp
/-- d[k] = v -/
def rSetK (K : PySem.W.Frag) : TSet := fun o i v H Q => ∃ (Z : Addr → Prop) (kvs : List (D × D)) (a : Addr) (d y : D), o = .ref a ∧ DicR K H Z kvs a ∧ kvs.length < 16777215 ∧ keyIn kvs d = true ∧ Rl K H Z d i ∧ Rl K H Z y v ∧
  ∀ rows' ep', RowsV K H Z (dPut kvs d y) rows' → (rows'.map (·.1)).Nodup → Q (upd H a (.ext (dφ a rows' ep')))
theorem set_dic (hu : X.A.units + 65 < cLine) : PSet X (rSetK X.K) := by
  rintro pins s σ H o i v ov iv u Q I ro ri rv ⟨Z, kvs, a, d, y, rfl, g, hl, hd, rb, ry, q⟩
  cases ro
  exact d_setItem2 hu I g hl hd rb ri ry rv fun rows' ep' s' I' r' n' => ⟨_, I', q rows' ep' r' n'⟩
theorem pset_or {t u : TSet} (h1 : PSet X t) (h2 : PSet X u) : PSet X (fun o i v H Q => t o i v H Q ∨ u o i v H Q) := by
  intro pins s σ H o i v ov iv u Q I ro ri rv h
  rcases h with h | h
  · exact h1 pins s σ H o i v ov iv u Q I ro ri rv h
  · exact h2 pins s σ H o i v ov iv u Q I ro ri rv h
theorem dPut_len : ∀ {kvs : List (D × D)} {d y : D}, (dPut kvs d y).length ≤ kvs.length + 1
  | [], d, y => Nat.le_refl _
  | p :: r, d, y => by
    unfold dPut
    split
    · simp
    · have := dPut_len (kvs := r) (d := d) (y := y)
      simp only [List.length_cons]
      omega
theorem putC_is {c : Cell} {y d : D} {c' : Cell} (h : putC c y d = some c') : (∃ xs z xs', c = .own xs ∧ y = .int z ∧ putL xs z d = some xs' ∧ c' = .own xs') ∨ ∃ kvs, c = .dic kvs ∧ keyIn kvs y = true ∧ kvs.length < 16777215 ∧ c' = .dic (dPut kvs y d) := by
  cases c with
  | emp => cases h
  | dat _ => cases h
  | own xs =>
    cases y <;> (try (cases (show none = some c' from h)))
    rename_i z
    obtain ⟨xs', e1, e2⟩ := mpd (show (putL xs z d).map Cell.own = some c' from h)
    exact .inl ⟨xs, z, xs', rfl, rfl, e1, e2.symm⟩
  | dic kvs =>
    have h' : (if (keyIn kvs y && decide (kvs.length < 16777215)) = true then some (Cell.dic (dPut kvs y d)) else none) = some c' := h
    by_cases hk : (keyIn kvs y && decide (kvs.length < 16777215)) = true
    · rw [if_pos hk] at h'
      cases h'
      rw [Bool.and_eq_true, decide_eq_true_eq] at hk
      exact .inr ⟨kvs, rfl, hk.1, hk.2, rfl⟩
    · rw [if_neg hk] at h'; cases h'
theorem ss_put (hu : X.A.units + 65 < cLine) {i : Nat} {x : Str} {kx : Expr} {ik ie : Ex} {p q : Pos} (hN : X.N[i]? = some x) (hv : Vis X.env.scope x) (hd : (x == ("__debug__" : Str)) = false) (hcd : (x == ("__classdict__" : Str)) = false) (hk : SO X kx (ev T ik)) (he : SO X e (ev T ie))
    (hs : swapsWithSole [.Subscript (.Name x p) kx q] e pos.line X.env = pure false) (hw : swappedStores [.Subscript (.Name x p) kx q] e X.env = pure none) (h1 : (assignEach [.Subscript (.Name x p) kx q] X.env).map (·.2) = [assign (.Subscript (.Name x p) kx q) X.env])
    (ha : ∀ v, assign (.Subscript (.Name x p) kx q) X.env v = (do
      let ov ← holding [v] (eval (.Name x p) X.env)
      let iv ← holding [v, ov] (eval kx X.env)
      standAt q
      holding [v, ov, iv] (setItem ov iv v)
      release [v, ov, iv] [])) :
    SS X T (.Assign [.Subscript (.Name x p) kx q] e pos) (.put i ik ie) := by
  obtain ⟨t, pt, qt⟩ := he
  obtain ⟨tk, pk, qk⟩ := hk
  refine ⟨_, ps_asg pt (pg_sub (pe_var hN hv hd hcd) pk (pset_or set_list (set_dic hu)) ha) hs hw h1, fun n ρ σ H Z out ρ' E s e k => ?_⟩
  obtain ⟨⟨o, ρ1⟩, e1, e⟩ := bnd (show (ev T ie ρ).bind _ = some _ from e)
  obtain ⟨_, e0, e⟩ := bnd e
  obtain ⟨⟨ok, ρ2⟩, e2, e⟩ := bnd e
  obtain ⟨⟨d, ρ3⟩, e3, e⟩ := bnd e
  obtain ⟨y, e4, e⟩ := bnd e
  obtain ⟨c', e5, e⟩ := mpd e
  cases e
  refine qt ρ σ H Z o ρ1 _ s e1 fun v H1 Z1 s1 p1 r1 n1 => ?_
  have e0' : isOwn (cellAt ρ1 i) = some () := e0
  obtain ⟨v0, hv0, _⟩ := s1.at_ i (fun q => by rw [q] at e0'; cases e0')
  refine ⟨v0, hv0, ?_⟩
  refine qk ρ1 σ H1 Z1 ok ρ2 _ s1 e2 fun w H2 Z2 s2 p2 r2 n2 => ?_
  obtain ⟨Z3, p3, s3, r3, z1, z2, z3⟩ := frz_ok (p1.trans p2) s2 (r1.stp s1 p2) n1 e3
  have r2' : OdV X.K H2 Z3 ρ3 σ ok w := r2.frz z1 z2 z3 fun a ⟨c, h1, h2, h3⟩ ⟨c', h4, h5, h6⟩ => by
    subst h1 h4
    obtain ⟨ob, eo⟩ := r1.1.dm h5 h6
    rw [n2 a h2 h3] at eo; cases eo
  rcases putC_is e5 with ⟨xs, z, xs', hc, rfl, e6, rfl⟩ | ⟨kvs, hc, hk, hl, rfl⟩
  · obtain ⟨j, e8, e9⟩ := mpd (show (ixN xs.length z).map _ = some xs' from e6)
    subst e9
    have hw' : w = .int z := VwV.int (r2'.vw s3 e4)
    subst hw'
    obtain ⟨v0', hv0', cv⟩ := s3.at_ i (by rw [hc]; intro q; cases q)
    rw [hv0] at hv0'
    cases hv0'
    rw [hc] at cv
    obtain ⟨a, vs, rfl, h2a, _, hl, rr⟩ := cv
    have lj := (ixN_seq e8).2.1
    refine .inl ⟨a, vs, z, j, rfl, rfl, h2a, by rw [rr.length]; exact e8, ?_⟩
    obtain ⟨p4, s4, _, _⟩ := wr_ok p3 s3 hc hv0 (Rls.set j rr r3) (by rw [List.length_set]; exact hl)
    exact k σ _ Z3 s4 p4 fun _ => rfl
  · have ry := VwV.rl (keyIn_ok hk) (r2'.vw s3 e4)
    obtain ⟨v0', hv0', cv⟩ := s3.at_ i (by rw [hc]; intro q; cases q)
    rw [hv0] at hv0'
    cases hv0'
    rw [hc] at cv
    obtain ⟨a, rfl, g⟩ := cv
    refine .inr ⟨Z3, kvs, a, y, d, rfl, g.1, hl, hk, ry, r3, fun rows' ep' hr hn => ?_⟩
    have hlen : (dPut kvs y d).length ≤ 16777215 := by
      have := dPut_len (kvs := kvs) (d := y) (y := d)
      omega
    obtain ⟨p4, s4, _, _⟩ := wr_okG (c' := .dic (dPut kvs y d)) (ob := .ext (dφ a rows' ep')) p3 s3 hc rfl rfl hv0 fun kp nz => ⟨a, rfl, ⟨rows', ep', upd_same, hlen, Paired.mapP hr fun p r ⟨q0, q1, q2, q3⟩ => ⟨q0, q1, Rl.keep kp _ _ q2, Rl.keep kp _ _ q3⟩, hn, homo_put g.1.homo hk⟩, nz⟩
    exact k σ _ Z3 s4 p4 fun _ => rfl
/-- x op= e, of ints -/
def rAug : Operator → TIp
  | .Add => ipI fun i j => i + j
  | .Sub => ipI fun i j => i - j
  | _ => fun _ _ _ _ => False
theorem ip_aug : ∀ op, PIp X op (rAug op)
  | .Add => ip_add
  | .Sub => ip_sub
  | .Mult | .FloorDiv | .Mod | .Pow | .MatMult | .Div | .LShift | .RShift | .BitOr | .BitXor | .BitAnd => fun _ _ _ _ _ _ _ _ _ _ _ _ h => h.elim
theorem ss_aug {i : Nat} {x : Str} {op : Operator} {ie : Ex} {p : Pos} (hN : X.N.Nodup) (hi : X.N[i]? = some x) (hx : Loc X.env.scope x) (hf : X.fn x = true ∨ X.env.scope.names.lookup x = some .local) (he : SO X e (ev T ie)) : SS X T (.AugAssign (.Name x p) op e pos) (.aug i op ie) := by
  obtain ⟨t, pt, qt⟩ := he
  refine ⟨_, ps_aug hN hi hx pt (ip_aug op) hf, fun n ρ σ H Z out ρ' E s e k => ?_⟩
  obtain ⟨z0, e0, e⟩ := bnd (show (intC (cellAt ρ i)).bind _ = some _ from e)
  obtain ⟨⟨o, ρ1⟩, e1, e⟩ := bnd e
  obtain ⟨y, e2, e⟩ := bnd e
  obtain ⟨z, e3, e⟩ := mpd e
  cases e
  have hc : cellAt ρ i = .dat (.int z0) := by
    cases q : cellAt ρ i with
    | dat d =>
      rw [q] at e0
      cases d <;> first | cases e0; rfl | cases e0
    | _ => rw [q] at e0; cases e0
  obtain ⟨v, hv, cv⟩ := s.at_ i (by rw [hc]; intro q; cases q)
  rw [hc] at cv
  cases (show v = .int z0 from cv)
  refine ⟨.int z0, hv, qt ρ σ H Z o ρ1 _ s e1 fun w H1 Z1 s1 p1 r1 n1 => ?_⟩
  have fin : ∀ z', z' = z → E.nx (σ.set i (some (.int z'))) H1 := fun z' ez => by
    subst ez
    obtain ⟨s3, w3⟩ := set_ok s1 (i := i) (c := .dat (.int z')) (v := .int z') rfl fun _ h => nomatch h
    refine k _ H1 Z1 s3 ⟨p1.fr, p1.dom, p1.z, fun a w => (w3 a w).elim (p1.w a) fun q => nomatch q.1⟩ fun hp => ?_
    have : i ≠ 0 := by simpa [Sm.p0] using hp
    rw [List.getElem?_set_ne this]
  have rw_ := r1.vw s1 e2
  cases op <;> cases y <;> (try (cases (show none = some z from e3)))
  · cases (VwV.int rw_)
    cases (show some _ = some z from e3)
    exact ⟨_, _, rfl, rfl, fin _ rfl⟩
  · cases (VwV.int rw_)
    cases (show some _ = some z from e3)
    exact ⟨_, _, rfl, rfl, fin _ rfl⟩
theorem ss_exp {ie : Ex} (he : SO X e (ev T ie)) (hs : swapsWith e none pos.line X.env = pure false) : SS X T (.Expr e pos) (.exp ie) := by
  obtain ⟨t, pt, qt⟩ := he
  refine ⟨_, ps_expr pt hs, fun n ρ σ H Z out ρ' E s e k => ?_⟩
  obtain ⟨⟨o, ρ1⟩, e1, e⟩ := mpd (show (ev T ie ρ).map _ = some _ from e)
  cases e
  exact qt ρ σ H Z o ρ1 _ s e1 fun v H1 Z1 s1 p1 _ _ => k σ H1 Z1 s1 p1 fun _ => rfl
theorem ss_ret {ie : Ex} (he : SO X e (ev T ie)) : SS X T (.Return (some e) pos) (.ret ie) := by
  obtain ⟨t, pt, qt⟩ := he
  refine ⟨_, ps_ret pt, fun n ρ σ H Z out ρ' E s e k => ?_⟩
  obtain ⟨⟨o, ρ1⟩, e1, e⟩ := mpd (show (ev T ie ρ).map _ = some _ from e)
  cases e
  exact qt ρ σ H Z o ρ1 _ s e1 fun v H1 Z1 s1 p1 r1 n1 => k σ v H1 Z1 s1 p1 (fun _ => rfl) r1 n1
theorem ss_retN : SS X T (.Return none pos) .retN := by
  refine ⟨_, ps_retN, fun n ρ σ H Z out ρ' E s e k => ?_⟩
  cases (show some (Out.rt (.t (.dat .none)), ρ) = some (out, ρ') from e)
  exact k σ .non H Z s Stp.refl (fun _ => rfl) ⟨rfl, fun _ h => nomatch h⟩ fun _ h => nomatch h
theorem ss_pass : SS X T (.Pass pos) .pas := ⟨_, ps_pass, fun n ρ σ H Z out ρ' E s e k => by
  cases (show some (Out.nx, ρ) = some (out, ρ') from e)
  exact k σ H Z s Stp.refl fun _ => rfl⟩
theorem ss_break : SS X T (.Break pos) .brk := ⟨_, ps_break, fun n ρ σ H Z out ρ' E s e k => by
  cases (show some (Out.bk, ρ) = some (out, ρ') from e)
  exact k σ H Z s Stp.refl fun _ => rfl⟩
theorem ss_cont : SS X T (.Continue pos) .cnt := ⟨_, ps_continue, fun n ρ σ H Z out ρ' E s e k => by
  cases (show some (Out.ct, ρ) = some (out, ρ') from e)
  exact k σ H Z s Stp.refl fun _ => rfl⟩
theorem ss_doc {x j p1} : SS X T (.Expr (.Constant (.str x) j p1) pos) .pas := ⟨_, ps_doc, fun n ρ σ H Z out ρ' E s e k => by
  cases (show some (Out.nx, ρ) = some (out, ρ') from e)
  exact k σ H Z s Stp.refl fun _ => rfl⟩
theorem ss_never {st : Stmt} : SS X T st .nev := ⟨_, ps_never, fun n ρ σ H Z out ρ' E s e k => by cases e⟩
theorem sss_nil : SSs X T [] .nil := ⟨_, pss_nil, fun n ρ σ H Z out ρ' E s e k => by
  cases (show some (Out.nx, ρ) = some (out, ρ') from e)
  exact k σ H Z s Stp.refl fun _ => rfl⟩
theorem Post.after {K : PySem.W.Frag} {pin pin' q : Bool} {ρ ρ1 ρ' : Rho} {σ σ1 : L2.St} {H H1 : Hp} {Z Z1 : Addr → Prop} {E : Ends} {out : Out} (p : Stp (Ow ρ σ) (Ow ρ1 σ1) H Z H1 Z1) (e0 : q = true → σ1[0]? = σ[0]?) (hq : pin = true → q = true ∧ pin' = true) (k : Post K pin ρ σ H Z E out ρ') : Post K pin' ρ1 σ1 H1 Z1 E out ρ' := by
  cases out with
  | nx => exact fun σ' H' Z' s' p' h => k σ' H' Z' s' (p.trans p') fun w => (h (hq w).2).trans (e0 (hq w).1)
  | bk => exact fun σ' H' Z' s' p' h => k σ' H' Z' s' (p.trans p') fun w => (h (hq w).2).trans (e0 (hq w).1)
  | ct => exact fun σ' H' Z' s' p' h => k σ' H' Z' s' (p.trans p') fun w => (h (hq w).2).trans (e0 (hq w).1)
  | rt o => exact fun σ' v H' Z' s' p' h r n => k σ' v H' Z' s' (p.trans p') (fun w => (h (hq w).2).trans (e0 (hq w).1)) r (n.back fun a h => p.none_ h)
theorem sss_cons {st : Stmt} {rest : List Stmt} {i : Sm} {is : Sms} (h1 : SS X T st i) (h2 : SSs X T rest is) : SSs X T (st :: rest) (.cons i is) := by
  obtain ⟨t, p1, q1⟩ := h1
  obtain ⟨u, p2, q2⟩ := h2
  refine ⟨_, pss_cons p1 p2, fun n ρ σ H Z out ρ' E s e k => ?_⟩
  obtain ⟨⟨o, ρ1⟩, e1, e⟩ := bnd (show (ex T n i ρ).bind _ = some _ from e)
  have hp : ((Sms.cons i is).p0 = true) → i.p0 = true ∧ is.p0 = true := fun h => by simpa [Sms.p0] using h
  cases o with
  | nx =>
    refine q1 n ρ σ H Z .nx ρ1 { E with nx := u E } s e1 fun σ1 H1 Z1 s1 pp h0 => ?_
    exact q2 n ρ1 σ1 H1 Z1 out ρ' E s1 e (k.after pp h0 hp)
  | bk =>
    cases (show some (Out.bk, ρ1) = some (out, ρ') from e)
    exact q1 n ρ σ H Z .bk _ { E with nx := u E } s e1 fun σ1 H1 Z1 s1 pp h0 => k σ1 H1 Z1 s1 pp fun w => h0 (hp w).1
  | ct =>
    cases (show some (Out.ct, ρ1) = some (out, ρ') from e)
    exact q1 n ρ σ H Z .ct _ { E with nx := u E } s e1 fun σ1 H1 Z1 s1 pp h0 => k σ1 H1 Z1 s1 pp fun w => h0 (hp w).1
  | rt o =>
    cases (show some (Out.rt o, ρ1) = some (out, ρ') from e)
    exact q1 n ρ σ H Z (.rt o) _ { E with nx := u E } s e1 fun σ1 v H1 Z1 s1 pp h0 r nv => k σ1 v H1 Z1 s1 pp (fun w => h0 (hp w).1) r nv
theorem ss_if {c : Expr} {a b : List Stmt} {ic : Ex} {ia ib : Sms} (hc : ST X c (ev T ic)) (ha : SSs X T a ia) (hb : SSs X T b ib) : SS X T (.If c a b pos) (.ite ic ia ib) := by
  obtain ⟨tc, pc, qc⟩ := hc
  obtain ⟨ta, pa, qa⟩ := ha
  obtain ⟨tb, pb, qb⟩ := hb
  refine ⟨_, ps_if pc pa pb, fun n ρ σ H Z out ρ' E s e k => ?_⟩
  obtain ⟨⟨o, ρ1⟩, e1, e⟩ := bnd (show (ev T ic ρ).bind _ = some _ from e)
  obtain ⟨kk, e2, e⟩ := bnd e
  have hp : ((Sm.ite ic ia ib).p0 = true) → ia.p0 = true ∧ ib.p0 = true := fun h => by simpa [Sm.p0] using h
  refine qc ρ σ H Z o ρ1 kk _ s e1 e2 fun H1 Z1 s1 p1 => ?_
  cases kk with
  | true =>
    rw [if_pos rfl]
    exact qa n ρ1 σ H1 Z1 out ρ' E s1 e (k.after (q := true) p1 (fun _ => rfl) fun w => ⟨rfl, (hp w).1⟩)
  | false =>
    rw [if_neg Bool.false_ne_true]
    exact qb n ρ1 σ H1 Z1 out ρ' E s1 e (k.after (q := true) p1 (fun _ => rfl) fun w => ⟨rfl, (hp w).2⟩)
theorem ss_while (hpa : PassesOwn (model X.prog X.w) X.A X.env X.xe) {c : Expr} {b : List Stmt} {ic : Ex} {ib : Sms} (hc : ST X c (ev T ic)) (hb : SSs X T b ib) : SS X T (.While c b [] pos) (.whl ic ib) := by
  obtain ⟨tc, pc, qc⟩ := hc
  obtain ⟨tb, pb, qb⟩ := hb
  refine ⟨_, ps_while hpa pc pb, fun n ρ σ H Z out ρ' E s e k => ?_⟩
  have hp : ((Sm.whl ic ib).p0 = true) → ib.p0 = true := fun h => by simpa [Sm.p0] using h
  have hpe : (Sm.whl ic ib).p0 = ib.p0 := rfl
  rw [hpe] at k
  refine ⟨fun m σ1 H1 => ∃ ρ1 Z1, Sta X.K H1 Z1 ρ1 σ1 ∧ Stp (Ow ρ σ) (Ow ρ1 σ1) H Z H1 Z1 ∧ (ib.p0 = true → σ1[0]? = σ[0]?) ∧ whlL (fun ρ => (ev T ic ρ).bind fun r => (testOd r.2 r.1).map fun k => (k, r.2)) (exs T n ib) m ρ1 = some (out, ρ'), ⟨n, ρ, Z, s, Stp.refl, fun _ => rfl, e⟩, ?_⟩
  rintro m σ1 H1 ⟨ρ1, Z1, s1, p1, h1, e⟩
  cases m with
  | zero => cases e
  | succ m =>
    obtain ⟨⟨kk, ρ2⟩, e1, e⟩ := bnd (show ((ev T ic ρ1).bind fun r => (testOd r.2 r.1).map fun k => (k, r.2)).bind _ = some _ from e)
    obtain ⟨⟨o, ρ3⟩, e2, e1⟩ := bnd e1
    obtain ⟨k', e3, e4⟩ := mpd e1
    cases e4
    refine qc ρ1 σ1 H1 Z1 o _ kk _ s1 e2 e3 fun H2 Z2 s2 p2 => ?_
    cases kk with
    | false =>
      rw [if_neg Bool.false_ne_true]
      cases (show some (Out.nx, ρ3) = some (out, ρ') from e)
      exact k σ1 H2 Z2 s2 (p1.trans p2) h1
    | true =>
      rw [if_pos rfl]
      obtain ⟨⟨o4, ρ4⟩, e5, e⟩ := bnd (show (exs T n ib ρ3).bind _ = some _ from e)
      refine ⟨fun σ' H' => ∃ ρ1 Z1, Sta X.K H' Z1 ρ1 σ' ∧ Stp (Ow ρ σ) (Ow ρ1 σ') H Z H' Z1 ∧ (ib.p0 = true → σ'[0]? = σ[0]?) ∧ whlL (fun ρ => (ev T ic ρ).bind fun r => (testOd r.2 r.1).map fun k => (k, r.2)) (exs T n ib) m ρ1 = some (out, ρ'), fun σ' H' h => ⟨m, Nat.lt_succ_self m, h⟩, ?_⟩
      refine qb n ρ3 σ1 H2 Z2 o4 ρ4 _ s2 e5 ?_
      cases o4 with
      | nx => exact fun σ' H' Z' s' p' h' => ⟨ρ4, Z', s', (p1.trans p2).trans p', fun w => (h' w).trans (h1 w), e⟩
      | ct => exact fun σ' H' Z' s' p' h' => ⟨ρ4, Z', s', (p1.trans p2).trans p', fun w => (h' w).trans (h1 w), e⟩
      | bk =>
        cases (show some (Out.nx, ρ4) = some (out, ρ') from e)
        exact fun σ' H' Z' s' p' h' => k σ' H' Z' s' ((p1.trans p2).trans p') fun w => (h' w).trans (h1 w)
      | rt o =>
        cases (show some (Out.rt o, ρ4) = some (out, ρ') from e)
        exact fun σ' v H' Z' s' p' h' r nv => k σ' v H' Z' s' ((p1.trans p2).trans p') (fun w => (h' w).trans (h1 w)) r (nv.back fun a h => (p1.trans p2).none_ h)
theorem ss_for (hpa : PassesOwn (model X.prog X.w) X.A X.env X.xe) (hc : X.calm = true) {tg iter : Expr} {b : List Stmt} {itg : Tg} {iit : Itr} {ib : Sms} (hi : SI X tg iter itg (evi T iit)) (hg : SG X tg itg) (hb : SSs X T b ib) (hs : ∀ x, foldedSetIterable iter X.env x = pure x) : SS X T (.For tg iter b [] pos) (.for_ itg iit ib) := by
  obtain ⟨wi, pi, qi⟩ := hi
  obtain ⟨g, pg, qg⟩ := hg
  obtain ⟨tb, pb, qb⟩ := hb
  refine ⟨_, ps_for hpa hc pi pg pb hs, fun n ρ σ H Z out ρ' E s e k => ?_⟩
  obtain ⟨⟨ds, ρ1⟩, e1, e⟩ := bnd (show (evi T iit ρ).bind _ = some _ from e)
  have hp : ((Sm.for_ itg iit ib).p0 = true) → 0 ∉ itg.slots ∧ ib.p0 = true := fun h => by simpa [Sm.p0] using h
  refine qi ρ σ H Z ds ρ1 _ s e1 fun J H1 Z1 s1 p1 jo hl => ?_
  refine ⟨fun i m σ2 H2 => m = ds.length - i ∧ i ≤ ds.length ∧ ∃ ρ2 Z2, Sta X.K H2 Z2 ρ2 σ2 ∧ Stp (Ow ρ1 σ) (Ow ρ2 σ2) H1 Z1 H2 Z2 ∧ ((Sm.for_ itg iit ib).p0 = true → σ2[0]? = σ[0]?) ∧ forL itg (exs T n ib) (ds.drop i) ρ2 = some (out, ρ'), ⟨ds.length, by simp, Nat.zero_le _, ρ1, Z1, s1, Stp.refl, fun _ => rfl, e⟩, ?_⟩
  rintro i m σ2 H2 ⟨rfl, hi, ρ2, Z2, s2, p2, h2, e⟩
  obtain ⟨j1, j2, j3⟩ := jo i H2 Z2 (s1.keep p2)
  by_cases hlt : i < ds.length
  · refine .inr ⟨j1 hlt, fun σ3 H3 => ∃ ρ3 Z3, Sta X.K H3 Z3 ρ3 σ3 ∧ Stp (Ow ρ1 σ) (Ow ρ3 σ3) H1 Z1 H3 Z3 ∧ ((Sm.for_ itg iit ib).p0 = true → σ3[0]? = σ[0]?) ∧ forL itg (exs T n ib) (ds.drop (i + 1)) ρ3 = some (out, ρ'), fun σ' H' h => ⟨ds.length - (i + 1), by omega, rfl, hlt, h⟩, fun x H3 hy => ?_⟩
    have iv := j3 x H3 _ (List.getElem?_eq_getElem hlt) hy
    rw [List.drop_eq_getElem_cons hlt] at e
    obtain ⟨ρ3, e2, e⟩ := bnd (show (bindTg itg ds[i] ρ2).bind _ = some _ from e)
    obtain ⟨⟨o4, ρ4⟩, e3, e⟩ := bnd e
    refine qg ρ2 σ2 H2 Z2 H3 ds[i] x ρ3 _ s2 iv e2 fun σ3 Z3 s3 p3 l3 _ => ?_
    have h3 : (Sm.for_ itg iit ib).p0 = true → σ3[0]? = σ[0]? := fun w => (l3 0 (hp w).1).trans (h2 w)
    refine qb n ρ3 σ3 H3 Z3 o4 ρ4 _ s3 e3 ?_
    have p13 := p2.trans p3
    cases o4 with
    | nx => exact fun σ' H' Z' s' p' h' => ⟨ρ4, Z', s', p13.trans p', fun w => (h' (hp w).2).trans (h3 w), e⟩
    | ct => exact fun σ' H' Z' s' p' h' => ⟨ρ4, Z', s', p13.trans p', fun w => (h' (hp w).2).trans (h3 w), e⟩
    | bk =>
      cases (show some (Out.nx, ρ4) = some (out, ρ') from e)
      exact fun σ' H' Z' s' p' h' => k σ' H' Z' s' (p1.trans (p13.trans p')) fun w => (h' (hp w).2).trans (h3 w)
    | rt o =>
      cases (show some (Out.rt o, ρ4) = some (out, ρ') from e)
      exact fun σ' v H' Z' s' p' h' r nv => k σ' v H' Z' s' (p1.trans (p13.trans p')) (fun w => (h' (hp w).2).trans (h3 w)) r (nv.back fun a h => (p1.trans p13).none_ h)
  · rw [List.drop_eq_nil_of_le (by omega)] at e
    cases (show some (Out.nx, ρ2) = some (out, ρ') from e)
    exact .inl ⟨j2 (by omega), k σ2 H2 Z2 s2 (p1.trans p2) h2⟩
end
end Lt
namespace Lt
open PySem L2 PySem.Spec PyProof.Rows
section
variable {prog : Program} {w : World} {A : Around} {E : Value → Shared → Prop} {s : Shared}
theorem sliceApplied_rev {sl : Addr} {vl vu vs : Value} {n : Nat} {Q : Int × Int × Nat → Shared → Prop} (hs : s.heap.IsSliceOf sl vl vu vs) (pl : IsPart vl none) (pu : IsPart vu none) (ps : IsPart vs (some (-1)))
    (h : Q ((n : Int) - 1, -1, n) s) : wpAny (model prog w) A (Builtin.Slice.sliceApplied (.ref sl) (pure (n : Int))) Q E s := by
  obtain ⟨os, hos, hcs, hds⟩ := id hs
  unfold Builtin.Slice.sliceApplied Builtin.Slice.sliceFields
  refine wpAny_bind (wpAny_bind (wpAny_field hos hds (x := vl) rfl (wpAny_bind (wpAny_field hos hds (x := vu) rfl (wpAny_bind (wpAny_field hos hds (x := vs) rfl (wpAny_pure ?_)))))))
  refine wpAny_bind (HT.slicePart_ ps ?_)
  show wpAny _ _ (if ((-1 : Int) == 0) = true then _ else _) _ _ s
  rw [if_neg (by decide)]
  refine wpAny_bind (HT.slicePart_ pl (wpAny_bind (HT.slicePart_ pu (wpAny_bind (wpAny_pure ?_)))))
  show wpAny _ _ (match Builtin.Slice.sliceAdjust none none (-1) (n : Int) with | (lo, hi) => pure (lo, (-1 : Int), Builtin.Slice.slicePlaces lo hi (-1))) _ _ s
  have e1 : Builtin.Slice.sliceAdjust none none (-1) (n : Int) = ((n : Int) - 1, -1) := by
    unfold Builtin.Slice.sliceAdjust
    first | rfl | simp | (simp; omega)
  have e2 : Builtin.Slice.slicePlaces ((n : Int) - 1) (-1) (-1) = n := by
    unfold Builtin.Slice.slicePlaces
    first | (simp; done) | (simp; omega) | (split <;> simp <;> omega)
  rw [e1]
  show wpAny _ _ (pure ((n : Int) - 1, (-1 : Int), Builtin.Slice.slicePlaces ((n : Int) - 1) (-1) (-1))) _ _ s
  rw [e2]
  exact wpAny_pure h
theorem pick_rev (xs : Array Value) : ((List.range xs.size).filterMap fun (m : Nat) => xs[(((xs.size : Nat) : Int) - 1 + (m : Int) * -1).toNat]?).toArray = xs.toList.reverse.toArray := by
  have h := PySem.W.krv_all xs
  congr 1
  rw [← h, ← List.filterMap_reverse, ← PySem.W.krv_range, List.filterMap_map]
  have cg : ∀ (l : List Nat) (f g : Nat → Option Value), (∀ m ∈ l, f m = g m) → l.filterMap f = l.filterMap g := by
    intro l f g h
    induction l with
    | nil => rfl
    | cons a l ih => rw [List.filterMap_cons, List.filterMap_cons, h a (by simp), ih fun m hm => h m (by simp [hm])]
  refine cg _ _ _ fun m hm => ?_
  have := List.mem_range.mp hm
  show xs[(((xs.size : Nat) : Int) - 1 + (m : Int) * -1).toNat]? = xs[xs.size - 1 - m]?
  have e : (((xs.size : Nat) : Int) - 1 + (m : Int) * -1).toNat = xs.size - 1 - m := by omega
  rw [e]
theorem getItem_tuple_rev {t sl : Addr} {items : Array Value} {vl vu vs : Value} {Q : Value → Shared → Prop} (ht : IsTup s.heap t items) (hs : s.heap.IsSliceOf sl vl vu vs) (pl : IsPart vl none) (pu : IsPart vu none) (ps : IsPart vs (some (-1)))
    (h : Q (.ref s.heap.objs.size) { s with heap := s.heap.push { cls := .type "tuple", data := .seq items.toList.reverse.toArray } })
    (hsz : items.size ≤ sizeLine) : wpAny (model prog w) A (getItem (.ref t) (.ref sl)) Q E s := by
  have htake : sizeOk (.seq items.toList.reverse.toArray) := by
    show items.toList.reverse.toArray.size ≤ sizeLine
    rw [List.size_toArray, List.length_reverse, Array.length_toList]
    exact hsz
  obtain ⟨os, hos, hcs, hds⟩ := id hs
  have hTs : s.TypeIs (.ref sl) "slice" := ⟨os, hos, hcs⟩
  unfold getItem
  try with_reducible refine wpAny_holding ?_
  first | refine wpAny_bind (wpAny_pure ?_) | skip
  refine wpAny_bind (wpAny_sequenceKey ht.typeIs (by decide) ?_)
  refine wpAny_bind (wpAny_callSpecial?_slot (name := Str.ofString "__getitem__") ht.typeIs PyProof.Rows.slot_tuple_getitem
    (wpAny_call_entry PyProof.Rows.slot_tuple_getitem ht.typeIs entry_tuple_getitem ?_ (args_tuple_getitem _ _)))
  show wpAny _ _ (Builtin.Tuple.tupleItemsOf (.ref t) >>= _) _ _ s
  refine wpAny_bind (PyProof.Rows.tupleItemsOf_ ht ?_)
  refine wpAny_bind (wpAny_typeOf hTs ?_)
  rw [if_pos (by decide)]
  refine wpAny_bind (sliceApplied_rev hs pl pu ps ?_)
  have hno : ¬ (((((items.size : Nat) : Int) - 1) == 0 && (-1 : Int) == 1 && items.size == items.size) = true) := by
    intro q
    rw [Bool.and_eq_true, Bool.and_eq_true] at q
    exact absurd q.1.2 (by decide)
  show wpAny _ _ (if ((((items.size : Nat) : Int) - 1) == 0 && (-1 : Int) == 1 && items.size == items.size) = true then _ else _) _ _ s
  rw [if_neg hno, pick_rev]
  first
    | exact wpAny_bind (m := Builtin.Tuple.tupleExact _) (wpAny_newObj_type (wpAny_pure ⟨_, rfl, wpAny_pure h⟩) htake)
    | exact wpAny_bind (m := Builtin.Tuple.tupleExact _) (wpAny_newObj_type (wpAny_bind (wpAny_pure (wpAny_pure ⟨_, rfl, wpAny_pure h⟩))) htake)
    | exact wpAny_bind (wpAny_bind (m := Builtin.Tuple.tupleExact _) (wpAny_newObj_type (wpAny_pure (wpAny_pure ⟨_, rfl, wpAny_pure h⟩)) htake))
    | exact wpAny_bind (wpAny_bind (m := Builtin.Tuple.tupleExact _) (wpAny_newObj_type (wpAny_pure ⟨_, rfl, wpAny_pure h⟩) htake))
end
section
variable {X : Cx} {T : Tab} {pos : Pos}
/-- x[::-1], a list or a tuple -/
def tRevA (K : PySem.W.Frag) (te : TE) : TE := fun σ H Q => te σ H fun x H1 => ∃ a xs, x = .ref a ∧ ((SqL K H1 a xs ∧ ∀ p, H1 p = none → Q (.ref p) (upd H1 p (.lst xs.reverse))) ∨ (SqT K H1 a xs ∧ NewT H1 Q xs.reverse))
theorem pe_revA {e : Expr} {te : TE} {k : Nat} {p1 p2 p3 : Pos} (he : PE X e te) : PE X (.Subscript e (.Slice none none (some (.UnaryOp .USub (.Constant (.int 1) k p1) p2)) p3) pos) (tRevA X.K te) := by
  refine ⟨fun pins s σ H Q I h => ?_⟩
  refine Subscript_ (thn (he.run pins s σ H _ I h) fun v s1 ⟨x, H1, I1, r1, q1⟩ => ?_)
  obtain ⟨a, xs, ex, q⟩ := q1
  subst ex
  cases r1
  have hst : PO X (some (.UnaryOp .USub (.Constant (.int 1) k p1) p2)) (tPart (tUn (rU fun i => .int (-i)) (tC (.int 1)))) := po_some (pe_un un_neg pe_int)
  refine wpAny_Slice (thn (po_none.run pins s1 σ H1 (fun o H2 => o = none ∧ H2 = H1) I1 ⟨rfl, rfl⟩) fun vl s2 ⟨l, H2, I2, pl, el, e2⟩ => ?_)
  subst el e2
  refine thn (po_none.run pins s2 σ H2 (fun o H3 => o = none ∧ H3 = H2) I2 ⟨rfl, rfl⟩) fun vu s3 ⟨u, H3, I3, pu, eu, e3⟩ => ?_
  subst eu e3
  refine thn (hst.run pins s3 σ H3 (fun o H4 => o = some (-1) ∧ H4 = H3) I3 ⟨1, rfl, -1, rfl, rfl, rfl⟩) fun vs s4 ⟨o, H4, I4, ps, eo, e4⟩ => ?_
  subst eo e4
  have I5 : Inv X pins σ H4 { s4 with heap := s4.heap.push { cls := .type "slice", data := .fields #[vl, vu, vs] } } := I4.kept (t' := s4.toks) fun b ob q => Heap.get?_push_of_some _ q
  show wpAny (model X.prog X.w) X.A (subscriptTail e (.Slice none none (some (.UnaryOp .USub (.Constant (.int 1) k p1) p2)) p3) (.ref a) (.ref s4.heap.objs.size)) (EP X pins σ Q) X.xe { s4 with heap := s4.heap.push { cls := .type "slice", data := .fields #[vl, vu, vs] } }
  rcases q with ⟨hx, q⟩ | ⟨hx, q⟩
  · obtain ⟨its, r, ht, hz⟩ := I5.list hx
    have hlen := r.length
    refine tail_any (ops := [.ref a, .ref s4.heap.objs.size]) ht.isList.typeIs (PySem.slot_list_getitem.lookup) ?_ (by with_unfolding_all rfl)
    refine wpAny_getItem_list_slice ht.isList (Heap.IsSliceOf.new _ vl vu vs) pl pu ps (by decide) ?_ (by rw [List.size_toArray]; omega)
    rw [PySem.W.krv_pick]
    refine ⟨.ref _, _, I5.laid (t' := s4.toks) (o := .lst xs.reverse) (fun b ob q => Heap.get?_push_of_some _ q) (Nat.le_refl _) ?_, rfl, q _ (I5.hok.fresh (Nat.le_refl _))⟩
    exact ⟨by rw [List.length_reverse]; exact hz, _, 0, r.reverse, Heap.get?_push_size _ rfl⟩
  · obtain ⟨its, r, ht, hz⟩ := I5.tuple hx
    have hlen := r.length
    refine tail_any (ops := [.ref a, .ref s4.heap.objs.size]) ht.typeIs (PyProof.Rows.slot_tuple_getitem.lookup) ?_ (by with_unfolding_all rfl)
    refine getItem_tuple_rev ht (Heap.IsSliceOf.new _ vl vu vs) pl pu ps ?_ (by rw [List.size_toArray]; omega)
    have := q.use I5 r.reverse (by rw [List.length_reverse]; exact hz) s4.toks
    exact this
theorem so_rev {a : Expr} {ia : Ex} {k : Nat} {p1 p2 p3 : Pos} (ha : SO X a (ev T ia)) : SO X (.Subscript a (.Slice none none (some (.UnaryOp .USub (.Constant (.int 1) k p1) p2)) p3) pos) (ev T (.rev ia)) := by
  obtain ⟨ta, pa, qa⟩ := ha
  refine ⟨_, pe_revA pa, fun ρ σ H Z o ρ' Q s e k => ?_⟩
  obtain ⟨⟨x, ρ1⟩, e1, e⟩ := bnd (show (ev T ia ρ).bind _ = some _ from e)
  obtain ⟨d, e2, e⟩ := bnd e
  obtain ⟨c, e3, e⟩ := mpd e
  cases e
  refine qa ρ σ H Z x ρ1 _ s e1 fun v H1 Z1 s1 p1 r1 _ => ?_
  have rx := r1.vw s1 e2
  cases d <;> (try (cases (show none = some c from e3)))
  · rename_i xs
    cases (show some _ = some c from e3)
    obtain ⟨p, vs, rfl, hp, hlen, rr⟩ := rx.lst
    exact ⟨p, vs, rfl, .inl ⟨hp, (Fin_.of k).lst p1 s1 rr.reverse (by rw [List.length_reverse]; exact hlen)⟩⟩
  · rename_i xs
    cases (show some _ = some c from e3)
    obtain ⟨p, vs, rfl, hp, hlen, rr⟩ := rx.tup
    exact ⟨p, vs, rfl, .inr ⟨hp, (Fin_.of k).tup p1 s1 rr.reverse (by rw [List.length_reverse]; exact hlen)⟩⟩
def tDNewL : TE := fun _ H Q => ∀ p, H p = none → Q (.ref p) (upd H p (.ext (dφ p [] 0)))
theorem pe_dnewL : PE X (.Dict [] [] pos) tDNewL := ⟨fun pins s σ H Q I h =>
  wpAny_Dict_empty ⟨.ref s.heap.objs.size, _, I.laid (a := s.heap.objs.size) (o := .ext (dφ s.heap.objs.size [] 0)) (t' := s.toks) (fun _ _ q => Heap.get?_push_of_some _ q) (Nat.le_refl _) (ext_ok (dφ_new I.big)), rfl, h _ (I.hok.fresh (Nat.le_refl _))⟩⟩
theorem so_dnew : SO X (.Dict [] [] pos) (ev T .dnew) := by
  refine ⟨tDNewL, pe_dnewL, fun ρ σ H Z o ρ' Q s e k p ha => ?_⟩
  cases (show some (Od.t (.dic []), ρ) = some (o, ρ') from e)
  obtain ⟨p1, s1, kp, nw, nz, n0⟩ := alloc Stp.refl s ha (.ext (dφ p [] 0)) False
  exact k _ _ _ s1 p1 ⟨⟨p, rfl, ⟨[], 0, upd_same, Nat.zero_le _, .nil, List.nodup_nil, true, fun _ h => by cases h⟩, fun z => z.elim nz fun q => q.1⟩, fun b _ e => by cases e; exact nw⟩ fun b _ e => by cases e; exact n0
/-- {k: d} -/
def tDsp (K : PySem.W.Frag) (ta tb : TE) : TE := fun σ H Q => ∀ p, H p = none → ta σ (upd H p (.ext (dφ p [] 0))) fun v H1 => tb σ H1 fun w H2 => ∃ (Z : Addr → Prop) (d y : D), H2 p = some (.ext (dφ p [] 0)) ∧ ¬ Z p ∧ keyIn [] d = true ∧ Rl K H2 Z d v ∧ Rl K H2 Z y w ∧
  ∀ rows ep, RowsV K H2 Z [(d, y)] rows → (rows.map (·.1)).Nodup → Q (.ref p) (upd H2 p (.ext (dφ p rows ep)))
theorem pe_dsp {a b : Expr} {ta tb : TE} (hu : X.A.units + 65 < cLine) (ha : PE X a ta) (hb : PE X b tb) : PE X (.Dict [some a] [b] pos) (tDsp X.K ta tb) := ⟨fun pins s σ H Q I h => by
  have hsh : (evalEachOpt [some a] X.env).zip ((evalEach [b] X.env).map fun v => do let x ← v; standAt pos; pure x) = [(eval a X.env, (do let x ← eval b X.env; standAt pos; pure x : Sem Value))].map fun p => (some p.1, p.2) := rfl
  rw [PySem.arm_eval_Dict, hsh, dictDisplay_pairs _ (by simp) (by simp)]
  refine wpAny_bind (wpAny_standAt (wpAny_bind ?_))
  unfold subDict
  refine wpAny_bind (wpAny_alloc ?_)
  refine wpAny_bind (wpAny_holding ?_)
  rw [if_pos (by simp)]
  have hp : H s.heap.objs.size = none := I.hok.fresh (Nat.le_refl _)
  have I1 := I.laid (a := s.heap.objs.size) (o := .ext (dφ s.heap.objs.size [] 0)) (t' := s.toks) (fun _ _ q => Heap.get?_push_of_some _ q) (Nat.le_refl _) (ext_ok (dφ_new I.big))
  refine wpAny_bind ?_
  unfold evalPairs
  refine wpAny_bind (thn (ha.run pins _ σ _ _ I1 (h _ hp)) ?_)
  rintro kv s1 ⟨v, H1, I2, rv, h1⟩
  refine wpAny_bind (wpAny_holding (wpAny_bind (thn (hb.run pins _ σ _ _ I2 h1) ?_)))
  rintro vv s2 ⟨w, H2, I3, rw_, Z, d, y, h2, nz, hk, rd, ry, q⟩
  refine wpAny_bind (wpAny_standAt (wpAny_pure ?_))
  refine wpAny_bind (wpAny_holding ?_)
  unfold evalPairs
  refine wpAny_pure (wpAny_pure ?_)
  refine wpAny_holding ?_
  rw [List.forIn_cons]
  refine wpAny_bind (wpAny_bind (wpAny_bind ?_))
  refine d_dictSet hu I3 (kvs := []) ⟨[], 0, h2, Nat.zero_le _, .nil, List.nodup_nil, true, fun _ h => by cases h⟩ (by decide) hk rd rv ry rw_ fun rows ep s3 I4 g1 g2 => ?_
  refine wpAny_pure ?_
  refine wpAny_pure (wpAny_pure (wpAny_pure (wpAny_pure ?_)))
  exact ⟨.ref _, _, I4, rfl, q rows ep g1 g2⟩⟩
theorem sta_wr {K : PySem.W.Frag} {H : Hp} {Z : Addr → Prop} {ρ : Rho} {σ : L2.St} (s : Sta K H Z ρ σ) {a : Addr} {ob : HO} (nw : ¬ Ow ρ σ a) (nz : ¬ Z a) : Sta K (upd H a ob) Z ρ σ := by
  have kp : Keep H Z (upd H a ob) Z := ⟨fun x o z e => by
    have hx : x ≠ a := fun h => nz (by rw [← h]; exact z)
    rw [upd_ne hx]; exact e, fun _ z => z⟩
  refine ⟨s.len, fun j hj => ?_, s.inj, fun x z => ?_⟩
  · obtain ⟨u, e1, c⟩ := s.at_ j hj
    refine ⟨u, e1, ?_⟩
    cases qj : cellAt ρ j with
    | emp => exact (hj qj).elim
    | dat d' => rw [qj] at c; exact Rl.keep kp d' u c
    | dic kvs =>
      rw [qj] at c
      obtain ⟨b, e2, db⟩ := c
      have nb : b ≠ a := fun e => nw ⟨j, by rw [qj]; rfl, by rw [e1, e2, e]⟩
      exact ⟨b, e2, db.move kp (fun o h => by rw [upd_ne nb]; exact h) db.nz⟩
    | own es =>
      rw [qj] at c
      obtain ⟨b, ws, e2, hb, nb, lb, rb⟩ := c
      have nb' : b ≠ a := fun e => nw ⟨j, by rw [qj]; rfl, by rw [e1, e2, e]⟩
      exact ⟨b, ws, e2, by rw [upd_ne nb']; exact hb, nb, lb, Rls.keep kp es ws rb⟩
  · have hx : x ≠ a := fun h => nz (by rw [← h]; exact z)
    rw [upd_ne hx]; exact s.zd x z
theorem so_dsp {a b : Expr} {i j : Ex} (hu : X.A.units + 65 < cLine) (ha : SO X a (ev T i)) (hb : SO X b (ev T j)) : SO X (.Dict [some a] [b] pos) (ev T (.dsp i j)) := by
  obtain ⟨ta, pa, qa⟩ := ha
  obtain ⟨tb, pb, qb⟩ := hb
  refine ⟨_, pe_dsp hu pa pb, fun ρ σ H Z o ρ' Q s e k p hp => ?_⟩
  obtain ⟨⟨o1, ρ1⟩, e1, e⟩ := bnd (show (ev T i ρ).bind _ = some _ from e)
  obtain ⟨⟨o2, ρ2⟩, e2, e⟩ := bnd e
  obtain ⟨⟨x, ρ3⟩, e3, e⟩ := bnd e
  obtain ⟨⟨y, ρ4⟩, e4, e⟩ := bnd e
  have e' : (if keyIn [] x then some (Od.t (.dic [(x, y)]), ρ4) else none) = some (o, ρ') := e
  clear e
  by_cases hk : keyIn [] x = true
  case neg => rw [if_neg hk] at e'; cases e'
  rw [if_pos hk] at e'
  cases e'
  have ef : frzs ρ2 [o1, o2] = some ([x, y], ρ') := by
    show (frz ρ2 o1).bind _ = _
    rw [e3]
    show ((frz ρ3 o2).bind _).map _ = _
    rw [e4]; rfl
  obtain ⟨p0, s0, kp, nw, nz, n0⟩ := alloc (Stp.refl (W := Ow ρ σ)) s hp (.ext (dφ p [] 0)) False
  have nz' : ¬ (Z p ∨ (False ∧ p = p)) := fun z => z.elim nz fun q => q.1
  refine qa ρ σ _ _ o1 ρ1 _ s0 e1 fun v H1 Z1 s1 p1 r1 n1 => ?_
  refine qb ρ1 σ H1 Z1 o2 ρ2 _ s1 e2 fun w H2 Z2 s2 p2 r2 n2 => ?_
  have p12 := p1.trans p2
  obtain ⟨f1, f2⟩ := p12.fr p _ (upd_same (o := .ext (dφ p [] 0))) nw
  obtain ⟨g1, g2⟩ := p1.fr p _ (upd_same (o := .ext (dφ p [] 0))) nw
  have w2 : ¬ Ow ρ2 σ p := fun h => (p12.w p h).elim nw fun e => by rw [upd_same] at e; cases e
  have R : OdVs X.K (upd H p (.ext (dφ p [] 0))) H2 Z2 ρ2 σ [o1, o2] [v, w] := by
    refine ⟨v, [w], rfl, r1.stp s1 p2, n1, fun a wt => ?_, w, [], rfl, r2, n2.back fun a h => p1.none_ h, fun a _ => trivial, rfl⟩
    obtain ⟨c, e3, e4, e5⟩ := wt
    subst e3
    obtain ⟨ob, h⟩ := r1.1.dm e4 e5
    refine ⟨?_, trivial⟩
    rintro ⟨c', e6, e7, e8⟩
    subst e6
    rw [n2 a e7 e8] at h; cases h
  obtain ⟨Z3, p3, s3, ⟨v', r', e5, rx, w', r'', e6, ry, e7⟩, z1, z2, z3⟩ := frzs_ok p12 s2 R ef
  cases e5
  cases e6
  have nz3 : ¬ Z3 p := fun z => by
    rcases z2 p z with z | z | z
    · exact nz' (f2 z)
    · exact w2 z
    · refine z ⟨?_, ?_, trivial⟩
      · rintro ⟨c, e6, e7, e8⟩
        subst e6
        have := n1 p e7 e8
        rw [upd_same] at this; cases this
      · rintro ⟨c, e6, e7, e8⟩
        subst e6
        have := n2 p e7 e8
        rw [g1] at this; cases this
  refine ⟨Z3, x, y, f1, nz3, hk, rx, ry, fun rows ep hr hn => ?_⟩
  have w4 : ¬ Ow ρ' σ p := fun h => w2 (z3 p h)
  have kp : Keep H2 Z3 (upd H2 p (.ext (dφ p rows ep))) Z3 := ⟨fun a o z e => by
    have hx : a ≠ p := fun h => nz3 (by rw [← h]; exact z)
    rw [upd_ne hx]; exact e, fun _ z => z⟩
  have s4 : Sta X.K (upd H2 p (.ext (dφ p rows ep))) Z3 ρ' σ := sta_wr s3 w4 nz3
  have p03 := p0.trans p3
  have p4 : Stp (Ow ρ σ) (Ow ρ' σ) H Z (upd H2 p (.ext (dφ p rows ep))) Z3 := ⟨fun a o e n => by
      have h1 := p03.fr a o e n
      rw [upd_ne (ne_of_none e hp)]; exact h1, fun a o e => by
      rw [upd_ne (ne_of_none e hp)]; exact p03.dom a o e, p03.z, p03.w⟩
  refine k _ _ Z3 s4 p4 ⟨⟨p, rfl, ⟨rows, ep, upd_same, by simp, Paired.mapP hr fun p r ⟨q0, q1, q2, q3⟩ => ⟨q0, q1, Rl.keep kp _ _ q2, Rl.keep kp _ _ q3⟩, hn, isTupD x, fun q hq => by rw [List.mem_singleton.mp hq]⟩, nz3⟩, fun b _ e => by cases e; exact w4⟩ fun b _ e => by cases e; exact hp
theorem zipD_at : ∀ {xs ys : List D} {i : Nat} {d : D}, (zipD xs ys)[i]? = some d → ∃ a b, xs[i]? = some a ∧ ys[i]? = some b ∧ d = .tuple [a, b]
  | a :: as, b :: bs, 0, d, h => ⟨a, b, rfl, rfl, by simpa [zipD] using h.symm⟩
  | a :: as, b :: bs, i + 1, d, h => by
    obtain ⟨x, y, h1, h2, h3⟩ := zipD_at (xs := as) (ys := bs) (i := i) (by simpa [zipD] using h)
    exact ⟨x, y, by simpa using h1, by simpa using h2, h3⟩
  | [], _, i, d, h => by simp [zipD] at h
  | _ :: _, [], i, d, h => by simp [zipD] at h
theorem zipD_len : ∀ {xs ys : List D}, (zipD xs ys).length = min xs.length ys.length
  | a :: as, b :: bs => by simp [zipD, zipD_len]
  | [], _ => by simp [zipD]
  | _ :: _, [] => by simp [zipD]
theorem zipS_is {x y : D} {ds : List D} (h : zipS x y = some ds) : (∃ xs ys, x = .list xs ∧ y = .list ys ∧ ds = zipD xs ys) ∨ ∃ xs ys, x = .tuple xs ∧ y = .tuple ys ∧ ds = zipD xs ys := by
  cases x <;> cases y <;> (try (cases (show none = some ds from h)))
  · rename_i xs ys
    cases (show some _ = some ds from h)
    exact .inl ⟨xs, ys, rfl, rfl, rfl⟩
  · rename_i xs ys
    cases (show some _ = some ds from h)
    exact .inr ⟨xs, ys, rfl, rfl, rfl⟩
theorem si_zip {a b : Expr} {elts : List Expr} {kk : Nat} {tpos p : Pos} {itg : Tg} {i j : Ex} (hg : Gl X "zip") (hm : X.mg "zip" = none) (ht : isT itg) (h : SA X [a, b] (evs T (.cons i (.cons j .nil))))
    (hs : starEach [a, b] X.env = (false, eval a X.env) :: starEach [b] X.env) (hpl : (backTo pos (starEach [b] X.env)).any (·.1) = false) : SI X (.Tuple elts kk tpos) (.Call (.Name "zip" p) [a, b] [] pos) itg (evi T (.zip i j)) := by
  obtain ⟨t, pt, qt⟩ := h
  refine ⟨_, RZ.pi_zipA hg hm pt.1 hs hpl, fun ρ σ H Z ds ρ' R s e k => ?_⟩
  obtain ⟨⟨o, ρ1⟩, e1, e⟩ := bnd (show (ev T i ρ).bind _ = some _ from e)
  obtain ⟨⟨o2, ρ2⟩, e2, e⟩ := bnd e
  obtain ⟨⟨x, ρ3⟩, e3, e⟩ := bnd e
  obtain ⟨⟨y, ρ4⟩, e4, e⟩ := bnd e
  obtain ⟨ds', e5, e⟩ := mpd e
  cases e
  have ee : evs T (.cons i (.cons j .nil)) ρ = some ([o, o2], ρ2) := by
    show (ev T i ρ).bind _ = _
    rw [e1]
    show ((ev T j ρ1).bind _).map _ = _
    rw [e2]; rfl
  have ef : frzs ρ2 [o, o2] = some ([x, y], ρ4) := by
    show (frz ρ2 o).bind _ = _
    rw [e3]
    show ((frz ρ3 o2).bind _).map _ = _
    rw [e4]; rfl
  refine qt ρ σ H Z _ ρ2 _ s ee fun vs H1 Z1 s1 p1 r1 => ?_
  obtain ⟨Z2, p2, s2, ⟨v, r, rfl, rx, w, r', rfl, ry, rn⟩, _⟩ := frzs_ok p1 s1 r1 ef
  cases (show r' = [] from rn)
  have fin : ∀ {xs ys : List D} {a b : Addr} {us ws : List V} {J : It}, Rls X.K H1 Z2 xs us → Rls X.K H1 Z2 ys ws → (∀ H' Z', Keep H1 Z2 H' Z' → (∀ i x y, us[i]? = some x → ws[i]? = some y → J.go i H') ∧ (∀ i, us.length ≤ i ∨ ws.length ≤ i → J.stop i H') ∧ ∀ i v H'', J.yld i H' v H'' → ∃ T x y, v = .ref T ∧ H' T = none ∧ H'' = upd H' T (.tup [x, y]) ∧ us[i]? = some x ∧ ws[i]? = some y) → ItOk X.K itg J (zipD xs ys) H1 Z2 := by
    intro xs ys a b us ws J rx ry hJ i H' Z' kp
    obtain ⟨j1, j2, j3⟩ := hJ H' Z' kp
    have l1 := rx.length
    have l2 := ry.length
    have l3 := zipD_len (xs := xs) (ys := ys)
    refine ⟨fun hi => ?_, fun hi => j2 i (by omega), fun v H'' d hd hy => ?_⟩
    · exact j1 i _ _ (List.getElem?_eq_getElem (show i < us.length by omega)) (List.getElem?_eq_getElem (show i < ws.length by omega))
    · obtain ⟨T, x, y, rfl, hT, rfl, hx, hy⟩ := j3 i v H'' hy
      obtain ⟨a, b, h1, h2, rfl⟩ := zipD_at hd
      obtain ⟨x', h3, h4⟩ := (Rls.keep kp xs us rx).get h1
      obtain ⟨y', h5, h6⟩ := (Rls.keep kp ys ws ry).get h2
      rw [hx] at h3
      rw [hy] at h5
      cases h3
      cases h5
      exact .inr ⟨ht, T, x, y, a, b, rfl, hT, rfl, rfl, h4, h6⟩
  rcases zipS_is e5 with ⟨xs, ys, rfl, rfl, rfl⟩ | ⟨xs, ys, rfl, rfl, rfl⟩
  · obtain ⟨a, us, rfl, la, na, ra⟩ := (show Rl X.K H1 Z2 (.list xs) v from rx)
    obtain ⟨b, ws, rfl, lb, nb, rb⟩ := (show Rl X.K H1 Z2 (.list ys) w from ry)
    refine ⟨a, b, us, ws, rfl, .inl ⟨la.sq, lb.sq, k _ _ Z2 s2 p2 (fin (a := a) (b := b) ra rb fun H' Z' kp => ⟨fun i x y hx hy => ⟨us, ws, x, y, (la.keep kp).sq, (lb.keep kp).sq, hx, hy⟩, fun i hi => ⟨us, ws, (la.keep kp).sq, (lb.keep kp).sq, hi⟩, fun i v H'' ⟨T, x, y, e1, e2, e3, e4, e5⟩ => ⟨T, x, y, e1, e2, e3, e4 us (la.keep kp).sq, e5 ws (lb.keep kp).sq⟩⟩) ?_⟩⟩
    rw [zipD_len]
    omega
  · obtain ⟨a, us, rfl, la, na, ra⟩ := (show Rl X.K H1 Z2 (.tuple xs) v from rx)
    obtain ⟨b, ws, rfl, lb, nb, rb⟩ := (show Rl X.K H1 Z2 (.tuple ys) w from ry)
    refine ⟨a, b, us, ws, rfl, .inr ⟨la.sq, lb.sq, k _ _ Z2 s2 p2 (fin (a := a) (b := b) ra rb fun H' Z' kp => ⟨fun i x y hx hy => ⟨us, ws, x, y, (la.keep kp).sq, (lb.keep kp).sq, hx, hy⟩, fun i hi => ⟨us, ws, (la.keep kp).sq, (lb.keep kp).sq, hi⟩, fun i v H'' ⟨T, x, y, e1, e2, e3, e4, e5⟩ => ⟨T, x, y, e1, e2, e3, e4 us (la.keep kp).sq, e5 ws (lb.keep kp).sq⟩⟩) ?_⟩⟩
    rw [zipD_len]
    omega
end
end Lt
namespace Lt
open PySem L2 PySem.Spec PyProof.Rows
theorem meets_enumerate_new1 {v : Value} {o : Obj} {H : Heap → Prop} (B : Begins v o H) :
    Meets (Builtin.«enumerate.__new__» ⟨[.type "enumerate", v], []⟩) (fun _ R s => H s.heap ∧
      R (.ok (.ret (.ref (s.heap.push o).objs.size))) { s with heap := (s.heap.push o).push { cls := .type "enumerate", data := .fields #[.none, .bool false, .ref s.heap.objs.size, rawInt 0, .none, .none] } }) :=
  .of_wp fun prog w A R s h => by
    obtain ⟨hp, g, d, tk, os⟩ := s; obtain ⟨h1, h⟩ := h
    have hsub := sub_enumerate
    have q1 : ∀ {A' : Around} {E : Value → Shared → Prop} {Q : Value → Shared → Prop}, Q (.ref hp.objs.size) ⟨hp.push o, g, d, tk, os⟩ → wpAny (model prog w) A' (pyIter v) Q E ⟨hp, g, d, tk, os⟩ :=
      fun q => B.iter prog w _ _ ⟨hp, g, d, tk, os⟩ _ h1 q
    wp_walk using q1
    refine wpAny_stack_any fun st => wpAny_pure ?_
    split
    · rename_i c _ _ _ _ _
      cases (c == Value.type "enumerate")
      · wp_walk using q1
        exact ⟨_, rfl, h⟩
      · wp_walk using q1
        exact ⟨_, rfl, h⟩
    · wp_walk using q1
      exact ⟨_, rfl, h⟩
section
variable {prog : Program} {w : World} {A : Around} {E : Value → Shared → Prop} {s : Shared}
theorem call_enumerate1 {v : Value} {o : Obj} {H : Heap → Prop} {Q : Value → Shared → Prop} (B : Begins v o H) (h1 : H s.heap)
    (h : ∀ h', IsEnum h' (s.heap.objs.size + 1) s.heap.objs.size 0 .none → h'.get? s.heap.objs.size = some o → h'.objs.size = s.heap.objs.size + 2 →
      (∀ b o, s.heap.get? b = some o → h'.get? b = some o) → Q (.ref (s.heap.objs.size + 1)) { s with heap := h' }) :
    wpAny (model prog w) A (call (.type "enumerate") [v]) Q E s := by
  refine callType_new F.called_enumerate (by decide) (F.typeCall_enumerate_1 _) (F.newCall_enumerate_1 _) (fun obj => F.args_object_init_2 obj _) F.entry_enumerate_new
    (meets_enumerate_new1 B) ⟨h1, ?_⟩
  have hz : (s.heap.push o).objs.size = s.heap.objs.size + 1 := Heap.size_push ..
  show _ ∧ _
  rw [hz]
  have he : IsEnum ((s.heap.push o).push { cls := .type "enumerate", data := .fields #[.none, .bool false, .ref s.heap.objs.size, rawInt 0, .none, .none] }) (s.heap.objs.size + 1) s.heap.objs.size 0 .none := by
    have := Heap.get?_push_size (s.heap.push o) (o := { cls := .type "enumerate", data := .fields #[.none, .bool false, .ref s.heap.objs.size, rawInt 0, .none, .none] }) rfl
    rw [hz] at this; exact this
  refine ⟨⟨_, he, rfl⟩, h _ he (Heap.get?_push_of_some _ (Heap.get?_push_size _ B.free)) (by rw [Heap.size_push, hz]) fun b o x => Heap.get?_push_of_some _ (Heap.get?_push_of_some _ x)⟩
end
/-- the tuple at a, each item in a new pair -/
def IteT (K : PySem.W.Frag) (a : Addr) : It :=
  ⟨fun i H => ∃ (xs : List V) (x : V), SqT K H a xs ∧ xs[i]? = some x, fun i H v H' => ∃ T x, v = .ref T ∧ H T = none ∧ H' = upd H T (.tup [.int (i : Nat), x]) ∧ ∀ xs, SqT K H a xs → xs[i]? = some x, fun i H => ∃ xs : List V, SqT K H a xs ∧ xs.length = i⟩
theorem turn_enumT {P : Program} {w : World} {K : PySem.W.Frag} {elts : List Expr} {kk : Nat} {tpos : Pos} (a e it : Addr) :
    Turn P w K (.Tuple elts kk tpos) (IteT K a) [e, it] e (fun i h => (∃ old, IsEnum h e it ((i : Nat) : Int) old) ∧ h.IsTupleIter it a i ∧ e ≠ it ∧ a ≠ it ∧ a ≠ e) where
  mem := by simp
  obj := fun i h st b hb => by
    obtain ⟨⟨old, he⟩, ⟨o, ho, hc, hd⟩, _⟩ := st
    have e' : b = e ∨ b = it := by simpa using hb
    rcases e' with z | z
    · rw [z]; exact ⟨_, he, fun v q => nomatch q⟩
    · rw [z]; exact ⟨o, ho, fun v q => by rw [hd] at q; cases q⟩
  keep := fun i h h' st k => let ⟨⟨old, he⟩, hi, hne⟩ := st; ⟨⟨old, k e (by simp) _ he⟩, hi.at fun o q => k it (by simp) o q, hne⟩
  item := by
    intro X hP hw hK hc i pins s σ H E I hf st hg
    subst hP hw hK
    obtain ⟨⟨old, he⟩, hit, hne, hai, hae⟩ := st
    obtain ⟨xs, x, hq, hx⟩ := hg
    obtain ⟨its, rv, p, hz⟩ := I.tuple hq
    obtain ⟨u, hu, ru⟩ := rv.get hx
    have hel : e < s.heap.objs.size := Heap.lt_size he
    have hil : it < s.heap.objs.size := by obtain ⟨_, q, _⟩ := hit; exact Heap.lt_size q
    have hh : X.A.in1.handled = none := I.ok.hd hc
    have D : Draws X.prog X.w X.A.in1 it [it, a] its.toArray.size (fun i v => its.toArray[i]? = some v) (fun i h => h.IsTupleIter it a i ∧ h.IsTuple a its.toArray) := Draws.tuple hh it a hai its.toArray
    have hlt : i < its.toArray.size := by
      rw [List.size_toArray]
      exact (List.getElem?_eq_some_iff.mp hu).1
    refine wpAny_pyNext_enum_itemC D he ⟨hit, p⟩ hlt hne (by simp only [List.mem_cons, List.not_mem_nil, or_false, not_or]; exact ⟨hne, Ne.symm hae⟩) fun x' h' tk hx' ho hst' hT hsz hk => ?_
    have hxu : x' = u := by
      have : its.toArray[i]? = some u := by simpa using hu
      rw [this] at hx'
      exact (Option.some.inj hx').symm
    subst hxu
    refine ⟨_, rfl, wpAny_letOwnedTupleGo_enum (s := { s with heap := h', toks := tk + 1 }) ho fun h'' he' sb => ?_⟩
    have hT2 : h''.get? s.heap.objs.size = some { cls := .type "tuple", data := .seq #[.int i tk, x'] } := (sb.2 _ (Nat.ne_of_gt hel)).trans hT
    have new : ObjOk X.prog X.w (upd H s.heap.objs.size (.tup [.int (i : Nat), x])) h'' s.heap.objs.size (.tup [.int (i : Nat), x]) :=
      ⟨by show 2 ≤ sizeLine; decide, [.int i tk, x'], .cons ⟨_, rfl⟩ (.cons ru .nil), ⟨_, hT2, rfl, _, rfl⟩⟩
    have I1 : Inv X pins σ (upd H s.heap.objs.size (.tup [.int (i : Nat), x])) { s with heap := h'', toks := tk + 1 } :=
      I.turnedNew (ch := [e, it]) (fun b ob hb q => (sb.2 b (fun z => hb (by simp [z]))).trans (hk b ob (fun z => hb (by simp [z])) (fun z => hb (by simp [z])) q)) hf (Nat.le_refl _) new
    refine ⟨.ref s.heap.objs.size, _, I1, rfl, ⟨_, x, rfl, I.hok.fresh (Nat.le_refl _), rfl, fun ys hy => by rw [I.tuple_inj hy hq]; exact hx⟩, ⟨⟨x', ?_⟩, hst'.1.at fun o q => (sb.2 it (Ne.symm hne)).trans q, hne, hai, hae⟩, fun b hb => ?_⟩
    · have e1 : ((i + 1 : Nat) : Int) = (i : Int) + 1 := by omega
      rw [e1]; exact he'
    · have hb' : b < s.heap.objs.size := by
        have e' : b = e ∨ b = it := by simpa using hb
        rcases e' with z | z
        · rw [z]; exact hel
        · rw [z]; exact hil
      rw [upd_ne (Nat.ne_of_lt hb')]
      exact (hf b hb).1
  done := by
    intro X hP hw hK hc i pins s σ H E I hf st hg
    subst hP hw hK
    obtain ⟨⟨old, he⟩, hit, hne, hai, hae⟩ := st
    obtain ⟨xs, hq, hx⟩ := hg
    obtain ⟨its, rv, p, hz⟩ := I.tuple hq
    obtain ⟨f0, f1, f2, f3, f4, f5⟩ := hf it (by simp)
    have hl := rv.length
    have hh : X.A.in1.handled = none := I.ok.hd hc
    have D : Draws X.prog X.w X.A.in1 it [it, a] its.toArray.size (fun i v => its.toArray[i]? = some v) (fun i h => h.IsTupleIter it a i ∧ h.IsTuple a its.toArray) := Draws.tuple hh it a hai its.toArray
    have hi : i = its.toArray.size := by rw [List.size_toArray]; omega
    exact wpAny_pyNext_enum_endD D he (by rw [← hi]; exact ⟨hit, p⟩) fun h' eb => ⟨rfl, I.turned (t' := s.toks) (fun b o hb q => eb b o hb q) f0 f1 f3 f4 f5⟩
  self := fun A i s Q E st h => let ⟨⟨_, he⟩, _⟩ := st; wpAny_pyIter_enum he h
def iEnumA (K : PySem.W.Frag) (ta : TA) : TI := fun σ H R => ta σ H fun vs H1 => ∃ a xs, vs = [.ref a] ∧ ((SqL K H1 a xs ∧ R (Ite K a) H1) ∨ (SqT K H1 a xs ∧ R (IteT K a) H1))
theorem pi_enumA {X : Cx} {e : Expr} {ta : TA} {p pos tpos : Pos} {elts : List Expr} {kk : Nat} (hg : Gl X "enumerate") (hm : X.mg "enumerate" = none) (ha : PA X [e] ta) (hs : starEach [e] X.env = [(false, eval e X.env)]) :
    PI X (.Tuple elts kk tpos) (.Call (.Name "enumerate" p) [e] [] pos) (iEnumA X.K ta) := by
  refine ⟨fun pins s σ H R I h => ?_⟩
  refine Call_ (ld_blt I hg hm boot_enumerate (PyProof.Rows.callWith_type1 (thn (ha.run pos pins s σ H _ I h) fun us s1 ⟨vs, H1, I1, r1, q1⟩ => ?_) hs rfl))
  obtain ⟨a, xs, ex, q⟩ := q1
  subst ex
  cases r1 with
  | cons r rr =>
    cases rr
    cases r
    have fp : ∀ b, b ∈ [s1.heap.objs.size + 1, s1.heap.objs.size] → FpOk X pins H1 b := fun b hb => by
      have e' : b = s1.heap.objs.size + 1 ∨ b = s1.heap.objs.size := by simpa using hb
      have hle : s1.heap.objs.size ≤ b := by
        rcases e' with z | z
        · rw [z]; exact Nat.le_add_right _ _
        · rw [z]; exact Nat.le_refl _
      exact I1.fpOk hle (I1.hok.fresh hle)
    rcases q with ⟨hq, q⟩ | ⟨hq, q⟩
    · obtain ⟨its, rv, p', hz⟩ := I1.list hq
      refine call_enumerate_list p'.isList fun h' he hit hsz hk => wpAny_pyIter_enum he ?_
      have I2 : Inv X pins σ H1 { s1 with heap := h' } := I1.kept (t' := s1.toks) hk
      exact ⟨s1.heap.objs.size + 1, [s1.heap.objs.size + 1, s1.heap.objs.size], _, _, H1, rfl, I2, turn_enum a (s1.heap.objs.size + 1) s1.heap.objs.size, ⟨⟨.none, he⟩, hit, Nat.succ_ne_self _⟩, fp, q⟩
    · obtain ⟨its, rv, p', hz⟩ := I1.tuple hq
      obtain ⟨o, ho, _⟩ := id p'
      have hal := Heap.lt_size ho
      refine call_enumerate1 (begins_tuple a its.toArray) p' fun h' he hit hsz hk => wpAny_pyIter_enum he ?_
      have I2 : Inv X pins σ H1 { s1 with heap := h' } := I1.kept (t' := s1.toks) hk
      exact ⟨s1.heap.objs.size + 1, [s1.heap.objs.size + 1, s1.heap.objs.size], _, _, H1, rfl, I2, turn_enumT a (s1.heap.objs.size + 1) s1.heap.objs.size, ⟨⟨.none, he⟩, ⟨_, hit, rfl, rfl⟩, Nat.succ_ne_self _, Nat.ne_of_lt hal, Nat.ne_of_lt (Nat.lt_succ_of_lt hal)⟩, fp, q⟩
section
variable {X : Cx} {T : Tab} {pos : Pos}
theorem enmD_at : ∀ {ds : List D} {k i : Nat} {d : D}, (enmD k ds)[i]? = some d → ∃ x, ds[i]? = some x ∧ d = .tuple [.int ((k + i : Nat) : Int), x]
  | [], k, i, d, h => by simp [enmD] at h
  | x :: ds, k, 0, d, h => ⟨x, rfl, by simpa [enmD] using h.symm⟩
  | x :: ds, k, i + 1, d, h => by
    obtain ⟨y, h1, h2⟩ := enmD_at (ds := ds) (k := k + 1) (i := i) (by simpa [enmD] using h)
    exact ⟨y, by simpa using h1, by rw [h2, show k + 1 + i = k + (i + 1) by omega]⟩
theorem enmD_len : ∀ {ds : List D} {k : Nat}, (enmD k ds).length = ds.length
  | [], _ => rfl
  | x :: ds, k => by simp [enmD, enmD_len]
theorem si_enm {a : Expr} {elts : List Expr} {kk : Nat} {tpos p : Pos} {itg : Tg} {i : Ex} (hg : Gl X "enumerate") (hm : X.mg "enumerate" = none) (ht : isT itg) (ha : SO X a (ev T i)) (hs : starEach [a] X.env = [(false, eval a X.env)]) : SI X (.Tuple elts kk tpos) (.Call (.Name "enumerate" p) [a] [] pos) itg (evi T (.enm i)) := by
  obtain ⟨t, pt, qt⟩ := ha
  refine ⟨_, pi_enumA hg hm (pa_cons pt pa_nil hs) hs, fun ρ σ H Z ds ρ' R s e k => ?_⟩
  obtain ⟨⟨o, ρ1⟩, e1, e⟩ := bnd (show (ev T i ρ).bind _ = some _ from e)
  obtain ⟨⟨d, ρ2⟩, e2, e⟩ := bnd e
  obtain ⟨xs, e3, e⟩ := mpd e
  cases e
  refine qt ρ σ H Z o ρ1 _ s e1 fun v H1 Z1 s1 p1 r1 n1 => ?_
  obtain ⟨Z2, p2, s2, r2, _⟩ := frz_ok p1 s1 r1 n1 e2
  have fin : ∀ {us : List V} {J : It}, Rls X.K H1 Z2 xs us → (∀ H' Z', Keep H1 Z2 H' Z' → (∀ i x, us[i]? = some x → J.go i H') ∧ (∀ i, us.length = i → J.stop i H') ∧ ∀ i v H'', J.yld i H' v H'' → ∃ T x, v = .ref T ∧ H' T = none ∧ H'' = upd H' T (.tup [.int (i : Nat), x]) ∧ us[i]? = some x) → ItOk X.K itg J (enmD 0 xs) H1 Z2 := by
    intro us J rx hJ i H' Z' kp
    obtain ⟨j1, j2, j3⟩ := hJ H' Z' kp
    have l1 := rx.length
    have l3 := enmD_len (ds := xs) (k := 0)
    refine ⟨fun hi => j1 i _ (List.getElem?_eq_getElem (show i < us.length by omega)), fun hi => j2 i (by omega), fun v H'' d hd hy => ?_⟩
    obtain ⟨T, x, rfl, hT, rfl, hx⟩ := j3 i v H'' hy
    obtain ⟨a, h1, rfl⟩ := enmD_at hd
    obtain ⟨x', h3, h4⟩ := (Rls.keep kp xs us rx).get h1
    rw [hx] at h3
    cases h3
    exact .inr ⟨ht, T, .int (i : Nat), x, .int ((0 + i : Nat) : Int), a, rfl, hT, rfl, rfl, by rw [Nat.zero_add]; exact rfl, h4⟩
  rcases seqD_some e3 with rfl | rfl
  · obtain ⟨a, us, rfl, la, na, ra⟩ := (show Rl X.K H1 Z2 (.list xs) v from r2)
    exact ⟨a, us, rfl, .inl ⟨la.sq, k _ _ Z2 s2 p2 (fin ra fun H' Z' kp => ⟨fun i x hx => ⟨us, x, (la.keep kp).sq, hx⟩, fun i hi => ⟨us, (la.keep kp).sq, by omega⟩, fun i v H'' ⟨T, x, e1, e2, e3, e4⟩ => ⟨T, x, e1, e2, e3, e4 us (la.keep kp).sq⟩⟩) (by rw [enmD_len]; exact na)⟩⟩
  · obtain ⟨a, us, rfl, la, na, ra⟩ := (show Rl X.K H1 Z2 (.tuple xs) v from r2)
    exact ⟨a, us, rfl, .inr ⟨la.sq, k _ _ Z2 s2 p2 (fin ra fun H' Z' kp => ⟨fun i x hx => ⟨us, x, (la.keep kp).sq, hx⟩, fun i hi => ⟨us, (la.keep kp).sq, hi⟩, fun i v H'' ⟨T, x, e1, e2, e3, e4⟩ => ⟨T, x, e1, e2, e3, e4 us (la.keep kp).sq⟩⟩) (by rw [enmD_len]; exact na)⟩⟩
end
end Lt
namespace Lt
open PySem L2
def MK (m : Nat) : Prop := m = 7 ∨ m = 31 ∨ m = 127 ∨ m = 511 ∨ m = 2047
/-- the numbers met, as bits -/
def cov (m : Nat) : Nat → Nat → Nat → Nat
  | 0, _, acc => acc
  | n + 1, x, acc => cov m n ((x * 5 + 1) % (m + 1)) (acc ||| (1 <<< x))
theorem lcg_front (m : Nat) : ∀ k i, lcgI m i (k + 1) = lcgI m ((i * 5 + 1) % (m + 1)) k
  | 0, _ => rfl
  | k + 1, i => congrArg (fun z => (z * 5 + 1) % (m + 1)) (lcg_front m k i)
theorem cov_bit {m j : Nat} : ∀ {n x acc : Nat}, (cov m n x acc).testBit j = true → acc.testBit j = true ∨ ∃ b, b < n ∧ lcgI m x b = j
  | 0, _, _, h => .inl h
  | n + 1, x, acc, h => by
    rcases cov_bit (n := n) h with z | ⟨b, hb, e⟩
    · rw [Nat.testBit_or, Bool.or_eq_true] at z
      rcases z with z | z
      · exact .inl z
      · refine .inr ⟨0, Nat.succ_pos _, ?_⟩
        rw [Nat.testBit_shiftLeft, Bool.and_eq_true, decide_eq_true_eq] at z
        obtain ⟨z1, z2⟩ := z
        have : j - x = 0 := by
          cases hz : j - x with
          | zero => rfl
          | succ d => rw [hz, Nat.testBit_succ] at z2; simp at z2
        show x = j
        omega
    · exact .inr ⟨b + 1, by omega, by rw [lcg_front]; exact e⟩
theorem lcgN_0 (m : Nat) : ∀ k, lcgN m k = lcgI m 0 k
  | 0 => rfl
  | k + 1 => congrArg (fun z => (z * 5 + 1) % (m + 1)) (lcgN_0 m k)
theorem mk_all {m : Nat} (hm : MK m) : cov m (m + 1) 0 0 = 2 ^ (m + 1) - 1 ∧ lcgN m (m + 1) = 0 := by
  rcases hm with rfl | rfl | rfl | rfl | rfl <;> exact ⟨by decide +kernel, by decide +kernel⟩
theorem mk_full {m j : Nat} (hm : MK m) (hj : j ≤ m) : ∃ b, b ≤ m ∧ lcgN m b = j := by
  have h : (cov m (m + 1) 0 0).testBit j = true := by
    rw [(mk_all hm).1, Nat.testBit_two_pow_sub_one]
    exact decide_eq_true (by omega)
  rcases cov_bit h with z | ⟨b, hb, e⟩
  · rw [Nat.zero_testBit] at z; cases z
  · exact ⟨b, by omega, by rw [lcgN_0]; exact e⟩
theorem mk_turn {m : Nat} (hm : MK m) : ∀ k, lcgN m (m + 1 + k) = lcgN m k
  | 0 => (mk_all hm).2
  | k + 1 => congrArg (fun z => (z * 5 + 1) % (m + 1)) (mk_turn hm k)
theorem mk_from {m i j : Nat} (hm : MK m) (hi : i ≤ m) (hj : j ≤ m) : ∃ k, k ≤ m ∧ lcgI m i k = j := by
  obtain ⟨a, a1, rfl⟩ := mk_full hm hi
  obtain ⟨b, b1, rfl⟩ := mk_full hm hj
  by_cases c : a ≤ b
  · exact ⟨b - a, by omega, by rw [L2.lcgN_add]; congr 1; omega⟩
  · refine ⟨b + (m + 1) - a, by omega, ?_⟩
    rw [L2.lcgN_add, ← mk_turn hm b]
    congr 1; omega
theorem mk_run {m j : Nat} (hm : MK m) (h : Int) (hj : j ≤ m) : ∃ n, n ≤ m + 12 ∧ runI m (SetTable.bits h) n = j := by
  obtain ⟨k, k1, k2⟩ := mk_from hm (runI_le m (SetTable.bits h) 12) hj
  exact ⟨12 + k, by omega, (runI_tail (bits_lt h) k).trans k2⟩
theorem mk_way {m j : Nat} (hm : MK m) (h : Int) (hj : j ≤ m) : ∃ k, k < 10 * SetTable.turns m ∧ way m h k = j := by
  obtain ⟨n, n1, n2⟩ := mk_run hm h hj
  obtain ⟨k, k1, k2⟩ := run_nth m (SetTable.bits h) n
  refine ⟨k, ?_, (congrArg SetTable.Probe.j k2).trans n2⟩
  show k < 10 * (m + 15)
  omega
theorem way_top {m : Nat} {h : Int} {k : Nat} : way m h k ≤ m := by
  have h1 : SetTable.bits h % (m + 1) ≤ m := Nat.le_of_lt_succ (Nat.mod_lt _ (Nat.succ_pos m))
  have h2 := runEnd_bd h1
  have h3 := nth_in k (runAt m (SetTable.bits h % (m + 1)) (SetTable.bits h)) (m := m) (show SetTable.bits h % (m + 1) + (SetTable.runEnd m (SetTable.bits h % (m + 1)) - SetTable.bits h % (m + 1)) ≤ m by omega)
  exact Nat.le_trans (Nat.le_add_right _ _) h3
/-- a table in which each is found from its hash -/
structure TG (t : SetTable) (hs : List Int) : Prop where
  up : Ris t.place.toList
  nod : t.dummies = #[]
  len : t.place.size = hs.length
  msk : MK t.mask
  top : ∀ x ∈ t.place.toList, x ≤ t.mask
  get : ∀ {i : Nat} {h : Int} {j : Nat}, hs[i]? = some h → t.place.toList[i]? = some j → ∃ k, way t.mask h k = j ∧ ∀ l, l < k → way t.mask h l ∈ t.place.toList
section
variable {t : SetTable} {hs : List Int}
theorem TG.plen (T : TG t hs) : t.place.toList.length = hs.length := (Array.length_toList).trans T.len
theorem TG.first (T : TG t hs) (hl : hs.length ≤ t.mask) (h : Int) : ∃ n, n < 10 * SetTable.turns t.mask ∧ way t.mask h n ∉ t.place.toList ∧ ∀ k, k < n → way t.mask h k ∈ t.place.toList := by
  obtain ⟨j, j1, j2⟩ := st_missing t.place.toList (t.mask + 1) (by rw [T.plen]; omega)
  obtain ⟨k, k1, k2⟩ := mk_way T.msk h (show j ≤ t.mask by omega)
  obtain ⟨n, n1, n2, n3⟩ := st_least (p := fun k => ¬ way t.mask h k ∈ t.place.toList) k (by rw [k2]; exact j2)
  exact ⟨n, by omega, n2, fun l hl => Classical.not_not.mp (n3 l hl)⟩
theorem TG.ahead (T : TG t hs) {h : Int} {n i j : Nat} (hn : way t.mask h n ∉ t.place.toList) (hi : hs[i]? = some h) (hj : t.place.toList[i]? = some j) : ∃ k, k < n ∧ way t.mask h k = j := by
  obtain ⟨k, e, z⟩ := T.get hi hj
  refine ⟨k, ?_, e⟩
  have ne : k ≠ n := fun q => hn (by rw [← q, e]; exact List.mem_of_getElem? hj)
  have nl : ¬ n < k := fun q => hn (z n q)
  omega
theorem TG.add (T : TG t hs) {h : Int} {n : Nat} (hn : way t.mask h n ∉ t.place.toList) (hb : ∀ k, k < n → way t.mask h k ∈ t.place.toList) :
    ∃ p t', t.put (way t.mask h n) = (t', p) ∧ p ≤ hs.length ∧ TG t' (hs.take p ++ h :: hs.drop p) ∧ t'.mask = t.mask ∧ t'.led = t.led ∧ t'.plain = t.plain ∧ t'.moves = t.moves ∧ t'.fill = hs.length + 1 := by
  have jt : way t.mask h n ≤ t.mask := way_top
  generalize ej : way t.mask h n = j at *
  have cut := (below_cut T.up j).1
  have pl : SetTable.below t.place j ≤ t.place.toList.length := by rw [Array.length_toList]; exact cut
  have ph : SetTable.below t.place j ≤ hs.length := by rw [← T.plen]; exact pl
  have fresh : t.place[SetTable.below t.place j]? ≠ some j := fun e => hn (List.mem_of_getElem? (i := SetTable.below t.place j) (by rw [Array.getElem?_toList]; exact e))
  have places := put_place t j
  have more : ∀ x, x ∈ t.place.toList → x ∈ (t.put j).1.place.toList := fun x hx => by rw [places]; exact mem_ins.2 (.inr hx)
  have size : (t.put j).1.place.size = hs.length + 1 := by
    have := congrArg List.length places
    rw [len_ins _ pl, T.plen, Array.length_toList] at this
    exact this
  refine ⟨SetTable.below t.place j, (t.put j).1, rfl, ph, ⟨ris_insert T.up fresh, put_dm T.nod j, size.trans (len_ins _ ph h).symm, T.msk, fun x hx => ?_, fun {i h2 j2} e1 e2 => ?_⟩, rfl, rfl, rfl, rfl, ?_⟩
  · rw [places] at hx
    exact (mem_ins.1 hx).elim (fun e => by rw [e]; exact jt) (T.top x)
  · have g : (hs[if i < SetTable.below t.place j then i else i - 1]? = some h2 ∧ t.place.toList[if i < SetTable.below t.place j then i else i - 1]? = some j2) ∨ (h2 = h ∧ j2 = j) := by
      rw [tins_get hs ph] at e1
      rw [places, tins_get _ pl] at e2
      by_cases c : i < SetTable.below t.place j
      · simp only [c, if_true] at e1 e2 ⊢
        exact .inl ⟨e1, e2⟩
      · simp only [c, if_false] at e1 e2 ⊢
        by_cases d : i = SetTable.below t.place j
        · simp only [d, if_true, Option.some.injEq] at e1 e2
          exact .inr ⟨e1.symm, e2.symm⟩
        · simp only [d, if_false] at e1 e2
          exact .inl ⟨e1, e2⟩
    rcases g with ⟨g1, g2⟩ | ⟨rfl, rfl⟩
    · obtain ⟨k, k1, k2⟩ := T.get g1 g2
      exact ⟨k, k1, fun l hl => more _ (k2 l hl)⟩
    · exact ⟨n, ej, fun l hl => more _ (hb l hl)⟩
  · show (t.put j).1.place.size + (t.put j).1.dummies.size = _
    rw [size, put_dm T.nod j]; rfl
end
theorem slot_free {m : Nat} (hm : MK m) (owner : Array (Option Nat)) (h : Int) {j : Nat} (hj : j ≤ m) (hf : oAt owner j = none) :
    ∃ n, SetTable.layClean.free m owner (SetTable.turns m) (SetTable.bits h % (m + 1)) (SetTable.bits h) = some (way m h n) ∧ oAt owner (way m h n) = none ∧ ∀ k, k < n → oAt owner (way m h k) ≠ none := by
  obtain ⟨r, r1, r2⟩ := mk_run hm h hj
  have at_ : way m h (off m (SetTable.bits h % (m + 1)) (SetTable.bits h) r) = j := by
    have := congrArg SetTable.Probe.j (nth_off m r (SetTable.bits h % (m + 1)) (SetTable.bits h))
    rw [itL_run] at this
    exact this.trans r2
  obtain ⟨n, n1, n2, n3⟩ := st_least (p := fun k => oAt owner (way m h k) = none) _ (by rw [at_]; exact hf)
  refine ⟨n, free_spec m owner _ r _ _ n (show r < m + 15 by omega) n1 (fun k hk => ?_) (by rw [n2]; rfl), n2, n3⟩
  have := n3 k hk
  cases z : oAt owner (way m h k) with
  | none => exact (this z).elim
  | some _ => rfl
theorem own_step {m : Nat} (hm : MK m) {done : List Int} {owner : Array (Option Nat)} (W : Own m done owner) (hl : done.length ≤ m) (h : Int) :
    ∃ j, SetTable.layClean.free m owner (SetTable.turns m) (SetTable.bits h % (m + 1)) (SetTable.bits h) = some j ∧ Own m (done ++ [h]) (owner.setIfInBounds j (some done.length)) := by
  obtain ⟨ps, p1, p2⟩ := W.ps
  obtain ⟨j0, q1, q2⟩ := st_missing ps (m + 1) (by omega)
  have f0 : oAt owner j0 = none := Classical.byContradiction fun z => q2 (p2 j0 (by omega) z)
  obtain ⟨n, e, f, g⟩ := slot_free hm owner h (show j0 ≤ m by omega) f0
  have jt : way m h n ≤ m := way_top
  generalize ej : way m h n = j at *
  have inb : j < owner.size := by rw [W.sz]; omega
  have self := oAt_set_self (some done.length) inb
  have keep : ∀ {i : Nat}, oAt owner i ≠ none → oAt (owner.setIfInBounds j (some done.length)) i ≠ none := fun {i} hi => by
    by_cases c : i = j
    · subst c; rw [self]; exact nofun
    · rw [oAt_set_ne _ c]; exact hi
  refine ⟨j, e, ⟨by rw [Array.size_setIfInBounds, W.sz], fun i k hi hk => ?_, fun k hk => ?_, j :: ps, by simp [p1], fun i hi hk => ?_⟩⟩
  · by_cases c : i = j
    · subst c
      rw [self] at hk
      cases hk
      exact ⟨h, n, by simp, ej, fun l hl => keep (g l hl)⟩
    · rw [oAt_set_ne _ c] at hk
      obtain ⟨h', n', a1, a2, a3⟩ := W.at_ i k hi hk
      exact ⟨h', n', by rw [List.getElem?_append_left (List.getElem?_eq_some_iff.mp a1).1]; exact a1, a2, fun l hl => keep (a3 l hl)⟩
  · rw [List.length_append, List.length_singleton] at hk
    by_cases c : k = done.length
    · subst c; exact ⟨j, jt, self⟩
    · obtain ⟨i, i1, i2⟩ := W.all k (by omega)
      have ne : i ≠ j := fun z => by rw [z, f] at i2; cases i2
      exact ⟨i, i1, by rw [oAt_set_ne _ ne]; exact i2⟩
  · by_cases c : i = j
    · rw [c]; exact List.mem_cons_self ..
    · rw [oAt_set_ne _ c] at hk
      exact List.mem_cons_of_mem _ (p2 i hi hk)
theorem own_fold {m : Nat} (hm : MK m) : ∀ (rest done : List Int) (owner : Array (Option Nat)), Own m done owner → done.length + rest.length ≤ m →
    ∃ o, rest.foldl (stepF m) (some (owner, done.length)) = some (o, (done ++ rest).length) ∧ Own m (done ++ rest) o
  | [], done, owner, W, _ => by rw [List.append_nil]; exact ⟨owner, rfl, W⟩
  | h :: rest, done, owner, W, hl => by
    rw [List.length_cons] at hl
    obtain ⟨j, e, W2⟩ := own_step hm W (by omega) h
    have := own_fold hm rest (done ++ [h]) _ W2 (by simp; omega)
    rw [List.append_assoc, List.singleton_append, List.length_append, List.length_singleton] at this
    rw [List.foldl_cons, stepF_some e]
    exact this
theorem lay_ok {m : Nat} (hm : MK m) {hs : Array Int} (hn : hs.size ≤ m) : ∃ o, SetTable.layClean m hs = some o ∧ Own m hs.toList o := by
  obtain ⟨o, f, W⟩ := own_fold hm hs.toList [] _ (Own.init m) (by simpa using hn)
  refine ⟨o, ?_, W⟩
  rw [layClean_eq]
  exact congrArg (Option.map (·.1)) f
theorem relay_ok (t : SetTable) {hs : Array Int} {wanted m : Nat} (hw : SetTable.sizeAbove wanted - 1 = m) (hm : MK m) (hn : hs.size ≤ m) :
    ∃ t' order, t.relaid hs wanted = some (t', order) ∧ order.toList.Perm (List.range hs.size) ∧ TG t' (order.toList.map fun i => hs.getD i 0) ∧ t'.mask = m ∧ t'.led = t.led ∧ t'.plain = t.plain := by
  obtain ⟨o, e, W⟩ := lay_ok hm hn
  obtain ⟨r1, r2⟩ := ris_live (fun j => o.getD j none) (List.range (m + 1)) (by unfold Ris; exact List.pairwise_lt_range)
  have a1 : Ris ((liveOf m o).map (·.1)) := r1
  have a2 : ∀ x ∈ (liveOf m o).map (·.1), x ∈ List.range (m + 1) := r2
  have L : ∀ {x y}, (x, y) ∈ liveOf m o ↔ x ≤ m ∧ oAt o x = some y := mem_live W.sz
  have all : ∀ k, k < hs.size → k ∈ (liveOf m o).map (·.2) := fun k hk => by
    obtain ⟨j, j1, j2⟩ := W.all k (by simpa using hk)
    exact List.mem_map.mpr ⟨(j, k), L.2 ⟨j1, j2⟩, rfl⟩
  have len : (liveOf m o).length = hs.size := by
    obtain ⟨ps, p1, p2⟩ := W.ps
    have nd : List.Pairwise (· ≠ ·) ((liveOf m o).map (·.1)) := List.Pairwise.imp (R := fun a b : Nat => a < b) (fun {a b} h => Nat.ne_of_lt h) a1
    have u := nat_nodup_len _ ps nd fun x hx => by
      obtain ⟨⟨y, k⟩, q1, rfl⟩ := List.mem_map.mp hx
      have q := L.1 q1
      exact p2 y q.1 (by rw [q.2]; exact nofun)
    have v := nat_nodup_len (List.range hs.size) ((liveOf m o).map (·.2)) List.nodup_range fun k hk => all k (List.mem_range.mp hk)
    rw [List.length_map, p1] at u
    rw [List.length_map, List.length_range] at v
    have : hs.toList.length = hs.size := rfl
    omega
  refine ⟨tabOf t m o, ((liveOf m o).map (·.2)).toArray, by rw [relaid_eq, hw, e]; rfl, perm_range hs.size _ (by simpa using len) (fun k hk => by simpa using all k hk), ⟨a1, rfl, ?_, hm, fun x hx => ?_, fun {i h j} h1 h2 => ?_⟩, rfl, rfl, rfl⟩
  · show ((liveOf m o).map (·.1)).toArray.size = (((liveOf m o).map (·.2)).map _).length
    simp
  · have := List.mem_range.mp (a2 x hx)
    show x ≤ m
    omega
  · replace h1 : (((liveOf m o).map (·.2)).map fun i => hs.getD i 0)[i]? = some h := h1
    replace h2 : ((liveOf m o).map (·.1))[i]? = some j := h2
    rw [List.getElem?_map] at h2
    cases hq : (liveOf m o)[i]? with
    | none => rw [hq] at h2; cases h2
    | some q =>
      obtain ⟨y, k⟩ := q
      simp only [List.getElem?_map, hq, Option.map_some, Option.some.injEq] at h1 h2
      subst h2
      obtain ⟨b1, b2⟩ := L.1 (List.mem_of_getElem? hq)
      obtain ⟨h0, n, c1, c2, c3⟩ := W.at_ y k b1 b2
      have ek : hs.getD k 0 = h0 := by
        rw [Array.getD_eq_getD_getElem?, ← Array.getElem?_toList, c1]; rfl
      rw [ek] at h1
      subst h1
      refine ⟨n, c2, fun l hl => ?_⟩
      show way m h0 l ∈ (liveOf m o).map (·.1)
      cases z : oAt o (way m h0 l) with
      | none => exact (c3 l hl z).elim
      | some k2 => exact List.mem_map.mpr ⟨(_, k2), L.2 ⟨way_top, z⟩, rfl⟩
theorem grow7 : SetTable.sizeAbove (SetTable.grown 5) - 1 = 31 := by decide +kernel
theorem grow31 : SetTable.sizeAbove (SetTable.grown 19) - 1 = 127 := by decide +kernel
theorem grow127 : SetTable.sizeAbove (SetTable.grown 77) - 1 = 511 := by decide +kernel
theorem grow511 : SetTable.sizeAbove (SetTable.grown 307) - 1 = 2047 := by decide +kernel
end Lt
namespace Lt
open PySem L2 PySem.Spec PyProof.Rows
mutual
/-- no text within -/
def noTx : NestedKey → Bool
  | .text _ => false
  | .tup ks => noTxs ks
  | _ => true
def noTxs : List NestedKey → Bool
  | [] => true
  | k :: ks => noTx k && noTxs ks
end
section
variable {P : Program} {w : World}
/-- a question of a value that is answered at once -/
def Asks (P : Program) (w : World) (f : Value → Sem Bool) (r : Bool) (s : Shared) (v : Value) : Prop := ∀ (A : Around) (E : Value → Shared → Prop) (Q : Bool → Shared → Prop), Q r s → wpAny (model P w) A (f v) Q E s
theorem asks_pure {f : Value → Sem Bool} {r : Bool} {s : Shared} {v : Value} (h : f v = pure r) : Asks P w f r s v := fun A E Q q => by rw [h]; exact wpAny_pure q
theorem cls_tup {n : Nat} {s : Shared} {b : Addr} {o : Obj} {vs : Array Value} {m : Nat} (ho : s.heap.get? b = some o) (hc : o.cls = .type "tuple") (hd : o.data = .seq vs m) (hall : ∀ v ∈ vs.toList, Asks P w (ofAClassStatement n) false s v) : Asks P w (ofAClassStatement (n + 1)) false s (.ref b) := fun A E Q q => by
  unfold ofAClassStatement
  refine wpAny_bind (wpAny_typeOf ⟨o, ho, hc⟩ ?_)
  have t1 : ((("tuple" : String) == "tuple") = true) := rfl
  simp only [t1, if_true, Bool.not_true, Bool.false_eq_true, if_false]
  refine wpAny_bind (wpAny_pure ?_)
  simp only [Bool.not_true, Bool.false_eq_true, if_false]
  refine wpAny_bind (wpAny_seqItems ho hd ?_)
  refine wpAny_bind ?_
  show wpAny _ _ (forIn vs _ _) _ _ s
  rw [← Array.forIn_toList]
  refine wpAny_forIn_list _ (fun rest r s' => r.1 = none ∧ s' = s ∧ ∀ v ∈ rest, Asks P w (ofAClassStatement n) false s v) _ ?_ ?_ _ _ ⟨rfl, rfl, hall⟩
  · rintro v rest r s1 ⟨_, rfl, hr⟩
    refine wpAny_bind (hr v (List.mem_cons_self ..) _ _ _ ?_)
    simp only [Bool.false_eq_true, if_false]
    exact wpAny_pure ⟨rfl, rfl, fun u hu => hr u (List.mem_cons_of_mem _ hu)⟩
  · rintro ⟨r1, r2⟩ s1 ⟨e, rfl, _⟩
    cases (show r1 = none from e)
    exact wpAny_pure q
theorem byv_tup {n : Nat} {s : Shared} {b : Addr} {o : Obj} {vs : Array Value} {m : Nat} (ho : s.heap.get? b = some o) (hc : o.cls = .type "tuple") (hd : o.data = .seq vs m) (hall : ∀ v ∈ vs.toList, Asks P w (hashByValue n) true s v) : Asks P w (hashByValue (n + 1)) true s (.ref b) := fun A E Q q => by
  unfold hashByValue
  refine wpAny_bind (wpAny_specialOf (T := "tuple") ⟨o, ho, hc⟩ F.slot_tuple_hash.lookup ?_)
  refine wpAny_bind (wpAny_seqItems ho hd ?_)
  refine wpAny_bind ?_
  show wpAny _ _ (forIn vs _ _) _ _ s
  rw [← Array.forIn_toList]
  refine wpAny_forIn_list _ (fun rest r s' => r.1 = none ∧ s' = s ∧ ∀ v ∈ rest, Asks P w (hashByValue n) true s v) _ ?_ ?_ _ _ ⟨rfl, rfl, hall⟩
  · rintro v rest r s1 ⟨_, rfl, hr⟩
    refine wpAny_bind (hr v (List.mem_cons_self ..) _ _ _ ?_)
    simp only [Bool.not_true, Bool.false_eq_true, if_false]
    exact wpAny_pure ⟨rfl, rfl, fun u hu => hr u (List.mem_cons_of_mem _ hu)⟩
  · rintro ⟨r1, r2⟩ s1 ⟨e, rfl, _⟩
    cases (show r1 = none from e)
    exact wpAny_pure q
mutual
theorem cls_key {s : Shared} : ∀ (k : NestedKey) (v : Value) (n : Nat), NestedIs s.heap k v → k.depth ≤ n → Asks P w (ofAClassStatement n) false s v
  | .none, _, n, x, _ => by cases x; exact asks_pure (by cases n <;> rfl)
  | .num _, _, n, x, _ => by cases x <;> exact asks_pure (by cases n <;> rfl)
  | .text _, _, n, x, _ => by cases x; exact asks_pure (by cases n <;> rfl)
  | .tup ks, _, n, x, hn => by
    cases x with
    | tup h1 h2 h3 h4 =>
      simp only [NestedKey.depth] at hn
      cases n with
      | zero => omega
      | succ n => exact cls_tup h1 h2 h3 (cls_keys ks _ n h4 (by omega))
theorem cls_keys {s : Shared} : ∀ (ks : List NestedKey) (vs : List Value) (n : Nat), NestedAll s.heap ks vs → NestedKey.depthAll ks ≤ n → ∀ v ∈ vs, Asks P w (ofAClassStatement n) false s v
  | [], _, _, x, _, v, hv => by cases x; cases hv
  | k :: ks, _, n, x, hn, v, hv => by
    cases x with
    | cons x1 x2 =>
      simp only [NestedKey.depthAll] at hn
      rcases List.mem_cons.mp hv with e | hv
      · subst e; exact cls_key k _ n x1 (by omega)
      · exact cls_keys ks _ n x2 (by omega) v hv
end
mutual
theorem byv_key {s : Shared} : ∀ (k : NestedKey) (v : Value) (n : Nat), NestedIs s.heap k v → k.depth ≤ n → noTx k = true → Asks P w (hashByValue n) true s v
  | .none, _, n, x, _, _ => by cases x; exact asks_pure (by cases n <;> rfl)
  | .num _, _, n, x, _, _ => by cases x <;> exact asks_pure (by cases n <;> rfl)
  | .text _, _, n, x, _, h => by cases h
  | .tup ks, _, n, x, hn, h => by
    cases x with
    | tup h1 h2 h3 h4 =>
      simp only [NestedKey.depth] at hn
      cases n with
      | zero => omega
      | succ n => exact byv_tup h1 h2 h3 (byv_keys ks _ n h4 (by omega) h)
theorem byv_keys {s : Shared} : ∀ (ks : List NestedKey) (vs : List Value) (n : Nat), NestedAll s.heap ks vs → NestedKey.depthAll ks ≤ n → noTxs ks = true → ∀ v ∈ vs, Asks P w (hashByValue n) true s v
  | [], _, _, x, _, _, v, hv => by cases x; cases hv
  | k :: ks, _, n, x, hn, h, v, hv => by
    cases x with
    | cons x1 x2 =>
      obtain ⟨g1, g2⟩ := Bool.and_eq_true_iff.mp (show (noTx k && noTxs ks) = true from h)
      simp only [NestedKey.depthAll] at hn
      rcases List.mem_cons.mp hv with e | hv
      · subst e; exact byv_key k _ n x1 (by omega) g1
      · exact byv_keys ks _ n x2 (by omega) g2 v hv
end
/-- a key's object -/
def NK (h : Heap) (k : NestedKey) (b : Addr) : Prop := NestedIs h k (.ref b) ∧ k.depth ≤ 8 ∧ noTx k = true
theorem NK.kind {h : Heap} {k : NestedKey} {b : Addr} (x : NK h k b) : (nestedKind P w).is h k b := ⟨x.1, x.2.1⟩
theorem NK.inj {h : Heap} {k l : NestedKey} {b : Addr} (x : NK h k b) (y : NK h l b) : k = l := NestedIs.inj _ _ _ x.1 y.1
theorem seen_key {A : Around} {E : Value → Shared → Prop} {s : Shared} {k : NestedKey} {b : Addr} {ys : List Value} {Q : Bool → Shared → Prop} (hk : NK s.heap k b) (hy : ∀ y ∈ ys, ∃ l c, y = .ref c ∧ NK s.heap l c) (q : Q false s) : wpAny (model P w) A (searchCouldBeSeen (.ref b) ys) Q E s := by
  unfold searchCouldBeSeen
  refine wpAny_bind ?_
  refine wpAny_forIn_list _ (fun rest r s' => r.1 = none ∧ s' = s ∧ ∀ y ∈ rest, ∃ l c, y = .ref c ∧ NK s.heap l c) _ ?_ ?_ _ _ ⟨rfl, rfl, hy⟩
  · rintro v rest r s1 ⟨_, rfl, hr⟩
    obtain ⟨l, c, rfl, hc⟩ := hr v (List.mem_cons_self ..)
    dsimp only
    split
    · exact wpAny_pure ⟨rfl, rfl, fun u hu => hr u (List.mem_cons_of_mem _ hu)⟩
    · refine wpAny_bind ((nestedKind P w).quiet hk.kind ?_)
      simp only [Bool.not_true, Bool.false_eq_true, if_false]
      refine wpAny_bind ((nestedKind P w).quiet hc.kind ?_)
      simp only [Bool.not_true, Bool.false_eq_true, if_false]
      refine wpAny_bind (cls_key k _ 8 hk.1 hk.2.1 _ _ _ ?_)
      simp only [Bool.false_eq_true, if_false]
      refine wpAny_bind (cls_key l _ 8 hc.1 hc.2.1 _ _ _ ?_)
      simp only [Bool.false_eq_true, if_false]
      exact wpAny_pure ⟨rfl, rfl, fun u hu => hr u (List.mem_cons_of_mem _ hu)⟩
  · rintro ⟨r1, r2⟩ s1 ⟨e, rfl, _⟩
    cases (show r1 = none from e)
    exact wpAny_pure q
abbrev NRow := NestedKey × Addr
def hsOf (w : World) (L : List NRow) : List Int := L.map fun p => p.1.hash w
def esOf (w : World) (L : List NRow) : List (Int × Value) := L.map fun p => (p.1.hash w, .ref p.2)
/-- at a stands a set of these -/
structure SetN (P : Program) (w : World) (h : Heap) (a : Addr) (L : List NRow) (es : Array (Int × Value)) (ep : Nat) (t : SetTable) : Prop where
  ob : ∃ o, h.get? a = some o ∧ o.ExactSet ∧ o.data = .set es ep t
  rows : es.toList = esOf w L
  tab : TG t (hsOf w L)
  nd : (L.map (·.1)).Nodup
  key : ∀ p ∈ L, NK h p.1 p.2
  plain : t.plain = true
  led : w.params.followText "set-order" = true ∨ t.led = true
  room : L.length * 5 < t.mask * 3
  few : L.length ≤ 1200
variable {A : Around} {E : Value → Shared → Prop} {s : Shared} {a : Addr} {L : List NRow} {es : Array (Int × Value)} {ep : Nat} {t : SetTable}
theorem SetN.size (R : SetN P w s.heap a L es ep t) : es.size = L.length := by
  have := congrArg List.length R.rows
  simpa [esOf] using this
theorem SetN.psize (R : SetN P w s.heap a L es ep t) : t.place.toList.length = L.length := by
  have := R.tab.plen
  simpa [hsOf] using this
theorem SetN.fits (R : SetN P w s.heap a L es ep t) : t.fits es.size = true := by
  have h1 := R.psize
  have h2 := R.size
  have h3 := R.room
  rw [Array.length_toList] at h1
  simp only [SetTable.fits, SetTable.fill, R.tab.nod, Bool.and_eq_true, beq_iff_eq, decide_eq_true_eq, List.size_toArray, List.length_nil]
  omega
theorem SetN.at_ (R : SetN P w s.heap a L es ep t) {i : Nat} {p : NRow} (h : L[i]? = some p) : es[i]? = some (p.1.hash w, .ref p.2) := by
  rw [← Array.getElem?_toList, R.rows, esOf, List.getElem?_map, h]; rfl
theorem SetN.odd (R : SetN P w s.heap a L es ep t) : t.gaveWay = false := by
  unfold SetTable.gaveWay
  rcases R.tab.msk with e | e | e | e | e <;> rw [e] <;> rfl
theorem same_here (t : SetTable) : t.sameMemory t.moves t.mask = some true := by
  unfold SetTable.sameMemory
  simp
/-- the state behind c steps -/
abbrev stp_ (t : SetTable) (h : Int) (c : Nat) : SetTable.Probe := nth t.mask (runAt t.mask (SetTable.bits h % (t.mask + 1)) (SetTable.bits h)) c
theorem stp_dummy (t : SetTable) (h : Int) : ∀ c, (stp_ t h c).dummy = none
  | 0 => rfl
  | c + 1 => by
    show (nth _ _ (c + 1)).dummy = none
    rw [nth_succ]
    have := stp_dummy t h c
    unfold adv
    split <;> exact this
theorem stp_add (t : SetTable) (h : Int) (c q : Nat) : nth t.mask (stp_ t h c) q = stp_ t h (c + q) := (nth_add t.mask c _ q).symm
theorem search_n (R : SetN P w s.heap a L es ep t) {x : Addr} {k : NestedKey} (hx : NK s.heap k x) (hu : A.units + 8 < cLine) {n : Nat} (n1 : n < 10 * SetTable.turns t.mask)
    (n2 : way t.mask (k.hash w) n ∉ t.place.toList) (n3 : ∀ c, c < n → way t.mask (k.hash w) c ∈ t.place.toList) {Q : SetFound → Shared → Prop}
    (hin : k ∈ L.map (·.1) → Q (.there none) s) (hout : k ∉ L.map (·.1) → Q (.free (way t.mask (k.hash w) n) false) s) :
    ∀ (f c : Nat) (st : Option SetTable.Probe), st.getD (t.probeStart (k.hash w)) = stp_ t (k.hash w) c → c ≤ n → n - c < f →
      (∀ (i : Nat) (b : Addr), L[i]? = some (k, b) → ∃ d, c ≤ d ∧ d < n ∧ t.place.toList[i]? = some (way t.mask (k.hash w) d)) →
      wpAny (model P w) A (setSearchFrom a (.ref x) (k.hash w) true f st) Q E s
  | 0, _, _, _, _, hf, _ => (Nat.not_lt_zero _ hf).elim
  | f + 1, c, st, hst, hc, hf, hre => by
    obtain ⟨o, ho, hex, hd⟩ := R.ob
    rw [setSearchFrom_succ]
    refine wpAny_bind (wpAny_setState_of ho hd R.fits ?_)
    dsimp only
    rw [R.odd]
    simp only [Bool.false_eq_true, if_false]
    refine wpAny_bind (wpAny_pure ?_)
    have wy : ∀ q, (nth t.mask (stp_ t (k.hash w) c) q).j = way t.mask (k.hash w) (c + q) := fun q => congrArg SetTable.Probe.j (stp_add t _ c q)
    have hAt : ∀ {i : Nat} {p : NRow}, L[i]? = some p → (fun i => (es[i]?.map (·.1)).getD 0) i = p.1.hash w := fun {i p} hp => by
      show (es[i]?.map (·.1)).getD 0 = _
      rw [R.at_ hp]; rfl
    have goes := go_spec t R.tab.up R.tab.nod (fun i => (es[i]?.map (·.1)).getD 0) (k.hash w) (10 * SetTable.turns t.mask) (n - c) (stp_ t (k.hash w) c) (stp_dummy t _ c) (by omega)
      (fun q hq => by rw [wy]; exact n3 _ (by omega)) (by rw [wy, show c + (n - c) = n from by omega]; exact n2)
    have probe : t.probe (fun i => (es[i]?.map (·.1)).getD 0) (k.hash w) (st.getD (t.probeStart (k.hash w))) = SetTable.probe.go t (fun i => (es[i]?.map (·.1)).getD 0) (k.hash w) (10 * SetTable.turns t.mask) (stp_ t (k.hash w) c) := by rw [hst]; rfl
    rcases goes with ⟨q, i, q1, q2, q3, q4, q5⟩ | ⟨q4, q5⟩
    · rw [probe, q5]
      dsimp only
      rw [wy, stp_add] 
      rw [wy] at q2
      have il : i < L.length := by rw [← R.psize]; exact (List.getElem?_eq_some_iff.mp q2).1
      obtain ⟨p, hp⟩ : ∃ p, L[i]? = some p := ⟨_, List.getElem?_eq_getElem il⟩
      have pm : p ∈ L := List.mem_of_getElem? hp
      have live := slot_live R.tab.up q2
      have rest : wpAny (model P w) A (searchRest a (.ref x) (k.hash w) true f es t (way t.mask (k.hash w) (c + q)) i (stp_ t (k.hash w) (c + (q + 1)))) Q E s := by
        unfold searchRest
        rw [R.at_ hp]
        dsimp only
        refine wpAny_bind (wpAny_holding ((nestedKind P w).eqBool hu (R.key p pm).kind hx.kind ?_))
        refine wpAny_bind (wpAny_setState_of ho hd R.fits ?_)
        dsimp only
        by_cases e : p.1 = k
        · rw [decide_eq_true e]
          simp only [Bool.and_self, if_true]
          exact wpAny_pure (hin (List.mem_map.mpr ⟨p, pm, e⟩))
        · rw [decide_eq_false e]
          simp only [Bool.and_false, Bool.false_eq_true, if_false]
          refine wpAny_bind (wpAny_pure ?_)
          rw [same_here]
          dsimp only
          simp only [if_true, live, R.at_ hp]
          refine wpAny_bind (wpAny_isSame_ref_self (wpAny_bind (wpAny_pure ?_)))
          simp only [if_true, Bool.false_eq_true, if_false]
          refine search_n R hx hu n1 n2 n3 hin hout f (c + (q + 1)) _ rfl (by omega) (by omega) fun i2 b h2 => ?_
          obtain ⟨d, d1, d2, d3⟩ := hre i2 b h2
          refine ⟨d, ?_, d2, d3⟩
          by_cases z : d < c + q
          · refine (q4 (d - c) i2 (by omega) ?_ (hAt h2)).elim
            rw [wy, show c + (d - c) = d from by omega]; exact d3
          · by_cases y : d = c + q
            · subst y
              have l2 := slot_live R.tab.up d3
              rw [live] at l2
              cases l2
              rw [hp] at h2
              cases h2
              exact (e rfl).elim
            · omega
      by_cases hl : t.led = true
      · rw [hl]
        simp only [Bool.not_true, Bool.false_eq_true, if_false]
        refine wpAny_bind (wpAny_pure rest)
      · rw [Bool.not_eq_true] at hl
        rw [hl]
        simp only [Bool.not_false, if_true]
        refine wpAny_bind (seen_key hx (fun y hy => ?_) ?_)
        · obtain ⟨e, he, rfl⟩ := List.mem_map.mp hy
          have h1 : e ∈ es.toList := by
            have : e ∈ es ∧ e.1 = k.hash w := by simpa using he
            simpa using this.1
          rw [R.rows] at h1
          obtain ⟨p2, h2, rfl⟩ := List.mem_map.mp h1
          exact ⟨p2.1, p2.2, rfl, R.key p2 h2⟩
        · simp only [Bool.false_eq_true, if_false]
          exact rest
    · rw [probe, q5]
      dsimp only
      rw [wy, show c + (n - c) = n from by omega]
      refine wpAny_pure (hout fun hm => ?_)
      obtain ⟨⟨k2, b⟩, h1, rfl⟩ := List.mem_map.mp hm
      obtain ⟨i, hi, e⟩ := List.getElem_of_mem h1
      have hL : L[i]? = some (k2, b) := by rw [List.getElem?_eq_getElem hi, e]
      obtain ⟨d, d1, d2, d3⟩ := hre i b hL
      refine q4 (d - c) i (by omega) ?_ (hAt hL)
      rw [wy, show c + (d - c) = d from by omega]; exact d3
theorem search_add (R : SetN P w s.heap a L es ep t) {x : Addr} {k : NestedKey} (hx : NK s.heap k x) (hu : A.units + 8 < cLine) {Q : SetFound → Shared → Prop}
    (hin : k ∈ L.map (·.1) → Q (.there none) s)
    (hout : ∀ n, k ∉ L.map (·.1) → way t.mask (k.hash w) n ∉ t.place.toList → (∀ c, c < n → way t.mask (k.hash w) c ∈ t.place.toList) → Q (.free (way t.mask (k.hash w) n) false) s) :
    wpAny (model P w) A (setSearch a (.ref x) (k.hash w) true) Q E s := by
  have room := R.room
  obtain ⟨n, n1, n2, n3⟩ := R.tab.first (by simp only [hsOf, List.length_map]; omega) (k.hash w)
  have small : n < 100000 := by
    have : 10 * SetTable.turns t.mask ≤ 10 * 2062 := by
      show 10 * (t.mask + 15) ≤ _
      rcases R.tab.msk with e | e | e | e | e <;> omega
    omega
  unfold setSearch
  refine search_n R hx hu n1 n2 n3 hin (fun h => hout n h n2 n3) 100000 0 none rfl (Nat.zero_le _) (by omega) fun i b hL => ?_
  have il : i < t.place.toList.length := by rw [R.psize]; exact (List.getElem?_eq_some_iff.mp hL).1
  obtain ⟨d, d1, d2⟩ := R.tab.ahead n2 (i := i) (h := k.hash w) (by rw [hsOf, List.getElem?_map, hL]; rfl) (List.getElem?_eq_getElem il)
  exact ⟨d, Nat.zero_le _, d1, by rw [List.getElem?_eq_getElem il, d2]⟩
theorem NK.but {h h' : Heap} {k : NestedKey} {a b : Addr} {o : Obj} {es : Array (Int × Value)} {ep : Nat} {t : SetTable} (x : NK h k b) (ho : h.get? a = some o) (hd : o.data = .set es ep t) (hs : Heap.SameBut a h h') : NK h' k b :=
  ⟨NestedIs.at (fun c ob vs n h1 h2 => by
    have ne : c ≠ a := by
      intro e
      subst e
      rw [ho] at h1
      cases h1
      rw [hd] at h2
      cases h2
    rw [hs.2 c ne]; exact h1) k _ x.1, x.2⟩
theorem perm_put {α : Type} (l : List α) (p : Nat) (x : α) : (l.take p ++ x :: l.drop p).Perm (x :: l) :=
  List.perm_middle.trans (by rw [List.take_append_drop])
theorem range_get {α : Type} (l : List α) : (List.range l.length).filterMap (fun i => l[i]?) = l := by
  suffices h : ∀ n, n ≤ l.length → (List.range n).filterMap (fun i => l[i]?) = l.take n by
    rw [h _ (Nat.le_refl _), List.take_length]
  intro n
  induction n with
  | zero => intro _; rfl
  | succ n ih =>
    intro h
    rw [List.range_succ, List.filterMap_append, ih (by omega), List.take_succ]
    congr 1
/-- the rows in another order -/
theorem reorder {order : Array Nat} (hr : es.toList = esOf w L) (hp : order.toList.Perm (List.range L.length)) :
    ∃ M, (order.filterMap (es[·]?)).toList = esOf w M ∧ M.Perm L ∧ hsOf w M = order.toList.map fun i => (es.map (·.1)).getD i 0 := by
  have ent : ∀ i, es[i]? = (L[i]?).map fun p : NRow => (p.1.hash w, Value.ref p.2) := fun i => by rw [← Array.getElem?_toList, hr, esOf, List.getElem?_map]
  refine ⟨order.toList.filterMap (L[·]?), ?_, ?_, ?_⟩
  · rw [Array.toList_filterMap, esOf, List.map_filterMap]
    congr 1
    funext i
    exact ent i
  · refine (hp.filterMap _).trans (List.Perm.of_eq ?_)
    exact range_get L
  · have hb : ∀ i ∈ order.toList, i < L.length := fun i hi => List.mem_range.mp (hp.mem_iff.mp hi)
    clear hp
    unfold hsOf
    generalize order.toList = ol at hb ⊢
    induction ol with
    | nil => rfl
    | cons i l ih =>
      have hi := hb i (List.mem_cons_self ..)
      rw [List.filterMap_cons_some (List.getElem?_eq_getElem hi), List.map_cons, List.map_cons, ih fun j hj => hb j (List.mem_cons_of_mem _ hj)]
      congr 1
      rw [Array.getD_eq_getD_getElem?, Array.getElem?_map, ent, List.getElem?_eq_getElem hi]
      rfl
theorem relay_n {o : Obj} (ho : s.heap.get? a = some o) (hex : o.ExactSet) (hd : o.data = .set es ep t) (hrows : es.toList = esOf w L) (hT : TG t (hsOf w L)) (hle : L.length ≤ t.mask)
    (nd : (L.map (·.1)).Nodup) (key : ∀ p ∈ L, NK s.heap p.1 p.2) (pl : t.plain = true) (ld : w.params.followText "set-order" = true ∨ t.led = true) (few : L.length ≤ 1200) {wanted m : Nat}
    (hw : SetTable.sizeAbove wanted - 1 = m) (hm : MK m) (hn : L.length * 5 < m * 3) {Q : Unit → Shared → Prop}
    (hQ : ∀ h' M es' ep' t', Heap.SameBut a s.heap h' → SetN P w h' a M es' ep' t' → M.Perm L → Q () { s with heap := h' }) : wpAny (model P w) A (setRelay a wanted) Q E s := by
  have sz : es.size = L.length := by
    have := congrArg List.length hrows
    simpa [esOf] using this
  have pz : t.place.size = L.length := by
    have := hT.len
    simpa [hsOf] using this
  have fits : t.fits es.size = true := by
    simp only [SetTable.fits, SetTable.fill, hT.nod, Bool.and_eq_true, beq_iff_eq, decide_eq_true_eq, List.size_toArray, List.length_nil]
    omega
  obtain ⟨t', order, e, hp, T, em, el, ep'⟩ := relay_ok t (hs := es.map (·.1)) (wanted := wanted) hw hm (by rw [Array.size_map]; omega)
  rw [Array.size_map, sz] at hp
  obtain ⟨M, r1, r2, r3⟩ := reorder hrows hp
  rw [← r3] at T
  have sz2 : (order.filterMap (es[·]?)).size = es.size := by
    have := congrArg List.length r1
    rw [esOf, List.length_map, Array.length_toList, r2.length_eq] at this
    omega
  have big : ¬ SetTable.sizeAbove wanted > sizeLine := by
    rw [sizeLine_eq]
    rcases hm with e | e | e | e <;> omega
  rw [setRelay_eq]
  refine wpAny_bind (wpAny_setState_of ho hd fits ?_)
  dsimp only
  rw [if_neg big]
  refine wpAny_bind ?_
  rw [e]
  dsimp only
  rw [if_neg (by rw [sz2]; simp)]
  refine wpAny_pure ?_
  dsimp only
  refine wpAny_storeSet_of ho hd ?_ (by rw [sz2, sz, sizeLine_eq]; omega)
  have sb : Heap.SameBut a s.heap (s.heap.update a (Obj.putSet (order.filterMap (es[·]?)) t')) := Heap.SameBut.update ..
  refine hQ _ M _ (ep + 1) t' sb ⟨⟨_, store_at ho hd, ⟨hex.1, hex.2.1, hex.2.2⟩, rfl⟩, r1, T, (r2.map _).nodup_iff.mpr nd, fun p hp => (key p (r2.mem_iff.mp hp)).but ho hd sb, by rw [ep', pl], by rw [el]; exact ld, by rw [r2.length_eq, em]; exact hn, by rw [r2.length_eq]; exact few⟩ r2
theorem add_n (R : SetN P w s.heap a L es ep t) {x : Addr} {k : NestedKey} (hx : NK s.heap k x) (hu : A.units + 8 < cLine) (few : L.length + 1 ≤ 1200) {Q : Bool → Shared → Prop}
    (hQ : ∀ b h' M es' ep' t', Heap.SameBut a s.heap h' → SetN P w h' a M es' ep' t' → (k ∈ L.map (·.1) → M = L) → (k ∉ L.map (·.1) → M.Perm ((k, x) :: L)) → Q b { s with heap := h' }) :
    wpAny (model P w) A (setAddHashed a (.ref x) (k.hash w)) Q E s := by
  obtain ⟨o, ho, hex, hd⟩ := R.ob
  have sz := R.size
  have room := R.room
  have pl0 := R.plain
  unfold setAddHashed
  refine wpAny_holding ?_
  rw [show (100000 : Nat) = 99999 + 1 from rfl, setAddHashedIn_succ]
  refine wpAny_bind (wpAny_setState_of ho hd R.fits ?_)
  dsimp only
  have scan : byScan (.ref x) es = false := by simp [byScan, Value.scannable]
  rw [scan]
  simp only [Bool.false_eq_true, if_false]
  refine wpAny_bind (search_add R hx hu (fun hm => ?_) fun n hm n2 n3 => ?_)
  · exact wpAny_pure (hQ false s.heap L es ep t (Heap.SameBut.refl a s.heap) R (fun _ => rfl) fun z => (z hm).elim)
  · dsimp only
    refine wpAny_bind (wpAny_setState_of ho hd R.fits ?_)
    dsimp only
    obtain ⟨p, t1, e, hp, T1, m1, l1, pl1, mv1, f1⟩ := R.tab.add n2 n3
    rw [e]
    dsimp only
    have hlen : (hsOf w L).length = L.length := by simp [hsOf]
    rw [hlen] at hp f1
    rw [pl1, pl0]
    simp only [if_true]
    refine wpAny_bind (byv_key k _ 8 hx.1 hx.2.1 hx.2.2 _ _ _ ?_)
    simp only [if_true]
    have pm := perm_put L p (k, x)
    have rows1 : (SetTable.insertAt es p (k.hash w, Value.ref x)).toList = esOf w (L.take p ++ (k, x) :: L.drop p) := by
      rw [SetTable.toList_insertAt, R.rows, esOf, esOf, List.map_append, List.map_cons, List.map_take, List.map_drop]
    have hs1 : (hsOf w L).take p ++ k.hash w :: (hsOf w L).drop p = hsOf w (L.take p ++ (k, x) :: L.drop p) := by
      simp only [hsOf, List.map_append, List.map_cons, List.map_take, List.map_drop]
    rw [hs1] at T1
    generalize L.take p ++ (k, x) :: L.drop p = M at pm rows1 T1
    have len1 : M.length = L.length + 1 := pm.length_eq
    have es1 : (SetTable.insertAt es p (k.hash w, Value.ref x)).size = L.length + 1 := by
      have := congrArg List.length rows1
      rw [Array.length_toList, esOf, List.length_map, len1] at this
      exact this
    generalize SetTable.insertAt es p (k.hash w, Value.ref x) = es' at rows1 es1 ⊢
    have nd1 : (M.map (·.1)).Nodup := (pm.map _).nodup_iff.mpr (List.nodup_cons.mpr ⟨hm, R.nd⟩)
    refine wpAny_bind (wpAny_storeSet_of ho hd ?_ (by rw [es1, sizeLine_eq]; omega))
    have sb : Heap.SameBut a s.heap (s.heap.update a (Obj.putSet es' t1)) := Heap.SameBut.update ..
    have ho1 := store_at (es' := es') (t' := t1) ho hd
    generalize s.heap.update a (Obj.putSet es' t1) = h1 at sb ho1 ⊢
    have key1 : ∀ q ∈ M, NK h1 q.1 q.2 := fun q hq => by
      rcases List.mem_cons.mp (pm.mem_iff.mp hq) with rfl | hq
      · exact hx.but ho hd sb
      · exact (R.key q hq).but ho hd sb
    have ld1 : w.params.followText "set-order" = true ∨ t1.led = true := by rw [l1]; exact R.led
    have full : t1.tooFull = decide ((L.length + 1) * 5 ≥ t.mask * 3) := by
      unfold SetTable.tooFull
      rw [f1, m1]
    rw [full]
    by_cases hf : (L.length + 1) * 5 ≥ t.mask * 3
    · rw [decide_eq_true hf]
      simp only [Bool.not_false, Bool.and_self, if_true]
      have go : ∀ m, SetTable.sizeAbove (SetTable.grown (es.size + 1)) - 1 = m → MK m → M.length * 5 < m * 3 → wpAny (model P w) A (setRelay a (SetTable.grown (es.size + 1))) (fun _ s' => wpAny (model P w) A (pure true) Q E s') E { s with heap := h1 } := fun m g1 g2 g3 =>
        relay_n (s := { s with heap := h1 }) ho1 ⟨hex.1, hex.2.1, hex.2.2⟩ rfl rows1 T1 (by rw [len1, m1]; omega) nd1 key1 (by rw [pl1, pl0]) ld1 (by omega) g1 g2 g3 fun h2 M2 es2 ep2 t2 sb2 R2 pm2 => wpAny_pure (hQ true h2 M2 es2 ep2 t2 (sb.trans sb2) R2 (fun z => (hm z).elim) fun _ => pm2.trans pm)
      refine wpAny_bind ?_
      rw [sz] at go ⊢
      rcases R.tab.msk with z | z | z | z | z <;> rw [z] at hf room
      · have : L.length = 4 := by omega
        rw [this] at go ⊢
        exact go 31 grow7 (.inr (.inl rfl)) (by omega)
      · have : L.length = 18 := by omega
        rw [this] at go ⊢
        exact go 127 grow31 (.inr (.inr (.inl rfl))) (by omega)
      · have : L.length = 76 := by omega
        rw [this] at go ⊢
        exact go 511 grow127 (.inr (.inr (.inr (.inl rfl)))) (by omega)
      · have : L.length = 306 := by omega
        rw [this] at go ⊢
        exact go 2047 grow511 (.inr (.inr (.inr (.inr rfl)))) (by omega)
      · omega
    · rw [decide_eq_false hf]
      simp only [Bool.and_false, Bool.false_eq_true, if_false]
      exact wpAny_pure (hQ true h1 M es' (ep + 1) t1 sb ⟨⟨_, ho1, ⟨hex.1, hex.2.1, hex.2.2⟩, rfl⟩, rows1, T1, nd1, key1, by rw [pl1, pl0], ld1, by rw [len1, m1]; omega, by omega⟩ (fun z => (hm z).elim) fun _ => pm)
end
end Lt
namespace Lt
open PySem L2 PySem.Spec PyProof.Rows
/-- what the set has of the first i -/
structure GotN (ks : List NRow) (i : Nat) (L : List NRow) : Prop where
  sub : ∀ p ∈ L, p ∈ ks.take i
  all : ∀ p ∈ ks.take i, p.1 ∈ L.map (·.1)
  len : L.length ≤ i
theorem GotN.nil (ks : List NRow) : GotN ks 0 [] := ⟨nofun, fun p h => by simp at h, Nat.le_refl _⟩
theorem GotN.old {ks L : List NRow} {i : Nat} {x : NRow} (g : GotN ks i L) (h : ks[i]? = some x) (m : x.1 ∈ L.map (·.1)) : GotN ks (i + 1) L := by
  have e : ks.take (i + 1) = ks.take i ++ [x] := by rw [List.take_succ, h]; rfl
  refine ⟨fun p hp => by rw [e]; exact List.mem_append_left _ (g.sub p hp), fun p hp => ?_, by have := g.len; omega⟩
  rw [e, List.mem_append, List.mem_singleton] at hp
  exact hp.elim (g.all p) fun z => z ▸ m
theorem GotN.new {ks L M : List NRow} {i : Nat} {x : NRow} (g : GotN ks i L) (h : ks[i]? = some x) (pm : M.Perm (x :: L)) : GotN ks (i + 1) M := by
  have e : ks.take (i + 1) = ks.take i ++ [x] := by rw [List.take_succ, h]; rfl
  refine ⟨fun p hp => ?_, fun p hp => ?_, by rw [pm.length_eq, List.length_cons]; have := g.len; omega⟩
  · rw [e, List.mem_append, List.mem_singleton]
    exact (List.mem_cons.mp (pm.mem_iff.mp hp)).symm.imp (g.sub p) id
  · rw [(pm.map (·.1)).mem_iff, List.map_cons, List.mem_cons]
    rw [e, List.mem_append, List.mem_singleton] at hp
    exact hp.symm.imp (fun z => by rw [z]) (g.all p)
section
variable {P : Program} {w : World} {A : Around} {E : Value → Shared → Prop} {s : Shared}
theorem NK.on {h h' : Heap} {k : NestedKey} {b : Addr} (x : NK h k b) (hk : ∀ c o, h.get? c = some o → h'.get? c = some o) : NK h' k b := ⟨NestedIs.at (fun c ob vs n h1 _ => hk c ob h1) k _ x.1, x.2⟩
theorem SetN.on {h h' : Heap} {a : Addr} {L : List NRow} {es : Array (Int × Value)} {ep : Nat} {t : SetTable} (R : SetN P w h a L es ep t) (ha : ∀ o, h.get? a = some o → h'.get? a = some o) (hk : ∀ p ∈ L, NK h' p.1 p.2) : SetN P w h' a L es ep t :=
  let ⟨o, ho, r⟩ := R.ob
  ⟨⟨o, ha o ho, r⟩, R.rows, R.tab, R.nd, hk, R.plain, R.led, R.room, R.few⟩
/-- a set newly made -/
abbrev newS (w : World) : Obj := { cls := .type "set", dict := none, data := .set #[] 0 (.fresh 0 0 (!w.params.followText "set-order")) }
theorem setN_new {h : Heap} {a : Addr} (ho : h.get? a = some (newS w)) : SetN P w h a [] #[] 0 (.fresh 0 0 (!w.params.followText "set-order")) := by
  refine ⟨⟨_, ho, ⟨rfl, rfl, rfl⟩, rfl⟩, rfl, ⟨.nil, rfl, rfl, .inl rfl, nofun, fun {i h j} e => by simp [hsOf] at e⟩, .nil, nofun, rfl, ?_, (by decide : 0 * 5 < 7 * 3), by decide⟩
  cases w.params.followText "set-order" with
  | false => exact .inr rfl
  | true => exact .inl rfl
theorem fill_set {I : Addr} {fp wr : List Addr} {G : Array GenState → Array GenState → Prop} {n : Nat} {Pv : Nat → Value → Prop} {St : Nat → Shared → Prop} {R : Result → Shared → Prop}
    (W : WalksS P w A.in1 I fp wr G n Pv St) (a : Addr) (afp : a ∉ fp) (ks : List NRow) (hn : n = ks.length) (few : ks.length ≤ 1200) (val : ∀ i v, Pv i v → ∃ p : NRow, ks[i]? = some p ∧ v = .ref p.2)
    (h0 : Heap) (hk : ∀ p ∈ ks, NK h0 p.1 p.2) (a0 : h0.get? a = none) (w0 : ∀ b ∈ wr, h0.get? b = none) (hu : A.in1.units + 8 < cLine) :
    ∀ (k i : Nat) (s : Shared), n - i = k → i ≤ n → St i s → (∀ b o, h0.get? b = some o → s.heap.get? b = some o) → (∃ L es ep t, SetN P w s.heap a L es ep t ∧ GotN ks i L) →
      (∀ s' L es ep t, Moved (a :: wr) G s s' → SetN P w s'.heap a L es ep t → GotN ks n L → (∀ b o, h0.get? b = some o → s'.heap.get? b = some o) → R (.ok (.ret .none)) s') →
      codeAny (model P w) A (.builtin "set.update.loop" ⟨[.ref a, .ref I], []⟩) R s := by
  have awr : a ∉ wr := fun z => afp (W.sub _ z)
  have up : ∀ b ∈ wr, b ∈ a :: wr := fun b z => List.mem_cons_of_mem _ z
  have still : ∀ {s1 s2 : Shared}, Moved wr G s1 s2 → (∀ b o, h0.get? b = some o → s1.heap.get? b = some o) → ∀ b o, h0.get? b = some o → s2.heap.get? b = some o := fun m q b o e =>
    m.heap b o (fun z => by rw [w0 b z] at e; cases e) (q b o e)
  intro k
  induction k with
  | zero =>
    rintro i s1 h1 h2 st q ⟨L, es, ep, t, S, g⟩ hR
    obtain rfl : i = n := by omega
    refine codeAny_builtin F.entry_set_update_loop ?_
    rw [Around.under_plainId F.plain_set_update_loop _]
    refine wpAny_bind (W.done s1 _ _ st fun s2 m => ?_)
    have q2 := still m q
    exact wpAny_pure (hR s2 L es ep t (m.mono up) (S.on (fun o e => m.heap a o awr e) fun p hp => (hk p (List.mem_of_mem_take (g.sub p hp))).on q2) g q2)
  | succ k ih =>
    rintro i s1 h1 h2 st q ⟨L, es, ep, t, S, g⟩ hR
    have lt : i < n := by omega
    refine codeAny_builtin F.entry_set_update_loop ?_
    rw [Around.under_plainId F.plain_set_update_loop _]
    refine wpAny_bind (W.item i s1 _ _ lt st fun v s2 pv st2 m => ?_)
    obtain ⟨x, hx, rfl⟩ := val i v pv
    have q2 := still m q
    have S2 : SetN P w s2.heap a L es ep t := S.on (fun o e => m.heap a o awr e) fun p hp => (hk p (List.mem_of_mem_take (g.sub p hp))).on q2
    have xk : NK s2.heap x.1 x.2 := (hk x (List.mem_of_getElem? hx)).on q2
    refine wpAny_bind (wpAny_holding ?_)
    unfold setAdd
    refine wpAny_holding (wpAny_bind ((nestedKind P w).pyHash hu xk.kind ?_))
    refine add_n (s := { s2 with toks := s2.toks + (nestedKind P w).draws x.1 }) S2 xk hu (by have := g.len; omega) fun b h3 M es' ep' t' sb S3 c1 c2 => ?_
    have g3 : GotN ks (i + 1) M := by
      by_cases c : x.1 ∈ L.map (·.1)
      · rw [c1 c]; exact g.old hx c
      · exact g.new hx (c2 c)
    have q3 : ∀ b o, h0.get? b = some o → h3.get? b = some o := fun b o e => (sb.2 b fun z => by rw [z, a0] at e; cases e).trans (q2 b o e)
    refine wpAny_pure ⟨plainId_quiet F.plain_set_update_loop _, ih (i + 1) _ (by omega) lt (W.frame _ s2 _ _ st2 (Nat.le_add_right _ _) fun b hb o e => ?_) q3 ⟨M, es', ep', t', S3, g3⟩ fun s4 L4 es4 ep4 t4 m4 S4 g4 q4 => ?_⟩
    · rw [sb.2 b fun z => afp (z ▸ hb)]; exact e
    · refine hR s4 L4 es4 ep4 t4 (Moved.trans W.gtrans ((m.mono up).then_heap (Nat.le_add_right _ _) fun b o hb e => ?_) m4) S4 g4 q4
      rw [sb.2 b fun z => hb (by rw [z]; exact List.mem_cons_self ..)]; exact e
set_option maxHeartbeats 8000000 in
theorem call_setN {l : Addr} {items : Array Value} (ks : List NRow) {Q : Value → Shared → Prop} (hh : A.handled = none) (hl : s.heap.IsList l items) (hit : items.toList = ks.map fun p => Value.ref p.2)
    (hk : ∀ p ∈ ks, NK s.heap p.1 p.2) (few : ks.length ≤ 1200) (hu : A.units + 3 + 8 < cLine)
    (h : ∀ (h' : Heap) (tk : Nat) L es ep t, SetN P w h' s.heap.objs.size L es ep t → GotN ks ks.length L → (∀ b o, s.heap.get? b = some o → h'.get? b = some o) → Q (.ref s.heap.objs.size) { s with heap := h', toks := tk }) :
    wpAny (model P w) A (call (.type "set") [.ref l]) Q E s := by
  have iz : items.size = ks.length := by
    have := congrArg List.length hit
    simpa using this
  obtain ⟨m1, m2, m3⟩ := F.called_set.mro
  have y1 := F.called_set.made
  have y2 := F.called_set.sub
  refine wpAny_call (codeAny_of_tree ?_)
  show wpAny _ _ (callAny (.type "set") _) _ _ _
  refine wpAny_pure ⟨Code.quiet_builtin _ (by decide +kernel), codeAny_builtin F.entry_type_call ?_⟩
  rw [Around.under_plain (weight_type_call_type "set" [.ref l] []) rfl]
  have y3 := F.called_set.notType
  have y4 := F.called_set.canCreate
  have y5 := F.typeCall_set_1 (.ref l)
  repeat (any_goals (first | assumption | wp_step))
  refine codeAny_mono (code_set_led1 (.ref l) (E := E) (Q₁ := fun ob s1 => ob = .ref s.heap.objs.size ∧ s1 = { s with heap := s.heap.push (newS w) }) ⟨rfl, rfl⟩) fun r s1 hr => ?_
  cases r with
  | error e => exact hr
  | ok fl =>
    cases fl with
    | ret ob =>
      obtain ⟨rfl, rfl⟩ := hr
      have hS : (s.heap.push (newS w)).get? s.heap.objs.size = some (newS w) := Heap.get?_push_size _ rfl
      have hT : Shared.TypeIs { s with heap := s.heap.push (newS w) } (.ref s.heap.objs.size) "set" := ⟨_, hS, rfl⟩
      have y6 := F.called_set.init.lookup
      have y7 := F.called_set.init.bind (.ref s.heap.objs.size)
      repeat (any_goals (first | assumption | wp_step))
      refine codeAny_mono (codeAny_call_builtin (R := wants (fun r s2 => r = .none ∧ ∃ h' tk L es ep t, s2 = { s with heap := h', toks := tk } ∧ SetN P w h' s.heap.objs.size L es ep t ∧ GotN ks ks.length L ∧
          (∀ b o, s.heap.get? b = some o → h'.get? b = some o)) E) F.called_set.init.plain F.entry_set_init (check_set_init_1 hT ?_)) fun r2 s2 hr2 => ?_
      · obtain ⟨ol, z1, z2, z3, z4⟩ := hl
        obtain ⟨oc, od, oa, os⟩ := ol
        dsimp only at z2 z4
        subst z2 z4
        have z5 : (s.heap.push (newS w)).get? l = some { cls := .type "list", dict := od, data := .seq items z3, slots := os } := Heap.get?_push_of_some _ z1
        have x1 := F.sub_list_set
        have x2 := F.sub_list_frozenset
        have x3 : (Value.type "list" == Value.type "dict") = false := by decide +kernel
        have lst : (s.heap.push (newS w)).IsList l items := ⟨_, z5, rfl, z3, rfl⟩
        unfold Builtin.«set.__init__» noKeywords Builtin.Frozenset.updateFrom
        generalize hit2 : pyIter = PI
        wp_walk
        subst hit2
        refine wpAny_pyIter_list lst ?_
        refine wpAny_bind (wpAny_runValue ?_)
        have ls : l < s.heap.objs.size := Heap.lt_size z1
        have sz1 : (s.heap.push (newS w)).objs.size = s.heap.objs.size + 1 := Heap.size_push ..
        have nl : l ≠ (s.heap.push (newS w)).objs.size := by rw [sz1]; exact Nat.ne_of_lt (Nat.lt_succ_of_lt ls)
        have hd3 : A.in1.in1.in1.handled = none := by simp [hh]
        have away : s.heap.objs.size ∉ [(s.heap.push (newS w)).objs.size, l] := by
          rw [sz1]
          simp only [List.mem_cons, List.not_mem_nil, or_false, not_or]
          exact ⟨Nat.ne_of_lt (Nat.lt_succ_self _), Nat.ne_of_gt ls⟩
        have none_ : ∀ b, s.heap.objs.size ≤ b → s.heap.get? b = none := fun b hb => by
          cases q : s.heap.get? b with
          | none => rfl
          | some o => exact (Nat.lt_irrefl _ (Nat.lt_of_lt_of_le (Heap.lt_size q) hb)).elim
        refine fill_set ((Walks.list hd3 _ l nl items).toS) s.heap.objs.size away ks iz few (fun i v hv => ?_) s.heap hk (none_ _ (Nat.le_refl _)) (fun b hb => none_ b ?_) hu (items.size - 0) 0 _ (by omega) (Nat.zero_le _)
          ⟨⟨_, Heap.get?_push_size _ rfl, rfl, rfl⟩, lst.push _⟩ (fun b o e => Heap.get?_push_of_some _ (Heap.get?_push_of_some _ e)) ⟨[], #[], 0, _, setN_new (Heap.get?_push_of_some _ hS), GotN.nil ks⟩ ?_
        · have q : items.toList[i]? = some v := by rw [Array.getElem?_toList]; exact hv
          rw [hit, List.getElem?_map] at q
          obtain ⟨p, e1, e2⟩ := Option.map_eq_some_iff.mp q
          exact ⟨p, e1, e2.symm⟩
        · rw [List.mem_singleton.mp hb, sz1]
          omega
        · intro s3 L es ep t m S3 g3 q3
          obtain ⟨h3, g4, d3, tk3, o3⟩ := s3
          obtain rfl : g4 = s.gens := m.gens
          obtain rfl : d3 = s.drawn := m.drawn
          obtain rfl : o3 = s.os := m.os
          refine wpAny_pure (wpAny_pure ⟨rfl, h3, tk3, L, es, ep, t, rfl, S3, ?_, q3⟩)
          rw [iz] at g3
          exact g3
      · cases r2 with
        | error e => exact hr2
        | ok f2 =>
          cases f2 with
          | ret r =>
            obtain ⟨rfl, h', tk, L, es, ep, t, rfl, S1, g1, k1⟩ := hr2
            repeat (any_goals (first | assumption | wp_step))
            exact h _ _ _ _ _ _ S1 g1 k1
          | _ => exact hr2.elim
    | _ => exact hr.elim
end
end Lt
namespace Lt
open PySem L2 PySem.Spec PyProof.Rows
mutual
theorem ky_inj : ∀ a b : D, kyB a = true → kyB b = true → ky a = ky b → a = b
  | .none, .none, _, _, _ => rfl
  | .none, .int _, _, _, e => by simp [ky] at e
  | .none, .tuple _, _, _, e => by simp [ky] at e
  | .int i, .int j, _, _, e => by simp only [ky, NestedKey.num.injEq] at e; rw [e]
  | .int i, .none, _, _, e => by simp [ky] at e
  | .int i, .tuple _, _, _, e => by simp [ky] at e
  | .tuple xs, .tuple ys, h1, h, e => by
    simp only [ky, NestedKey.tup.injEq] at e
    rw [kys_inj xs ys h1 h e]
  | .tuple xs, .none, _, _, e => by simp [ky] at e
  | .tuple xs, .int _, _, _, e => by simp [ky] at e
  | .none, .bool _, _, h, _ => by cases h
  | .none, .str _, _, h, _ => by cases h
  | .none, .list _, _, h, _ => by cases h
  | .none, .dict _, _, h, _ => by cases h
  | .int _, .bool _, _, h, _ => by cases h
  | .int _, .str _, _, h, _ => by cases h
  | .int _, .list _, _, h, _ => by cases h
  | .int _, .dict _, _, h, _ => by cases h
  | .tuple _, .bool _, _, h, _ => by cases h
  | .tuple _, .str _, _, h, _ => by cases h
  | .tuple _, .list _, _, h, _ => by cases h
  | .tuple _, .dict _, _, h, _ => by cases h
  | .bool _, _, h, _, _ => by cases h
  | .str _, _, h, _, _ => by cases h
  | .list _, _, h, _, _ => by cases h
  | .dict _, _, h, _, _ => by cases h
theorem kys_inj : ∀ as bs : List D, kysB as = true → kysB bs = true → kys as = kys bs → as = bs
  | [], [], _, _, _ => rfl
  | [], _ :: _, _, _, e => by cases e
  | _ :: _, [], _, _, e => by cases e
  | a :: as, b :: bs, h1, h2, e => by
    obtain ⟨a1, a2⟩ := Bool.and_eq_true_iff.mp (show (kyB a && kysB as) = true from h1)
    obtain ⟨b1, b2⟩ := Bool.and_eq_true_iff.mp (show (kyB b && kysB bs) = true from h2)
    obtain ⟨e1, e2⟩ := List.cons.inj (show ky a :: kys as = ky b :: kys bs from e)
    rw [ky_inj a b a1 b1 e1, kys_inj as bs a2 b2 e2]
end
mutual
theorem noTx_ky : ∀ d : D, kyB d = true → noTx (ky d) = true
  | .none, _ => rfl
  | .int _, _ => rfl
  | .tuple ds, h => noTxs_ky ds h
  | .bool _, h => by cases h
  | .str _, h => by cases h
  | .list _, h => by cases h
  | .dict _, h => by cases h
theorem noTxs_ky : ∀ ds : List D, kysB ds = true → noTxs (kys ds) = true
  | [], _ => rfl
  | d :: ds, h => by
    obtain ⟨a1, a2⟩ := Bool.and_eq_true_iff.mp (show (kyB d && kysB ds) = true from h)
    exact Bool.and_eq_true_iff.mpr ⟨noTx_ky d a1, noTxs_ky ds a2⟩
end
theorem eqv_ky {a b : D} (ha : kyB a = true) (hb : kyB b = true) : PyData.eqv a b = true ↔ a = b := by
  rw [ky_eqv a b ha hb, decide_eq_true_eq]
  exact ⟨ky_inj a b ha hb, fun e => by rw [e]⟩
theorem lt_anti {a b : D} (ha : kyB a = true) (hb : kyB b = true) (al : PySem.W.alike a b = true) (h1 : PySem.W.dataLt a b = false) (h2 : PySem.W.dataLt b a = false) : a = b := by
  have e : PySem.W.keyToks a = PySem.W.keyToks b := lex_total (O := itemOrd) _ _ h1 h2
  cases q : PyData.eqv a b with
  | true => exact (eqv_ky ha hb).mp q
  | false =>
    have t := (PySem.W.toks_eqv a b al).2 q [] [.inl 0]
    rw [e, PySem.W.lex_pre] at t
    have t2 : PySem.W.dataLt a b = lexLt itemOrd (PySem.W.keyToks b) (PySem.W.keyToks b) := by unfold PySem.W.dataLt; rw [e]
    rw [show lexLt itemOrd (PySem.W.keyToks b) (PySem.W.keyToks b) = false from lex_irrefl _] at t
    exact absurd t (by decide)
theorem any_ky {x : D} {xs : List D} (hx : kyB x = true) (h : ∀ y ∈ xs, kyB y = true) : xs.any (fun y => PyData.eqv y x) = true ↔ x ∈ xs := by
  rw [List.any_eq_true]
  constructor
  · rintro ⟨y, hy, e⟩
    exact (eqv_ky (h y hy) hx).mp e ▸ hy
  · intro hm
    exact ⟨x, hm, (eqv_ky (h x hm) hx).mpr rfl⟩
theorem ddD_ok : ∀ {xs : List D}, (∀ y ∈ xs, kyB y = true) → (ddD xs).Nodup ∧ ∀ y, y ∈ ddD xs ↔ y ∈ xs
  | [], _ => ⟨.nil, fun y => Iff.rfl⟩
  | x :: xs, h => by
    have hx := h x (List.mem_cons_self ..)
    have hs : ∀ y ∈ xs, kyB y = true := fun y hy => h y (List.mem_cons_of_mem _ hy)
    obtain ⟨n, m⟩ := ddD_ok hs
    have e : ddD (x :: xs) = if xs.any (fun y => PyData.eqv y x) = true then ddD xs else x :: ddD xs := rfl
    rw [e]
    by_cases c : xs.any (fun y => PyData.eqv y x) = true
    · rw [if_pos c]
      have mx := (any_ky hx hs).mp c
      exact ⟨n, fun y => (m y).trans ⟨List.mem_cons_of_mem _, fun z => (List.mem_cons.mp z).elim (fun e => e ▸ mx) id⟩⟩
    · rw [if_neg c]
      have mx : x ∉ xs := fun z => c ((any_ky hx hs).mpr z)
      exact ⟨List.nodup_cons.mpr ⟨fun z => mx ((m x).mp z), n⟩, fun y => by rw [List.mem_cons, List.mem_cons, m y]⟩
/-- the order of keys does not depend on the order they come in -/
theorem sortD_perm {xs ys : List D} (p : xs.Perm ys) (h : ∀ y ∈ xs, kyB y = true) (al : ∀ a ∈ xs, ∀ b ∈ xs, PySem.W.alike a b = true) : sortD xs = sortD ys := by
  unfold sortD
  have tr : ∀ a b c : D, (!PySem.W.dataLt b a) = true → (!PySem.W.dataLt c b) = true → (!PySem.W.dataLt c a) = true := fun a b c h1 h2 => by
    rw [Bool.not_eq_true'] at *
    cases q : PySem.W.dataLt c a with
    | false => rfl
    | true =>
      rcases lex_negTrans (O := itemOrd) _ (PySem.W.keyToks b) _ q with z | z
      · rw [show PySem.W.dataLt c b = true from z] at h2; cases h2
      · rw [show PySem.W.dataLt b a = true from z] at h1; cases h1
  have to : ∀ a b : D, ((!PySem.W.dataLt b a) || (!PySem.W.dataLt a b)) = true := fun a b => by
    cases q : PySem.W.dataLt b a with
    | false => rfl
    | true =>
      cases r : PySem.W.dataLt a b with
      | false => rfl
      | true =>
        have := lex_trans (O := itemOrd) _ _ _ q r
        rw [lex_irrefl] at this
        cases this
  refine List.Perm.eq_of_pairwise (le := fun a b => (!PySem.W.dataLt b a) = true) (fun a b ha hb h1 h2 => ?_) (List.pairwise_mergeSort tr to xs) (List.pairwise_mergeSort tr to ys) ((List.mergeSort_perm xs _).trans (p.trans (List.mergeSort_perm ys _).symm))
  rw [Bool.not_eq_true'] at h1 h2
  have ma := (List.mergeSort_perm xs _).mem_iff.mp ha
  have mb := p.mem_iff.mpr ((List.mergeSort_perm ys _).mem_iff.mp hb)
  exact lt_anti (h a ma) (h b mb) (al a ma b mb) h2 h1
/-- the set at a has these rows -/
def sφ (w : World) (a : Addr) (L : List NRow) (h : Heap) : Prop := ∃ (es : Array (Int × Value)) (ep : Nat) (t : SetTable), (∃ o, h.get? a = some o ∧ o.ExactSet ∧ o.data = .set es ep t) ∧ es.toList = esOf w L ∧ TG t (hsOf w L) ∧ (L.map (·.1)).Nodup ∧ t.plain = true ∧
  (w.params.followText "set-order" = true ∨ t.led = true) ∧ L.length * 5 < t.mask * 3 ∧ L.length ≤ 1200
theorem SetN.φ {P : Program} {w : World} {h : Heap} {a : Addr} {L : List NRow} {es : Array (Int × Value)} {ep : Nat} {t : SetTable} (R : SetN P w h a L es ep t) : sφ w a L h := ⟨es, ep, t, R.ob, R.rows, R.tab, R.nd, R.plain, R.led, R.room, R.few⟩
theorem sφ_ok {P : Program} {w : World} {H : Hp} {h : Heap} {a : Addr} {L : List NRow} (p : sφ w a L h) : ObjOk P w H h a (.ext (sφ w a L)) :=
  ⟨p, let ⟨_, _, _, ⟨o, ho, _⟩, _⟩ := p; ⟨o, ho⟩, fun _ _ ⟨es, ep, t, ⟨o, ho, r⟩, q⟩ k => ⟨es, ep, t, ⟨o, k o ho, r⟩, q⟩⟩
theorem inSet_d {d : D} (h : inSet d = true) : isTupD d = true ∧ kyB d = true ∧ (ky d).depth ≤ 8 := by
  unfold inSet at h
  rw [Bool.and_eq_true, Bool.and_eq_true, decide_eq_true_eq] at h
  exact h
section
variable {X : Cx}
theorem nk_of {pins : List (Addr × Obj)} {σ : L2.St} {H : Hp} {s : Shared} {Z : Addr → Prop} (I : Inv X pins σ H s) {d : D} {b : Addr} (h : inSet d = true) (r : Rl X.K H Z d (.ref b)) : NK s.heap (ky d) b :=
  let ⟨_, h2, h3⟩ := inSet_d h
  ⟨nestedIs I d (.ref b) (.ref b) h2 r rfl, h3, noTx_ky d h2⟩
/-- set(xs) -/
def rSetS (K : PySem.W.Frag) (w : World) : List V → Hp → VK → Prop := fun vs H Q => ∃ (Z : Addr → Prop) (l : Addr) (ps : List (Addr × D)), vs = [.ref l] ∧ SqL K H l (ps.map fun p => .ref p.1) ∧ (∀ p ∈ ps, inSet p.2 = true ∧ Rl K H Z p.2 (.ref p.1)) ∧ ps.length ≤ 1200 ∧
  ∀ a (L : List NRow), H a = none → (L.map (·.1)).Nodup → (∀ q ∈ L, q ∈ ps.map fun p => (ky p.2, p.1)) → (∀ p ∈ ps, ky p.2 ∈ L.map (·.1)) → Q (.ref a) (upd H a (.ext (sφ w a L)))
theorem refs_of : ∀ {bs : List Addr} {us : List Value}, Vals (bs.map V.ref) us → us = bs.map Value.ref
  | [], _, .nil => rfl
  | b :: bs, _, .cons r t => by cases r; rw [refs_of t]; rfl
theorem cr_setS (hc : X.calm = true) (hu : X.A.units + 65 < cLine) : CallR X (.type "set") (rSetS X.K X.w) := by
  intro pins s σ H vs us Q I r h
  obtain ⟨Z, l, ps, rfl, hl, hp, few, q⟩ := h
  obtain ⟨u, rfl, ru⟩ := vals1 r
  obtain rfl : u = Value.ref l := ru
  obtain ⟨its, rv, pl, hz⟩ := I.list hl
  have e : its = (ps.map (·.1)).map Value.ref := refs_of (by rw [List.map_map]; exact rv)
  have fr : H s.heap.objs.size = none := I.hok.fresh (Nat.le_refl _)
  refine call_setN (P := X.prog) (w := X.w) (ps.map fun p => (ky p.2, p.1)) (I.ok.hd hc) pl.isList (by simp [e]) (fun k hk => ?_) (by simpa using few) (by omega) fun h' tk L es ep t R g keep => ?_
  · obtain ⟨p, hm, rfl⟩ := List.mem_map.mp hk
    exact nk_of I (hp p hm).1 (hp p hm).2
  · refine ⟨.ref s.heap.objs.size, _, I.laid (t' := tk) (o := .ext (sφ X.w s.heap.objs.size L)) keep (Nat.le_refl _) (sφ_ok R.φ), rfl, q _ L fr R.nd (fun k hk => List.mem_of_mem_take (g.sub k hk)) fun p hm => ?_⟩
    exact g.all (ky p.2, p.1) (by rw [List.take_length]; exact List.mem_map.mpr ⟨p, hm, rfl⟩)
/-- sorted of a set -/
def rSortS (K : PySem.W.Frag) (w : World) : List V → Hp → VK → Prop := fun vs H Q => ∃ (Z : Addr → Prop) (a : Addr) (L : List NRow) (bs : List (Addr × D)), vs = [.ref a] ∧ H a = some (.ext (sφ w a L)) ∧ L = bs.map (fun p => (ky p.2, p.1)) ∧ (∀ p ∈ bs, inSet p.2 = true ∧ Rl K H Z p.2 (.ref p.1)) ∧ sortOk (bs.map (·.2)) = true ∧
  ∀ l (out : List PV), H l = none → out.Perm (bs.map fun p => (V.ref p.1, p.2)) → Q (.ref l) (upd H l (.lst ((out.mergeSort leP).map (·.1))))
/-- a permutation of the values is one of what they are of -/
theorem perm_of_map {α β : Type} {f : α → β} : ∀ (ys : List β) (xs : List α), List.Perm ys (xs.map f) → ∃ zs : List α, List.Perm zs xs ∧ ys = zs.map f
  | [], xs, h => by
    cases xs with
    | nil => exact ⟨[], .refl _, rfl⟩
    | cons x xs => have := h.length_eq; simp at this
  | y :: ys, xs, h => by
    obtain ⟨x, hx, rfl⟩ := List.mem_map.mp (h.mem_iff.mp (List.mem_cons_self ..))
    obtain ⟨a, b, rfl⟩ := List.append_of_mem hx
    have q : List.Perm (f x :: ys) (f x :: (a ++ b).map f) := h.trans (by rw [List.map_append, List.map_append, List.map_cons]; exact List.perm_middle)
    obtain ⟨zs, z1, z2⟩ := perm_of_map ys (a ++ b) q.cons_inv
    exact ⟨x :: zs, (z1.cons x).trans List.perm_middle.symm, by rw [z2]; rfl⟩
theorem cr_sortedS (hc : X.calm = true) (hu : X.A.units + 65 < cLine) : CallR X (.builtin "sorted") (rSortS X.K X.w) := by
  intro pins s σ H vs us Q I r h
  obtain ⟨Z, a, L, bs, rfl, ha, eL, hb, hok, q⟩ := h
  obtain ⟨u, rfl, ru⟩ := vals1 r
  obtain rfl : u = Value.ref a := ru
  obtain ⟨es, ep, t, ⟨o, ho, hx, hd⟩, rows, T, nd, pl, led, room, few⟩ := (I.hok a _ ha).1
  have sz : es.size = L.length := by
    have := congrArg List.length rows
    simpa [esOf] using this
  have lb : L.length = bs.length := by rw [eL, List.length_map]
  have fits : t.fits es.size = true := by
    have := T.len
    simp only [hsOf, List.length_map] at this
    simp only [SetTable.fits, SetTable.fill, T.nod, Bool.and_eq_true, beq_iff_eq, decide_eq_true_eq, List.size_toArray, List.length_nil]
    omega
  have vals : es.toList.map (·.2) = bs.map fun p => Value.ref p.1 := by
    rw [rows, eL, esOf, List.map_map, List.map_map]; rfl
  have hok' := hok
  unfold sortOk at hok'
  simp only [Bool.and_eq_true, List.all_eq_true, decide_eq_true_eq, Bool.or_eq_true] at hok'
  obtain ⟨k1, k2, k3, k4⟩ := hok'
  refine Calls.call_function_entry kind_sorted plain_sorted entry_sorted (args_sorted1 _) ?_
  unfold Builtin.«sorted»
  refine wpAny_bind (m := checkCount "sorted" 1 1 _) (wpAny_pure ?_)
  refine wpAny_bind (collect_set (A := X.A.in1) (I.ok.hd hc) ⟨o, ho, hx.1, hd⟩ fits (by unfold scanBound; omega) T.up led fun s1 vs keep le gs os pm => ?_)
  rw [vals] at pm
  obtain ⟨bs', pb, rfl⟩ := perm_of_map vs bs pm
  have hb' : ∀ p ∈ bs', inSet p.2 = true ∧ Rl X.K H Z p.2 (.ref p.1) := fun p hp => hb p (pb.mem_iff.mp hp)
  have mem2 : ∀ d, d ∈ bs'.map (·.2) ↔ d ∈ bs.map (·.2) := fun d => (pb.map _).mem_iff
  have vl : (bs'.map fun p => Value.ref p.1).length ≤ sizeLine := by rw [List.length_map, pb.length_eq, sizeLine_eq]; omega
  refine wpAny_bind (wpAny_newList ?_ vl)
  have hS : (s1.heap.push (seqObj "list" (bs'.map fun p => Value.ref p.1).toArray 0)).get? s1.heap.objs.size = some (seqObj "list" (bs'.map fun p => Value.ref p.1).toArray 0) := Heap.get?_push_size _ rfl
  generalize hvs : (bs'.map fun p => Value.ref p.1) = vs at hS vl ⊢
  have old : ∀ b o, s.heap.get? b = some o → (PySem.W.sortingHeap (s1.heap.push (seqObj "list" vs.toArray 0)) s1.heap.objs.size vs).get? b = some o := fun b o q =>
    PySem.W.sortingHeap_old (Nat.ne_of_lt (Heap.lt_size (keep b o q))) (Heap.get?_push_of_some _ (keep b o q))
  have es0 : ∀ l : List (Addr × D), (∀ p ∈ l, inSet p.2 = true ∧ Rl X.K H Z p.2 (.ref p.1)) → (∀ p ∈ l, p.2 ∈ bs.map (·.2)) → PySem.W.EachIs (fun u (p : PV) => RelV p.1 u) (l.map fun p => Value.ref p.1) (l.map fun p => (V.ref p.1, p.2)) ∧ PySem.W.EachIs (fun v (b : PV) => ∃ as, Reads s.heap v b.2 as) (l.map fun p => Value.ref p.1) (l.map fun p => (V.ref p.1, p.2)) := by
    intro l
    induction l with
    | nil => intro _ _; exact ⟨.nil, .nil⟩
    | cons p l ih =>
      intro h1 h2
      obtain ⟨g1, g2⟩ := ih (fun q hq => h1 q (List.mem_cons_of_mem _ hq)) fun q hq => h2 q (List.mem_cons_of_mem _ hq)
      have hp := h1 p (List.mem_cons_self ..)
      exact ⟨.cons rfl g1, .cons (Dp.reads I p.2 (.ref p.1) (.ref p.1) (Rl.dp _ _ (SeqAt.canLay_of_shaped (k2 p.2 (h2 p (List.mem_cons_self ..))).1) hp.2) rfl) g2⟩
  obtain ⟨e1, e2⟩ := es0 bs' hb' fun p hp => (mem2 p.2).mp (List.mem_map.mpr ⟨p, hp, rfl⟩)
  rw [hvs] at e1 e2
  have er' : PySem.W.EachIs (fun v (b : PV) => ∃ as, Reads (PySem.W.sortingHeap (s1.heap.push (seqObj "list" vs.toArray 0)) s1.heap.objs.size vs) v b.2 as) vs (bs'.map fun p => (V.ref p.1, p.2)) := e2.mono fun _ _ ⟨as, q⟩ => ⟨as, PyProof.Rows.Reads.keeps old q⟩
  have enc : (bs'.map fun p => ((V.ref p.1, p.2) : PV)).map (·.2) = bs'.map (·.2) := by rw [List.map_map]; rfl
  have hal : PySem.W.AllAlike ((bs'.map fun p => ((V.ref p.1, p.2) : PV)).map (·.2)) := by
    rw [enc]
    exact fun d hd' d' hd'' => k1 d ((mem2 d).mp hd') d' ((mem2 d').mp hd'')
  have hk : PySem.W.Sortable ((bs'.map fun p => ((V.ref p.1, p.2) : PV)).map (·.2)) := by
    rw [enc]
    rcases k3 with k3 | k3
    · refine .inl fun d hd' => ?_
      have := k3 d ((mem2 d).mp hd')
      unfold isT1 at this
      split at this
      · exact ⟨_, _, rfl⟩
      · cases this
    · refine .inr fun d hd' => ?_
      have := k3 d ((mem2 d).mp hd')
      refine ⟨fun z => ?_, fun xs z => ?_⟩ <;> rw [z] at this <;> cases this
  refine wpAny_bind (wpAny_holding (wpAny_call_entry slot_list_sort ⟨_, hS, rfl⟩ entry_list_sort (PySem.W.list_sort_vals (κ := PySem.W.dataKind (PySem.W.sortingHeap (s1.heap.push (seqObj "list" vs.toArray 0)) s1.heap.objs.size vs) ((bs'.map fun p => ((V.ref p.1, p.2) : PV)).map (·.2))) (s := { s1 with heap := s1.heap.push (seqObj "list" vs.toArray 0) }) hS (PySem.W.SortsAt.data (s := { s1 with heap := PySem.W.sortingHeap (s1.heap.push (seqObj "list" vs.toArray 0)) s1.heap.objs.size vs }) (PySem.W.each_map (R := fun v d => ∃ as, Reads (PySem.W.sortingHeap (s1.heap.push (seqObj "list" vs.toArray 0)) s1.heap.objs.size vs) v d as) (fun b : PV => b.2) er') hal hk (PySem.W.bound_map (fun b hb => ?_))) vl ⟨.none, rfl, ?_⟩) (args_list_sort _)))
  · have hm : b.2 ∈ bs.map (·.2) := (mem2 b.2).mp (by rw [← enc]; exact List.mem_map.mpr ⟨b, hb, rfl⟩)
    have : b.2.depth ≤ 60 := (k2 b.2 hm).2
    show X.A.units + 1 + 1 + b.2.depth < cLine
    omega
  · obtain ⟨e, he⟩ := sortedHeap_at (out := (PySem.W.sortVals (PySem.W.dataKind (PySem.W.sortingHeap (s1.heap.push (seqObj "list" vs.toArray 0)) s1.heap.objs.size vs) ((bs'.map fun p => ((V.ref p.1, p.2) : PV)).map (·.2))) false vs vs).toArray) hS
    have hout := PySem.W.sortVals_data false e1 er' hal
    have fr : H s1.heap.objs.size = none := I.hok.fresh le
    refine wpAny_pure ⟨_, rfl, .ref _, upd H s1.heap.objs.size (.lst (((bs'.map fun p => ((V.ref p.1, p.2) : PV)).mergeSort leP).map (·.1))), ?_, rfl, q _ _ fr (pb.map _)⟩
    have hk2 : ∀ b o, s.heap.get? b = some o → (sortedHeap (s1.heap.push (seqObj "list" vs.toArray 0)) s1.heap.objs.size vs (PySem.W.sortVals (PySem.W.dataKind (PySem.W.sortingHeap (s1.heap.push (seqObj "list" vs.toArray 0)) s1.heap.objs.size vs) ((bs'.map fun p => ((V.ref p.1, p.2) : PV)).map (·.2))) false vs vs).toArray).get? b = some o := fun b o z => by
      have hlt := Heap.lt_size (keep b o z)
      rw [sortedHeap_old (Nat.ne_of_lt hlt) (by rw [size_push']; exact Nat.lt_succ_of_lt hlt)]
      exact Heap.get?_push_of_some _ (keep b o z)
    have hlen : (((bs'.map fun p => ((V.ref p.1, p.2) : PV)).mergeSort leP).map (·.1)).length ≤ sizeLine := by
      rw [List.length_map, List.length_mergeSort, List.length_map, pb.length_eq, sizeLine_eq]
      omega
    obtain ⟨h1, g1, d1, t1, o1⟩ := s1
    obtain rfl : g1 = s.gens := gs
    obtain rfl : o1 = s.os := os
    dsimp only at hk2 le fr he hlen hout
    generalize hH : sortedHeap (h1.push (seqObj "list" vs.toArray 0)) h1.objs.size vs _ = hF at hk2 he
    have J : L2.Inv X pins σ (upd H h1.objs.size (.lst (((bs'.map fun p => ((V.ref p.1, p.2) : PV)).mergeSort leP).map (·.1)))) { s with heap := hF, gens := s.gens, drawn := d1, toks := t1 } :=
      I.call (ch := []) (Un.laid hk2 le fr) (I.hok.laid hk2 le ⟨hlen, _, e, vals_of_each hout, he⟩) I.bare (fun _ z => nomatch z)
    exact J
theorem refs_get {K : PySem.W.Frag} {H : Hp} {Z : Addr → Prop} : ∀ {xs : List D} {ws : List V}, (∀ y ∈ xs, inSet y = true) → Rls K H Z xs ws → ∃ ps : List (Addr × D), ps.map (fun p => V.ref p.1) = ws ∧ ps.map (·.2) = xs ∧ ∀ p ∈ ps, Rl K H Z p.2 (.ref p.1)
  | [], ws, _, r => by cases (show ws = [] from r); exact ⟨[], rfl, rfl, nofun⟩
  | x :: xs, _, h1, ⟨v, r, rfl, g1, g2⟩ => by
    obtain ⟨b, rfl⟩ := key_ref (inSet_d (h1 x (List.mem_cons_self ..))).1 g1
    obtain ⟨ps, q1, q2, q3⟩ := refs_get (fun y hy => h1 y (List.mem_cons_of_mem _ hy)) g2
    exact ⟨(b, x) :: ps, by rw [List.map_cons, q1], by rw [List.map_cons, q2], fun p hp => (List.mem_cons.mp hp).elim (fun e => e ▸ g1) (q3 p)⟩
theorem so_sset {T : Tab} {a : Expr} {i : Ex} {p p2 q q2 : Pos} (hc : X.calm = true) (hu : X.A.units + 65 < cLine) (hg : Gl X "sorted") (hm : X.mg "sorted" = none) (hg2 : Gl X "set") (hm2 : X.mg "set" = none) (hs : starEach [a] X.env = (false, eval a X.env) :: starEach [] X.env) (hs2 : starEach [.Call (.Name "set" p2) [a] [] q2] X.env = (false, eval (.Call (.Name "set" p2) [a] [] q2) X.env) :: starEach [] X.env)
    (ha : SO X a (ev T i)) : SO X (.Call (.Name "sorted" p) [.Call (.Name "set" p2) [a] [] q2] [] q) (ev T (.sset i)) := by
  obtain ⟨ta, pa, qa⟩ := ha
  refine ⟨_, pe_callB (cr_sortedS hc hu) hg hm PyProof.Rows.boot_sorted (pa_cons (pe_callTy (cr_setS hc hu) hg2 hm2 PyProof.Rows.boot_set (pa_cons pa pa_nil hs) (by decide) (by decide) hs rfl) pa_nil hs2) (by decide) (by decide) hs2 rfl, fun ρ σ H Z o ρ' Q s e k => ?_⟩
  obtain ⟨⟨o1, ρ1⟩, e1, e⟩ := bnd (show (ev T i ρ).bind _ = some _ from e)
  obtain ⟨d, e2, e⟩ := bnd e
  obtain ⟨c, e3, e⟩ := mpd e
  cases e
  refine qa ρ σ H Z o1 ρ1 _ s e1 fun v H1 Z1 s1 p1 r1 _ => ?_
  have rv := r1.vw s1 e2
  cases d <;> (try (cases (show none = some c from e3)))
  rename_i xs
  have e' : (if (xs.all inSet && (sortOk (ddD xs) && decide (xs.length ≤ 1200))) = true then some (Cell.own (sortD (ddD xs))) else none) = some c := e3
  by_cases hk : (xs.all inSet && (sortOk (ddD xs) && decide (xs.length ≤ 1200))) = true
  case neg => rw [if_neg hk] at e'; cases e'
  rw [if_pos hk] at e'
  cases e'
  rw [Bool.and_eq_true, Bool.and_eq_true, decide_eq_true_eq, List.all_eq_true] at hk
  obtain ⟨h1, h2, h3⟩ := hk
  obtain ⟨l, ws, rfl, hl, hz, rr⟩ := rv.lst
  have kyx : ∀ y ∈ xs, kyB y = true := fun y hy => (inSet_d (h1 y hy)).2.1
  obtain ⟨nd, mm⟩ := ddD_ok kyx
  obtain ⟨ps, q1, q2, q3⟩ := refs_get h1 rr
  have hps : ∀ p ∈ ps, inSet p.2 = true ∧ Rl X.K H1 Z1 p.2 (.ref p.1) := fun p hp => ⟨h1 p.2 (by rw [← q2]; exact List.mem_map.mpr ⟨p, hp, rfl⟩), q3 p hp⟩
  have lp : ps.length = xs.length := by rw [← q2, List.length_map]
  show rSetS X.K X.w [.ref l] H1 fun x H2 => rSortS X.K X.w [x] H2 Q
  refine ⟨Z1, l, ps, rfl, (by rw [q1]; exact hl), hps, by omega, fun a L ha ndL sub all => ?_⟩
  obtain ⟨pp, ss, kp, nw, nz, n0⟩ := alloc p1 s1 ha (.ext (sφ X.w a L)) False
  obtain ⟨bs, b1, b2⟩ : ∃ bs : List (Addr × D), L = bs.map (fun p => (ky p.2, p.1)) ∧ ∀ p ∈ bs, p ∈ ps := by
    clear ndL all pp ss kp
    induction L with
    | nil => exact ⟨[], rfl, nofun⟩
    | cons x L ih =>
      obtain ⟨bs, b1, b2⟩ := ih fun q hq => sub q (List.mem_cons_of_mem _ hq)
      obtain ⟨p, hp, rfl⟩ := List.mem_map.mp (sub x (List.mem_cons_self ..))
      exact ⟨p :: bs, by rw [List.map_cons, b1], fun r hr => (List.mem_cons.mp hr).elim (fun e => e ▸ hp) (b2 r)⟩
  have bmem : ∀ p ∈ bs, p.2 ∈ xs := fun p hp => by rw [← q2]; exact List.mem_map.mpr ⟨p, b2 p hp, rfl⟩
  have perm : List.Perm (bs.map (·.2)) (ddD xs) := by
    refine (List.perm_ext_iff_of_nodup ?_ nd).mpr fun y => ⟨fun hy => ?_, fun hy => ?_⟩
    · rw [b1, List.map_map] at ndL
      exact List.Pairwise.imp (R := fun a b : D => ky a ≠ ky b) (fun {a b} h e => h (congrArg ky e)) (by
        rw [List.pairwise_map]
        exact List.pairwise_map.mp ndL)
    · obtain ⟨p, hp, rfl⟩ := List.mem_map.mp hy
      exact (mm _).mpr (bmem p hp)
    · have hx := (mm y).mp hy
      rw [← q2] at hx
      obtain ⟨p, hp, rfl⟩ := List.mem_map.mp hx
      have := all p hp
      rw [b1, List.map_map] at this
      obtain ⟨p2, hp2, e⟩ := List.mem_map.mp this
      have ee : p2.2 = p.2 := ky_inj _ _ (kyx _ (bmem p2 hp2)) (kyx _ (by rw [← q2]; exact List.mem_map.mpr ⟨p, hp, rfl⟩)) e
      exact List.mem_map.mpr ⟨p2, hp2, ee⟩
  have al : ∀ a ∈ ddD xs, ∀ b ∈ ddD xs, PySem.W.alike a b = true := by
    have h2' := h2
    unfold sortOk at h2'
    simp only [Bool.and_eq_true, List.all_eq_true] at h2'
    exact h2'.1
  have so : sortOk (bs.map (·.2)) = true := by
    have h2' := h2
    unfold sortOk at h2' ⊢
    simp only [Bool.and_eq_true, List.all_eq_true, decide_eq_true_eq, Bool.or_eq_true] at h2' ⊢
    obtain ⟨t1, t2, t3, t4⟩ := h2'
    have m1 : ∀ x, x ∈ bs.map (·.2) → x ∈ ddD xs := fun x hx => perm.mem_iff.mp hx
    exact ⟨fun x hx y hy => t1 x (m1 x hx) y (m1 y hy), fun x hx => t2 x (m1 x hx), t3.imp (fun t x hx => t x (m1 x hx)) fun t x hx => t x (m1 x hx), by rw [perm.length_eq]; exact t4⟩
  refine ⟨_, a, L, bs, rfl, upd_same, b1, fun p hp => ⟨(hps p (b2 p hp)).1, Rl.keep kp _ _ (hps p (b2 p hp)).2⟩, so, fun l2 out hl2 po => ?_⟩
  have rs := Rls.pairs (K := X.K) (H := upd H1 a (.ext (sφ X.w a L))) (Z := fun x => Z1 x ∨ (False ∧ x = a)) (ps := out.mergeSort leP) fun p hp => by
    obtain ⟨p', hp', rfl⟩ := List.mem_map.mp (po.mem_iff.mp ((List.mergeSort_perm _ _).mem_iff.mp hp))
    exact Rl.keep kp _ _ (hps p' (b2 p' hp')).2
  rw [sortD_pairs] at rs
  have pe : List.Perm (out.map (·.2)) (ddD xs) := by
    have := po.map (·.2)
    rw [List.map_map] at this
    exact this.trans perm
  rw [sortD_perm pe (fun y hy => kyx y ((mm y).mp (pe.mem_iff.mp hy))) fun a ha b hb => al a (pe.mem_iff.mp ha) b (pe.mem_iff.mp hb)] at rs
  have hlen : (sortD (ddD xs)).length ≤ sizeLine := by
    have : (ddD xs).length = bs.length := by rw [← perm.length_eq, List.length_map]
    have l2 : L.length = bs.length := by rw [b1, List.length_map]
    unfold sortD
    rw [List.length_mergeSort, this]
    have : bs.length ≤ 16777216 := by
      unfold sortOk at so
      simp only [Bool.and_eq_true, decide_eq_true_eq, List.length_map] at so
      exact so.2.2.2
    rw [sizeLine_eq]
    omega
  exact (Fin_.of k).lst pp ss rs hlen l2 hl2
end
end Lt
namespace Lt
open PySem L2 PySem.Spec PyProof.Rows
/-- what a return hands back -/
def retC (io : Bool) (o : Od) (ρ : Rho) : Option Cell := match o with
  | .t c => some c
  | .v i => match cellAt ρ i with
    | .dat d => some (.dat d)
    | .own ds => if io then (if i = 0 then none else match cellAt ρ 0 with
        | .own _ => some (.own ds)
        | _ => none) else some (.own ds)
    | .dic kvs => if io then (if i = 0 then none else match cellAt ρ 0 with
        | .own _ => some (.dic kvs)
        | _ => none) else some (.dic kvs)
    | .emp => none
def outC (io : Bool) (o : Out) (ρ : Rho) : Option Cell := match o with
  | .nx => some (.dat .none)
  | .rt o => retC io o ρ
  | _ => none
def endB (io : Bool) (q : Out × Rho) : Option (Cell × Cell) := (outC io q.1 q.2).bind fun c => if io then (match cellAt q.2 0 with
    | .emp => none
    | x => some (c, x)) else some (c, .emp)
def runB (T : Tab) (n : Nat) (b : Sms) (L : Nat) (io : Bool) (cs : List Cell) : Option (Cell × Cell) := (exs T n b (cs ++ List.replicate (L - cs.length) .emp)).bind (endB io)
section
variable {K : PySem.W.Frag} {H H' : Hp} {Z Z' : Addr → Prop} {σ : L2.St} {cs : List Cell} {m : Nat}
theorem ext_cell (j : Nat) : cellAt (cs ++ List.replicate m .emp) j = cellAt cs j := by
  unfold cellAt
  rw [List.getD_eq_getElem?_getD, List.getD_eq_getElem?_getD]
  by_cases h : j < cs.length
  · rw [List.getElem?_append_left h]
  · rw [List.getElem?_append_right (by omega), List.getElem?_eq_none (l := cs) (by omega), List.getElem?_replicate]
    split <;> rfl
theorem ext_slot {σ : L2.St} {j : Nat} (h : j < σ.length) : (σ ++ List.replicate m none)[j]? = σ[j]? := List.getElem?_append_left h
theorem ext_sta (s : Sta K H Z cs σ) : Sta K H Z (cs ++ List.replicate m .emp) (σ ++ List.replicate m none) := by
  have inn : ∀ {j}, isOw (cellAt cs j) = true → j < σ.length := fun {j} h => by
    rcases Nat.lt_or_ge j cs.length with q | q
    · rw [← s.len]; exact q
    · rw [cellAt_out q] at h; cases h
  refine ⟨by simp [s.len], fun j hj => ?_, fun i j a h1 h2 h3 h4 => ?_, s.zd⟩
  · rw [ext_cell] at hj ⊢
    obtain ⟨v, e, c⟩ := s.at_ j hj
    exact ⟨v, by rw [ext_slot (List.getElem?_eq_some_iff.mp e).1]; exact e, c⟩
  · rw [ext_cell] at h1 h2
    rw [ext_slot (inn h1)] at h3
    rw [ext_slot (inn h2)] at h4
    exact s.inj i j a h1 h2 h3 h4
theorem ext_ow (s : Sta K H Z cs σ) (a : Addr) : Ow (cs ++ List.replicate m .emp) (σ ++ List.replicate m none) a ↔ Ow cs σ a := by
  constructor
  · rintro ⟨j, h1, h2⟩
    rw [ext_cell] at h1
    have : j < σ.length := by
      rcases Nat.lt_or_ge j cs.length with q | q
      · rw [← s.len]; exact q
      · rw [cellAt_out q] at h1; cases h1
    rw [ext_slot this] at h2
    exact ⟨j, h1, h2⟩
  · rintro ⟨j, h1, h2⟩
    exact ⟨j, by rw [ext_cell]; exact h1, by rw [ext_slot (List.getElem?_eq_some_iff.mp h2).1]; exact h2⟩
end
theorem fn_ok {P : Program} {w : World} {K : PySem.W.Frag} {mg : Str → Option Value} {base : Heap} {x qual : Str} {params : Arguments} {body : List Stmt} {scope : Scope} {f : Addr} {fd : FuncData} (F : FunD K x qual params body scope [] [] f fd)
    {N : List Str} {fn : Fn} {k : Nat} {T : Tab} {b : Sms} (S : FnScope N fn.ps scope)
    (hb : ∀ cdv A outer s H E, Room k (A.deeper (envOfC qual scope s.heap.objs.size f cdv)) → A.guards = some [] → SSs (cxOf (L2.CX P w) P w K mg base N qual scope f cdv A outer s H E).nox T body b)
    (hp : fn.io = true → b.p0 = true) (hF : ∀ cs r, cs.length = fn.ps.length → fn.F cs = some r → ∃ n, runB T n b N.length fn.io cs = some r) :
    FnPr P w K mg base (k + 1) f fd fn.ps (spF K fn) := by
  refine Lt.FunD.g F S spF_len fun cdv A outer s H vs Q E hr gd h => ?_
  obtain ⟨t, pt, qt⟩ := hb cdv A outer s H E hr gd
  refine ⟨t, pt.nox, ?_⟩
  obtain ⟨Z, cs, c, out, s0, hl, hio, hf, hQ⟩ := h
  obtain ⟨n, hn⟩ := hF cs (c, out) hl hf
  obtain ⟨⟨o, ρ'⟩, e1, e2⟩ := bnd (show (exs T n b (cs ++ List.replicate (N.length - cs.length) .emp)).bind (endB fn.io) = some (c, out) from hn)
  obtain ⟨c', e3, e4⟩ := bnd (show (outC fn.io o ρ').bind _ = some (c, out) from e2)
  have hvl : vs.length = cs.length := by
    have := s0.len
    rw [List.length_map] at this
    exact this.symm
  have est : start N vs = argSt vs ++ List.replicate (N.length - cs.length) none := by rw [← hvl]; rfl
  rw [est]
  have hc : c' = c ∧ (fn.io = true → cellAt ρ' 0 = out ∧ out ≠ .emp) ∧ (fn.io = false → out = .emp) := by
    cases hh : fn.io with
    | false =>
      rw [hh, if_neg Bool.false_ne_true] at e4
      cases e4
      exact ⟨rfl, (fun z => by cases z), fun _ => rfl⟩
    | true =>
      rw [hh, if_pos rfl] at e4
      have e5 : (match cellAt ρ' 0 with
        | .emp => none
        | x => some (c', x)) = some (c, out) := e4
      cases q : cellAt ρ' 0 <;> rw [q] at e5 <;> cases e5 <;> exact ⟨rfl, (fun _ => ⟨rfl, fun z => by cases z⟩), fun z => by cases z⟩
  obtain ⟨rfl, hcio, hcno⟩ := hc
  have fin : ∀ σ' H' Z' v, Sta K H' Z' ρ' σ' → Stp (Ow (cs ++ List.replicate (N.length - cs.length) .emp) (argSt vs ++ List.replicate (N.length - cs.length) none)) (Ow ρ' σ') H Z H' Z' → (b.p0 = true → σ'[0]? = (argSt vs ++ List.replicate (N.length - cs.length) none)[0]?) →
      CellV K H' Z' c' v → (∀ a, isOw c' = true → v = .ref a → H a = none) → Q v H' := fun σ' H' Z' v s' p' h0 cv nw => by
    refine hQ v H' Z' ⟨fun a o e n => p'.fr a o e fun w => n ((ext_ow s0 a).mp w), p'.dom, p'.z, fun a w => .inl w.2⟩ cv nw (fun v0 h1 h2 => ?_) s'.zd
    obtain ⟨io1, _⟩ := hio 0 h1
    obtain ⟨eo, no⟩ := hcio io1
    obtain ⟨u, e5, c5⟩ := s'.at_ 0 (by rw [eo]; exact no)
    rw [h0 (hp io1), ext_slot (by rw [List.length_map]; exact (List.getElem?_eq_some_iff.mp h2).1), List.getElem?_map, h2] at e5
    cases e5
    rw [← eo]; exact c5
  refine qt n _ _ H Z o ρ' _ (ext_sta s0) e1 ?_
  cases o with
  | bk => cases e3
  | ct => cases e3
  | nx =>
    cases (show some (Cell.dat .none) = some c' from e3)
    exact fun σ' H' Z' s' p' h0 => fin σ' H' Z' .non s' p' h0 rfl fun _ h => nomatch h
  | rt o =>
    intro σ' v H' Z' s' p' h0 r nv
    have e3' : retC fn.io o ρ' = some c' := e3
    cases o with
    | t c0 =>
      cases (show some c0 = some c' from e3')
      exact fin σ' H' Z' v s' p' h0 r.1 nv
    | v i =>
      have hvi : σ'[i]? = some (some v) := r
      have hne : cellAt ρ' i ≠ .emp := fun q => by simp [retC, q] at e3'
      obtain ⟨u, e5, c5⟩ := s'.at_ i hne
      rw [hvi] at e5; cases e5
      cases q : cellAt ρ' i with
      | emp => exact (hne q).elim
      | dat d =>
        rw [q] at c5
        have e9 : some (Cell.dat d) = some c' := by simpa [retC, q] using e3'
        cases e9
        exact fin σ' H' Z' v s' p' h0 c5 fun _ h => nomatch h
      | own ds =>
        rw [q] at c5
        have e6 : c' = .own ds ∧ (fn.io = true → i ≠ 0 ∧ ∃ es, cellAt ρ' 0 = .own es) := by
          cases hh : fn.io with
          | false =>
            have e9 : some (Cell.own ds) = some c' := by simpa [retC, q, hh] using e3'
            cases e9
            exact ⟨rfl, fun z => by cases z⟩
          | true =>
            have e7 : (if i = 0 then none else match cellAt ρ' 0 with
              | .own _ => some (Cell.own ds)
              | _ => none) = some c' := by simpa [retC, q, hh] using e3'
            by_cases hi : i = 0
            · rw [if_pos hi] at e7; cases e7
            · rw [if_neg hi] at e7
              cases q0 : cellAt ρ' 0 <;> rw [q0] at e7 <;> cases e7
              exact ⟨rfl, fun _ => ⟨hi, _, rfl⟩⟩
        obtain ⟨rfl, h6⟩ := e6
        refine fin σ' H' Z' v s' p' h0 c5 fun a _ ev => ?_
        subst ev
        rcases p'.w a ⟨i, by rw [q]; rfl, hvi⟩ with w | w
        · obtain ⟨j, h1, h2⟩ := (ext_ow s0 a).mp w
          obtain ⟨io1, rfl⟩ := hio j h1
          obtain ⟨hi, es, q0⟩ := h6 io1
          have e8 : σ'[0]? = some (some (.ref a)) := by
            rw [h0 (hp io1), ext_slot (List.getElem?_eq_some_iff.mp h2).1]; exact h2
          exact (hi (s'.inj i 0 a (by rw [q]; rfl) (by rw [q0]; rfl) hvi e8)).elim
        · exact w
      | dic kvs =>
        rw [q] at c5
        have e6 : c' = .dic kvs ∧ (fn.io = true → i ≠ 0 ∧ ∃ es, cellAt ρ' 0 = .own es) := by
          cases hh : fn.io with
          | false =>
            have e9 : some (Cell.dic kvs) = some c' := by simpa [retC, q, hh] using e3'
            cases e9
            exact ⟨rfl, fun z => by cases z⟩
          | true =>
            have e7 : (if i = 0 then none else match cellAt ρ' 0 with
              | .own _ => some (Cell.dic kvs)
              | _ => none) = some c' := by simpa [retC, q, hh] using e3'
            by_cases hi : i = 0
            · rw [if_pos hi] at e7; cases e7
            · rw [if_neg hi] at e7
              cases q0 : cellAt ρ' 0 <;> rw [q0] at e7 <;> cases e7
              exact ⟨rfl, fun _ => ⟨hi, _, rfl⟩⟩
        obtain ⟨rfl, h6⟩ := e6
        refine fin σ' H' Z' v s' p' h0 c5 fun a _ ev => ?_
        subst ev
        rcases p'.w a ⟨i, by rw [q]; rfl, hvi⟩ with w | w
        · obtain ⟨j, h1, h2⟩ := (ext_ow s0 a).mp w
          obtain ⟨io1, rfl⟩ := hio j h1
          obtain ⟨hi, es, q0⟩ := h6 io1
          have e8 : σ'[0]? = some (some (.ref a)) := by
            rw [h0 (hp io1), ext_slot (List.getElem?_eq_some_iff.mp h2).1]; exact h2
          exact (hi (s'.inj i 0 a (by rw [q]; rfl) (by rw [q0]; rfl) hvi e8)).elim
        · exact w
end Lt
namespace Lt
open PySem L2 PySem.Spec PyProof.Rows
section
variable {P : Program} {w : World} {K : PySem.W.Frag} {mg mb : Str → Option Value} {lv : Nat} {fa a : Addr} {fd : FuncData} {x : Str} {pm : Sp} {sh : Shared} {vs : List Value} {ns : List Int}
/-- what stands for the heap behind the top, the abstract heap H hidden -/
theorem top_mod {H : Hp} (kin : K.In sh.heap) (hg : sh.heap.Ns mainGlobals mg) (hb : sh.heap.Ns builtinsNs mb) (boot : ∀ x : Str, x ≠ "__name__" → mb x = bootBuiltins x) (nolim : sh.heap.NoLimit)
    (scr : sh.heap.get? a = some { cls := .type "list", data := .seq vs.toArray }) (one : ∀ b, H b ≠ none → b = a) (out : H a ≠ none → K.lookup a = none) : Mod K mg (hidT sh.heap H) ∧ K.In (hidT sh.heap H) ∧ (hidT sh.heap H).Ns mainGlobals mg := by
  have nodict : ∀ {b : Addr} {o : Obj} {es : Array DictEntry} {ep : Nat}, sh.heap.get? b = some o → o.data = .dict es ep → H b = none := by
    intro b o es ep e1 e2
    rcases q : H b with _ | u
    · rfl
    · cases one b (by rw [q]; exact fun z => nomatch z)
      rw [scr] at e1
      cases e1
      exact nomatch (show Data.seq vs.toArray _ = Data.dict es ep from e2)
  have nsOf : ∀ {b : Addr} {m : Str → Option Value}, sh.heap.Ns b m → (hidT sh.heap H).Ns b m := by
    rintro b m ⟨o, es, ep, e1, e2, r⟩
    exact ⟨o, es, ep, hidT_get e1 (nodict e1 e2), e2, r⟩
  have kin2 : K.In (hidT sh.heap H) := by
    intro b o e1
    refine hidT_get (kin b o e1) ?_
    rcases q : H b with _ | u
    · rfl
    · cases one b (by rw [q]; exact fun z => nomatch z)
      rw [out (by rw [q]; exact fun z => nomatch z)] at e1
      cases e1
  obtain ⟨mc, l1, l2⟩ := nolim
  exact ⟨⟨kin2, nsOf hg, ⟨mb, nsOf hb, boot⟩, ⟨mc, nsOf l1, l2⟩⟩, kin2, nsOf hg⟩
theorem law_go (kin : K.In sh.heap) (hg : sh.heap.Ns mainGlobals mg) (hb : sh.heap.Ns builtinsNs mb) (boot : ∀ x : Str, x ≠ "__name__" → mb x = bootBuiltins x) (nolim : sh.heap.NoLimit) (nogen : sh.gens = #[])
    (scr : sh.heap.get? a = some { cls := .type "list", data := .seq vs.toArray }) (isI : IntsAre vs ns) (short : ns.length ≤ sizeLine) (room : Room lv callerA)
    (F : ∀ base : Heap, K.In base → base.Ns mainGlobals mg → FnPr P w K mg base lv fa fd [x] pm) (bnd : ∀ (s : Shared) (u : Value), BindsTo s fd ⟨[u], []⟩ [(x, u)])
    (want : ∀ H : Hp, Only H → SqL K H a (ns.map V.int) → pm [.ref a] H (fun v _ => v = .bl true) E0_) :
    codeAny (model P w) callerA (.call (.ref fa) ⟨[.ref a], []⟩) (fun r s' => r = .ok (.ret (.bool true)) ∧ OldK sh.heap s'.heap ∧ s'.os = sh.os ∧ AllBare s'.gens) sh := by
  have rv := vals_ints isI
  have core : ∀ H : Hp, Only H → SqL K H a (ns.map V.int) → HOk P w H sh.heap → (∀ b, H b ≠ none → b = a) → (H a ≠ none → K.lookup a = none) →
      codeAny (model P w) callerA (.call (.ref fa) ⟨[.ref a], []⟩) (fun r s' => r = .ok (.ret (.bool true)) ∧ OldK sh.heap s'.heap ∧ s'.os = sh.os ∧ AllBare s'.gens) sh := by
    intro H only sq hok one out
    obtain ⟨md, kin2, ns2⟩ := top_mod kin hg hb boot nolim scr one out
    have en : Env0 P w K mg (hidT sh.heap H) callerA [] sh H := ⟨rfl, md, fun b o e => of_hidT e, Nat.le_of_eq (hidT_size _ _), trivial, nofun, hok, .of_eq nogen⟩
    refine codeAny_mono ((F _ kin2 ns2).go callerA [] sh H ⟨[.ref a], []⟩ [.ref a] [.ref a] _ _ room rfl en (bnd sh (.ref a)) (.cons rfl .nil) (want H only sq)) fun r s' fin => ?_
    cases r with
    | error e =>
      obtain ⟨_, _, _, _, _, _, _, _, _, _, _, _, z⟩ := fin
      exact (show False from z).elim
    | ok fl =>
      cases fl <;> try exact (show False from fin).elim
      obtain ⟨v, H', os, bare, un, hok', rr, q⟩ := fin
      cases (show v = V.bl true from q)
      rename_i u
      cases (show u = Value.bool true from rr)
      refine ⟨rfl, OldK.of_keep fun b o e => ?_, os, bare⟩
      rcases q : H b with _ | hb0
      · exact un.keep b o e q nofun nofun
      · rcases only b with z | ⟨ob, xs, z⟩
        · rw [q] at z; cases z
        · have e1 := (hok b _ z).1
          have e2 := (hok' b _ (un.frzs b ob _ z)).1
          rw [e] at e1
          cases e1
          exact e2
  rcases hk : K.lookup a with _ | o
  · refine core (fun b => if b = a then some (.frz { cls := .type "list", data := .seq vs.toArray } (.lst (ns.map V.int))) else none) (fun b => ?_) (.inl (.inr ⟨{ cls := .type "list", data := .seq vs.toArray }, if_pos rfl⟩)) (fun b u z => ?_) (fun b z => ?_) fun _ => hk
    · by_cases h : b = a
      · exact .inr ⟨_, _, if_pos h⟩
      · exact .inl (if_neg h)
    · by_cases h : b = a
      · cases (if_pos h).symm.trans z
        cases h
        exact ⟨scr, by rw [List.length_map]; exact short, vs, _, rv, scr⟩
      · exact nomatch (if_neg h).symm.trans z
    · by_cases h : b = a
      · exact h
      · exact (z (if_neg h)).elim
  · have e := kin a o hk
    rw [scr] at e
    cases e
    exact core (fun _ => none) (fun _ => .inl rfl) (.inr ⟨_, vs.toArray, _, hk, rfl, rfl, rfl, by rw [List.size_toArray, isI.length]; exact short, by simpa using rv⟩) (fun b u z => nomatch (show (none : Option HO) = some u from z)) (fun b z => (z rfl).elim) fun z => (z rfl).elim
end
/-- a law: F gives the written part, the function object, the promise over every base -/
theorem walk_g {l : PySem.W.OpenLaw} {n lv : Nat} {q : Program} {loose : List Str} {XP : (Str → Option Value) → Heap → Prop} {YP : World → Heap → Prop} {d : DefRec} {x : Str} (hn : l.most = some n) (hn2 : n ≤ sizeLine) (hdf : d.params.defaults = []) (room : Room lv callerA)
    (F : ∀ (w : World) (mg : Str → Option Value) (fa : Addr) (h : Heap), YP w h → h.Ns mainGlobals mg → mg d.name = some (.ref fa) → ∃ (K : PySem.W.Frag) (fd : FuncData) (pm : Sp), K.In h ∧ (∀ (s : Shared) (u : Value), BindsTo s fd ⟨[u], []⟩ [(x, u)]) ∧
        (∀ (H : Hp) (a : Addr) (ns : List Int), ns.length ≤ n → Only H → SqL K H a (ns.map V.int) → pm [.ref a] H (fun v _ => v = .bl true) E0_) ∧
        ∀ base : Heap, K.In base → base.Ns mainGlobals mg → FnPr l.prog w K mg base lv fa fd [x] pm) :
    PySem.W.WalkO q loose XP YP l.row.toRowW d [] (fun f vs => PySem.call f vs) := by
  refine Att.attach_call hn hdf fun w s₀ s₁ mg mb fa o pm cd doc a vs ns G Y ho hd hcd hmg hobj hints hlen hg => ?_
  obtain ⟨K, fd, pm, kin, bnd, want, fn⟩ := F w mg fa _ Y G.T.g hmg
  exact law_go kin G.T.g G.T.b G.T.builtins G.T.nolimit hg hobj hints (Nat.le_trans hlen hn2) room fn bnd fun H only sq => want H a ns hlen only sq
end Lt
namespace Lt
open PySem L2 PySem.Spec PyProof.Rows
structure Inf where
  N : List Str
  sc : Scope
  main : Bool
  /-- the defs that may be called: names, parameters; which keywords behind how many positional arguments -/
  sig : List (Str × Nat × List Str)
  kws : List (Str × Nat × List Str)
  gls : List (Str × Nat)
  fre : List Str
  gcd : Bool
def slotOf : List Str → Str → Option Nat
  | [], _ => none
  | y :: ys, x => if y = x then some 0 else (slotOf ys x).map (· + 1)
theorem slotOf_ok : ∀ {N : List Str} {x : Str} {i : Nat}, slotOf N x = some i → N[i]? = some x
  | [], _, _, h => by cases h
  | y :: ys, x, i, h => by
    have h' : (if y = x then some 0 else (slotOf ys x).map (· + 1)) = some i := h
    by_cases e : y = x
    · rw [if_pos e] at h'
      cases h'
      rw [e]; rfl
    · rw [if_neg e] at h'
      obtain ⟨j, h1, h2⟩ := mpd h'
      subst h2
      rw [List.getElem?_cons_succ]
      exact slotOf_ok h1
def nameOk (x : Str) : Bool := !(x == ("__debug__" : Str)) && !(x == ("__classdict__" : Str))
theorem nameOk_d {x : Str} (h : nameOk x = true) : (x == ("__debug__" : Str)) = false ∧ (x == ("__classdict__" : Str)) = false := by
  unfold nameOk at h
  simpa using h
def glB (sc : Scope) (x : Str) : Bool := decide (sc.names.lookup x = some .globalImplicit)
def visB (sc : Scope) (x : Str) : Bool := decide (sc.names.lookup x = some .local) || decide (sc.names.lookup x = some .cell) || decide (sc.names.lookup x = some .free)
def locB (I : Inf) (x : Str) : Bool := decide (I.sc.names.lookup x = some .local) || (I.main && decide (I.sc.names.lookup x = some .cell))
def bfOf2 (x : Str) : Option Bf := if x = "repr" then some .repr else if x = "str" then some .str else none
def bfOf (x : Str) : Option Bf :=
  if x = "len" then some .len else if x = "abs" then some .abs else if x = "int" then some .int else if x = "max" then some .max else if x = "min" then some .min
  else if x = "sum" then some .sum else if x = "all" then some .all else if x = "any" then some .any else if x = "tuple" then some .tuple else if x = "list" then some .list else if x = "sorted" then some .sorted else bfOf2 x
def tyOf (x : Str) : Option String :=
  if x = "int" then some "int" else if x = "bool" then some "bool" else if x = "str" then some "str" else if x = "list" then some "list" else if x = "tuple" then some "tuple" else none
def mfOf (x : Str) : Option Mf :=
  if x = "count" then some .count else if x = "index" then some .index else if x = "append" then some .append else if x = "extend" then some .extend else if x = "pop" then some .pop else if x = "reverse" then some .reverse else none
theorem mfOf_ok {x : Str} {m : Mf} (h : mfOf x = some m) : x = m.nm := by
  unfold mfOf at h
  repeat' split at h
  all_goals first
    | (cases h; assumption)
    | cases h
def sfOf (x : Str) : Option Sf :=
  if x = "join" then some .join else if x = "split" then some .split else if x = "partition" then some .partition else if x = "startswith" then some .startswith else if x = "endswith" then some .endswith else none
theorem sfOf_ok {x : Str} {m : Sf} (h : sfOf x = some m) : x = m.nm := by
  unfold sfOf at h
  repeat' split at h
  all_goals first
    | (cases h; assumption)
    | cases h
def isStar : Expr → Bool
  | .Starred .. => true
  | _ => false
def isSet : Expr → Bool
  | .Set .. => true
  | _ => false
def isSlice : Expr → Bool
  | .Slice .. => true
  | _ => false
/-- [::-1] -/
def isRevS : Expr → Bool
  | .Slice none none (some (.UnaryOp .USub (.Constant (.int i) _ _) _)) _ => decide (i = 1)
  | _ => false
def isCall : Expr → Bool
  | .Call .. => true
  | _ => false
def isComp : Expr → Bool
  | .ListComp .. | .SetComp .. | .DictComp .. => true
  | _ => false
def isTup : Expr → Bool
  | .Tuple .. => true
  | _ => false
theorem star_one {e : Expr} (h : isStar e = false) (es : List Expr) (env : Env) : starEach (e :: es) env = (false, eval e env) :: starEach es env := by
  cases e <;> first | rfl | cases h
theorem star_no {e : Expr} (h : isStar e = false) : ∀ v p, e ≠ .Starred v p := fun v p z => by rw [z] at h; cases h
theorem star_all : ∀ {es : List Expr} (_ : es.all (fun e => !isStar e) = true) (env : Env), starEach es env = es.map fun e => (false, eval e env)
  | [], _, _ => rfl
  | e :: es, h, env => by
    rw [List.all_cons, Bool.and_eq_true] at h
    rw [star_one (by simpa using h.1), star_all h.2, List.map_cons]
theorem back_all {es : List Expr} (h : es.all (fun e => !isStar e) = true) (env : Env) (pos : Pos) : (backTo pos (starEach es env)).any (·.1) = false := by
  rw [star_all h]
  unfold backTo
  rw [List.map_map, List.any_map, List.any_eq_false]
  intro e _ q
  cases q
def cLs (f : Expr → Option Ex) : List Expr → Option Exs
  | [] => some .nil
  | e :: es => if isStar e then none else (f e).bind fun i => (cLs f es).map fun is => .cons i is
def cBo (f : Expr → Option Ex) (k : Ex → Ex → Ex) : List Expr → Option Ex
  | [] => none
  | [a] => f a
  | a :: es => (f a).bind fun i => (cBo f k es).map fun j => k i j
def cKw (f : Expr → Option Ex) : List Keyword → Option (List Str × Exs)
  | [] => some ([], .nil)
  | ⟨some x, e, _⟩ :: ks => (f e).bind fun i => (cKw f ks).map fun q => (x :: q.1, .cons i q.2)
  | ⟨none, _, _⟩ :: _ => none
def cOe (f : Expr → Option Ex) : Option Expr → Option Oex
  | none => some .no
  | some e => (f e).map .so
def cIf (f : Expr → Option Ex) : List Expr → Option Oex
  | [] => some .no
  | [e] => (f e).map .so
  | _ => none
/-- a target's names -/
def cTl (f : Expr → Option Tg) : List Expr → Option (List Tg)
  | [] => some []
  | e :: es => if isStar e then none else (f e).bind fun t => (cTl f es).map fun ts => t :: ts
def cTg (I : Inf) : Nat → Expr → Option Tg
  | 0, _ => none
  | n + 1, e => match e with
    | .Name x _ => if locB I x then (slotOf I.N x).map .n else none
    | .Tuple es _ _ => (cTl (cTg I n) es).map .t
    | _ => none
/-- what is walked; f for its parts -/
def cIt (I : Inf) (f : Expr → Option Ex) (tup : Bool) (e : Expr) : Option Itr :=
  if isSet e then none else match e with
  | .Call (.Name x _) [a] [] _ => if x = "range" ∧ glB I.sc "range" = true ∧ I.fre.contains "range" = true then (if isStar a then none else (f a).map .rng1) else if x = "enumerate" ∧ tup = true ∧ glB I.sc "enumerate" = true ∧ I.fre.contains "enumerate" = true then (if isStar a then none else (f a).map .enm) else (f e).map .seq
  | .Call (.Name x _) [a, b] [] _ => if x = "range" ∧ glB I.sc "range" = true ∧ I.fre.contains "range" = true then (if isStar a || isStar b then none else (f a).bind fun i => (f b).map fun j => .rng2 i j) else if x = "zip" ∧ tup = true ∧ glB I.sc "zip" = true ∧ I.fre.contains "zip" = true then (match cLs f [a, b] with
      | some (.cons i (.cons j .nil)) => some (.zip i j)
      | _ => none) else (f e).map .seq
  | _ => (f e).map .seq
/-- the own names of a comprehension's block, with their slots -/
def ownOf (N : List Str) (scope : Scope) : List (Str × Nat) := scope.names.filterMap fun y => match y.2 with
  | .local => (slotOf N y.1).map fun i => (y.1, i)
  | .cell => (slotOf N y.1).map fun i => (y.1, i)
  | _ => none
def Inf.blk (I : Inf) (scope : Scope) : Inf := { I with sc := relS scope I.sc, main := false }
/-- set(a) -/
def setArg : List Expr → Option Expr
  | [.Call (.Name y _) [a] [] _] => if y = "set" then some a else none
  | _ => none
/-- a call of a built-in, of a def -/
def cCall (I : Inf) (f : Expr → Option Ex) (x : Str) (es : List Expr) (kws : List Keyword) : Option Ex :=
  if !(glB I.sc x && nameOk x) then none else
  match I.sig.lookup x with
  | some (j, ps) => if kws.isEmpty then (cLs f es).map fun is => .call j is [] .nil else (cLs f es).bind fun is => (cKw f kws).bind fun q =>
      if I.kws.contains (x, is.len, q.1) && decide (ps.Nodup) && (ps.drop is.len).all (fun p => q.1.contains p) then some (.call j is ((ps.drop is.len).map fun p => q.1.idxOf p) q.2) else none
  | none => if !kws.isEmpty then none
  else if x = "gcd" ∧ I.gcd = true then (if es.isEmpty then none else (cLs f es).map fun is => .blt .gcd is)
  else if !I.fre.contains x then none
  else if x = "isinstance" then (match es with
    | [a, .Name y _] => if isStar a then none else if glB I.sc y && I.fre.contains y then (tyOf y).bind fun t => (f a).map fun i => .isi i [t] else none
    | [a, .Tuple [.Name y _, .Name z _, .Name w _] _ _] => if isStar a then none else if (glB I.sc y && I.fre.contains y) && (glB I.sc z && I.fre.contains z) && (glB I.sc w && I.fre.contains w) then (tyOf y).bind fun t => (tyOf z).bind fun u => (tyOf w).bind fun v => (f a).map fun i => .isi i [t, u, v] else none
    | [a, .Tuple [.Name y _, .Name z _] _ _] => if isStar a then none else if glB I.sc y && I.fre.contains y && glB I.sc z && I.fre.contains z then (tyOf y).bind fun t => (tyOf z).bind fun u => (f a).map fun i => .isi i [t, u] else none
    | _ => none)
  else if x = "sorted" ∧ (setArg es).isSome = true then (setArg es).bind fun a => (if isStar a || !(glB I.sc "set" && I.fre.contains "set") then none else (f a).map .sset)
  else if es.isEmpty then none else (bfOf x).bind fun b => (cLs f es).map fun is => .blt b is
/-- a text's method -/
def cSm (f : Expr → Option Ex) (o : Expr) (name : Str) (es : List Expr) (apos cpos : Pos) : Option Ex := match es with
  | [e] => if isCall o || !(apos.endLine == cpos.line) || isStar e then none else (sfOf name).bind fun m => (f o).bind fun i => (f e).map fun j => .sm m i j
  | _ => none
/-- a list's display -/
def cLst (f : Expr → Option Ex) (es : List Expr) : Option Ex := match es with
  | .Starred a _ :: es => (f a).bind fun i => (cLs f es).map fun is => .lsS i is
  | [e, .Starred a _] => if isStar e then none else (f e).bind fun i => (f a).map fun j => .lsE i j
  | es => if es.length ≤ 1000 then (cLs f es).map .lst else none
def cMth (f : Expr → Option Ex) (o : Expr) (name : Str) (es : List Expr) (apos cpos : Pos) : Option Ex :=
  if isCall o || !(apos.endLine == cpos.line) || !(decide (es.length ≤ 1)) then none else (mfOf name).bind fun m => (f o).bind fun i => (cLs f es).map fun is => .mth m i is
/-- a comprehension; f for its parts (the flag: a test) -/
def cLc (f : Bool → Inf → Expr → Option Ex) (I : Inf) (elt tg it : Expr) (ifs : List Expr) (scope : Scope) : Option Ex :=
  if !blkC I.N I.sc scope (ownOf I.N scope) then none else (cTg (I.blk scope) 9 tg).bind fun g => (cIt I (f false I) (isTup tg) it).bind fun w => (cIf (f true (I.blk scope)) ifs).bind fun c => (f false (I.blk scope) elt).bind fun y =>
    if g.slots.all (fun i => ((ownOf I.N scope).map (·.2)).contains i) then some (.lc y g w c ((ownOf I.N scope).map (·.2))) else none
/-- a comprehension of two sources -/
def cLc2 (f : Bool → Inf → Expr → Option Ex) (I : Inf) (elt tg it : Expr) (ifs : List Expr) (tg1 it1 : Expr) (ifs1 : List Expr) (scope : Scope) : Option Ex :=
  if !blkC I.N I.sc scope (ownOf I.N scope) then none else (cTg (I.blk scope) 9 tg).bind fun g => (cIt I (f false I) (isTup tg) it).bind fun w => (cIf (f true (I.blk scope)) ifs).bind fun c =>
    (cTg (I.blk scope) 9 tg1).bind fun g1 => (cIt (I.blk scope) (f false (I.blk scope)) (isTup tg1) it1).bind fun w1 => (cIf (f true (I.blk scope)) ifs1).bind fun c1 => (f false (I.blk scope) elt).bind fun y =>
    if g.slots.all (fun i => ((ownOf I.N scope).map (·.2)).contains i) && g1.slots.all (fun i => ((ownOf I.N scope).map (·.2)).contains i) then some (.lc2 y g w c g1 w1 c1 ((ownOf I.N scope).map (·.2)) g1.slots) else none
def cLg (f : Bool → Inf → Expr → Option Ex) (I : Inf) (elt : Expr) (gs : List Comprehension) (scope : Scope) : Option Ex := match gs with
  | [c] => if c.is_async = 0 then cLc f I elt c.target c.iter c.ifs scope else none
  | [c, d] => if c.is_async = 0 ∧ d.is_async = 0 then cLc2 f I elt c.target c.iter c.ifs d.target d.iter d.ifs scope else none
  | _ => none
/-- a dict comprehension of one source -/
def cDc (f : Bool → Inf → Expr → Option Ex) (I : Inf) (kx vx tg it : Expr) (ifs : List Expr) (scope : Scope) : Option Ex :=
  (cLc f I kx tg it ifs scope).bind fun i => (cLc f I vx tg it ifs scope).bind fun j => match i, j with
    | .lc y g w c own, .lc v _ _ _ _ => some (.dc y v g w c own)
    | _, _ => none
def cDg (f : Bool → Inf → Expr → Option Ex) (I : Inf) (kx vx : Expr) (gs : List Comprehension) (scope : Scope) : Option Ex := match gs with
  | [c] => if c.is_async = 0 then cDc f I kx vx c.target c.iter c.ifs scope else none
  | _ => none
/-- t: a test -/
def cX : Nat → Bool → Inf → Expr → Option Ex
  | 0, _, _, _ => none
  | n + 1, t, I, e => match e with
    | .Name x _ => if !nameOk x then none else if visB I.sc x then (slotOf I.N x).map .var else if glB I.sc x then (I.gls.lookup x).map .glb else none
    | .Constant (.int i) _ _ => some (.con (.int i))
    | .Constant (.bool b) _ _ => some (.con (.bool b))
    | .Constant .none _ _ => some (.con .none)
    | .Constant (.str x) _ _ => some (.con (.str x))
    | .BinOp a op b _ => (cX n false I a).bind fun i => (cX n false I b).map fun j => .bin op i j
    | .UnaryOp .USub a _ => (cX n false I a).map .neg
    | .UnaryOp .Not a _ => (cX n t I a).map .not
    | .Compare a [op] [b] _ => if behindInMarks op b then none else (cX n false I a).bind fun i => (cX n false I b).map fun j => .cmp op i j
    | .Compare a [op, op'] [b, c] _ => if lastMarks [op, op'] [b, c] then none else (cX n false I a).bind fun i => (cX n false I b).bind fun j => (cX n false I c).map fun k => .chn op op' i j k
    | .BoolOp .And es _ => if es.length < 2 then none else cBo (cX n t I) .and es
    | .BoolOp .Or es _ => if es.length < 2 then none else cBo (cX n t I) .or es
    | .IfExp c a b _ => if t then none else (cX n true I c).bind fun k => (cX n false I a).bind fun i => (cX n false I b).map fun j => .ifx k i j
    | .Tuple es _ _ => if es.length ≤ 1000 then (cLs (cX n false I) es).map .tup else none
    | .List es _ => cLst (cX n false I) es
    | .Subscript a (.Slice lo hi none _) _ => (cX n false I a).bind fun i => (cOe (cX n false I) lo).bind fun l => (cOe (cX n false I) hi).map fun h => .slc i l h
    | .Subscript a b _ => if isSlice b then (if isRevS b then (cX n false I a).map .rev else none) else (cX n false I a).bind fun i => (cX n false I b).map fun j => .idx i j
    | .Call (.Name x _) es kws _ => cCall I (cX n false I) x es kws
    | .Call (.Attribute o name apos) es [] cpos => if (sfOf name).isSome then cSm (cX n false I) o name es apos cpos else cMth (cX n false I) o name es apos cpos
    | .ListComp elt gs scope _ => cLg (cX n) I elt gs scope
    | .DictComp kx vx gs scope _ => cDg (cX n) I kx vx gs scope
    | .Dict [] [] _ => some .dnew
    | .Dict [some a] [b] _ => (cX n false I a).bind fun i => (cX n false I b).map fun j => .dsp i j
    | _ => none
def cOp (o : Option Ex) (k : Ex → Sm) : Sm := match o with
  | some i => k i
  | none => .nev
def cSl (f : Stmt → Sm) : List Stmt → Sms
  | [] => .nil
  | s :: r => .cons (f s) (cSl f r)
def parB (I : Inf) (ts : List (Str × Pos)) (vs : List Expr) : Bool := ts.all (fun q => decide (I.sc.names.lookup q.1 = some .local)) && vs.all (fun e => !isStar e) && !vs.all (foldedForSure 8) && !vs.all (constantsAlone 8)
/-- no stores that change places: not two or three names, or one of them no plain local -/
def nsB (sc : Scope) (ts : List Expr) : Bool := !(ts.length == 2 || ts.length == 3) || ts.any fun t => match t with
  | .Name x _ => !decide (sc.names.lookup x = some .local)
  | _ => true
def cAsg (m : Nat) (I : Inf) (tg e : Expr) : Sm := match tg with
  | .Name x p => if !locB I x then .nev else match slotOf I.N x with
    | none => .nev
    | some i => match e with
      | .ListComp elt gs scope lp => cOp (cLg (cX m) I elt gs scope) (.set i)
      | .DictComp kx vx gs scope lp => cOp (cDg (cX m) I kx vx gs scope) (.set i)
      | e => if isComp e then .nev else cOp (cX m false I e) (.set i)
  | .Subscript (.Name x _) k _ => if !(visB I.sc x && nameOk x) || isSlice k then .nev else match slotOf I.N x with
    | none => .nev
    | some i => cOp (cX m false I k) fun ik => cOp (cX m false I e) fun ie => .put i ik ie
  | .Tuple ts _ _ => match e with
    | .Tuple vs _ _ => if nsB I.sc ts || vs.all (foldedForSure 8) then (match cTg I 9 tg with
      | some g => cOp (cX m false I e) (.asg g)
      | none => .nev) else (match ts, vs with
      | [.Name x px, .Name y py], [a, b] => if parB I [(x, px), (y, py)] [a, b] && px.line == py.line then (match slotOf I.N x, slotOf I.N y with
        | some i, some j => if i = j then .nev else (match cLs (cX m false I) [a, b] with
          | some is => .par [i, j] is
          | none => .nev)
        | _, _ => .nev) else .nev
      | [.Name x px, .Name y py, .Name z pz], [a, b, c] => if parB I [(x, px), (y, py), (z, pz)] [a, b, c] && px.line == py.line && px.line == pz.line then (match slotOf I.N x, slotOf I.N y, slotOf I.N z with
        | some i, some j, some l => if i = j ∨ i = l ∨ j = l then .nev else (match cLs (cX m false I) [a, b, c] with
          | some is => .par [i, j, l] is
          | none => .nev)
        | _, _, _ => .nev) else .nev
      | _, _ => .nev)
    | e => match cTg I 9 tg with
      | some g => cOp (cX m false I e) (.asg g)
      | none => .nev
  | _ => .nev
def cS (m : Nat) (I : Inf) : Nat → Stmt → Sm
  | 0, _ => .nev
  | n + 1, st => match st with
    | .Pass _ => .pas
    | .Break _ => .brk
    | .Continue _ => .cnt
    | .Return none _ => .retN
    | .Return (some e) _ => cOp (cX m false I e) .ret
    | .Expr (.Constant (.str _) _ _) _ => .pas
    | .Expr e _ => if isComp e then .nev else cOp (cX m false I e) .exp
    | .If c a b _ => cOp (cX m true I c) fun i => .ite i (cSl (cS m I n) a) (cSl (cS m I n) b)
    | .While c b [] _ => cOp (cX m true I c) fun i => .whl i (cSl (cS m I n) b)
    | .For tg it b [] _ => (match cTg I 9 tg, cIt I (cX m false I) (isTup tg) it with
      | some g, some w => .for_ g w (cSl (cS m I n) b)
      | _, _ => .nev)
    | .Assign [tg] e _ => cAsg m I tg e
    | .AugAssign (.Name x _) op e _ => if !locB I x then .nev else (match slotOf I.N x with
      | none => .nev
      | some i => cOp (cX m false I e) (.aug i op))
    | _ => .nev
end Lt
namespace Lt
open PySem L2 PySem.Spec PyProof.Rows
structure FnG (X : Cx) (x : Str) (fn : Fn) (f : Addr) (fd : FuncData) : Prop where
  ok : FnPr X.prog X.w X.K X.mg X.base fn.lvl f fd fn.ps (spF X.K fn)
  gd : X.A.guards = some []
  room : Room fn.lvl X.A
  mg : X.mg x = some (.ref f)
  kp : PySem.W.keepIn X.K (.ref f) = true
  bd : Binds X.K fd fn.ps []
structure Good (X : Cx) (T : Tab) (I : Inf) : Prop where
  N : X.N = I.N
  nd : I.N.Nodup
  sc : X.env.scope = I.sc
  calm : X.calm = true
  un : X.A.units + 65 < cLine
  kind : I.sc.kind = .function
  gd : X.A.guards = some []
  main : I.main = true → ∀ x, X.fn x = true
  fre : ∀ x ∈ I.fre, X.mg x = none
  gcd : I.gcd = true → X.mg "gcd" = some (.builtin "math.gcd")
  gls : ∀ x j, I.gls.lookup x = some j → ∃ d u v, T.gl j = some d ∧ X.mg x = some u ∧ RelV v u ∧ ∀ H Z, Rl X.K H Z d v
  sig : ∀ x j ps, I.sig.lookup x = some (j, ps) → ∃ fn f fd, T.fn j = some fn ∧ fn.ps = ps ∧ FnG X x fn f fd ∧ ∀ n ks, (x, n, ks) ∈ I.kws → KBn X.K fd ps n ks (kwArr .none ps ks) (kwArr .non ps ks)
section
variable {X : Cx} {T : Tab} {I : Inf}
theorem Good.blk (G : Good X T I) {scope : Scope} {own : List (Str × Nat)} (h : blkC I.N I.sc scope own = true) (c : BkI) : Good (Bk X scope c) T (I.blk scope) where
  N := G.N
  nd := G.nd
  sc := by rw [show (I.blk scope).sc = relS scope I.sc from rfl, ← G.sc]; rfl
  calm := G.calm
  un := G.un
  kind := (blkOk_by h).kind
  gd := G.gd
  main := fun h => by cases h
  fre := G.fre
  gcd := G.gcd
  gls := G.gls
  sig := fun x j ps h => by
    obtain ⟨fn, f, fd, h1, h2, h3, h4⟩ := G.sig x j ps h
    exact ⟨fn, f, fd, h1, h2, ⟨h3.ok, h3.gd, h3.room, h3.mg, h3.kp, h3.bd⟩, h4⟩
theorem Good.gl (G : Good X T I) {x : Str} (h : glB I.sc x = true) : Gl X x := by
  unfold glB at h
  have := of_decide_eq_true h
  show X.env.scope.names.lookup x = _
  rw [G.sc]; exact this
theorem Good.vis (G : Good X T I) {x : Str} (h : visB I.sc x = true) : Vis X.env.scope x := by
  unfold visB at h
  rw [G.sc]
  simp only [Bool.or_eq_true, decide_eq_true_eq] at h
  rcases h with (h | h) | h
  · exact .inl h
  · exact .inr (.inl h)
  · exact .inr (.inr h)
theorem Good.loc (G : Good X T I) {x : Str} (h : locB I x = true) : Loc X.env.scope x ∧ (X.fn x = true ∨ X.env.scope.names.lookup x = some .local) := by
  unfold locB at h
  rw [G.sc]
  simp only [Bool.or_eq_true, Bool.and_eq_true, decide_eq_true_eq] at h
  rcases h with h | ⟨h1, h⟩
  · exact ⟨.inl h, .inr h⟩
  · exact ⟨.inr h, .inl (G.main h1 x)⟩
theorem Good.at_ (G : Good X T I) {x : Str} {i : Nat} (h : slotOf I.N x = some i) : X.N[i]? = some x := by rw [G.N]; exact slotOf_ok h
theorem Good.nodup (G : Good X T I) : X.N.Nodup := by rw [G.N]; exact G.nd
theorem cLs_ok {f : Expr → Option Ex} (hf : ∀ e i, f e = some i → SO X e (ev T i)) : ∀ {es : List Expr} {is : Exs}, cLs f es = some is → SA X es (evs T is) ∧ es.all (fun e => !isStar e) = true ∧ is.len = es.length
  | [], is, h => by
    cases (show some Exs.nil = some is from h)
    exact ⟨sa_nil, rfl, rfl⟩
  | e :: es, is, h => by
    have h' : (if isStar e = true then none else (f e).bind fun i => (cLs f es).map fun is => Exs.cons i is) = some is := h
    cases hs : isStar e with
    | true => rw [hs, if_pos rfl] at h'; cases h'
    | false =>
      rw [hs, if_neg Bool.false_ne_true] at h'
      obtain ⟨i, h1, h2⟩ := bnd h'
      obtain ⟨js, h3, h4⟩ := mpd h2
      subst h4
      obtain ⟨q1, q2, q3⟩ := cLs_ok hf h3
      refine ⟨sa_cons (hf e i h1) q1 (star_one hs es X.env), ?_, ?_⟩
      · rw [List.all_cons, hs, q2]; rfl
      · show js.len + 1 = _
        rw [q3]; rfl
theorem cKw_ok {f : Expr → Option Ex} (hf : ∀ e i, f e = some i → SO X e (ev T i)) (env : Env) (pos : Pos) : ∀ {kws : List Keyword} {ks : List Str} {is : Exs}, cKw f kws = some (ks, is) → SK X kws (evs T is) ∧ (backToKw pos (keywordEach kws env)).all (·.1.isSome) = true ∧ (backToKw pos (keywordEach kws env)).filterMap (·.1) = ks ∧ (backToKw pos (keywordEach kws env)).any (·.1.isNone) = false ∧ is.len = ks.length
  | [], ks, is, h => by
    cases (show some (([] : List Str), Exs.nil) = some (ks, is) from h)
    exact ⟨sk_nil, rfl, rfl, rfl, rfl⟩
  | ⟨none, e, p⟩ :: kws, ks, is, h => by cases h
  | ⟨some x, e, p⟩ :: kws, ks, is, h => by
    obtain ⟨i, h1, h2⟩ := bnd (show (f e).bind _ = some (ks, is) from h)
    obtain ⟨⟨ks', is'⟩, h3, h4⟩ := mpd h2
    cases h4
    obtain ⟨q1, q2, q3, q4, q5⟩ := cKw_ok hf env pos h3
    refine ⟨sk_cons (hf e i h1) q1, ?_, ?_, ?_, ?_⟩
    · simpa [backToKw, keywordEach] using q2
    · have : (backToKw pos (keywordEach (⟨some x, e, p⟩ :: kws) env)).filterMap (·.1) = x :: (backToKw pos (keywordEach kws env)).filterMap (·.1) := rfl
      rw [this, q3]
    · simpa [backToKw, keywordEach] using q4
    · show is'.len + 1 = _
      rw [q5]; rfl
theorem asg_one {e : Expr} (h : isStar e = false) (es : List Expr) (env : Env) : assignEach (e :: es) env = (false, assign e env) :: assignEach es env := by
  cases e <;> first | rfl | cases h
theorem cTl_ok {f : Expr → Option Tg} (hf : ∀ e g, f e = some g → SGn X e g ∧ isStar e = false) : ∀ {es : List Expr} {gs : List Tg}, cTl f es = some gs → SGs X es gs ∧ (assignEach es X.env).length = gs.length ∧ (assignEach es X.env).findIdx? (·.1) = none
  | [], gs, h => by cases (show some [] = some gs from h); exact ⟨sgs_nil, rfl, rfl⟩
  | e :: es, gs, h => by
    have h' : (if isStar e = true then none else (f e).bind fun t => (cTl f es).map fun ts => t :: ts) = some gs := h
    split at h'
    · cases h'
    · obtain ⟨g, h1, h2⟩ := bnd h'
      obtain ⟨gs', h3, h4⟩ := mpd h2
      subst h4
      obtain ⟨q1, q3⟩ := hf e g h1
      obtain ⟨r1, r2, r3⟩ := cTl_ok hf h3
      have ha := asg_one q3 es X.env
      refine ⟨sgs_cons q1 r1 (by rw [ha]; rfl), by rw [ha, List.length_cons, List.length_cons, r2], ?_⟩
      rw [ha, List.findIdx?_cons]
      simp [r3]
theorem cTg_ok (G : Good X T I) : ∀ (n : Nat) (e : Expr) (g : Tg), cTg I n e = some g → SGn X e g ∧ SG X e g ∧ isStar e = false
  | 0, e, g, h => by cases h
  | n + 1, e, g, h => by
    cases e with
    | Name x p =>
      have h' : (if locB I x = true then (slotOf I.N x).map Tg.n else none) = some g := h
      split at h'
      · rename_i hl
        obtain ⟨i, h1, h2⟩ := mpd h'
        subst h2
        obtain ⟨l1, l2⟩ := G.loc hl
        have q := sgn_name (pos := p) G.nodup (G.at_ h1) l1 l2
        exact ⟨q, q.g (fun z => z), rfl⟩
      · cases h'
    | Tuple es k0 p =>
      obtain ⟨gs, h1, h2⟩ := mpd (show (cTl (cTg I n) es).map Tg.t = some g from h)
      subst h2
      obtain ⟨q1, q2, q3⟩ := cTl_ok (fun e g h => ⟨(cTg_ok G n e g h).1, (cTg_ok G n e g h).2.2⟩) h1
      exact ⟨sgn_tup G.calm q1 q2 q3, sg_tup G.calm q1 q2 q3, rfl⟩
    | _ => cases h
theorem notset_fold {e : Expr} (h : isSet e = false) (env : Env) (x : Value) : foldedSetIterable e env x = pure x := by
  cases e <;> first | rfl | cases h
theorem cTg_isT {n : Nat} {tg : Expr} {g : Tg} (h : cTg I n tg = some g) (hi : isTup tg = true) : (∃ es k p, tg = .Tuple es k p) ∧ isT g := by
  cases tg <;> (try (cases hi))
  cases n with
  | zero => cases h
  | succ n =>
    rename_i es k p
    obtain ⟨gs, h1, h2⟩ := mpd (show (cTl (cTg I n) es).map Tg.t = some g from h)
    subst h2
    exact ⟨⟨_, _, _, rfl⟩, trivial⟩
theorem cIt_ok (G : Good X T I) {f : Expr → Option Ex} (hf : ∀ e i, f e = some i → SO X e (ev T i)) {tg e : Expr} {itg : Tg} {w : Itr} {tup : Bool} (htup : tup = true → (∃ es k p, tg = .Tuple es k p) ∧ isT itg) (h : cIt I f tup e = some w) : SI X tg e itg (evi T w) ∧ isSet e = false := by
  unfold cIt at h
  split at h
  · cases h
  · rename_i hs
    refine ⟨?_, by simpa using hs⟩
    have seq : ∀ {e w}, (f e).map Itr.seq = some w → SI X tg e itg (evi T w) := fun {e w} h => by
      obtain ⟨i, h1, h2⟩ := mpd h
      subst h2
      exact si_seq (hf e i h1)
    split at h
    · rename_i x p a pos
      split at h
      · rename_i hx
        obtain ⟨rfl, hg, hm⟩ := hx
        split at h
        · cases h
        · rename_i ha
          obtain ⟨i, h1, h2⟩ := mpd h
          subst h2
          exact si_rng1 (G.gl hg) (G.fre _ (by simpa using hm)) (hf a i h1) (star_one (by simpa using ha) [] X.env)
      · split at h
        · rename_i hx
          obtain ⟨rfl, ht, hg, hm⟩ := hx
          obtain ⟨⟨es, k, p, rfl⟩, hT⟩ := htup ht
          split at h
          · cases h
          · rename_i ha
            obtain ⟨i, h1, h2⟩ := mpd h
            subst h2
            exact si_enm (G.gl hg) (G.fre _ (by simpa using hm)) hT (hf a i h1) (star_one (by simpa using ha) [] X.env)
        · exact seq h
    · rename_i x p a b pos
      split at h
      · rename_i hx
        obtain ⟨rfl, hg, hm⟩ := hx
        split at h
        · cases h
        · rename_i ha
          have ha' : isStar a = false ∧ isStar b = false := by simpa using ha
          obtain ⟨i, h1, h2⟩ := bnd h
          obtain ⟨j, h3, h4⟩ := mpd h2
          subst h4
          exact si_rng2 (G.gl hg) (G.fre _ (by simpa using hm)) (hf a i h1) (hf b j h3) ((star_one ha'.1 [b] X.env).trans (by rw [star_one ha'.2 [] X.env]; rfl)) (star_one ha'.2 [] X.env)
      · split at h
        · rename_i hx
          obtain ⟨rfl, ht, hg, hm⟩ := hx
          obtain ⟨⟨es, k, p, rfl⟩, hT⟩ := htup ht
          split at h
          · rename_i i j hl
            cases h
            obtain ⟨q1, q2, _⟩ := cLs_ok hf hl
            have q2' : isStar a = false ∧ isStar b = false := by simpa using q2
            exact si_zip (G.gl hg) (G.fre _ (by simpa using hm)) hT q1 (star_one q2'.1 [b] X.env) (back_all (es := [b]) (by simpa using q2'.2) _ _)
          · cases h
        · exact seq h
    · exact seq h
theorem cIf_ok {f : Expr → Option Ex} (hf : ∀ e i, f e = some i → ST X e (ev T i)) {es : List Expr} {c : Oex} (h : cIf f es = some c) : SC X es (evc T c) := by
  match es, h with
  | [], h => cases (show some Oex.no = some c from h); exact sc_nil
  | [e], h =>
    obtain ⟨i, h1, h2⟩ := mpd (show (f e).map Oex.so = some c from h)
    subst h2
    exact sc_one (hf e i h1)
  | _ :: _ :: _, h => cases h
theorem cOe_ok {f : Expr → Option Ex} (hf : ∀ e i, f e = some i → SO X e (ev T i)) {e : Option Expr} {c : Oex} (h : cOe f e = some c) : SP_ X e (evo T c) := by
  cases e with
  | none => cases (show some Oex.no = some c from h); exact sp_no
  | some e =>
    obtain ⟨i, h1, h2⟩ := mpd (show (f e).map Oex.so = some c from h)
    subst h2
    exact sp_so (hf e i h1)
theorem cr_or {X : Cx} {g : Value} {r1 r2 : List V → Hp → VK → Prop} (h1 : CallR X g r1) (h2 : CallR X g r2) : CallR X g (fun vs H Q => r1 vs H Q ∨ r2 vs H Q) := by
  intro pins s σ H vs us Q I r h
  rcases h with h | h
  · exact h1 pins s σ H vs us Q I r h
  · exact h2 pins s σ H vs us Q I r h
theorem bf_ok (G : Good X T I) {x : Str} {b : Bf} (h : bfOf x = some b) (hg : Gl X x) (hm : X.mg x = none) :
    ∃ r, BltOk X.K b r ∧ ∀ {e : Expr} {es : List Expr} {t : TA} {p pos : Pos}, PA X (e :: es) t → isStar e = false → es.all (fun e => !isStar e) = true → PE X (.Call (.Name x p) (e :: es) [] pos) (tCB r t) := by
  unfold bfOf at h
  split at h
  · rename_i e; subst e; cases h
    exact ⟨_, blt_len, fun ha h1 h2 => pe_callB call_len hg hm boot_len ha (by decide) (by decide) (star_one h1 _ _) (back_all h2 _ _)⟩
  split at h
  · rename_i e; subst e; cases h
    exact ⟨_, blt_abs, fun ha h1 h2 => pe_callB call_abs hg hm boot_abs ha (by decide) (by decide) (star_one h1 _ _) (back_all h2 _ _)⟩
  split at h
  · rename_i e; subst e; cases h
    exact ⟨_, blt_int, fun ha h1 h2 => pe_callTy (cr_or (r1 := rInt1) (r2 := rIntS) call_int1 call_int_str) hg hm boot_int ha (by decide) (by decide) (star_one h1 _ _) (back_all h2 _ _)⟩
  split at h
  · rename_i e; subst e; cases h
    exact ⟨_, blt_max, fun ha h1 h2 => pe_callB (cr_or (call_max2 G.calm) (cr_max G.calm)) hg hm boot_max ha (by decide) (by decide) (star_one h1 _ _) (back_all h2 _ _)⟩
  split at h
  · rename_i e; subst e; cases h
    exact ⟨_, blt_min, fun ha h1 h2 => pe_callB (cr_or (call_min2 G.calm) (cr_min G.calm)) hg hm boot_min ha (by decide) (by decide) (star_one h1 _ _) (back_all h2 _ _)⟩
  split at h
  · rename_i e; subst e; cases h
    exact ⟨_, blt_sum, fun ha h1 h2 => pe_callB (cr_sum G.calm) hg hm boot_sum ha (by decide) (by decide) (star_one h1 _ _) (back_all h2 _ _)⟩
  split at h
  · rename_i e; subst e; cases h
    exact ⟨_, blt_all, fun ha h1 h2 => pe_callB (cr_all G.calm) hg hm boot_all ha (by decide) (by decide) (star_one h1 _ _) (back_all h2 _ _)⟩
  split at h
  · rename_i e; subst e; cases h
    exact ⟨_, blt_any, fun ha h1 h2 => pe_callB (cr_any G.calm) hg hm boot_any ha (by decide) (by decide) (star_one h1 _ _) (back_all h2 _ _)⟩
  split at h
  · rename_i e; subst e; cases h
    exact ⟨_, blt_tuple, fun ha h1 h2 => pe_callTy call_tupleF hg hm boot_tuple ha (by decide) (by decide) (star_one h1 _ _) (back_all h2 _ _)⟩
  split at h
  · rename_i e; subst e; cases h
    exact ⟨_, blt_list, fun ha h1 h2 => pe_callTy call_list_of hg hm boot_list ha (by decide) (by decide) (star_one h1 _ _) (back_all h2 _ _)⟩
  split at h
  · rename_i e; subst e; cases h
    exact ⟨_, blt_sorted, fun ha h1 h2 => pe_callB (cr_or (cr_sortedD G.un) (cr_sortedK G.calm G.un)) hg hm boot_sorted ha (by decide) (by decide) (star_one h1 _ _) (back_all h2 _ _)⟩
  unfold bfOf2 at h
  split at h
  · rename_i e; subst e; cases h
    exact ⟨_, blt_repr, fun ha h1 h2 => pe_callB (cr_repr G.un G.gd) hg hm boot_repr ha (by decide) (by decide) (star_one h1 _ _) (back_all h2 _ _)⟩
  split at h
  · rename_i e; subst e; cases h
    exact ⟨_, blt_str, fun ha h1 h2 => pe_callTy (r := rStr1) call_str_int hg hm (by decide +kernel) ha (by decide) (by decide) (star_one h1 _ _) (back_all h2 _ _)⟩
  cases h
theorem ty_ok (G : Good X T I) {x : Str} {t : String} (h : tyOf x = some t) (hg : Gl X x) (hm : X.mg x = none) : TyNm X x t := by
  unfold tyOf at h
  split at h
  · rename_i e; subst e; cases h
    exact ⟨hg, hm, by decide +kernel, by decide, by decide, by decide⟩
  split at h
  · rename_i e; subst e; cases h
    exact ⟨hg, hm, by decide +kernel, by decide, by decide, by decide⟩
  split at h
  · rename_i e; subst e; cases h
    exact ⟨hg, hm, by decide +kernel, by decide, by decide, by decide⟩
  split at h
  · rename_i e; subst e; cases h
    exact ⟨hg, hm, by decide +kernel, by decide, by decide, by decide⟩
  split at h
  · rename_i e; subst e; cases h
    exact ⟨hg, hm, by decide +kernel, by decide, by decide, by decide⟩
  cases h
/-- a call of a def, of a built-in -/
theorem cCall_ok (G : Good X T I) {f : Expr → Option Ex} (hf : ∀ e i, f e = some i → SO X e (ev T i)) {x : Str} {es : List Expr} {kws : List Keyword} {i : Ex} {p pos : Pos} (h : cCall I f x es kws = some i) : SO X (.Call (.Name x p) es kws pos) (ev T i) := by
  unfold cCall at h
  split at h
  · cases h
  rename_i h0
  have h0' : glB I.sc x = true ∧ nameOk x = true := by simpa using h0
  have hg := G.gl h0'.1
  have nd := (nameOk_d h0'.2).1
  split at h
  · rename_i j ps hj
    obtain ⟨fn, fa, fd, t1, t2, t3, t4⟩ := G.sig x j ps hj
    have F : FnAt X x fn fa fd := ⟨t3.ok, t3.gd, t3.room, hg, t3.mg, t3.kp, t3.bd, nd⟩
    split at h
    · rename_i hk
      have hk' : kws = [] := by cases kws with
        | nil => rfl
        | cons _ _ => cases hk
      subst hk'
      obtain ⟨is, h1, h2⟩ := mpd h
      subst h2
      obtain ⟨q1, q2, _⟩ := cLs_ok hf h1
      refine so_call t1 F q1 fun {t} ha => ?_
      cases es with
      | nil =>
        rw [ha.2 rfl]
        exact pe_g0 F.ok F.room F.gd F.gl F.mg F.kp F.bd passG F.nd
      | cons e es =>
        rw [List.all_cons, Bool.and_eq_true] at q2
        exact pe_g F.ok F.room F.gd F.gl F.mg F.kp F.bd passG ha.1 F.nd (star_one (by simpa using q2.1) _ _) (back_all q2.2 _ _)
    · obtain ⟨is, h1, h2⟩ := bnd h
      obtain ⟨⟨ks, iks⟩, h3, h4⟩ := bnd h2
      obtain ⟨q1, q2, q3⟩ := cLs_ok hf h1
      obtain ⟨k1, k2, k3, k4, k5⟩ := cKw_ok hf X.env pos h3
      split at h4
      · rename_i hc
        cases h4
        simp only [Bool.and_eq_true, decide_eq_true_eq, List.all_eq_true, List.contains_iff_mem] at hc
        obtain ⟨⟨c1, c2⟩, c3⟩ := hc
        subst t2
        have B := t4 _ _ c1
        refine so_callk t1 F B c3 c2 k5 q1 k1 fun {t tk} ha hk => ?_
        cases es with
        | nil =>
          have e0 : is = .nil := by
            cases (show some Exs.nil = some is from h1); rfl
          subst e0
          rw [ha.2 rfl]
          exact pe_gN0 F.ok F.room F.gd F.gl F.mg F.kp B passG hk k2 k3 F.nd (by rw [k4]; rfl)
        | cons e es =>
          have q2' := q2
          rw [List.all_cons, Bool.and_eq_true] at q2
          exact pe_gN F.ok F.room F.gd F.gl F.mg F.kp B passG ha.1 hk k2 k3 F.nd (star_one (by simpa using q2.1) _ _) (by rw [k4, back_all q2']; rfl)
      · cases h4
  split at h
  · cases h
  rename_i hk
  have hk' : kws = [] := by cases kws with
    | nil => rfl
    | cons _ _ => exact absurd rfl hk
  subst hk'
  split at h
  · rename_i hx
    obtain ⟨rfl, hgc⟩ := hx
    cases es with
    | nil => cases h
    | cons e es =>
      obtain ⟨is, h1, h2⟩ := mpd (show (cLs f (e :: es)).map (fun is => Ex.blt .gcd is) = some i from h)
      subst h2
      obtain ⟨q1, q2, _⟩ := cLs_ok hf h1
      rw [List.all_cons, Bool.and_eq_true] at q2
      exact so_blt blt_gcd (fun {t} ha => pe_callBfun cr_gcd hg (G.gcd hgc) ha.1 nd (star_one (by simpa using q2.1) _ _) (back_all q2.2 _ _)) q1
  split at h
  · cases h
  rename_i hfr
  have hm : X.mg x = none := G.fre x (by simpa using hfr)
  split at h
  · rename_i hx
    subst hx
    split at h
    · rename_i a y p1
      split at h
      · cases h
      rename_i ha
      split at h
      · rename_i hy
        rw [Bool.and_eq_true] at hy
        obtain ⟨t, h1, h2⟩ := bnd h
        obtain ⟨ia, h3, h4⟩ := mpd h2
        subst h4
        exact so_isi1 (ty_ok G h1 (G.gl hy.1) (G.fre _ (by simpa using hy.2))) hg hm (hf a ia h3) (star_no (by simpa using ha))
      · cases h
    · rename_i a y p1 z p2 w p4 k0 p3
      split at h
      · cases h
      rename_i ha
      split at h
      · rename_i hy
        simp only [Bool.and_eq_true] at hy
        obtain ⟨⟨⟨y1, y2⟩, y3, y4⟩, y5, y6⟩ := hy
        obtain ⟨t, h1, h2⟩ := bnd h
        obtain ⟨u, h3, h4⟩ := bnd h2
        obtain ⟨v, h3v, h4⟩ := bnd h4
        obtain ⟨ia, h5, h6⟩ := mpd h4
        subst h6
        have := so_isiN (T := T) (xs := [(y, p1, t), (z, p2, u), (w, p4, v)]) (p := p) (k0 := k0) (pt := p3) (pos := pos) (fun q hq => by
          rcases List.mem_cons.mp hq with rfl | hq
          · exact ty_ok G h1 (G.gl y1) (G.fre _ (by simpa using y2))
          · rcases List.mem_cons.mp hq with rfl | hq
            · exact ty_ok G h3 (G.gl y3) (G.fre _ (by simpa using y4))
            · rcases List.mem_cons.mp hq with rfl | hq
              · exact ty_ok G h3v (G.gl y5) (G.fre _ (by simpa using y6))
              · cases hq) (Nat.le_of_ble_eq_true rfl) hg hm (hf a ia h5) (star_no (by simpa using ha))
        exact this
      · cases h
    · rename_i a y p1 z p2 k0 p3
      split at h
      · cases h
      rename_i ha
      split at h
      · rename_i hy
        simp only [Bool.and_eq_true] at hy
        obtain ⟨⟨⟨y1, y2⟩, y3⟩, y4⟩ := hy
        obtain ⟨t, h1, h2⟩ := bnd h
        obtain ⟨u, h3, h4⟩ := bnd h2
        obtain ⟨ia, h5, h6⟩ := mpd h4
        subst h6
        have := so_isiN (T := T) (xs := [(y, p1, t), (z, p2, u)]) (p := p) (k0 := k0) (pt := p3) (pos := pos) (fun q hq => by
          rcases List.mem_cons.mp hq with rfl | hq
          · exact ty_ok G h1 (G.gl y1) (G.fre _ (by simpa using y2))
          · rcases List.mem_cons.mp hq with rfl | hq
            · exact ty_ok G h3 (G.gl y3) (G.fre _ (by simpa using y4))
            · cases hq) (Nat.le_of_ble_eq_true rfl) hg hm (hf a ia h5) (star_no (by simpa using ha))
        exact this
      · cases h
    · cases h
  split at h
  · rename_i hx
    obtain ⟨rfl, _⟩ := hx
    obtain ⟨a, h1, h2⟩ := bnd h
    obtain ⟨p2, q2, rfl⟩ : ∃ p2 q2, es = [.Call (.Name "set" p2) [a] [] q2] := by
      unfold setArg at h1
      split at h1
      · split at h1
        · rename_i e
          cases h1
          subst e
          exact ⟨_, _, rfl⟩
        · cases h1
      · cases h1
    split at h2
    · cases h2
    rename_i hn
    obtain ⟨n1, n2⟩ : isStar a = false ∧ (glB I.sc "set" && I.fre.contains "set") = true := by
      rw [Bool.not_eq_true, Bool.or_eq_false_iff, Bool.not_eq_false'] at hn
      exact hn
    rw [Bool.and_eq_true] at n2
    obtain ⟨ia, h3, h4⟩ := mpd h2
    subst h4
    exact so_sset G.calm G.un hg hm (G.gl n2.1) (G.fre _ (by simpa using n2.2)) (star_one n1 _ _) (star_one rfl _ _) (hf a ia h3)
  · cases es with
    | nil => cases h
    | cons e es =>
      obtain ⟨b, hb, h⟩ := bnd (show (bfOf x).bind (fun b => (cLs f (e :: es)).map fun is => Ex.blt b is) = some i from h)
      obtain ⟨is, h1, h2⟩ := mpd h
      subst h2
      obtain ⟨q1, q2, _⟩ := cLs_ok hf h1
      rw [List.all_cons, Bool.and_eq_true] at q2
      obtain ⟨r, ok, pc⟩ := bf_ok G hb hg hm
      exact so_blt ok (fun {t} ha => pc ha.1 (by simpa using q2.1) q2.2) q1
theorem attr_call {o : Expr} (h : isCall o = false) (name : Str) (env : Env) (w : Sem Value) : attributeBase o name env w = w := by
  cases o <;> first | rfl | cases h
theorem cMth_ok (G : Good X T I) {f : Expr → Option Ex} (hf : ∀ e i, f e = some i → SO X e (ev T i)) {o : Expr} {name : Str} {es : List Expr} {i : Ex} {apos cpos : Pos} (h : cMth f o name es apos cpos = some i) : SO X (.Call (.Attribute o name apos) es [] cpos) (ev T i) := by
  unfold cMth at h
  split at h
  · cases h
  rename_i h0
  have h0' : (isCall o = false ∧ (apos.endLine == cpos.line) = true) ∧ es.length ≤ 1 := by simpa using h0
  obtain ⟨⟨o1, o2⟩, o3⟩ := h0'
  obtain ⟨m, hm, h⟩ := bnd h
  obtain ⟨io, h1, h⟩ := bnd h
  obtain ⟨is, h2, h⟩ := mpd h
  subst h
  have := mfOf_ok hm
  subst this
  obtain ⟨q1, q2, _⟩ := cLs_ok hf h2
  have pc : ∀ {to : TE} {t : TA}, PE X o to → PAn X es t → PE X (.Call (.Attribute o m.nm apos) es [] cpos) (tMG X m.nm to t) := fun {to t} po pa => by
    match es, o3, q2, pa with
    | [], _, _, pa =>
      rw [pa.2 rfl]
      exact pe_mg0 po (attr_call o1 _ _ _) o2
    | [e], _, q2, pa =>
      rw [List.all_cons, Bool.and_eq_true] at q2
      exact pe_mg1 po pa.1 (star_one (by simpa using q2.1) [] X.env) (attr_call o1 _ _ _) o2
    | _ :: _ :: _, o3, _, _ => exact absurd o3 (by simp)
  cases m with
  | append => exact so_mut rfl (hf o io h1) q1 pc
  | extend => exact so_mut rfl (hf o io h1) q1 pc
  | pop => exact so_mut rfl (hf o io h1) q1 pc
  | reverse => exact so_mut rfl (hf o io h1) q1 pc
  | count => exact so_cnt G.un (hf o io h1) q1 pc
  | index => exact so_ind G.un (hf o io h1) q1 pc
theorem cSm_ok {f : Expr → Option Ex} (hf : ∀ e i, f e = some i → SO X e (ev T i)) {o : Expr} {name : Str} {es : List Expr} {i : Ex} {apos cpos : Pos} (h : cSm f o name es apos cpos = some i) : SO X (.Call (.Attribute o name apos) es [] cpos) (ev T i) := by
  match es, h with
  | [e], h =>
    have h' : (if (isCall o || !(apos.endLine == cpos.line) || isStar e) = true then none else (sfOf name).bind fun m => (f o).bind fun i => (f e).map fun j => Ex.sm m i j) = some i := h
    split at h'
    · cases h'
    rename_i h0
    obtain ⟨⟨o1, o2⟩, o3⟩ : (isCall o = false ∧ (apos.endLine == cpos.line) = true) ∧ isStar e = false := by simpa using h0
    obtain ⟨m, hm, h'⟩ := bnd h'
    obtain ⟨io, h1, h'⟩ := bnd h'
    obtain ⟨ie, h2, h'⟩ := mpd h'
    subst h'
    have := sfOf_ok hm
    subst this
    exact so_sm (hf o io h1) (hf e ie h2) (star_one o3 [] X.env) (attr_call o1 _ _ _) o2
  | [], h => cases h
  | _ :: _ :: _, h => cases h
theorem cLst_ok {f : Expr → Option Ex} (hf : ∀ e i, f e = some i → SO X e (ev T i)) {es : List Expr} {i : Ex} {pos : Pos} (h : cLst f es = some i) : SO X (.List es pos) (ev T i) := by
  unfold cLst at h
  split at h
  · obtain ⟨ia, h1, h⟩ := bnd h
    obtain ⟨is, h2, h⟩ := mpd h
    subst h
    exact so_lsS (hf _ ia h1) (cLs_ok hf h2).1 rfl
  · split at h
    · cases h
    rename_i hs
    obtain ⟨ie, h1, h⟩ := bnd h
    obtain ⟨ia, h2, h⟩ := mpd h
    subst h
    exact so_lsE (hf _ ie h1) (hf _ ia h2) (star_one (by simpa using hs) _ _) rfl
  · split at h
    · rename_i hl
      obtain ⟨is, h1, h2⟩ := mpd h
      subst h2
      obtain ⟨q1, _, q3⟩ := cLs_ok hf h1
      exact so_lst q1 (by omega)
    · cases h
structure LcG (X : Cx) (T : Tab) (elt tg it : Expr) (ifs : List Expr) (scope : Scope) (y : Ex) (g : Tg) (w : Itr) (c : Oex) (own : List (Str × Nat)) : Prop where
  bk : BlkOk X.N X.env.scope scope own
  ns : isSet it = false
  si : SI X tg it g (evi T w)
  sg : ∀ c, SG (Bk X scope c) tg g
  sc : ∀ k, SC (Bk X scope k) ifs (evc T c)
  so : ∀ k, SO (Bk X scope k) elt (ev T y)
  sub : ∀ i ∈ g.slots, i ∈ own.map (·.2)
theorem cLc_ok (G : Good X T I) {f : Bool → Inf → Expr → Option Ex} (hf : ∀ {X I}, Good X T I → ∀ e i, f false I e = some i → SO X e (ev T i)) (ht : ∀ {X I}, Good X T I → ∀ e i, f true I e = some i → ST X e (ev T i)) {elt tg it : Expr} {ifs : List Expr} {scope : Scope} {i : Ex} (h : cLc f I elt tg it ifs scope = some i) :
    ∃ y g w c, i = .lc y g w c ((ownOf I.N scope).map (·.2)) ∧ LcG X T elt tg it ifs scope y g w c (ownOf I.N scope) := by
  unfold cLc at h
  split at h
  · cases h
  rename_i hb
  have hb' : blkC I.N I.sc scope (ownOf I.N scope) = true := by simpa using hb
  obtain ⟨g, h1, h⟩ := bnd h
  obtain ⟨w, h2, h⟩ := bnd h
  obtain ⟨c, h3, h⟩ := bnd h
  obtain ⟨y, h4, h⟩ := bnd h
  split at h
  · rename_i hs
    cases h
    obtain ⟨i1, i2⟩ := cIt_ok (tg := tg) (itg := g) G (hf G) (cTg_isT h1) h2
    refine ⟨y, g, w, c, rfl, ?_, i2, i1, fun k => (cTg_ok (G.blk hb' k) 9 tg g h1).2.1, fun k => cIf_ok (ht (G.blk hb' k)) h3, fun k => hf (G.blk hb' k) elt y h4, fun i hi => ?_⟩
    · rw [G.N, G.sc]; exact blkOk_by hb'
    · have := List.all_eq_true.mp hs i hi
      simpa using this
  · cases h
theorem cDg_is {f : Bool → Inf → Expr → Option Ex} {kx vx : Expr} {gs : List Comprehension} {scope : Scope} {i : Ex} (h : cDg f I kx vx gs scope = some i) : ∃ tg it ifs, gs = [⟨tg, it, ifs, 0⟩] ∧ cDc f I kx vx tg it ifs scope = some i := by
  match gs, h with
  | [⟨tg, it, ifs, asy⟩], h =>
    have h' : (if asy = 0 then cDc f I kx vx tg it ifs scope else none) = some i := h
    split at h'
    · rename_i e
      subst e
      exact ⟨tg, it, ifs, rfl, h'⟩
    · cases h'
theorem cDc_ok (G : Good X T I) {f : Bool → Inf → Expr → Option Ex} (hf : ∀ {X I}, Good X T I → ∀ e i, f false I e = some i → SO X e (ev T i)) (ht : ∀ {X I}, Good X T I → ∀ e i, f true I e = some i → ST X e (ev T i)) {kx vx tg it : Expr} {ifs : List Expr} {scope : Scope} {i : Ex} (h : cDc f I kx vx tg it ifs scope = some i) :
    ∃ y v g w c, i = .dc y v g w c ((ownOf I.N scope).map (·.2)) ∧ LcG X T kx tg it ifs scope y g w c (ownOf I.N scope) ∧ ∀ k, SO (Bk X scope k) vx (ev T v) := by
  obtain ⟨ik, h1, h⟩ := bnd (show (cLc f I kx tg it ifs scope).bind _ = some i from h)
  obtain ⟨iv, h2, h⟩ := bnd h
  obtain ⟨y, g, w, c, rfl, L⟩ := cLc_ok G hf ht h1
  obtain ⟨v, g', w', c', rfl, M⟩ := cLc_ok G hf ht h2
  cases (show some _ = some i from h)
  exact ⟨y, v, g, w, c, rfl, L, M.so⟩
structure LcG2 (X : Cx) (T : Tab) (elt tg it : Expr) (ifs : List Expr) (tg1 it1 : Expr) (ifs1 : List Expr) (scope : Scope) (y : Ex) (g : Tg) (w : Itr) (c : Oex) (g1 : Tg) (w1 : Itr) (c1 : Oex) (own : List (Str × Nat)) : Prop where
  bk : BlkOk X.N X.env.scope scope own
  ns : isSet it = false
  si : SI X tg it g (evi T w)
  sg : ∀ c, SG (Bk X scope c) tg g
  sc : ∀ k, SC (Bk X scope k) ifs (evc T c)
  ns1 : isSet it1 = false
  si1 : ∀ k, SI (Bk X scope k) tg1 it1 g1 (evi T w1)
  sg1 : ∀ c, SG (Bk X scope c) tg1 g1
  sc1 : ∀ k, SC (Bk X scope k) ifs1 (evc T c1)
  so : ∀ k, SO (Bk X scope k) elt (ev T y)
  sub : ∀ i ∈ g.slots, i ∈ own.map (·.2)
  sub1 : ∀ i ∈ g1.slots, i ∈ own.map (·.2)
theorem cLc2_ok (G : Good X T I) {f : Bool → Inf → Expr → Option Ex} (hf : ∀ {X I}, Good X T I → ∀ e i, f false I e = some i → SO X e (ev T i)) (ht : ∀ {X I}, Good X T I → ∀ e i, f true I e = some i → ST X e (ev T i)) {elt tg it tg1 it1 : Expr} {ifs ifs1 : List Expr} {scope : Scope} {i : Ex} (h : cLc2 f I elt tg it ifs tg1 it1 ifs1 scope = some i) :
    ∃ y g w c g1 w1 c1, i = .lc2 y g w c g1 w1 c1 ((ownOf I.N scope).map (·.2)) g1.slots ∧ LcG2 X T elt tg it ifs tg1 it1 ifs1 scope y g w c g1 w1 c1 (ownOf I.N scope) := by
  unfold cLc2 at h
  split at h
  · cases h
  rename_i hb
  have hb' : blkC I.N I.sc scope (ownOf I.N scope) = true := by simpa using hb
  obtain ⟨g, h1, h⟩ := bnd h
  obtain ⟨w, h2, h⟩ := bnd h
  obtain ⟨c, h3, h⟩ := bnd h
  obtain ⟨g1, k1, h⟩ := bnd h
  obtain ⟨w1, k2, h⟩ := bnd h
  obtain ⟨c1, k3, h⟩ := bnd h
  obtain ⟨y, h4, h⟩ := bnd h
  split at h
  · rename_i hs
    cases h
    rw [Bool.and_eq_true] at hs
    obtain ⟨i1, i2⟩ := cIt_ok (tg := tg) (itg := g) G (hf G) (cTg_isT h1) h2
    have j12 : ∀ k, SI (Bk X scope k) tg1 it1 g1 (evi T w1) ∧ isSet it1 = false := fun k => cIt_ok (tg := tg1) (itg := g1) (G.blk hb' k) (hf (G.blk hb' k)) (cTg_isT k1) k2
    refine ⟨y, g, w, c, g1, w1, c1, rfl, ?_, i2, i1, fun k => (cTg_ok (G.blk hb' k) 9 tg g h1).2.1, fun k => cIf_ok (ht (G.blk hb' k)) h3, ?_, fun k => (j12 k).1, fun k => (cTg_ok (G.blk hb' k) 9 tg1 g1 k1).2.1, fun k => cIf_ok (ht (G.blk hb' k)) k3, fun k => hf (G.blk hb' k) elt y h4, fun i hi => ?_, fun i hi => ?_⟩
    · rw [G.N, G.sc]; exact blkOk_by hb'
    · cases hz : isSet it1 with
      | false => rfl
      | true =>
        unfold cIt at k2
        rw [hz] at k2
        cases k2
    · have := List.all_eq_true.mp hs.1 i hi
      simpa using this
    · have := List.all_eq_true.mp hs.2 i hi
      simpa using this
  · cases h
theorem cLg_is {f : Bool → Inf → Expr → Option Ex} {elt : Expr} {gs : List Comprehension} {scope : Scope} {i : Ex} (h : cLg f I elt gs scope = some i) : (∃ tg it ifs, gs = [⟨tg, it, ifs, 0⟩] ∧ cLc f I elt tg it ifs scope = some i) ∨ ∃ tg it ifs tg1 it1 ifs1, gs = [⟨tg, it, ifs, 0⟩, ⟨tg1, it1, ifs1, 0⟩] ∧ cLc2 f I elt tg it ifs tg1 it1 ifs1 scope = some i := by
  match gs, h with
  | [⟨tg, it, ifs, asy⟩], h =>
    have h' : (if asy = 0 then cLc f I elt tg it ifs scope else none) = some i := h
    split at h'
    · rename_i e
      subst e
      exact .inl ⟨tg, it, ifs, rfl, h'⟩
    · cases h'
  | [⟨tg, it, ifs, asy⟩, ⟨tg1, it1, ifs1, asy1⟩], h =>
    have h' : (if asy = 0 ∧ asy1 = 0 then cLc2 f I elt tg it ifs tg1 it1 ifs1 scope else none) = some i := h
    split at h'
    · rename_i e
      obtain ⟨rfl, rfl⟩ := e
      exact .inr ⟨tg, it, ifs, tg1, it1, ifs1, rfl, h'⟩
    · cases h'
theorem cBo_t {f : Expr → Option Ex} (hf : ∀ e i, f e = some i → ST X e (ev T i)) {pos : Pos} : ∀ {a : Expr} {es : List Expr} {i : Ex}, (cBo f .and (a :: es) = some i → SW X (.BoolOp .And (a :: es) pos) (ev T i)) ∧ (cBo f .or (a :: es) = some i → SW X (.BoolOp .Or (a :: es) pos) (ev T i))
  | a, [], i => ⟨fun h => sw_and1 (hf a i h), fun h => sw_or1 (hf a i h)⟩
  | a, b :: es, i => by
    refine ⟨fun h => ?_, fun h => ?_⟩
    · obtain ⟨ia, h1, h⟩ := bnd (show (f a).bind (fun i => (cBo f .and (b :: es)).map fun j => Ex.and i j) = some i from h)
      obtain ⟨ib, h2, h⟩ := mpd h
      subst h
      exact sw_and (hf a ia h1) ((cBo_t hf).1 h2)
    · obtain ⟨ia, h1, h⟩ := bnd (show (f a).bind (fun i => (cBo f .or (b :: es)).map fun j => Ex.or i j) = some i from h)
      obtain ⟨ib, h2, h⟩ := mpd h
      subst h
      exact sw_or (hf a ia h1) ((cBo_t hf).2 h2)
theorem cBo_b {f : Expr → Option Ex} (hf : ∀ e i, f e = some i → SO X e (ev T i)) {pos : Pos} : ∀ {a : Expr} {es : List Expr} {i : Ex}, (cBo f .and (a :: es) = some i → SB X (.BoolOp .And (a :: es) pos) (ev T i)) ∧ (cBo f .or (a :: es) = some i → SB X (.BoolOp .Or (a :: es) pos) (ev T i))
  | a, [], i => ⟨fun h => sb_one (hf a i h).sb, fun h => sb_one (hf a i h).sb⟩
  | a, b :: es, i => by
    refine ⟨fun h => ?_, fun h => ?_⟩
    · obtain ⟨ia, h1, h⟩ := bnd (show (f a).bind (fun i => (cBo f .and (b :: es)).map fun j => Ex.and i j) = some i from h)
      obtain ⟨ib, h2, h⟩ := mpd h
      subst h
      exact sb_and (hf a ia h1).sb ((cBo_b hf).1 h2)
    · obtain ⟨ia, h1, h⟩ := bnd (show (f a).bind (fun i => (cBo f .or (b :: es)).map fun j => Ex.or i j) = some i from h)
      obtain ⟨ib, h2, h⟩ := mpd h
      subst h
      exact sb_or (hf a ia h1).sb ((cBo_b hf).2 h2)
theorem cBo_is {f : Expr → Option Ex} {k : Ex → Ex → Ex} {a b : Expr} {es : List Expr} {i : Ex} (h : cBo f k (a :: b :: es) = some i) : ∃ x y, i = k x y := by
  obtain ⟨ia, h1, h⟩ := bnd (show (f a).bind (fun i => (cBo f k (b :: es)).map fun j => k i j) = some i from h)
  obtain ⟨ib, h2, h⟩ := mpd h
  exact ⟨ia, ib, h.symm⟩
end
theorem slice_plain {b : Expr} (h : isSlice b = false) : PlainIx b := by
  cases b <;> first | exact fun _ _ => rfl | cases h
theorem cX_ok {T : Tab} : ∀ (n : Nat) (t : Bool) (I : Inf) (e : Expr) (i : Ex), cX n t I e = some i → ∀ X, Good X T I → (t = false → SO X e (ev T i)) ∧ (t = true → ST X e (ev T i))
  | 0, t, I, e, i, h, X, G => by cases h
  | n + 1, t, I, e, i, h, X, G => by
    have so : ∀ {X I}, Good X T I → ∀ e i, cX n false I e = some i → SO X e (ev T i) := fun G e i h => (cX_ok n false _ e i h _ G).1 rfl
    have st : ∀ {X I}, Good X T I → ∀ e i, cX n true I e = some i → ST X e (ev T i) := fun G e i h => (cX_ok n true _ e i h _ G).2 rfl
    have fin : SO X e (ev T i) → (∀ whole, isTrue e X.env whole = (do let v ← whole; standAt e.pos; holding [v] (truthy v))) → (t = false → SO X e (ev T i)) ∧ (t = true → ST X e (ev T i)) := fun h1 h2 => ⟨fun _ => h1, fun _ => st_of h1 h2⟩
    cases e with
    | Name x p =>
      have h' : (if (!nameOk x) = true then none else if visB I.sc x = true then (slotOf I.N x).map Ex.var else if glB I.sc x = true then (I.gls.lookup x).map Ex.glb else none) = some i := h
      split at h'
      · cases h'
      rename_i hn
      obtain ⟨n1, n2⟩ := nameOk_d (by simpa using hn)
      split at h'
      · rename_i hv
        obtain ⟨j, h1, h2⟩ := mpd h'
        subst h2
        exact fin (so_var (G.at_ h1) (G.vis hv) n1 n2) fun _ => rfl
      split at h'
      · rename_i hg
        obtain ⟨j, h1, h2⟩ := mpd h'
        subst h2
        obtain ⟨d, u, v, t1, t2, t3, t4⟩ := G.gls x j h1
        exact fin (so_glb t1 (G.gl hg) t2 t3 t4 n1) fun _ => rfl
      · cases h'
    | Constant c k p =>
      cases c <;> first
        | (cases h; first
          | exact fin so_int fun _ => rfl
          | exact fin so_bool fun _ => rfl
          | exact fin so_none fun _ => rfl
          | exact fin so_str fun _ => rfl)
        | cases h
    | BinOp a op b p =>
      obtain ⟨ia, h1, h2⟩ := bnd (show (cX n false I a).bind (fun i => (cX n false I b).map fun j => Ex.bin op i j) = some i from h)
      obtain ⟨ib, h3, h4⟩ := mpd h2
      subst h4
      exact fin (so_bin (so G a ia h1) (so G b ib h3)) fun _ => rfl
    | UnaryOp op a p =>
      cases op with
      | USub =>
        obtain ⟨ia, h1, h2⟩ := mpd (show (cX n false I a).map Ex.neg = some i from h)
        subst h2
        exact fin (so_neg (so G a ia h1)) fun _ => rfl
      | Not =>
        obtain ⟨ia, h1, h2⟩ := mpd (show (cX n t I a).map Ex.not = some i from h)
        subst h2
        refine ⟨fun ht => ?_, fun ht => ?_⟩
        · subst ht; exact so_not (so G a ia h1)
        · subst ht; exact st_not (st G a ia h1)
      | _ => cases h
    | Compare a ops cs p =>
      match ops, cs, h with
      | [op], [b], h =>
        have h' : (if behindInMarks op b = true then none else (cX n false I a).bind fun i => (cX n false I b).map fun j => Ex.cmp op i j) = some i := h
        split at h'
        · cases h'
        rename_i hm
        have hm' : behindInMarks op b = false := by simpa using hm
        obtain ⟨ia, h1, h2⟩ := bnd h'
        obtain ⟨ib, h3, h4⟩ := mpd h2
        subst h4
        exact ⟨fun _ => so_cmp G.un (so G a ia h1) (so G b ib h3) hm', fun _ => st_cmp G.un (so G a ia h1) (so G b ib h3) hm'⟩
      | [op, op'], [b, c], h =>
        have h' : (if lastMarks [op, op'] [b, c] = true then none else (cX n false I a).bind fun i => (cX n false I b).bind fun j => (cX n false I c).map fun k => Ex.chn op op' i j k) = some i := h
        split at h'
        · cases h'
        rename_i hm
        have hm' : lastMarks [op, op'] [b, c] = false := by simpa using hm
        obtain ⟨ia, h1, h2⟩ := bnd h'
        obtain ⟨ib, h3, h4⟩ := bnd h2
        obtain ⟨ic, h5, h6⟩ := mpd h4
        subst h6
        exact ⟨fun _ => so_chn G.un (so G a ia h1) (so G b ib h3) (so G c ic h5) hm', fun _ => st_chn G.un (so G a ia h1) (so G b ib h3) (so G c ic h5) hm'⟩
      | [], _, h => cases h
      | [_], [], h => cases h
      | [_], _ :: _ :: _, h => cases h
      | [_, _], [], h => cases h
      | [_, _], [_], h => cases h
      | [_, _], _ :: _ :: _ :: _, h => cases h
      | _ :: _ :: _ :: _, _, h => cases h
    | BoolOp op es p =>
      cases op with
      | And =>
        have h' : (if es.length < 2 then none else cBo (cX n t I) .and es) = some i := h
        split at h'
        · cases h'
        match es, h' with
        | a :: b :: es, h' =>
          obtain ⟨x, y, e⟩ := cBo_is h'
          refine ⟨fun ht => ?_, fun ht => ?_⟩
          · subst ht
            have q := (cBo_b (pos := p) (so G)).1 h'
            rw [e] at q ⊢
            exact so_sb q and_bool
          · subst ht; exact ((cBo_t (st G)).1 h').t
        | [_], h' => rename_i hl; exact absurd (Nat.lt_succ_self 1) hl
        | [], h' => rename_i hl; exact absurd (Nat.zero_lt_succ 1) hl
      | Or =>
        have h' : (if es.length < 2 then none else cBo (cX n t I) .or es) = some i := h
        split at h'
        · cases h'
        match es, h' with
        | a :: b :: es, h' =>
          obtain ⟨x, y, e⟩ := cBo_is h'
          refine ⟨fun ht => ?_, fun ht => ?_⟩
          · subst ht
            have q := (cBo_b (pos := p) (so G)).2 h'
            rw [e] at q ⊢
            exact so_sb q or_bool
          · subst ht; exact ((cBo_t (st G)).2 h').t
        | [_], h' => rename_i hl; exact absurd (Nat.lt_succ_self 1) hl
        | [], h' => rename_i hl; exact absurd (Nat.zero_lt_succ 1) hl
    | IfExp c a b p =>
      have h' : (if t = true then none else (cX n true I c).bind fun k => (cX n false I a).bind fun i => (cX n false I b).map fun j => Ex.ifx k i j) = some i := h
      split at h'
      · cases h'
      rename_i ht
      obtain ⟨ic, h1, h2⟩ := bnd h'
      obtain ⟨ia, h3, h4⟩ := bnd h2
      obtain ⟨ib, h5, h6⟩ := mpd h4
      subst h6
      exact ⟨fun _ => so_ifx (st G c ic h1) (so G a ia h3) (so G b ib h5), fun z => absurd z ht⟩
    | Tuple es k p =>
      have h' : (if es.length ≤ 1000 then (cLs (cX n false I) es).map Ex.tup else none) = some i := h
      split at h'
      · rename_i hl
        obtain ⟨is, h1, h2⟩ := mpd h'
        subst h2
        obtain ⟨q1, _, q3⟩ := cLs_ok (so G) h1
        exact fin (so_tup q1 (by omega)) fun _ => rfl
      · cases h'
    | List es p =>
      exact fin (cLst_ok (so G) (show cLst (cX n false I) es = some i from h)) fun _ => rfl
    | Subscript a b p =>
      cases hb : isSlice b with
      | false =>
        have h' : (if isSlice b = true then (if isRevS b then (cX n false I a).map Ex.rev else none) else (cX n false I a).bind fun i => (cX n false I b).map fun j => Ex.idx i j) = some i := by
          cases b <;> first | exact h | cases hb
        rw [hb, if_neg Bool.false_ne_true] at h'
        obtain ⟨ia, h1, h2⟩ := bnd h'
        obtain ⟨ib, h3, h4⟩ := mpd h2
        subst h4
        exact fin (so_idx G.un (so G a ia h1) (so G b ib h3) (slice_plain hb)) fun _ => rfl
      | true =>
        cases b <;> (try (cases hb))
        rename_i lo hi st' p2
        cases st' with
        | some s' =>
          have h' : (if isRevS (.Slice lo hi (some s') p2) = true then (cX n false I a).map Ex.rev else none) = some i := by
            cases lo <;> cases hi <;> exact h
          split at h'
          · rename_i hr
            obtain ⟨ia, h1, h2⟩ := mpd h'
            subst h2
            unfold isRevS at hr
            split at hr
            · rename_i e
              cases e
              have := of_decide_eq_true hr
              subst this
              exact fin (so_rev (so G a ia h1)) fun _ => rfl
            · cases hr
          · cases h'
        | none =>
          obtain ⟨ia, h1, h2⟩ := bnd (show (cX n false I a).bind (fun i => (cOe (cX n false I) lo).bind fun l => (cOe (cX n false I) hi).map fun h => Ex.slc i l h) = some i from h)
          obtain ⟨il, h3, h4⟩ := bnd h2
          obtain ⟨ih, h5, h6⟩ := mpd h4
          subst h6
          exact fin (so_slc (so G a ia h1) (cOe_ok (so G) h3) (cOe_ok (so G) h5)) fun _ => rfl
    | Call fe es kws p =>
      cases fe with
      | Name x p2 => exact fin (cCall_ok G (so G) (show cCall I (cX n false I) x es kws = some i from h)) fun _ => rfl
      | Attribute o name apos =>
        cases kws with
        | nil =>
          have h' : (if (sfOf name).isSome = true then cSm (cX n false I) o name es apos p else cMth (cX n false I) o name es apos p) = some i := h
          split at h'
          · exact fin (cSm_ok (so G) h') fun _ => rfl
          · exact fin (cMth_ok G (so G) h') fun _ => rfl
        | cons _ _ => cases h
      | _ => cases h
    | Dict ks vs p =>
      cases ks with
      | cons ko ks =>
        cases ko with
        | none => cases ks <;> cases h
        | some a =>
          cases ks with
          | cons _ _ => cases h
          | nil =>
            cases vs with
            | nil => cases h
            | cons b vs =>
              cases vs with
              | cons _ _ => cases h
              | nil =>
                obtain ⟨ia, h1, h2⟩ := bnd (show (cX n false I a).bind (fun i => (cX n false I b).map fun j => Ex.dsp i j) = some i from h)
                obtain ⟨ib, h3, h4⟩ := mpd h2
                subst h4
                exact fin (so_dsp G.un (so G a ia h1) (so G b ib h3)) fun _ => rfl
      | nil =>
        cases vs with
        | cons _ _ => cases h
        | nil =>
          cases (show some Ex.dnew = some i from h)
          exact fin so_dnew fun _ => rfl
    | DictComp kx vx gs scope p =>
      obtain ⟨tg, it, ifs, rfl, h1⟩ := cDg_is (show cDg (cX n) I kx vx gs scope = some i from h)
      obtain ⟨y, v, g, w, c, e, L, hv⟩ := cDc_ok G (f := cX n) (fun G => so G) (fun G => st G) h1
      subst e
      exact fin (so_dc G.un G.calm G.nodup L.si L.bk L.sg L.sc L.so hv L.sub (notset_fold L.ns X.env)) fun _ => rfl
    | ListComp elt gs scope p =>
      rcases cLg_is (show cLg (cX n) I elt gs scope = some i from h) with ⟨tg, it, ifs, rfl, h1⟩ | ⟨tg, it, ifs, tg1, it1, ifs1, rfl, h1⟩
      · obtain ⟨y, g, w, c, e, L⟩ := cLc_ok G (f := cX n) (fun G => so G) (fun G => st G) h1
        subst e
        exact fin (so_lc G.calm G.nodup L.si L.bk L.sg L.sc L.so L.sub (notset_fold L.ns X.env)) fun _ => rfl
      · obtain ⟨y, g, w, c, g1, w1, c1, e, L⟩ := cLc2_ok G (f := cX n) (fun G => so G) (fun G => st G) h1
        subst e
        exact fin (so_lc2 G.calm G.nodup L.si L.bk L.sg L.sc L.si1 L.sg1 L.sc1 L.so L.sub (fun _ h => h) L.sub1 (notset_fold L.ns X.env) (notset_fold L.ns1)) fun _ => rfl
    | _ => cases h
end Lt
namespace Lt
open PySem L2 PySem.Spec PyProof.Rows
theorem comp_sw {e : Expr} (h : isComp e = false) (tg : Option Expr) (l : Nat) (env : Env) : swapsWith e tg l env = pure false := by
  cases e <;> first | rfl | cases h
theorem list_sw {elt : Expr} {gs : List Comprehension} {scope : Scope} {lp p : Pos} {x : Str} {l : Nat} {env : Env} (hk : env.scope.kind = .function) :
    swapsWith (.ListComp elt gs scope lp) (some (.Name x p)) l env = pure (decide (env.scope.names.lookup x = some .local) && p.line == lp.line && !(scope.names.any fun (n, k) => n == x && (k == .local || k == .cell))) := by
  have hb : env.blockKind = .function := by unfold Env.blockKind; rw [hk]; rfl
  have hd : ∀ a : Option NameKind, (a == some NameKind.local) = decide (a = some .local) := fun a => by
    by_cases h : a = some .local
    · rw [h]; rfl
    · rw [decide_eq_false h]; exact beq_eq_false_iff_ne.mpr h
  show (pure (env.blockKind == .function && env.scope.names.lookup x == some .local && p.line == lp.line && !(scope.names.any fun (n, k) => n == x && (k == .local || k == .cell))) : Sem Bool) = _
  rw [hb, hd]
  rfl
theorem dict_sw {kx vx : Expr} {gs : List Comprehension} {scope : Scope} {lp p : Pos} {x : Str} {l : Nat} {env : Env} (hk : env.scope.kind = .function) :
    swapsWith (.DictComp kx vx gs scope lp) (some (.Name x p)) l env = pure (decide (env.scope.names.lookup x = some .local) && p.line == lp.line && !(scope.names.any fun (n, k) => n == x && (k == .local || k == .cell))) := by
  have hb : env.blockKind = .function := by unfold Env.blockKind; rw [hk]; rfl
  have hd : ∀ a : Option NameKind, (a == some NameKind.local) = decide (a = some .local) := fun a => by
    by_cases h : a = some .local
    · rw [h]; rfl
    · rw [decide_eq_false h]; exact beq_eq_false_iff_ne.mpr h
  show (pure (env.blockKind == .function && env.scope.names.lookup x == some .local && p.line == lp.line && !(scope.names.any fun (n, k) => n == x && (k == .local || k == .cell))) : Sem Bool) = _
  rw [hb, hd]
  rfl
theorem tup_sw {ts : List Expr} {k : Nat} {p : Pos} {e : Expr} {l : Nat} {env : Env} : swapsWithSole [.Tuple ts k p] e l env = pure false := by
  cases e <;> rfl
theorem sub_sw {o i : Expr} {p : Pos} {e : Expr} {l : Nat} {env : Env} : swapsWithSole [.Subscript o i p] e l env = pure false := by
  cases e <;> rfl
theorem tup_st {ts : List Expr} {k : Nat} {p : Pos} {e : Expr} {env : Env} (h : isTup e = false) : swappedStores [.Tuple ts k p] e env = pure none := by
  cases e <;> first | rfl | cases h
theorem fm_full {α β : Type} {f : α → Option β} : ∀ {l : List α}, (l.filterMap f).length = l.length → ∀ x ∈ l, (f x).isSome = true
  | [], _, _, hx => by cases hx
  | y :: l, h, x, hx => by
    rw [List.filterMap_cons] at h
    have hl := List.length_filterMap_le f l
    cases hy : f y with
    | none =>
      rw [hy] at h
      simp only [List.length_cons] at h
      omega
    | some b =>
      rw [hy] at h
      simp only [List.length_cons, Nat.add_right_cancel_iff] at h
      rcases List.mem_cons.mp hx with rfl | hx
      · rw [hy]; rfl
      · exact fm_full h x hx
theorem swap_none0 {ts vs : List Expr} {k k2 : Nat} {p p2 : Pos} {env : Env} (h : nsB env.scope ts = true) : swappedStores [.Tuple ts k p] (.Tuple vs k2 p2) env = pure none := by
  have hh : (!(ts.length == 2 || ts.length == 3)) = true ∨ ∀ line : Nat, (ts.filterMap fun
      | .Name id pos => if env.kindOf id == some .local && pos.line == line then some id else none
      | _ => none).length ≠ ts.length := by
    unfold nsB at h
    rw [Bool.or_eq_true] at h
    refine h.imp id fun h line e => ?_
    rw [List.any_eq_true] at h
    obtain ⟨t, ht, hn⟩ := h
    have := fm_full e t ht
    cases t <;> first | cases this | skip
    rename_i x px
    have hx : ¬ env.scope.names.lookup x = some .local := by simpa using hn
    have : (if env.kindOf x == some .local && px.line == line then some x else none).isSome = true := this
    have hk : (env.kindOf x == some .local) = false := beq_eq_false_iff_ne.mpr hx
    rw [hk] at this
    cases this
  unfold swappedStores
  simp only []
  rcases hh with hh | hh
  · rw [if_pos (by rw [hh]; rfl)]
  · have hl := hh ((Option.map (fun x => x.pos.line) ts.head?).getD 0)
    split
    · rfl
    · split
      · rfl
      · rw [if_pos]
        rw [Bool.or_eq_true]
        exact .inl (bne_iff_ne.mpr hl)
theorem swap_none {ts vs : List Expr} {k k2 : Nat} {p p2 : Pos} {env : Env} (h : (nsB env.scope ts || vs.all (foldedForSure 8)) = true) : swappedStores [.Tuple ts k p] (.Tuple vs k2 p2) env = pure none := by
  rw [Bool.or_eq_true] at h
  rcases h with h | h
  · exact swap_none0 h
  · unfold swappedStores
    simp only []
    split
    · rfl
    · split
      · rfl
      · split
        · rfl
        · first | rfl | rw [if_pos h]
theorem par_st2 {x y : Str} {px py pt pt2 : Pos} {kt k2 : Nat} {a b : Expr} {env : Env} (hk : env.scope.kind = .function) (hx : env.scope.names.lookup x = some .local) (hy : env.scope.names.lookup y = some .local) (hl : (px.line == py.line) = true) (hxy : x ≠ y)
    (h1 : [a, b].all (fun e => !isStar e) = true) (h2 : [a, b].all (foldedForSure 8) = false) (h3 : [a, b].all (constantsAlone 8) = false) :
    swappedStores [.Tuple [.Name x px, .Name y py] kt pt] (.Tuple [a, b] k2 pt2) env = pure (some [x, y]) := by
  have hb : env.blockKind = .function := by unfold Env.blockKind; rw [hk]; rfl
  have kx : env.kindOf x = some .local := hx
  have ky : env.kindOf y = some .local := hy
  have hl' : (py.line == px.line) = true := beq_iff_eq.mpr (beq_iff_eq.mp hl).symm
  have st1 : ∀ e : Expr, isStar e = false → ¬ (match e with | .Starred .. => true | _ => false) = true := fun e h z => by cases e <;> first | exact absurd z Bool.false_ne_true | exact Bool.noConfusion h
  have hne : (x == y) = false := beq_eq_false_iff_ne.mpr hxy
  have hne' : (y == x) = false := beq_eq_false_iff_ne.mpr (Ne.symm hxy)
  unfold swappedStores
  simp only [hb, h2, h3, List.length_cons, List.length_nil, List.head?_cons, Option.map_some, Option.getD_some, List.filterMap_cons, List.filterMap_nil, kx, ky, Expr.pos, beq_self_eq_true, Bool.true_and, hl', hl, if_true]
  simp [List.eraseDups_cons, hne, hne', bne]
  have h1' : isStar a = false ∧ isStar b = false := by simpa using h1
  rintro (z | z)
  · exact (st1 a h1'.1 z).elim
  · exact (st1 b h1'.2 z).elim
theorem par_st3 {x y z : Str} {px py pz pt pt2 : Pos} {kt k2 : Nat} {a b c : Expr} {env : Env} (hk : env.scope.kind = .function) (hx : env.scope.names.lookup x = some .local) (hy : env.scope.names.lookup y = some .local) (hz : env.scope.names.lookup z = some .local) (hl : (px.line == py.line) = true) (hl2 : (px.line == pz.line) = true) (hxy : x ≠ y) (hxz : x ≠ z) (hyz : y ≠ z)
    (h1 : [a, b, c].all (fun e => !isStar e) = true) (h2 : [a, b, c].all (foldedForSure 8) = false) (h3 : [a, b, c].all (constantsAlone 8) = false) :
    swappedStores [.Tuple [.Name x px, .Name y py, .Name z pz] kt pt] (.Tuple [a, b, c] k2 pt2) env = pure (some [x, y, z]) := by
  have hb : env.blockKind = .function := by unfold Env.blockKind; rw [hk]; rfl
  have kx : env.kindOf x = some .local := hx
  have ky : env.kindOf y = some .local := hy
  have kz : env.kindOf z = some .local := hz
  have hl' : (py.line == px.line) = true := beq_iff_eq.mpr (beq_iff_eq.mp hl).symm
  have hl2' : (pz.line == px.line) = true := beq_iff_eq.mpr (beq_iff_eq.mp hl2).symm
  have st1 : ∀ e : Expr, isStar e = false → ¬ (match e with | .Starred .. => true | _ => false) = true := fun e h z => by cases e <;> first | exact absurd z Bool.false_ne_true | exact Bool.noConfusion h
  have n1 : (x == y) = false := beq_eq_false_iff_ne.mpr hxy
  have n2 : (y == x) = false := beq_eq_false_iff_ne.mpr (Ne.symm hxy)
  have n3 : (x == z) = false := beq_eq_false_iff_ne.mpr hxz
  have n4 : (z == x) = false := beq_eq_false_iff_ne.mpr (Ne.symm hxz)
  have n5 : (y == z) = false := beq_eq_false_iff_ne.mpr hyz
  have n6 : (z == y) = false := beq_eq_false_iff_ne.mpr (Ne.symm hyz)
  unfold swappedStores
  simp only [hb, h2, h3, List.length_cons, List.length_nil, List.head?_cons, Option.map_some, Option.getD_some, List.filterMap_cons, List.filterMap_nil, kx, ky, kz, Expr.pos, beq_self_eq_true, Bool.true_and, hl', hl, hl2, hl2', if_true]
  simp [List.eraseDups_cons, n1, n2, n3, n4, n5, n6, bne]
  have h1' : isStar a = false ∧ isStar b = false ∧ isStar c = false := by simpa using h1
  rintro (w | w | w)
  · exact (st1 a h1'.1 w).elim
  · exact (st1 b h1'.2.1 w).elim
  · exact (st1 c h1'.2.2 w).elim
section
variable {X : Cx} {T : Tab} {I : Inf}
theorem cOp_ok {st : Stmt} {o : Option Ex} {k : Ex → Sm} (h : ∀ i, o = some i → SS X T st (k i)) : SS X T st (cOp o k) := by
  cases o with
  | none => exact ss_never
  | some i => exact h i rfl
theorem cSl_ok {f : Stmt → Sm} (h : ∀ st, SS X T st (f st)) : ∀ sts : List Stmt, SSs X T sts (cSl f sts)
  | [] => sss_nil
  | st :: sts => sss_cons (h st) (cSl_ok h sts)
theorem cAsg_ok (G : Good X T I) (m : Nat) (tg e : Expr) (pos : Pos) : SS X T (.Assign [tg] e pos) (cAsg m I tg e) := by
  have so : ∀ {X I}, Good X T I → ∀ e i, cX m false I e = some i → SO X e (ev T i) := fun G e i h => (cX_ok m false _ e i h _ G).1 rfl
  have st : ∀ {X I}, Good X T I → ∀ e i, cX m true I e = some i → ST X e (ev T i) := fun G e i h => (cX_ok m true _ e i h _ G).2 rfl
  have hk : X.env.scope.kind = .function := by rw [G.sc]; exact G.kind
  cases tg with
  | Name x p =>
    show SS X T _ (if (!locB I x) = true then Sm.nev else match slotOf I.N x with
      | none => .nev
      | some i => match e with
        | .ListComp elt gs scope lp => cOp (cLg (cX m) I elt gs scope) (.set i)
        | .DictComp kx vx gs scope lp => cOp (cDg (cX m) I kx vx gs scope) (.set i)
        | e => if isComp e = true then .nev else cOp (cX m false I e) (.set i))
    split
    · exact ss_never
    rename_i hl
    obtain ⟨l1, l2⟩ := G.loc (x := x) (by simpa using hl)
    split
    · exact ss_never
    rename_i i hi
    have hN := G.at_ hi
    split
    · rename_i elt gs scope lp
      refine cOp_ok fun ii h => ?_
      rcases cLg_is h with ⟨tg, it, ifs, rfl, h1⟩ | ⟨tg, it, ifs, tg1, it1, ifs1, rfl, h1⟩
      · obtain ⟨y, g, w, c, e, L⟩ := cLc_ok G (f := cX m) (fun G => so G) (fun G => st G) h1
        subst e
        cases hsw : (decide (X.env.scope.names.lookup x = some .local) && p.line == lp.line && !(scope.names.any fun (n, k) => n == x && (k == .local || k == .cell))) with
        | true =>
          have hy : X.env.scope.names.lookup x = some .local := by
            rw [Bool.and_eq_true, Bool.and_eq_true] at hsw
            exact of_decide_eq_true hsw.1.1
          exact ss_setLc G.calm G.nodup hN hy ((list_sw hk).trans (by rw [hsw])) L.si L.bk L.sg L.sc L.so L.sub (notset_fold L.ns X.env)
        | false => exact ss_set G.nodup hN l1 l2 (so_lc G.calm G.nodup L.si L.bk L.sg L.sc L.so L.sub (notset_fold L.ns X.env)) ((list_sw hk).trans (by rw [hsw]))
      · obtain ⟨y, g, w, c, g1, w1, c1, e, L⟩ := cLc2_ok G (f := cX m) (fun G => so G) (fun G => st G) h1
        subst e
        cases hsw : (decide (X.env.scope.names.lookup x = some .local) && p.line == lp.line && !(scope.names.any fun (n, k) => n == x && (k == .local || k == .cell))) with
        | true =>
          have hy : X.env.scope.names.lookup x = some .local := by
            rw [Bool.and_eq_true, Bool.and_eq_true] at hsw
            exact of_decide_eq_true hsw.1.1
          exact ss_setLc2 G.calm G.nodup hN hy ((list_sw hk).trans (by rw [hsw])) L.si L.bk L.sg L.sc L.si1 L.sg1 L.sc1 L.so L.sub (fun _ h => h) L.sub1 (notset_fold L.ns X.env) (notset_fold L.ns1)
        | false => exact ss_set G.nodup hN l1 l2 (so_lc2 G.calm G.nodup L.si L.bk L.sg L.sc L.si1 L.sg1 L.sc1 L.so L.sub (fun _ h => h) L.sub1 (notset_fold L.ns X.env) (notset_fold L.ns1)) ((list_sw hk).trans (by rw [hsw]))
    · rename_i kx vx gs scope lp
      refine cOp_ok fun ii h => ?_
      obtain ⟨tg, it, ifs, rfl, h1⟩ := cDg_is h
      obtain ⟨y, v, g, w, c, e, L, hv⟩ := cDc_ok G (f := cX m) (fun G => so G) (fun G => st G) h1
      subst e
      cases hsw : (decide (X.env.scope.names.lookup x = some .local) && p.line == lp.line && !(scope.names.any fun (n, k) => n == x && (k == .local || k == .cell))) with
      | true =>
        have hy : X.env.scope.names.lookup x = some .local := by
          rw [Bool.and_eq_true, Bool.and_eq_true] at hsw
          exact of_decide_eq_true hsw.1.1
        exact ss_setDc G.un G.calm G.nodup hN hy ((dict_sw hk).trans (by rw [hsw])) L.si L.bk L.sg L.sc L.so hv L.sub (notset_fold L.ns X.env)
      | false => exact ss_set G.nodup hN l1 l2 (so_dc G.un G.calm G.nodup L.si L.bk L.sg L.sc L.so hv L.sub (notset_fold L.ns X.env)) ((dict_sw hk).trans (by rw [hsw]))
    · split
      · exact ss_never
      rename_i hc
      exact cOp_ok fun ii h => ss_set G.nodup hN l1 l2 (so G _ ii h) (comp_sw (by simpa using hc) _ _ _)
  | Subscript o k q =>
    cases o with
    | Name x p =>
      show SS X T _ (if (!(visB I.sc x && nameOk x) || isSlice k) = true then Sm.nev else match slotOf I.N x with
        | none => .nev
        | some i => cOp (cX m false I k) fun ik => cOp (cX m false I e) fun ie => .put i ik ie)
      split
      · exact ss_never
      rename_i hl
      have hl' : (visB I.sc x = true ∧ nameOk x = true) ∧ isSlice k = false := by simpa using hl
      split
      · exact ss_never
      rename_i i hi
      refine cOp_ok fun ik h1 => cOp_ok fun ie h2 => ?_
      refine ss_put G.un (G.at_ hi) (G.vis hl'.1.1) (nameOk_d hl'.1.2).1 (nameOk_d hl'.1.2).2 (so G _ _ h1) (so G _ _ h2) sub_sw (by rfl) (by rfl) fun v => ?_
      cases k <;> first | rfl | cases hl'.2
    | _ => exact ss_never
  | Tuple ts kt pt =>
    cases ht : isTup e with
    | false =>
      have hh : cAsg m I (.Tuple ts kt pt) e = (match cTg I 9 (.Tuple ts kt pt) with
        | some g => cOp (cX m false I e) (.asg g)
        | none => .nev) := by
        cases e <;> first | rfl | cases ht
      rw [hh]
      split
      · rename_i g hg
        refine cOp_ok fun ie h1 => ?_
        exact ss_asg (cTg_ok G 9 _ g hg).2.1 (so G _ _ h1) tup_sw (tup_st ht) (by rfl)
      · exact ss_never
    | true =>
      cases e <;> (try (cases ht))
      rename_i vs k2 pt2
      show SS X T _ (if (nsB I.sc ts || vs.all (foldedForSure 8)) = true then (match cTg I 9 (.Tuple ts kt pt) with
        | some g => cOp (cX m false I (.Tuple vs k2 pt2)) (.asg g)
        | none => .nev) else match ts, vs with
      | [.Name x px, .Name y py], [a, b] => if (parB I [(x, px), (y, py)] [a, b] && px.line == py.line) = true then (match slotOf I.N x, slotOf I.N y with
        | some i, some j => if i = j then Sm.nev else (match cLs (cX m false I) [a, b] with
          | some is => .par [i, j] is
          | none => .nev)
        | _, _ => .nev) else .nev
      | [.Name x px, .Name y py, .Name z pz], [a, b, c] => if (parB I [(x, px), (y, py), (z, pz)] [a, b, c] && px.line == py.line && px.line == pz.line) = true then (match slotOf I.N x, slotOf I.N y, slotOf I.N z with
        | some i, some j, some l => if i = j ∨ i = l ∨ j = l then .nev else (match cLs (cX m false I) [a, b, c] with
          | some is => .par [i, j, l] is
          | none => .nev)
        | _, _, _ => .nev) else .nev
      | _, _ => .nev)
      split
      · rename_i hns
        split
        · rename_i g hg
          refine cOp_ok fun ie h1 => ?_
          exact ss_asg (cTg_ok G 9 _ g hg).2.1 (so G _ _ h1) tup_sw (swap_none (by rw [G.sc]; exact hns)) (by rfl)
        · exact ss_never
      split
      · rename_i x px y py a b
        split
        · rename_i hp
          rw [Bool.and_eq_true] at hp
          obtain ⟨hp, hline⟩ := hp
          split
          · rename_i i j hi hj
            split
            · exact ss_never
            rename_i hij
            split
            · rename_i is his
              obtain ⟨q1, _, q3⟩ := cLs_ok (so G) his
              unfold parB at hp
              simp only [Bool.and_eq_true, List.all_cons, List.all_nil, decide_eq_true_eq, and_true] at hp
              obtain ⟨⟨⟨⟨hx, hy⟩, h1⟩, h2⟩, h3⟩ := hp
              rw [← G.sc] at hx hy
              refine ss_par2 G.calm G.nodup (G.at_ hi) (G.at_ hj) hij hx hy q1 (by rw [q3]; rfl) (par_st2 hk hx hy hline (fun z => hij (by subst z; rw [hi] at hj; exact Option.some.inj hj)) (by simpa using h1) ((Bool.not_eq_true' _).mp h2) ((Bool.not_eq_true' _).mp h3)) tup_sw
            · exact ss_never
          · exact ss_never
        · exact ss_never
      · rename_i x px y py z pz a b c
        split
        · rename_i hp
          rw [Bool.and_eq_true, Bool.and_eq_true] at hp
          obtain ⟨⟨hp, hline⟩, hline2⟩ := hp
          split
          · rename_i i j l hi hj hl
            split
            · exact ss_never
            rename_i hij
            rw [not_or, not_or] at hij
            split
            · rename_i is his
              obtain ⟨q1, _, q3⟩ := cLs_ok (so G) his
              unfold parB at hp
              simp only [Bool.and_eq_true, List.all_cons, List.all_nil, decide_eq_true_eq, and_true] at hp
              obtain ⟨⟨⟨⟨hx, hy, hz⟩, h1⟩, h2⟩, h3⟩ := hp
              rw [← G.sc] at hx hy hz
              refine ss_par3 G.calm G.nodup (G.at_ hi) (G.at_ hj) (G.at_ hl) hij.1 hij.2.1 hij.2.2 hx hy hz q1 (by rw [q3]; rfl)
                (par_st3 hk hx hy hz hline hline2 (fun z => hij.1 (by subst z; rw [hi] at hj; exact Option.some.inj hj)) (fun z => hij.2.1 (by subst z; rw [hi] at hl; exact Option.some.inj hl)) (fun z => hij.2.2 (by subst z; rw [hj] at hl; exact Option.some.inj hl)) (by simpa using h1) ((Bool.not_eq_true' _).mp h2) ((Bool.not_eq_true' _).mp h3)) tup_sw
            · exact ss_never
          · exact ss_never
        · exact ss_never
      · exact ss_never
  | _ => exact ss_never
theorem cS_ok (G : Good X T I) (hpa : PassesOwn (model X.prog X.w) X.A X.env X.xe) (m : Nat) : ∀ (n : Nat) (st : Stmt), SS X T st (cS m I n st)
  | 0, st => ss_never
  | n + 1, st => by
    have so : ∀ e i, cX m false I e = some i → SO X e (ev T i) := fun e i h => (cX_ok m false _ e i h _ G).1 rfl
    have stt : ∀ e i, cX m true I e = some i → ST X e (ev T i) := fun e i h => (cX_ok m true _ e i h _ G).2 rfl
    have ih := cS_ok G hpa m n
    unfold cS
    split
    · exact ss_pass
    · exact ss_break
    · exact ss_cont
    · exact ss_retN
    · exact cOp_ok fun i h => ss_ret (so _ i h)
    · exact ss_doc
    · split
      · exact ss_never
      rename_i hc
      exact cOp_ok fun i h => ss_exp (so _ i h) (comp_sw (by simpa using hc) _ _ _)
    · exact cOp_ok fun i h => ss_if (stt _ i h) (cSl_ok ih _) (cSl_ok ih _)
    · exact cOp_ok fun i h => ss_while hpa (stt _ i h) (cSl_ok ih _)
    · split
      · rename_i g w hg hw
        obtain ⟨i1, i2⟩ := cIt_ok (itg := g) G so (cTg_isT hg) hw
        exact ss_for hpa G.calm i1 (cTg_ok G 9 _ g hg).2.1 (cSl_ok ih _) (notset_fold i2 X.env)
      · exact ss_never
    · exact cAsg_ok G m _ _ _
    · split
      · exact ss_never
      rename_i hl
      split
      · exact ss_never
      rename_i i hi
      obtain ⟨l1, l2⟩ := G.loc (by simpa using hl)
      exact cOp_ok fun ie h => ss_aug G.nodup (G.at_ hi) l1 l2 (so _ ie h)
    · exact ss_never
end
end Lt
namespace Lt
open PySem L2 PySem.Spec PyProof.Rows
/-- a def that may be called: its place in T, its function object -/
structure FnM (P : Program) (w : World) (K : PySem.W.Frag) (mg : Str → Option Value) (base : Heap) (T : Tab) (k : Nat) (kws : List (Str × Nat × List Str)) (q : Str × Nat × List Str) : Prop where
  ex : ∃ fn f fd, T.fn q.2.1 = some fn ∧ fn.ps = q.2.2 ∧ FnPr P w K mg base fn.lvl f fd fn.ps (spF K fn) ∧ fn.lvl ≤ k ∧ mg q.1 = some (.ref f) ∧ PySem.W.keepIn K (.ref f) = true ∧ Binds K fd fn.ps [] ∧
    ∀ n ks, (q.1, n, ks) ∈ kws → KBn K fd q.2.2 n ks (kwArr .none q.2.2 ks) (kwArr .non q.2.2 ks)
structure Mo (P : Program) (w : World) (K : PySem.W.Frag) (mg : Str → Option Value) (base : Heap) (T : Tab) (k : Nat) (I : Inf) : Prop where
  fre : ∀ x ∈ I.fre, mg x = none
  gcd : I.gcd = true → mg "gcd" = some (.builtin "math.gcd")
  gls : ∀ q ∈ I.gls, ∃ d u v, T.gl q.2 = some d ∧ mg q.1 = some u ∧ RelV v u ∧ ∀ H Z, Rl K H Z d v
  sig : ∀ q ∈ I.sig, FnM P w K mg base T k I.kws q
theorem Mo.good {P : Program} {w : World} {K : PySem.W.Frag} {mg : Str → Option Value} {base : Heap} {T : Tab} {k : Nat} {I : Inf} (M : Mo P w K mg base T k I) {N : List Str} {qual : Str} {scope : Scope} {f : Addr} {cdv : Value} {A : Around} {outer : List Env} {s : Shared} {H : Hp} {E : XK}
    (hr : Room k (A.deeper (envOfC qual scope s.heap.objs.size f cdv))) (gd : A.guards = some []) (hN : I.N = N) (nd : N.Nodup) (hs : I.sc = scope) (hk : scope.kind = .function) : Good (cxOf (L2.CX P w) P w K mg base N qual scope f cdv A outer s H E).nox T I where
  N := hN.symm
  nd := by rw [hN]; exact nd
  sc := hs.symm
  calm := rfl
  un := by
    have := hr.un
    show (A.deeper (envOfC qual scope s.heap.objs.size f cdv)).units + 65 < cLine
    omega
  kind := by rw [hs]; exact hk
  gd := gd
  main := fun _ _ => rfl
  fre := M.fre
  gcd := M.gcd
  gls := fun x j h => M.gls (x, j) (PySem.mem_of_lookup h)
  sig := fun x j ps h => by
    obtain ⟨fn, f, fd, h1, h2, h3, h4, h5, h6, h7, h8⟩ := (M.sig (x, j, ps) (PySem.mem_of_lookup h)).ex
    exact ⟨fn, f, fd, h1, h2, ⟨h3, gd, hr.mono h4, h5, h6, h7⟩, h8⟩
/-- a def keeps the promise of its F -/
theorem df_ok {P : Program} {w : World} {K : PySem.W.Frag} {mg : Str → Option Value} {base : Heap} {x qual : Str} {params : Arguments} {body : List Stmt} {scope : Scope} {f : Addr} {fd : FuncData} (F : FunD K x qual params body scope [] [] f fd)
    {N : List Str} {fn : Fn} {k : Nat} {T : Tab} {I : Inf} {b : Sms} (S : FnScope N fn.ps scope) (M : Mo P w K mg base T k I) (hN : I.N = N) (hs : I.sc = scope) (hb : cSl (cS 60 I 30) body = b)
    (hp : fn.io = true → b.p0 = true) (hl : fn.lvl = k + 1) (hF : ∀ cs r, cs.length = fn.ps.length → fn.F cs = some r → ∃ n, runB T n b N.length fn.io cs = some r) :
    FnPr P w K mg base fn.lvl f fd fn.ps (spF K fn) := by
  rw [hl]
  refine fn_ok F S (fun cdv A outer s H E hr gd => ?_) hp hF
  have G := M.good (E := E) (outer := outer) (H := H) hr gd hN S.nd hs S.kind
  rw [← hb]
  exact cSl_ok (cS_ok G PassesOwn.never 60 30) body
theorem KBn.of0 {K : PySem.W.Frag} {x qual : Str} {params : Arguments} {body : List Stmt} {scope : Scope} {kws : List (Str × V)} {f : Addr} {fd : FuncData} (F : FunD K x qual params body scope [] kws f fd) {ps : List Str} {n : Nat} {ks : List Str}
    (h : ∀ (kV doc pm : Value) (an : Option Addr) (cdv ct : Value) (us ws : List Value), us.length = n → ws.length = ks.length → bindArgs (PySem.W.fnOf x qual params body scope .none kV doc pm an cdv ct) ⟨us, ks.zip ws⟩ = pure (ps.zip (kwArr .none ps ks us ws))) : KBn K fd ps n ks (kwArr .none ps ks) (kwArr .non ps ks) := by
  obtain ⟨oc, od, dV, kV, doc, pm, an, cdv, ct, osl, rfl, lk, hcd, hD, hK⟩ := F.ex
  rcases hD with ⟨_, rfl⟩ | ⟨e, _⟩
  · refine ⟨fun s us ws _ l1 l2 => .of_eq (h kV doc pm an cdv ct us ws l1 l2), fun {vs us zs ws} r1 r2 => ?_⟩
    have hl : vs.length = us.length := r1.length
    unfold kwArr
    rw [hl]
    refine Vals.append r1 ?_
    have : ∀ l : List Str, Vals (l.map fun p => zs.getD (ks.idxOf p) .non) (l.map fun p => ws.getD (ks.idxOf p) .none) := fun l => by
      induction l with
      | nil => exact .nil
      | cons p l ih =>
        refine .cons ?_ ih
        have : ∀ {zs : List V} {ws : List Value} (i : Nat), Vals zs ws → RelV (zs.getD i .non) (ws.getD i .none) := by
          intro zs ws i r
          induction r generalizing i with
          | nil => simp [List.getD]; rfl
          | cons h r ih =>
            cases i with
            | zero => exact h
            | succ i => exact ih i
        exact this _ r2
    exact this _
  · exact absurd rfl e
end Lt
namespace Lt
open PySem L2 PySem.Spec PyProof.Rows
mutual
/-- the value u of the written part is the data -/
def datB (K : PySem.W.Frag) : D → Value → Bool
  | .none, u => (match u with | .none => true | _ => false)
  | .bool b, u => (match u with | .bool c => b == c | _ => false)
  | .int i, u => (match u with | .int j _ => decide (j = i) | _ => false)
  | .str x, u => (match u with | .str y _ => decide (y = x) | _ => false)
  | .tuple ds, u => (match u with
    | .ref a => (match K.lookup a with
      | some ⟨.type c, none, .seq its _, _⟩ => decide (c = "tuple") && (decide (its.size ≤ sizeLine) && datsB K ds its.toList)
      | _ => false)
    | _ => false)
  | _, _ => false
def datsB (K : PySem.W.Frag) : List D → List Value → Bool
  | [], us => us.isEmpty
  | d :: ds, us => (match us with
    | [] => false
    | u :: r => datB K d u && datsB K ds r)
end
/-- more facts of the module -/
inductive Xf where
  | con (x : Str) (d : D)
  | bfn (x : Str) (id : String)
def Xf.ok (K : PySem.W.Frag) : Xf → Bool
  | .con x d => (match PySem.W.nsIn K mainGlobals x with
    | some (some u) => datB K d u
    | _ => false)
  | .bfn x id => (match PySem.W.nsIn K mainGlobals x with
    | some (some (.builtin j)) => decide (j = id)
    | _ => false)
abbrev AlX : Type := Bool × He.AlD
def obsX (n : Nat) (fa : List He.Fa) (fn : List He.DefD) (xs : List Xf) (g : Addr → Option Obj) : AlX :=
  ((xs.all fun x => x.ok (He.frG g (He.asD g n))), He.obsDG n fa fn g)
def SaysX (fa : List He.Fa) (fn : List He.DefD) (xs : List Xf) (K : PySem.W.Frag) : Prop := He.SaysD fa fn K ∧ (xs.all fun x => x.ok K) = true
def hookX (n : Nat) (fa : List He.Fa) (fn : List He.DefD) (xs : List Xf) : PySem.W.Hook where
  α := AlX
  obs := fun s => obsX n fa fn xs s.heap.get?
  val := fun _ => (true, He.valD fn)
  says := fun _ h => ∃ K : PySem.W.Frag, K.In h ∧ SaysX fa fn xs K
  of := fun _ s e => ⟨He.frG s.heap.get? (He.asD s.heap.get? n), He.frG_in, congrArg (fun z : AlX => z.2) e, congrArg (fun z : AlX => z.1) e⟩
  keeps := fun _ _ _ ⟨K, hK, c⟩ k => ⟨K, PySem.W.Frag.In.keeps hK k, c⟩
theorem obsX_eq {n : Nat} {fa : List He.Fa} {fn : List He.DefD} {xs : List Xf} {g : Addr → Option Obj} {s : Shared} (h : ∀ a, g a = s.heap.get? a) : obsX n fa fn xs g = (hookX n fa fn xs).obs s := by
  cases (show g = s.heap.get? from funext h); rfl
theorem SaysX.x {fa : List He.Fa} {fn : List He.DefD} {xs : List Xf} {K : PySem.W.Frag} (c : SaysX fa fn xs K) {f : Xf} (h : f ∈ xs) : f.ok K = true := List.all_eq_true.mp c.2 f h
/-- the law's own call -/
theorem spF_law {K : PySem.W.Frag} {fn : Fn} {H : Hp} {a : Addr} {ns : List Int} {E : XK} (hio : fn.io = false) (hps : fn.ps.length = 1) (hF : fn.F [.dat (scr ns)] = some (.dat (.bool true), .emp)) (hl : ns.length ≤ 1000) (r : SqL K H a (ns.map V.int)) :
    spF K fn [.ref a] H (fun v _ => v = .bl true) E := by
  have hlst : LstE K H (fun x => x = a ∧ ∃ o, H a = some o) a (ns.map V.int) := by
    rcases r with r | r
    · refine .inl ⟨r, rfl, ?_⟩
      rcases r with r | ⟨o, r⟩
      · exact ⟨_, r⟩
      · exact ⟨_, r⟩
    · exact .inr r
  have zd : ∀ x, (x = a ∧ ∃ o, H a = some o) → ∃ o, H x = some o := fun x ⟨e, o, h⟩ => ⟨o, by rw [e]; exact h⟩
  have hints : ∀ ns : List Int, Rls K H (fun x => x = a ∧ ∃ o, H a = some o) (ns.map .int) (ns.map V.int) := fun ns => by
    induction ns with
    | nil => exact Rls.nil
    | cons n r ih => exact Rls.cons rfl ih
  have rl : Rls K H (fun x => x = a ∧ ∃ o, H a = some o) [scr ns] [.ref a] := Rls.cons ⟨a, ns.map V.int, rfl, hlst, by rw [List.length_map, sizeLine_eq]; omega, hints ns⟩ Rls.nil
  refine ⟨_, [.dat (scr ns)], .dat (.bool true), .emp, dats_sta (ds := [scr ns]) rl zd, by rw [hps]; rfl, fun i h => ?_, hF, fun v H' Z' _ cv _ _ _ => cv⟩
  have h' : isOw (cellAt ([scr ns].map Cell.dat) i) = true := h
  rw [dats_ow] at h'; cases h'
end Lt
namespace Lt
open PySem L2
/-- the rounds of a while loop that are looked at -/
@[irreducible] def fuel : Nat := 2 ^ 100000
def mkF (T : Tab) (b : Sms) (L : Nat) (io : Bool) : List Cell → Option (Cell × Cell) := fun cs => runB T fuel b L io cs
def Tab.add (T : Tab) (j : Nat) (f : Fn) : Tab := ⟨fun i => if i = j then some f else T.fn i, T.gl⟩
theorem mkF_run {T : Tab} {b : Sms} {L : Nat} {io : Bool} {cs : List Cell} {r : Cell × Cell} (h : mkF T b L io cs = some r) : ∃ n, runB T n b L io cs = some r := ⟨fuel, h⟩
/-- ints that the model multiplies -/
def Ok (i : Int) : Prop := i.natAbs < 2 ^ 100000
theorem Ok.mul {i j : Int} (hi : Ok i) (hj : Ok j) : mulOk i j = true := by
  unfold mulOk
  have l1 : i.natAbs.log2 < 100000 ∨ i.natAbs = 0 := by
    by_cases h : i.natAbs = 0
    · exact .inr h
    · exact .inl ((Nat.log2_lt h).mpr hi)
  have l2 : j.natAbs.log2 < 100000 ∨ j.natAbs = 0 := by
    by_cases h : j.natAbs = 0
    · exact .inr h
    · exact .inl ((Nat.log2_lt h).mpr hj)
  rcases l1 with l1 | l1
  · rcases l2 with l2 | l2
    · have : i.natAbs.log2 + j.natAbs.log2 < 1000000 := by omega
      rw [decide_eq_true this, Bool.or_true]
    · rw [l2]; simp
  · rw [l1]; simp
theorem mulOk_small {i j : Int} (h : i.natAbs < 2 ^ 64) : mulOk i j = true := by
  unfold mulOk
  rw [decide_eq_true h, Bool.true_or, Bool.true_or]
theorem mulOk_smallR {i j : Int} (h : j.natAbs < 2 ^ 64) : mulOk i j = true := by
  unfold mulOk
  rw [decide_eq_true h, Bool.or_true, Bool.true_or]
section
variable {T : Tab} {n : Nat} {ρ : Rho}
@[simp] theorem cellAt_zero {c : Cell} {r : Rho} : cellAt (c :: r) 0 = c := rfl
@[simp] theorem cellAt_succ {c : Cell} {r : Rho} {i : Nat} : cellAt (c :: r) (i + 1) = cellAt r i := rfl
end
end Lt
namespace Lt
open PySem L2
/-- it gives something, and K holds of that -/
def WV {α : Type} (x : Option α) (K : α → Prop) : Prop := ∃ a, x = some a ∧ K a
def WP {α β : Type} (x : Option (α × β)) (K : α → β → Prop) : Prop := ∃ a b, x = some (a, b) ∧ K a b
section
variable {α β γ : Type}
theorem WV.go {x : Option α} {a : α} {K : α → Prop} (e : x = some a) (k : K a) : WV x K := ⟨a, e, k⟩
theorem WP.go {x : Option (α × β)} {a : α} {b : β} {K : α → β → Prop} (e : x = some (a, b)) (k : K a b) : WP x K := ⟨a, b, e, k⟩
theorem WP.mono {x : Option (α × β)} {K K' : α → β → Prop} (h : WP x K) (hk : ∀ a b, K a b → K' a b) : WP x K' := by
  obtain ⟨a, b, e, k⟩ := h
  exact ⟨a, b, e, hk a b k⟩
theorem WV.mono {x : Option α} {K K' : α → Prop} (h : WV x K) (hk : ∀ a, K a → K' a) : WV x K' := by
  obtain ⟨a, e, k⟩ := h
  exact ⟨a, e, hk a k⟩
end
variable {T : Tab} {n : Nat} {ρ : Rho}
def notE : Cell → Bool
  | .emp => false
  | _ => true
section
variable {Q : Od → Rho → Prop} {a b c : Ex} {es kes : Exs}
def noDict : D → Bool
  | .dict _ => false
  | _ => true
/-- the callee's F on its cells -/
def WF (F : List Cell → Option (Cell × Cell)) (cs : List Cell) (K : Cell → Cell → Prop) : Prop := WP (F cs) K
end
section
variable {Q : Out → Rho → Prop}
/-- what a turn's end leads to -/
def turnK (nx : Rho → Prop) (Q : Out → Rho → Prop) : Out → Rho → Prop
  | .nx, ρ => nx ρ
  | .ct, ρ => nx ρ
  | .bk, ρ => Q .nx ρ
  | .rt o, ρ => Q (.rt o) ρ
theorem wfor_nil {tg : Tg} {b : Rho → Option (Out × Rho)} (k : Q .nx ρ) : WP (forL tg b [] ρ) Q := ⟨_, _, rfl, k⟩
theorem wfor_cons {tg : Tg} {b : Rho → Option (Out × Rho)} {d : D} {ds : List D} (h : WV (bindTg tg d ρ) fun ρ1 => WP (b ρ1) (turnK (fun ρ2 => WP (forL tg b ds ρ2) Q) Q)) : WP (forL tg b (d :: ds) ρ) Q := by
  obtain ⟨ρ1, e1, o, ρ2, e2, k⟩ := h
  cases o with
  | nx =>
    obtain ⟨o3, ρ3, e3, q⟩ := k
    exact ⟨_, _, by show (bindTg tg d ρ).bind _ = _; rw [e1]; show (b ρ1).bind _ = _; rw [e2]; exact e3, q⟩
  | ct =>
    obtain ⟨o3, ρ3, e3, q⟩ := k
    exact ⟨_, _, by show (bindTg tg d ρ).bind _ = _; rw [e1]; show (b ρ1).bind _ = _; rw [e2]; exact e3, q⟩
  | bk => exact ⟨_, _, by show (bindTg tg d ρ).bind _ = _; rw [e1]; show (b ρ1).bind _ = _; rw [e2]; rfl, k⟩
  | rt o => exact ⟨_, _, by show (bindTg tg d ρ).bind _ = _; rw [e1]; show (b ρ1).bind _ = _; rw [e2]; rfl, k⟩
/-- a loop by an invariant of the turn's number -/
theorem wfor_inv {tg : Tg} {b : Rho → Option (Out × Rho)} {ds : List D} (Inv : Nat → Rho → Prop) (h0 : Inv 0 ρ) (step : ∀ i d ρ, ds[i]? = some d → Inv i ρ → WV (bindTg tg d ρ) fun ρ1 => WP (b ρ1) (turnK (Inv (i + 1)) Q)) (he : ∀ ρ, Inv ds.length ρ → Q .nx ρ) : WP (forL tg b ds ρ) Q := by
  induction ds generalizing ρ Inv with
  | nil => exact wfor_nil (he ρ h0)
  | cons d ds ih =>
    refine wfor_cons ?_
    obtain ⟨ρ1, e1, o, ρ2, e2, k⟩ := step 0 d ρ rfl h0
    refine ⟨ρ1, e1, o, ρ2, e2, ?_⟩
    have go : ∀ ρ2, Inv 1 ρ2 → WP (forL tg b ds ρ2) Q := fun ρ2 h => ih (fun i => Inv (i + 1)) h (fun i d' ρ' hd hi => step (i + 1) d' ρ' (by simpa using hd) hi) fun ρ' h => he ρ' h
    cases o with
    | nx => exact go _ k
    | ct => exact go _ k
    | bk => exact k
    | rt o => exact k
end
section
variable {turn : D → Rho → Option (Option D × Rho)} {own : List Nat} {K : List D → Rho → Prop}
def keepK (y : Option D) (ys : List D) : List D := match y with
  | some y => y :: ys
  | none => ys
end
def tInt : D → Bool
  | .int _ => true
  | .bool _ => true
  | _ => false
def tBool : D → Bool
  | .bool _ => true
  | _ => false
def tTup : D → Bool
  | .tuple _ => true
  | _ => false
def tLst : D → Bool
  | .list _ => true
  | _ => false
def tStr : D → Bool
  | .str _ => true
  | _ => false
theorem isi_int (d : D) : isiOne d "int" = tInt d := by cases d <;> simp [isiOne, tyName, isiT, tInt]
theorem isi_bool (d : D) : isiOne d "bool" = tBool d := by cases d <;> simp [isiOne, tyName, isiT, tBool]
theorem isi_tup (d : D) : isiOne d "tuple" = tTup d := by cases d <;> simp [isiOne, tyName, isiT, tTup]
theorem isi_lst (d : D) : isiOne d "list" = tLst d := by cases d <;> simp [isiOne, tyName, isiT, tLst]
theorem isi_str (d : D) : isiOne d "str" = tStr d := by cases d <;> simp [isiOne, tyName, isiT, tStr]
end Lt
namespace Lt
open PySem L2
theorem WV_some {α : Type} {a : α} {K : α → Prop} : WV (some a) K = K a := propext ⟨fun ⟨_, e, k⟩ => by cases e; exact k, fun k => ⟨a, rfl, k⟩⟩
theorem WP_some {α β : Type} {a : α} {b : β} {K : α → β → Prop} : WP (some (a, b)) K = K a b := propext ⟨fun ⟨_, _, e, k⟩ => by cases e; exact k, fun k => ⟨a, b, rfl, k⟩⟩
theorem WV_if {α : Type} {c : Prop} [Decidable c] {a : α} {K : α → Prop} : WV (if c then some a else none) K = (c ∧ K a) := by
  by_cases h : c
  · rw [if_pos h, WV_some]; exact propext ⟨fun k => ⟨h, k⟩, fun k => k.2⟩
  · rw [if_neg h]; exact propext ⟨fun ⟨_, e, _⟩ => (nomatch e), fun k => absurd k.1 h⟩
theorem WV_map {α β : Type} {x : Option α} {f : α → β} {K : β → Prop} : WV (x.map f) K = WV x fun a => K (f a) := by
  cases x with
  | none => exact propext ⟨fun ⟨_, e, _⟩ => (nomatch e), fun ⟨_, e, _⟩ => (nomatch e)⟩
  | some a => show WV (some (f a)) K = _; rw [WV_some, WV_some]
theorem WV_bind {α β : Type} {x : Option α} {f : α → Option β} {K : β → Prop} : WV (x.bind f) K = WV x fun a => WV (f a) K := by
  cases x with
  | none => exact propext ⟨fun ⟨_, e, _⟩ => (nomatch e), fun ⟨_, e, _⟩ => (nomatch e)⟩
  | some a => show WV (f a) K = _; rw [WV_some]
theorem WP_bindV {α β γ : Type} {x : Option α} {f : α → Option (β × γ)} {K : β → γ → Prop} : WP (x.bind f) K = WV x fun a => WP (f a) K := by
  cases x with
  | none => exact propext ⟨fun ⟨_, _, e, _⟩ => (nomatch e), fun ⟨_, e, _⟩ => (nomatch e)⟩
  | some a => show WP (f a) K = _; rw [WV_some]
theorem WP_mapV {α β γ : Type} {x : Option α} {f : α → β × γ} {K : β → γ → Prop} : WP (x.map f) K = WV x fun a => K (f a).1 (f a).2 := by
  cases x with
  | none => exact propext ⟨fun ⟨_, _, e, _⟩ => (nomatch e), fun ⟨_, e, _⟩ => (nomatch e)⟩
  | some a => show WP (some ((f a).1, (f a).2)) K = _; rw [WP_some, WV_some]
theorem WV_pair {α β : Type} {x : Option (α × β)} {K : α × β → Prop} : WV x K = WP x fun a b => K (a, b) := propext ⟨fun ⟨⟨a, b⟩, e, k⟩ => ⟨a, b, e, k⟩, fun ⟨a, b, e, k⟩ => ⟨(a, b), e, k⟩⟩
/-- a test's two ways -/
def IT (k : Bool) (A B : Prop) : Prop := (k = true → A) ∧ (k = false → B)
theorem IT_t {A B : Prop} : IT true A B = A := propext ⟨fun h => h.1 rfl, fun h => ⟨fun _ => h, fun z => nomatch z⟩⟩
theorem IT_f {A B : Prop} : IT false A B = B := propext ⟨fun h => h.2 rfl, fun h => ⟨fun z => (nomatch z), fun _ => h⟩⟩
theorem IT.pos {p : Prop} [Decidable p] {A B : Prop} (h : p) (a : A) : IT (decide p) A B := by rw [decide_eq_true h, IT_t]; exact a
theorem IT.neg {p : Prop} [Decidable p] {A B : Prop} (h : ¬p) (b : B) : IT (decide p) A B := by rw [decide_eq_false h, IT_f]; exact b
theorem IT.dec {p : Prop} [Decidable p] {A B : Prop} (a : p → A) (b : ¬p → B) : IT (decide p) A B := by
  by_cases h : p
  · exact .pos h (a h)
  · exact .neg h (b h)
theorem IT.and {j k : Bool} {A B : Prop} : IT (j && k) A B = IT j (IT k A B) B := by cases j <;> cases k <;> simp [IT]
theorem IT.or {j k : Bool} {A B : Prop} : IT (j || k) A B = IT j A (IT k A B) := by cases j <;> cases k <;> simp [IT]
def AtD (c : Cell) (K : D → Prop) : Prop := WV c.vw K
theorem AtD_dat {d : D} {K : D → Prop} : AtD (.dat d) K = K d := WV_some
theorem AtD_own {ds : List D} {K : D → Prop} : AtD (.own ds) K = K (.list ds) := WV_some
theorem AtD_dic {kvs : List (D × D)} {K : D → Prop} : AtD (.dic kvs) K = K (.dict kvs) := WV_some
/-- frozen: the data, the new cells -/
def FrC (c : Cell) (ρ : Rho) (i : Nat) (K : D → Rho → Prop) : Prop := match c with
  | .dat d => K d ρ
  | .own ds => K (.list ds) (ρ.set i (.dat (.list ds)))
  | .dic kvs => K (.dict kvs) (ρ.set i (.dat (.dict kvs)))
  | .emp => False
theorem FrC_dat {d : D} {ρ : Rho} {i : Nat} {K : D → Rho → Prop} : FrC (.dat d) ρ i K = K d ρ := rfl
theorem FrC_own {ds : List D} {ρ : Rho} {i : Nat} {K : D → Rho → Prop} : FrC (.own ds) ρ i K = K (.list ds) (ρ.set i (.dat (.list ds))) := rfl
theorem FrC_dic {kvs : List (D × D)} {ρ : Rho} {i : Nat} {K : D → Rho → Prop} : FrC (.dic kvs) ρ i K = K (.dict kvs) (ρ.set i (.dat (.dict kvs))) := rfl
def NotE (c : Cell) : Prop := notE c = true
theorem NotE_dat {d : D} : NotE (.dat d) = True := propext ⟨fun _ => trivial, fun _ => rfl⟩
theorem NotE_own {d : List D} : NotE (.own d) = True := propext ⟨fun _ => trivial, fun _ => rfl⟩
theorem NotE_dic {d : List (D × D)} : NotE (.dic d) = True := propext ⟨fun _ => trivial, fun _ => rfl⟩
theorem cell0 {c : Cell} {r : Rho} : cellAt (c :: r) 0 = c := rfl
theorem cellS {c : Cell} {r : Rho} {i : Nat} : cellAt (c :: r) (i + 1) = cellAt r i := rfl
theorem set0 {c d : Cell} {r : Rho} : List.set (c :: r) 0 d = d :: r := rfl
theorem setS {c d : Cell} {r : Rho} {i : Nat} : List.set (c :: r) (i + 1) d = c :: List.set r i d := rfl
section
variable {T : Tab} {n : Nat} {ρ : Rho} {Q : Od → Rho → Prop} {a b c : Ex} {es kes : Exs}
theorem q_var {i : Nat} : WP (ev T (.var i) ρ) Q = (NotE (cellAt ρ i) ∧ Q (.v i) ρ) := by
  show WP (match cellAt ρ i with
    | .emp => none
    | _ => some (Od.v i, ρ)) Q = _
  unfold NotE
  cases h : cellAt ρ i
  · exact propext ⟨fun ⟨_, _, e, _⟩ => (nomatch e), fun k => nomatch k.1⟩
  all_goals rw [WP_some]; exact propext ⟨fun k => ⟨rfl, k⟩, fun k => k.2⟩
theorem q_con {d : D} : WP (ev T (.con d) ρ) Q = Q (.t (.dat d)) ρ := WP_some
theorem q_bin {op : Operator} : WP (ev T (.bin op a b) ρ) Q = WP (ev T a ρ) fun o1 ρ1 => WP (ev T b ρ1) fun o2 ρ2 => WV (lookD ρ2 o1) fun x => WV (lookD ρ2 o2) fun y => WV (binD op x y) fun c => Q (.t c) ρ2 := by
  show WP ((ev T a ρ).bind _) Q = _
  simp only [WP_bindV, WP_mapV, WV_pair]
def negD (x : D) : Option D := match x with
  | .int i => some (.int (-i))
  | _ => none
theorem neg_int {i : Int} {K : D → Prop} : WV (negD (.int i)) K = K (.int (-i)) := WV_some
theorem q_neg : WP (ev T (.neg a) ρ) Q = WP (ev T a ρ) fun o ρ1 => WV (lookD ρ1 o) fun x => WV (negD x) fun y => Q (.t (.dat y)) ρ1 := by
  show WP ((ev T a ρ).bind _) Q = _
  simp only [WP_bindV, WV_pair]
  congr; funext o ρ1; congr; funext x
  cases x <;> first | (show WP (some _) _ = WV (some _) _; rw [WP_some, WV_some]) | exact propext ⟨fun ⟨_, _, e, _⟩ => (nomatch e), fun ⟨_, e, _⟩ => nomatch e⟩
theorem q_not : WP (ev T (.not a) ρ) Q = WP (ev T a ρ) fun o ρ1 => WV (testOd ρ1 o) fun b => Q (.t (.dat (.bool (!b)))) ρ1 := by
  show WP ((ev T a ρ).bind _) Q = _
  simp only [WP_bindV, WP_mapV, WV_pair]
theorem p_inK {x : D} {kvs : List (D × D)} {K : Bool → Prop} : WV (cmpD .In x (.dict kvs)) K = (keyIn kvs x = true ∧ K (dGet kvs x).isSome) := WV_if
theorem p_notInK {x : D} {kvs : List (D × D)} {K : Bool → Prop} : WV (cmpD .NotIn x (.dict kvs)) K = (keyIn kvs x = true ∧ K (!(dGet kvs x).isSome)) := by
  show WV ((if keyIn kvs x then some (dGet kvs x).isSome else none).map (!·)) K = _
  rw [WV_map]
  exact WV_if
theorem q_cmp {op : CmpOp} : WP (ev T (.cmp op a b) ρ) Q = WP (ev T a ρ) fun o1 ρ1 => WP (ev T b ρ1) fun o2 ρ2 => WV (lookD ρ2 o1) fun x => WV (lookD ρ2 o2) fun y => WV (cmpD op x y) fun k => Q (.t (.dat (.bool k))) ρ2 := by
  show WP ((ev T a ρ).bind _) Q = _
  simp only [WP_bindV, WP_mapV, WV_pair]
/-- and, or: the second part (which hands on a truth and the cells) is looked at where the first leaves it open -/
def ANDK (k : Bool) (E : (Bool → Rho → Prop) → Prop) (ρ : Rho) (Q : Bool → Rho → Prop) : Prop := IT k (E Q) (Q false ρ)
def ORK (k : Bool) (E : (Bool → Rho → Prop) → Prop) (ρ : Rho) (Q : Bool → Rho → Prop) : Prop := IT k (Q true ρ) (E Q)
theorem AN_t {E : (Bool → Rho → Prop) → Prop} {Q : Bool → Rho → Prop} : ANDK true E ρ Q = E Q := IT_t
theorem AN_f {E : (Bool → Rho → Prop) → Prop} {Q : Bool → Rho → Prop} : ANDK false E ρ Q = Q false ρ := IT_f
theorem OR_t {E : (Bool → Rho → Prop) → Prop} {Q : Bool → Rho → Prop} : ORK true E ρ Q = Q true ρ := IT_t
theorem OR_f {E : (Bool → Rho → Prop) → Prop} {Q : Bool → Rho → Prop} : ORK false E ρ Q = E Q := IT_f
theorem AN_p {k k' : Bool} {Q : Bool → Rho → Prop} : ANDK k (fun R => R k' ρ) ρ Q = Q (k && k') ρ := by cases k <;> simp [ANDK, IT]
theorem OR_p {k k' : Bool} {Q : Bool → Rho → Prop} : ORK k (fun R => R k' ρ) ρ Q = Q (k || k') ρ := by cases k <;> simp [ORK, IT]
theorem ANDK.cut {k : Bool} {E : (Bool → Rho → Prop) → Prop} {Q : Bool → Rho → Prop} (h1 : k = true → E Q) (h2 : k = false → Q false ρ) : ANDK k E ρ Q := ⟨h1, h2⟩
theorem ORK.cut {k : Bool} {E : (Bool → Rho → Prop) → Prop} {Q : Bool → Rho → Prop} (h1 : k = true → Q true ρ) (h2 : k = false → E Q) : ORK k E ρ Q := ⟨h1, h2⟩
theorem q_chn {op op' : CmpOp} : WP (ev T (.chn op op' a b c) ρ) Q = WP (ev T a ρ) fun o1 ρ1 => WP (ev T b ρ1) fun o2 ρ2 => WV (lookD ρ2 o1) fun x => WV (lookD ρ2 o2) fun y => WV (cmpD op x y) fun k => ANDK k (fun R => WP (ev T c ρ2) fun o3 ρ3 => WV (lookD ρ3 o2) fun y => WV (lookD ρ3 o3) fun z => WV (cmpD op' y z) fun k' => R k' ρ3) ρ2 fun b ρ => Q (.t (.dat (.bool b))) ρ := by
  show WP ((ev T a ρ).bind _) Q = _
  simp only [WP_bindV, WV_pair]
  congr; funext o1 ρ1; congr; funext o2 ρ2; congr; funext x; congr; funext y; congr; funext k
  cases k with
  | true => rw [AN_t, if_pos rfl]; simp only [WP_bindV, WP_mapV, WV_pair]
  | false => rw [AN_f, if_neg Bool.false_ne_true, WP_some]
theorem q_and : WP (ev T (.and a b) ρ) Q = WP (ev T a ρ) fun o ρ1 => WV (testOd ρ1 o) fun k => ANDK k (fun R => WP (ev T b ρ1) fun o2 ρ2 => WV (testOd ρ2 o2) fun k' => R k' ρ2) ρ1 fun b ρ => Q (.t (.dat (.bool b))) ρ := by
  show WP ((ev T a ρ).bind _) Q = _
  simp only [WP_bindV, WV_pair]
  congr; funext o1 ρ1; congr; funext k
  cases k with
  | true => rw [AN_t, if_pos rfl]; simp only [WP_bindV, WP_mapV, WV_pair]
  | false => rw [AN_f, if_neg Bool.false_ne_true, WP_some]
theorem q_or : WP (ev T (.or a b) ρ) Q = WP (ev T a ρ) fun o ρ1 => WV (testOd ρ1 o) fun k => ORK k (fun R => WP (ev T b ρ1) fun o2 ρ2 => WV (testOd ρ2 o2) fun k' => R k' ρ2) ρ1 fun b ρ => Q (.t (.dat (.bool b))) ρ := by
  show WP ((ev T a ρ).bind _) Q = _
  simp only [WP_bindV, WV_pair]
  congr; funext o1 ρ1; congr; funext k
  cases k with
  | false => rw [OR_f, if_neg Bool.false_ne_true]; simp only [WP_bindV, WP_mapV, WV_pair]
  | true => rw [OR_t, if_pos rfl, WP_some]
theorem q_ifx : WP (ev T (.ifx c a b) ρ) Q = WP (ev T c ρ) fun o ρ1 => WV (testOd ρ1 o) fun k => IT k (WP (ev T a ρ1) Q) (WP (ev T b ρ1) Q) := by
  show WP ((ev T c ρ).bind _) Q = _
  simp only [WP_bindV, WV_pair]
  congr; funext o1 ρ1; congr; funext k
  cases k with
  | false => rw [IT_f, if_neg Bool.false_ne_true]
  | true => rw [IT_t, if_pos rfl]
theorem q_tup : WP (ev T (.tup es) ρ) Q = WP (evs T es ρ) fun os ρ1 => WP (frzs ρ1 os) fun ds ρ2 => Q (.t (.dat (.tuple ds))) ρ2 := by
  show WP ((evs T es ρ).bind _) Q = _
  simp only [WP_bindV, WP_mapV, WV_pair]
theorem q_lst : WP (ev T (.lst es) ρ) Q = WP (evs T es ρ) fun os ρ1 => WP (frzs ρ1 os) fun ds ρ2 => Q (.t (.own ds)) ρ2 := by
  show WP ((evs T es ρ).bind _) Q = _
  simp only [WP_bindV, WP_mapV, WV_pair]
theorem ix_dc {kvs : List (D × D)} {y : D} {K : D → Prop} : WV (idxD (.dict kvs) y) K = (keyIn kvs y = true ∧ WV (dGet kvs y) K) := by
  show WV (if keyIn kvs y then dGet kvs y else none) K = _
  by_cases h : keyIn kvs y = true
  · rw [if_pos h]; exact propext ⟨fun k => ⟨h, k⟩, fun k => k.2⟩
  · rw [if_neg h]; exact propext ⟨fun ⟨_, e, _⟩ => (nomatch e), fun k => absurd k.1 h⟩
theorem q_idx : WP (ev T (.idx a b) ρ) Q = WP (ev T a ρ) fun o1 ρ1 => WP (ev T b ρ1) fun o2 ρ2 => WV (lookD ρ2 o1) fun x => WV (lookD ρ2 o2) fun y => WV (idxD x y) fun d => Q (.t (.dat d)) ρ2 := by
  show WP ((ev T a ρ).bind _) Q = _
  simp only [WP_bindV, WP_mapV, WV_pair]
theorem q_slc {lo hi : Oex} : WP (ev T (.slc a lo hi) ρ) Q = WP (ev T a ρ) fun o1 ρ1 => WP (evo T lo ρ1) fun l ρ2 => WP (evo T hi ρ2) fun r ρ3 => WV (lookD ρ3 o1) fun x => WV (slcD x l r) fun c => Q (.t c) ρ3 := by
  show WP ((ev T a ρ).bind _) Q = _
  simp only [WP_bindV, WP_mapV, WV_pair]
theorem q_rev : WP (ev T (.rev a) ρ) Q = WP (ev T a ρ) fun o1 ρ1 => WV (lookD ρ1 o1) fun x => WV (revD x) fun c => Q (.t c) ρ1 := by
  show WP ((ev T a ρ).bind _) Q = _
  simp only [WP_bindV, WP_mapV, WV_pair]
theorem q_dnew : WP (ev T .dnew ρ) Q = Q (.t (.dic [])) ρ := WP_some
theorem q_dsp : WP (ev T (.dsp a b) ρ) Q = WP (ev T a ρ) fun o1 ρ1 => WP (ev T b ρ1) fun o2 ρ2 => WP (frz ρ2 o1) fun x ρ3 => WP (frz ρ3 o2) fun y ρ4 => keyIn [] x = true ∧ Q (.t (.dic [(x, y)])) ρ4 := by
  have h : ∀ {c : Bool} {r : Od × Rho} {Q : Od → Rho → Prop}, WP (if c = true then some r else none) Q = (c = true ∧ Q r.1 r.2) := by
    intro c r Q
    cases c
    · exact propext ⟨fun ⟨_, _, e, _⟩ => (nomatch e), fun h => nomatch h.1⟩
    · exact propext ⟨fun ⟨o, r', e, q⟩ => ⟨rfl, by cases e; exact q⟩, fun h => ⟨_, _, rfl, h.2⟩⟩
  show WP ((ev T a ρ).bind _) Q = _
  simp only [WP_bindV, h, WV_pair]
theorem q_sset : WP (ev T (.sset a) ρ) Q = WP (ev T a ρ) fun o ρ1 => WV (lookD ρ1 o) fun d => WV (ssetD d) fun c => Q (.t c) ρ1 := by
  show WP ((ev T a ρ).bind _) Q = _
  simp only [WP_bindV, WP_mapV, WV_pair]
theorem ssetD_l {xs : List D} {Q : Cell → Prop} : WV (ssetD (.list xs)) Q = ((xs.all inSet && (sortOk (ddD xs) && decide (xs.length ≤ 1200))) = true ∧ Q (.own (sortD (ddD xs)))) := WV_if
theorem q_blt {f : Bf} : WP (ev T (.blt f es) ρ) Q = WP (evs T es ρ) fun os ρ1 => WV (bltAt f ρ1 os) fun c => Q (.t c) ρ1 := by
  show WP ((evs T es ρ).bind _) Q = _
  simp only [WP_bindV, WP_mapV, WV_pair]
theorem ba_1 {f : Bf} {o : Od} {K : Cell → Prop} : WV (bltAt f ρ [o]) K = WV (lookD ρ o) fun x => WV (bltD f [x]) K := by
  have e : bltAt f ρ [o] = (look ρ o).bind fun x => bltD f [x] := by
    show ((look ρ o).bind fun d => (some ([] : List D)).map fun ds => d :: ds).bind (bltD f) = _
    cases look ρ o <;> rfl
  rw [e, WV_bind]
theorem ba_2 {f : Bf} {o o2 : Od} {os : List Od} {K : Cell → Prop} : WV (bltAt f ρ (o :: o2 :: os)) K = WV (lookDs ρ (o :: o2 :: os)) fun vs => WV (bltD f vs) K := by
  show WV ((lookDs ρ (o :: o2 :: os)).bind (bltD f)) K = _
  rw [WV_bind]
theorem f_sortedK {kvs : List (D × D)} {K : Cell → Prop} : WV (bltD .sorted [.dict kvs]) K = (sortOk (kvs.map (·.1)) = true ∧ K (.own (sortD (kvs.map (·.1))))) := WV_if
theorem f_repr {d : D} {K : Cell → Prop} : WV (bltD .repr [d]) K = ((isSeqD d && reprOk d) = true ∧ K (.dat (.str d.shown))) := WV_if
theorem f_sorted {xs : List D} {K : Cell → Prop} : WV (bltD .sorted [.list xs]) K = (sortOk xs = true ∧ K (.own (sortD xs))) := WV_if
def isiV (ts : List String) (x : D) : Option Bool := match x with
  | .dict _ => none
  | x => some (ts.any (isiOne x))
theorem q_isi {ts : List String} (h : isiOk ts = true) : WP (ev T (.isi a ts) ρ) Q = WP (ev T a ρ) fun o ρ1 => WV (lookD ρ1 o) fun x => WV (isiV ts x) fun b => Q (.t (.dat (.bool b))) ρ1 := by
  show WP (if isiOk ts = true then _ else none) Q = _
  rw [if_pos h]
  simp only [WP_bindV, WV_pair]
  congr; funext o1 ρ1; congr; funext x
  cases x <;> first | (show WP (some _) _ = WV (some _) _; rw [WP_some, WV_some]) | exact propext ⟨fun ⟨_, _, e, _⟩ => (nomatch e), fun ⟨_, e, _⟩ => nomatch e⟩
/-- a def's F on operands -/
def WC (F : List Cell → Option (Cell × Cell)) (os : List Od) (ρ : Rho) (Q : Od → Rho → Prop) : Prop := WP (frzs ρ os) fun ds ρ1 => WF F (ds.map .dat) fun c _ => Q (.t c) (unfz c ρ ρ1)
def WCI1 (c : Cell) (F : List Cell → Option (Cell × Cell)) (ds : List D) (ρ : Rho) (i : Nat) (Q : Od → Rho → Prop) : Prop := match c with
  | .own xs => WF F (.own xs :: ds.map .dat) fun c out => Q (.t c) (ρ.set i out)
  | .dic kvs => WF F (.dic kvs :: ds.map .dat) fun c out => Q (.t c) (ρ.set i out)
  | .dat d => WF F (.dat d :: ds.map .dat) fun c _ => Q (.t c) ρ
  | .emp => False
def WCI (F : List Cell → Option (Cell × Cell)) (os : List Od) (ρ : Rho) (Q : Od → Rho → Prop) : Prop := match os with
  | [] => False
  | o :: os => WP (frzs ρ os) fun ds ρ1 => match o with
    | .v i => WCI1 (cellAt ρ1 i) F ds ρ1 i Q
    | .t .emp => False
    | .t c => WF F (c :: ds.map .dat) fun c _ => Q (.t c) ρ1
/-- a continuation that the run's rules leave alone (its dependent mate keeps it fixed) -/
inductive Hd {α : Type} (x : α) : Type where
  | mk
def WFH (F : List Cell → Option (Cell × Cell)) (cs : List Cell) (K : Cell → Cell → Prop) (h : Hd K) : Prop := WF F cs K
theorem WC_defH {F : List Cell → Option (Cell × Cell)} {os : List Od} {ρ : Rho} {Q : Od → Rho → Prop} : WC F os ρ Q = WP (frzs ρ os) fun ds ρ1 => WFH F (ds.map .dat) (fun c _ => Q (.t c) (unfz c ρ ρ1)) .mk := rfl
theorem WCI_tO {F : List Cell → Option (Cell × Cell)} {os : List Od} {xs : List D} {ρ : Rho} {Q : Od → Rho → Prop} : WCI F (.t (.own xs) :: os) ρ Q = WP (frzs ρ os) fun ds ρ1 => WFH F (.own xs :: ds.map .dat) (fun c _ => Q (.t c) ρ1) .mk := rfl
theorem WCI_tD {F : List Cell → Option (Cell × Cell)} {os : List Od} {d : D} {ρ : Rho} {Q : Od → Rho → Prop} : WCI F (.t (.dat d) :: os) ρ Q = WP (frzs ρ os) fun ds ρ1 => WFH F (.dat d :: ds.map .dat) (fun c _ => Q (.t c) ρ1) .mk := rfl
theorem WCI1_ownH {F : List Cell → Option (Cell × Cell)} {ds xs : List D} {i : Nat} {ρ : Rho} {Q : Od → Rho → Prop} : WCI1 (.own xs) F ds ρ i Q = WFH F (.own xs :: ds.map .dat) (fun c out => Q (.t c) (ρ.set i out)) .mk := rfl
theorem WCI1_dicH {F : List Cell → Option (Cell × Cell)} {ds : List D} {xs : List (D × D)} {i : Nat} {ρ : Rho} {Q : Od → Rho → Prop} : WCI1 (.dic xs) F ds ρ i Q = WFH F (.dic xs :: ds.map .dat) (fun c out => Q (.t c) (ρ.set i out)) .mk := rfl
theorem uz_n {ρ ρ1 : Rho} : unfz (.dat .none) ρ ρ1 = ρ := rfl
theorem uz_b {ρ ρ1 : Rho} {b : Bool} : unfz (.dat (.bool b)) ρ ρ1 = ρ := rfl
theorem uz_i {ρ ρ1 : Rho} {i : Int} : unfz (.dat (.int i)) ρ ρ1 = ρ := rfl
theorem uz_s {ρ ρ1 : Rho} {x : Str} : unfz (.dat (.str x)) ρ ρ1 = ρ := rfl
theorem uz_t {ρ ρ1 : Rho} {ds : List D} : unfz (.dat (.tuple ds)) ρ ρ1 = ρ1 := rfl
theorem uz_l {ρ ρ1 : Rho} {ds : List D} : unfz (.dat (.list ds)) ρ ρ1 = ρ1 := rfl
theorem uz_o {ρ ρ1 : Rho} {ds : List D} : unfz (.own ds) ρ ρ1 = ρ1 := rfl
theorem uz_d {ρ ρ1 : Rho} {kvs : List (D × D)} : unfz (.dic kvs) ρ ρ1 = ρ1 := rfl
theorem uz_r {c : Cell} {ρ : Rho} : unfz c ρ ρ = ρ := by
  cases c with
  | dat d => cases d <;> rfl
  | _ => rfl
theorem WCI_def {F : List Cell → Option (Cell × Cell)} {os : List Od} {i : Nat} {ρ : Rho} {Q : Od → Rho → Prop} : WCI F (.v i :: os) ρ Q = WP (frzs ρ os) fun ds ρ1 => WCI1 (cellAt ρ1 i) F ds ρ1 i Q := rfl
theorem WP_if {α β : Type} {c : Prop} [Decidable c] {x : Option (α × β)} {K : α → β → Prop} : WP (if c then x else none) K = (c ∧ WP x K) := by
  by_cases h : c
  · rw [if_pos h]; exact propext ⟨fun k => ⟨h, k⟩, fun k => k.2⟩
  · rw [if_neg h]; exact propext ⟨fun ⟨_, _, e, _⟩ => (nomatch e), fun k => absurd k.1 h⟩
theorem q_callfr {j : Nat} {fn : Fn} {ix : List Nat} {m : Nat} {F : List Cell → Option (Cell × Cell)} (hf : T.fn j = some fn) (hio : fn.io = false) (hm : fn.ps.length = m) (hF : fn.F = F) :
    WP (ev T (.call j es ix kes) ρ) Q = WP (evs T es ρ) fun us ρ1 => WP (evs T kes ρ1) fun ws ρ2 => us.length + ix.length = m ∧ WC F (us ++ ix.map fun i => ws.getD i (.t .emp)) ρ2 Q := by
  subst hm hF
  show WP ((evs T es ρ).bind _) Q = _
  have e : ∀ os ρ, WP (callF fn os ρ) Q = WC fn.F os ρ Q := fun os ρ => by
    unfold callF
    rw [if_neg (by rw [hio]; exact Bool.false_ne_true)]
    simp only [WP_bindV, WP_mapV, WV_pair]; rfl
  simp only [WP_bindV, WV_pair, hf, WV_some, WP_if, e]
theorem q_callio {j : Nat} {fn : Fn} {ix : List Nat} {m : Nat} {F : List Cell → Option (Cell × Cell)} (hf : T.fn j = some fn) (hio : fn.io = true) (hm : fn.ps.length = m) (hF : fn.F = F) :
    WP (ev T (.call j es ix kes) ρ) Q = WP (evs T es ρ) fun us ρ1 => WP (evs T kes ρ1) fun ws ρ2 => us.length + ix.length = m ∧ WCI F (us ++ ix.map fun i => ws.getD i (.t .emp)) ρ2 Q := by
  subst hm hF
  show WP ((evs T es ρ).bind _) Q = _
  have nn : ∀ {α β : Type} {K : α → β → Prop}, WP (none : Option (α × β)) K = False := fun {_ _ _} => propext ⟨fun ⟨_, _, e, _⟩ => (nomatch e), fun e => nomatch e⟩
  have e : ∀ os ρ, WP (callF fn os ρ) Q = WCI fn.F os ρ Q := fun os ρ => by
    unfold callF
    rw [if_pos hio]
    cases os with
    | nil => exact nn
    | cons o os =>
      show WP ((frzs ρ os).bind _) Q = _
      simp only [WP_bindV, WV_pair]
      cases o with
      | t c =>
        show (WP (frzs ρ os) fun ds ρ1 => WP _ Q) = _
        cases c with
        | emp => show _ = WP (frzs ρ os) fun ds ρ1 => False; congr; funext ds ρ1; exact nn
        | dat d => show _ = WP (frzs ρ os) fun ds ρ1 => WF fn.F (.dat d :: ds.map .dat) fun c _ => Q (.t c) ρ1; congr; funext ds ρ1; simp only [WP_mapV, WV_pair]; rfl
        | own d => show _ = WP (frzs ρ os) fun ds ρ1 => WF fn.F (.own d :: ds.map .dat) fun c _ => Q (.t c) ρ1; congr; funext ds ρ1; simp only [WP_mapV, WV_pair]; rfl
        | dic d => show _ = WP (frzs ρ os) fun ds ρ1 => WF fn.F (.dic d :: ds.map .dat) fun c _ => Q (.t c) ρ1; congr; funext ds ρ1; simp only [WP_mapV, WV_pair]; rfl
      | v i =>
        show _ = WP (frzs ρ os) fun ds ρ1 => WCI1 (cellAt ρ1 i) fn.F ds ρ1 i Q
        congr; funext ds ρ1
        show WP (match cellAt ρ1 i with
          | .dat d => (fn.F (.dat d :: ds.map .dat)).map fun q : Cell × Cell => (Od.t q.1, ρ1)
          | .own xs => (fn.F (.own xs :: ds.map .dat)).map fun q : Cell × Cell => (.t q.1, ρ1.set i q.2)
          | .dic kvs => (fn.F (.dic kvs :: ds.map .dat)).map fun q : Cell × Cell => (.t q.1, ρ1.set i q.2)
          | .emp => none) Q = _
        generalize cellAt ρ1 i = c
        cases c with
        | emp => exact nn
        | dat d => simp only [WP_mapV, WV_pair]; rfl
        | own d => simp only [WP_mapV, WV_pair]; rfl
        | dic d => simp only [WP_mapV, WV_pair]; rfl
  simp only [WP_bindV, WV_pair, hf, WV_some, WP_if, e]
end
section
variable {T : Tab} {n : Nat} {ρ : Rho}
theorem qs_nil {Q : List Od → Rho → Prop} : WP (evs T .nil ρ) Q = Q [] ρ := WP_some
theorem qs_cons {Q : List Od → Rho → Prop} {e : Ex} {es : Exs} : WP (evs T (.cons e es) ρ) Q = WP (ev T e ρ) fun o ρ1 => WP (evs T es ρ1) fun os ρ2 => Q (o :: os) ρ2 := by
  show WP ((ev T e ρ).bind _) Q = _
  simp only [WP_bindV, WP_mapV, WV_pair]
theorem ld_v {i : Nat} {K : D → Prop} : WV (lookD ρ (.v i)) K = AtD (cellAt ρ i) K := rfl
theorem ld_d {d : D} {K : D → Prop} : WV (lookD ρ (.t (.dat d))) K = K d := WV_some
theorem ld_o {ds : List D} {K : D → Prop} : WV (lookD ρ (.t (.own ds))) K = K (.list ds) := WV_some
theorem ld_c {ds : List (D × D)} {K : D → Prop} : WV (lookD ρ (.t (.dic ds))) K = K (.dict ds) := WV_some
/-- the truth in a cell -/
def AtB (c : Cell) (K : Bool → Prop) : Prop := WV (c.vw.bind asBool) K
theorem AtB_b {b : Bool} {K : Bool → Prop} : AtB (.dat (.bool b)) K = K b := WV_some
theorem tb_v {i : Nat} {K : Bool → Prop} : WV (testOd ρ (.v i)) K = AtB (cellAt ρ i) K := rfl
theorem tb_b {b : Bool} {K : Bool → Prop} : WV (testOd ρ (.t (.dat (.bool b)))) K = K b := WV_some
theorem lds_nil {K : List D → Prop} : WV (lookDs ρ []) K = K [] := WV_some
theorem lds_cons {o : Od} {os : List Od} {K : List D → Prop} : WV (lookDs ρ (o :: os)) K = WV (lookD ρ o) fun d => WV (lookDs ρ os) fun ds => K (d :: ds) := by
  show WV ((lookD ρ o).bind _) K = _
  simp only [WV_bind, WV_map]
theorem f1_v {i : Nat} {K : D → Rho → Prop} : WP (frz ρ (.v i)) K = FrC (cellAt ρ i) ρ i K := by
  show WP (match cellAt ρ i with
    | .dat d => some (d, ρ)
    | .own ds => some (.list ds, ρ.set i (.dat (.list ds)))
    | .dic kvs => some (.dict kvs, ρ.set i (.dat (.dict kvs)))
    | .emp => none) K = _
  have nn : ∀ {α β : Type} {K : α → β → Prop}, WP (none : Option (α × β)) K = False := fun {_ _ _} => propext ⟨fun ⟨_, _, e, _⟩ => (nomatch e), fun e => nomatch e⟩
  cases cellAt ρ i <;> first | exact WP_some | exact nn
theorem f1_d {d : D} {K : D → Rho → Prop} : WP (frz ρ (.t (.dat d))) K = K d ρ := WP_some
theorem f1_o {ds : List D} {K : D → Rho → Prop} : WP (frz ρ (.t (.own ds))) K = K (.list ds) ρ := WP_some
theorem f1_c {ds : List (D × D)} {K : D → Rho → Prop} : WP (frz ρ (.t (.dic ds))) K = K (.dict ds) ρ := WP_some
theorem fs_nil {K : List D → Rho → Prop} : WP (frzs ρ []) K = K [] ρ := WP_some
theorem fs_cons {o : Od} {os : List Od} {K : List D → Rho → Prop} : WP (frzs ρ (o :: os)) K = WP (frz ρ o) fun d ρ1 => WP (frzs ρ1 os) fun ds ρ2 => K (d :: ds) ρ2 := by
  show WP ((frz ρ o).bind _) K = _
  simp only [WP_bindV, WP_mapV, WV_pair]
theorem co_v {i : Nat} {K : Cell → Rho → Prop} : WP (celOd ρ (.v i)) K = FrC (cellAt ρ i) ρ i fun d ρ1 => K (.dat d) ρ1 := by
  show WP ((frz ρ (.v i)).map _) K = _
  simp only [WP_mapV, WV_pair]; exact f1_v
theorem co_t {c : Cell} {K : Cell → Rho → Prop} : WP (celOd ρ (.t c)) K = K c ρ := WP_some
theorem cos_nil {K : List Cell → Rho → Prop} : WP (celOds ρ []) K = K [] ρ := WP_some
theorem cos_cons {o : Od} {os : List Od} {K : List Cell → Rho → Prop} : WP (celOds ρ (o :: os)) K = WP (celOd ρ o) fun c ρ1 => WP (celOds ρ1 os) fun cs ρ2 => K (c :: cs) ρ2 := by
  show WP ((celOd ρ o).bind _) K = _
  simp only [WP_bindV, WP_mapV, WV_pair]
def intV (x : D) (K : Int → Prop) : Prop := match x with
  | .int i => K i
  | _ => False
theorem intV_i {i : Int} {K : Int → Prop} : intV (.int i) K = K i := rfl
theorem eo_no {K : Option Int → Rho → Prop} : WP (evo T .no ρ) K = K none ρ := WP_some
theorem eo_so {e : Ex} {K : Option Int → Rho → Prop} : WP (evo T (.so e) ρ) K = WP (ev T e ρ) fun o ρ1 => WV (lookD ρ1 o) fun x => intV x fun i => K (some i) ρ1 := by
  show WP ((ev T e ρ).bind _) K = _
  simp only [WP_bindV, WV_pair]
  have nn : ∀ {α β : Type} {K : α → β → Prop}, WP (none : Option (α × β)) K = False := fun {_ _ _} => propext ⟨fun ⟨_, _, e, _⟩ => (nomatch e), fun e => nomatch e⟩
  congr; funext o ρ1; congr; funext x
  cases x <;> first | exact WP_some | exact nn
theorem ec_no {K : Bool → Rho → Prop} : WP (evc T .no ρ) K = K true ρ := WP_some
theorem ec_so {e : Ex} {K : Bool → Rho → Prop} : WP (evc T (.so e) ρ) K = WP (ev T e ρ) fun o ρ1 => WV (testOd ρ1 o) fun b => K b ρ1 := by
  show WP ((ev T e ρ).bind _) K = _
  simp only [WP_bindV, WP_mapV, WV_pair]
section
variable {K : List D → Rho → Prop} {a b : Ex}
theorem i_seq : WP (evi T (.seq a) ρ) K = WP (ev T a ρ) fun o ρ1 => WP (frz ρ1 o) fun d ρ2 => WV (walkD d) fun ds => K ds ρ2 := by
  show WP ((ev T a ρ).bind _) K = _
  simp only [WP_bindV, WP_mapV, WV_pair]
theorem i_rng1 : WP (evi T (.rng1 a) ρ) K = WP (ev T a ρ) fun o ρ1 => WV (lookD ρ1 o) fun x => WV (rng1D x) fun ds => K ds ρ1 := by
  show WP ((ev T a ρ).bind _) K = _
  simp only [WP_bindV, WP_mapV, WV_pair]
theorem i_rng2 : WP (evi T (.rng2 a b) ρ) K = WP (ev T a ρ) fun o1 ρ1 => WP (ev T b ρ1) fun o2 ρ2 => WV (lookD ρ2 o1) fun x => WV (lookD ρ2 o2) fun y => WV (rng2D x y) fun ds => K ds ρ2 := by
  show WP ((ev T a ρ).bind _) K = _
  simp only [WP_bindV, WP_mapV, WV_pair]
theorem i_enm : WP (evi T (.enm a) ρ) K = WP (ev T a ρ) fun o ρ1 => WP (frz ρ1 o) fun d ρ2 => WV (seqD d) fun ds => K (enmD 0 ds) ρ2 := by
  show WP ((ev T a ρ).bind _) K = _
  simp only [WP_bindV, WP_mapV, WV_pair]
theorem i_zip : WP (evi T (.zip a b) ρ) K = WP (ev T a ρ) fun o1 ρ1 => WP (ev T b ρ1) fun o2 ρ2 => WP (frz ρ2 o1) fun x ρ3 => WP (frz ρ3 o2) fun y ρ4 => WV (zipS x y) fun ds => K ds ρ4 := by
  show WP ((ev T a ρ).bind _) K = _
  simp only [WP_bindV, WP_mapV, WV_pair]
theorem zs_l {xs ys : List D} {K : List D → Prop} : WV (zipS (.list xs) (.list ys)) K = K (zipD xs ys) := WV_some
theorem zs_t {xs ys : List D} {K : List D → Prop} : WV (zipS (.tuple xs) (.tuple ys)) K = K (zipD xs ys) := WV_some
theorem i_rev : WP (evi T (.rev a) ρ) K = WP (ev T a ρ) fun o ρ1 => WP (frz ρ1 o) fun d ρ2 => WV (seqD d) fun ds => K ds.reverse ρ2 := by
  show WP ((ev T a ρ).bind _) K = _
  simp only [WP_bindV, WP_mapV, WV_pair]
end
theorem rv_l {xs : List D} {K : Cell → Prop} : WV (revD (.list xs)) K = K (.own xs.reverse) := WV_some
theorem rv_t {xs : List D} {K : Cell → Prop} : WV (revD (.tuple xs)) K = K (.dat (.tuple xs.reverse)) := WV_some
theorem wk_l {xs : List D} {K : List D → Prop} : WV (walkD (.list xs)) K = K xs := WV_some
theorem wk_t {xs : List D} {K : List D → Prop} : WV (walkD (.tuple xs)) K = K xs := WV_some
theorem wk_d {kvs : List (D × D)} {K : List D → Prop} : WV (walkD (.dict kvs)) K = K (kvs.map (·.1)) := WV_some
theorem sq_l {xs : List D} {K : List D → Prop} : WV (seqD (.list xs)) K = K xs := WV_some
theorem sq_t {xs : List D} {K : List D → Prop} : WV (seqD (.tuple xs)) K = K xs := WV_some
theorem q_lc {Q : Od → Rho → Prop} {a : Ex} {tg : Tg} {it : Itr} {cc : Oex} {own : List Nat} : WP (ev T (.lc a tg it cc own) ρ) Q = WP (evi T it ρ) fun ds ρ1 => WP (lcLoop (lcTurn T a tg cc) own ds ρ1) fun ys ρ2 => Q (.t (.own ys)) (backR ρ1 ρ2 own) := by
  show WP ((evi T it ρ).bind _) Q = _
  simp only [WP_bindV, WP_mapV, WV_pair]; rfl
theorem q_dc {Q : Od → Rho → Prop} {a b : Ex} {tg : Tg} {it : Itr} {cc : Oex} {own : List Nat} : WP (ev T (.dc a b tg it cc own) ρ) Q = WP (evi T it ρ) fun ds ρ1 => WP (dcLoop (dcTurn T a b tg cc) own ds [] ρ1) fun kvs ρ2 => Q (.t (.dic kvs)) (backR ρ1 ρ2 own) := by
  show WP ((evi T it ρ).bind _) Q = _
  simp only [WP_bindV, WP_mapV, WV_pair]; rfl
theorem q_lc2 {Q : Od → Rho → Prop} {a : Ex} {tg tg1 : Tg} {it it1 : Itr} {cc cc1 : Oex} {own own1 : List Nat} : WP (ev T (.lc2 a tg it cc tg1 it1 cc1 own own1) ρ) Q = WP (evi T it ρ) fun ds ρ1 => WP (lcLoopL (lcTurn2 T a tg cc tg1 it1 cc1 own1) own ds ρ1) fun ys ρ2 => ys.length ≤ 16777216 ∧ Q (.t (.own ys)) (backR ρ1 ρ2 own) := by
  show WP ((evi T it ρ).bind _) Q = _
  simp only [WP_bindV, WV_pair, WP_if, WP_some]; rfl
theorem tg_n {i : Nat} {d : D} {K : Rho → Prop} : WV (bindTg (.n i) d ρ) K = K (ρ.set i (.dat d)) := WV_some
theorem tg_t {ts : List Tg} {ds : List D} {K : Rho → Prop} : WV (bindTg (.t ts) (.tuple ds) ρ) K = WV (bindTg.go ts ds ρ) K := rfl
theorem tg_l {ts : List Tg} {ds : List D} {K : Rho → Prop} : WV (bindTg (.t ts) (.list ds) ρ) K = WV (bindTg.go ts ds ρ) K := rfl
theorem tgs_nil {K : Rho → Prop} : WV (bindTg.go [] [] ρ) K = K ρ := WV_some
theorem tgs_cons {t : Tg} {ts : List Tg} {d : D} {ds : List D} {K : Rho → Prop} : WV (bindTg.go (t :: ts) (d :: ds) ρ) K = WV (bindTg t d ρ) fun ρ1 => WV (bindTg.go ts ds ρ1) K := by
  show WV ((bindTg t d ρ).bind _) K = _
  simp only [WV_bind]
section
variable {Q : Out → Rho → Prop} {e : Ex}
theorem r_nil : WP (exs T n .nil ρ) Q = Q .nx ρ := WP_some
def seqO (T : Tab) (n : Nat) (r : Sms) (Q : Out → Rho → Prop) (o : Out) (ρ : Rho) : Prop := match o with
  | .nx => WP (exs T n r ρ) Q
  | o => Q o ρ
theorem so_nx {r : Sms} : seqO T n r Q .nx ρ = WP (exs T n r ρ) Q := rfl
theorem so_bk {r : Sms} : seqO T n r Q .bk ρ = Q .bk ρ := rfl
theorem so_ct {r : Sms} : seqO T n r Q .ct ρ = Q .ct ρ := rfl
theorem so_rt {r : Sms} {o : Od} : seqO T n r Q (.rt o) ρ = Q (.rt o) ρ := rfl
theorem r_cons {s : Sm} {r : Sms} : WP (exs T n (.cons s r) ρ) Q = WP (ex T n s ρ) fun o ρ1 => seqO T n r Q o ρ1 := by
  show WP ((ex T n s ρ).bind _) Q = _
  simp only [WP_bindV, WV_pair]
  congr; funext o ρ1
  cases o <;> first | rfl | exact WP_some
theorem r_set {i : Nat} : WP (ex T n (.set i e) ρ) Q = WP (ev T e ρ) fun o ρ1 => WP (celOd ρ1 o) fun c ρ2 => Q .nx (ρ2.set i c) := by
  show WP ((ev T e ρ).bind _) Q = _
  simp only [WP_bindV, WP_mapV, WV_pair]
theorem r_asg {tg : Tg} : WP (ex T n (.asg tg e) ρ) Q = WP (ev T e ρ) fun o ρ1 => WP (frz ρ1 o) fun d ρ2 => WV (bindTg tg d ρ2) fun ρ3 => Q .nx ρ3 := by
  show WP ((ev T e ρ).bind _) Q = _
  simp only [WP_bindV, WP_mapV, WV_pair]
theorem r_par {is : List Nat} {es : Exs} : WP (ex T n (.par is es) ρ) Q = WP (evs T es ρ) fun os ρ1 => WP (celOds ρ1 os) fun cs ρ2 => Q .nx (setAll is cs ρ2) := by
  show WP ((evs T es ρ).bind _) Q = _
  simp only [WP_bindV, WP_mapV, WV_pair]
theorem sA_nil {cs : List Cell} {ρ : Rho} : setAll [] cs ρ = ρ := by cases cs <;> rfl
theorem sA_cons {i : Nat} {is : List Nat} {c : Cell} {cs : List Cell} {ρ : Rho} : setAll (i :: is) (c :: cs) ρ = setAll is cs (ρ.set i c) := rfl
def OwnC (c : Cell) : Prop := (isOwn c).isSome = true
theorem OwnC_o {ds : List D} : OwnC (.own ds) = True := propext ⟨fun _ => trivial, fun _ => rfl⟩
theorem OwnC_d {kvs : List (D × D)} : OwnC (.dic kvs) = True := propext ⟨fun _ => trivial, fun _ => rfl⟩
def PutC (c : Cell) (y d : D) (K : Cell → Prop) : Prop := WV (putC c y d) K
theorem PutC_o {xs : List D} {z : Int} {d : D} {K : Cell → Prop} : PutC (.own xs) (.int z) d K = WV (putL xs z d) fun xs => K (.own xs) := by
  show WV ((putL xs z d).map Cell.own) K = _
  rw [WV_map]
theorem PutC_d {kvs : List (D × D)} {y d : D} {K : Cell → Prop} : PutC (.dic kvs) y d K = ((keyIn kvs y && decide (kvs.length < 16777215)) = true ∧ K (.dic (dPut kvs y d))) := WV_if
theorem r_put {i : Nat} {kx : Ex} : WP (ex T n (.put i kx e) ρ) Q = WP (ev T e ρ) fun o ρ1 => OwnC (cellAt ρ1 i) ∧ WP (ev T kx ρ1) fun ok ρ2 => WP (frz ρ2 o) fun d ρ3 => WV (lookD ρ3 ok) fun y => PutC (cellAt ρ3 i) y d fun c => Q .nx (ρ3.set i c) := by
  show WP ((ev T e ρ).bind _) Q = _
  have h : ∀ {x : Option Unit} {P : Unit → Prop}, WV x P = (x.isSome = true ∧ P ()) := fun {x _} => by
    cases x with
    | none => exact propext ⟨fun ⟨_, e, _⟩ => (nomatch e), fun e => nomatch e.1⟩
    | some u => rw [WV_some]; exact propext ⟨fun k => ⟨rfl, k⟩, fun k => k.2⟩
  simp only [WP_bindV, WP_mapV, WV_pair, h]; rfl
theorem r_aug {i : Nat} {op : Operator} : WP (ex T n (.aug i op e) ρ) Q = WV (intC (cellAt ρ i)) fun x => WP (ev T e ρ) fun o ρ1 => WV (lookD ρ1 o) fun y => WV (augD op x y) fun z => Q .nx (ρ1.set i (.dat (.int z))) := by
  show WP ((intC (cellAt ρ i)).bind _) Q = _
  simp only [WP_bindV, WP_mapV, WV_pair]
theorem intC_i {x : Int} {K : Int → Prop} : WV (intC (.dat (.int x))) K = K x := WV_some
theorem augD_a {x y : Int} {K : Int → Prop} : WV (augD .Add x (.int y)) K = K (x + y) := WV_some
theorem augD_s {x y : Int} {K : Int → Prop} : WV (augD .Sub x (.int y)) K = K (x - y) := WV_some
theorem r_exp : WP (ex T n (.exp e) ρ) Q = WP (ev T e ρ) fun _ ρ1 => Q .nx ρ1 := by
  show WP ((ev T e ρ).map _) Q = _
  simp only [WP_mapV, WV_pair]
theorem r_ret : WP (ex T n (.ret e) ρ) Q = WP (ev T e ρ) fun o ρ1 => Q (.rt o) ρ1 := by
  show WP ((ev T e ρ).map _) Q = _
  simp only [WP_mapV, WV_pair]
theorem r_retN : WP (ex T n .retN ρ) Q = Q (.rt (.t (.dat .none))) ρ := WP_some
theorem r_pas : WP (ex T n .pas ρ) Q = Q .nx ρ := WP_some
theorem r_brk : WP (ex T n .brk ρ) Q = Q .bk ρ := WP_some
theorem r_cnt : WP (ex T n .cnt ρ) Q = Q .ct ρ := WP_some
theorem r_ite {c : Ex} {a b : Sms} : WP (ex T n (.ite c a b) ρ) Q = WP (ev T c ρ) fun o ρ1 => WV (testOd ρ1 o) fun k => IT k (WP (exs T n a ρ1) Q) (WP (exs T n b ρ1) Q) := by
  show WP ((ev T c ρ).bind _) Q = _
  simp only [WP_bindV, WV_pair]
  congr; funext o ρ1; congr; funext k
  cases k with
  | true => rw [IT_t, if_pos rfl]
  | false => rw [IT_f, if_neg Bool.false_ne_true]
theorem r_for {tg : Tg} {it : Itr} {b : Sms} : WP (ex T n (.for_ tg it b) ρ) Q = WP (evi T it ρ) fun ds ρ1 => WP (forL tg (exs T n b) ds ρ1) Q := by
  show WP ((evi T it ρ).bind _) Q = _
  simp only [WP_bindV, WV_pair]
def turnO (nx : Rho → Prop) (Q : Out → Rho → Prop) (o : Out) (ρ : Rho) : Prop := match o with
  | .nx => nx ρ
  | .ct => nx ρ
  | .bk => Q .nx ρ
  | .rt o => Q (.rt o) ρ
theorem to_nx {nx : Rho → Prop} : turnO nx Q .nx ρ = nx ρ := rfl
theorem to_ct {nx : Rho → Prop} : turnO nx Q .ct ρ = nx ρ := rfl
theorem to_bk {nx : Rho → Prop} : turnO nx Q .bk ρ = Q .nx ρ := rfl
theorem to_rt {nx : Rho → Prop} {o : Od} : turnO nx Q (.rt o) ρ = Q (.rt o) ρ := rfl
theorem turnK_O {nx : Rho → Prop} {o : Out} : turnK nx Q o ρ = turnO nx Q o ρ := by cases o <;> rfl
theorem fo_nil {tg : Tg} {b : Rho → Option (Out × Rho)} : WP (forL tg b [] ρ) Q = Q .nx ρ := WP_some
theorem fo_cons {tg : Tg} {b : Rho → Option (Out × Rho)} {d : D} {ds : List D} : WP (forL tg b (d :: ds) ρ) Q = WV (bindTg tg d ρ) fun ρ1 => WP (b ρ1) fun o ρ2 => turnO (fun ρ3 => WP (forL tg b ds ρ3) Q) Q o ρ2 := by
  show WP ((bindTg tg d ρ).bind _) Q = _
  simp only [WP_bindV, WV_pair]
  congr; funext ρ1; congr; funext o ρ2
  cases o <;> first | rfl | exact WP_some
/-- a loop by an invariant of the turn's number -/
theorem fo_inv {tg : Tg} {b : Rho → Option (Out × Rho)} {ds : List D} (Inv : Nat → Rho → Prop) (h0 : Inv 0 ρ) (step : ∀ i d ρ, ds[i]? = some d → Inv i ρ → WV (bindTg tg d ρ) fun ρ1 => WP (b ρ1) fun o ρ2 => turnO (Inv (i + 1)) Q o ρ2) (he : ∀ ρ, Inv ds.length ρ → Q .nx ρ) : WP (forL tg b ds ρ) Q := by
  refine wfor_inv Inv h0 (fun i d ρ h1 h2 => ?_) he
  simp only [funext fun o => funext fun ρ => turnK_O (nx := Inv (i + 1)) (Q := Q) (o := o) (ρ := ρ)]
  exact step i d ρ h1 h2
/-- a while loop by an invariant with a measure -/
theorem r_whl {c : Ex} {b : Sms} : WP (ex T n (.whl c b) ρ) Q = WP (whlL (fun ρ => (ev T c ρ).bind fun r => (testOd r.2 r.1).map fun k => (k, r.2)) (exs T n b) n ρ) Q := rfl
theorem wh_inv {c : Ex} {b : Sms} {N : Nat} (Inv : Nat → Rho → Prop) (m : Nat) (hm : m < N) (h0 : Inv m ρ)
    (step : ∀ m ρ, Inv m ρ → WP (ev T c ρ) fun o ρ1 => WV (testOd ρ1 o) fun k => IT k (WP (exs T n b ρ1) fun o ρ2 => turnO (fun ρ3 => ∃ m', m' < m ∧ Inv m' ρ3) Q o ρ2) (Q .nx ρ1)) :
    WP (whlL (fun ρ => (ev T c ρ).bind fun r => (testOd r.2 r.1).map fun k => (k, r.2)) (exs T n b) N ρ) Q := by
  induction N generalizing m ρ with
  | zero => omega
  | succ N ih =>
    show WP (((ev T c ρ).bind fun r => (testOd r.2 r.1).map fun k => (k, r.2)).bind _) Q
    rw [WP_bindV, WV_bind, WV_pair]
    simp only [WV_map]
    refine (step m ρ h0).mono fun o ρ1 h => h.mono fun k h => ?_
    cases k with
    | false => rw [IT_f] at h; rw [if_neg Bool.false_ne_true, WP_some]; exact h
    | true =>
      rw [IT_t] at h
      rw [if_pos rfl, WP_bindV, WV_pair]
      refine h.mono fun o ρ2 h => ?_
      cases o with
      | nx => obtain ⟨m', h1, h2⟩ := h; exact ih m' (by omega) h2
      | ct => obtain ⟨m', h1, h2⟩ := h; exact ih m' (by omega) h2
      | bk => exact WP_some ▸ h
      | rt o => exact WP_some ▸ h
end
section
variable {turn : D → Rho → Option (Option D × Rho)} {own : List Nat} {K : List D → Rho → Prop}
theorem lc_nil : WP (lcLoop turn own [] ρ) K = K [] ρ := WP_some
theorem lc_cons {d : D} {ds : List D} : WP (lcLoop turn own (d :: ds) ρ) K = WP (turn d (wipeR ρ own)) fun y ρ1 => WP (lcLoop turn own ds ρ1) fun ys ρ2 => K (keepK y ys) ρ2 := by
  show WP ((turn d (wipeR ρ own)).bind _) K = _
  simp only [WP_bindV, WP_mapV, WV_pair]
  rfl
theorem kk_s {y : D} {ys : List D} : keepK (some y) ys = y :: ys := rfl
theorem kk_n {ys : List D} : keepK none ys = ys := rfl
theorem lc_turn {elt : Ex} {tg : Tg} {c : Oex} {d : D} {K : Option D → Rho → Prop} : WP (lcTurn T elt tg c d ρ) K = WV (bindTg tg d ρ) fun ρ1 => WP (evc T c ρ1) fun k ρ2 => IT k (WP (ev T elt ρ2) fun o ρ3 => WP (frz ρ3 o) fun y ρ4 => K (some y) ρ4) (K none ρ2) := by
  show WP ((bindTg tg d ρ).bind _) K = _
  simp only [WP_bindV, WV_pair]
  congr; funext ρ1; congr; funext k ρ2
  cases k with
  | true => rw [IT_t, if_pos rfl]; simp only [WP_bindV, WP_mapV, WV_pair]
  | false => rw [IT_f, if_neg Bool.false_ne_true, WP_some]
theorem dc_turn {a b : Ex} {tg : Tg} {c : Oex} {d : D} {K : Option (D × D) → Rho → Prop} : WP (dcTurn T a b tg c d ρ) K = WV (bindTg tg d ρ) fun ρ1 => WP (evc T c ρ1) fun k ρ2 => IT k (WP (ev T a ρ2) fun o ρ3 => WP (ev T b ρ3) fun o2 ρ4 => WP (frz ρ4 o) fun y ρ5 => WP (frz ρ5 o2) fun z ρ6 => K (some (y, z)) ρ6) (K none ρ2) := by
  show WP ((bindTg tg d ρ).bind _) K = _
  simp only [WP_bindV, WV_pair]
  congr; funext ρ1; congr; funext k ρ2
  cases k with
  | true => rw [IT_t, if_pos rfl]; simp only [WP_bindV, WP_mapV, WV_pair]
  | false => rw [IT_f, if_neg Bool.false_ne_true, WP_some]
theorem lcL_nil {turn : D → Rho → Option (List D × Rho)} : WP (lcLoopL turn own [] ρ) K = K [] ρ := WP_some
theorem lcL_cons {turn : D → Rho → Option (List D × Rho)} {d : D} {ds : List D} : WP (lcLoopL turn own (d :: ds) ρ) K = WP (turn d (wipeR ρ own)) fun y ρ1 => WP (lcLoopL turn own ds ρ1) fun ys ρ2 => K (y ++ ys) ρ2 := by
  show WP ((turn d (wipeR ρ own)).bind _) K = _
  simp only [WP_bindV, WP_mapV, WV_pair]
theorem lc_turn2 {elt : Ex} {tg tg1 : Tg} {c c1 : Oex} {it1 : Itr} {own1 : List Nat} {d : D} : WP (lcTurn2 T elt tg c tg1 it1 c1 own1 d ρ) K = WV (bindTg tg d ρ) fun ρ1 => WP (evc T c ρ1) fun k ρ2 => IT k (WP (evi T it1 ρ2) fun ds ρ3 => WP (lcLoop (lcTurn T elt tg1 c1) own1 ds ρ3) K) (K [] ρ2) := by
  show WP ((bindTg tg d ρ).bind _) K = _
  simp only [WP_bindV, WV_pair]
  congr; funext ρ1; congr; funext k ρ2
  cases k with
  | true => rw [IT_t, if_pos rfl]; simp only [WP_bindV, WV_pair]
  | false => rw [IT_f, if_neg Bool.false_ne_true, WP_some]
/-- a comprehension's loop by an invariant: the turn's number, the items so far -/
theorem lc_inv {ds : List D} (Inv : Nat → List D → Rho → Prop) (h0 : Inv 0 [] ρ) (step : ∀ i d ys ρ, ds[i]? = some d → Inv i ys ρ → WP (turn d (wipeR ρ own)) fun y ρ1 => Inv (i + 1) (ys ++ keepK y []) ρ1) (he : ∀ ys ρ, Inv ds.length ys ρ → K ys ρ) : WP (lcLoop turn own ds ρ) K := by
  suffices h : ∀ (ds : List D) (ρ : Rho) (K : List D → Rho → Prop) (Inv : Nat → List D → Rho → Prop) (pre : List D), Inv 0 pre ρ → (∀ i d ys ρ, ds[i]? = some d → Inv i ys ρ → WP (turn d (wipeR ρ own)) fun y ρ1 => Inv (i + 1) (ys ++ keepK y []) ρ1) → (∀ ys ρ, Inv ds.length (pre ++ ys) ρ → K ys ρ) → WP (lcLoop turn own ds ρ) K by
    exact h ds ρ K Inv [] h0 step fun ys ρ h => he ys ρ h
  intro ds
  induction ds with
  | nil => intro ρ K Inv pre h0 _ he; rw [lc_nil]; exact he [] ρ (by rw [List.append_nil]; exact h0)
  | cons d ds ih =>
    intro ρ K Inv pre h0 step he
    rw [lc_cons]
    refine (step 0 d pre ρ rfl h0).mono fun y ρ1 h => ?_
    refine ih ρ1 _ (fun i => Inv (i + 1)) (pre ++ keepK y []) h (fun i d' ys ρ' hd hi => step (i + 1) d' ys ρ' (by simpa using hd) hi) fun ys ρ' h => he _ ρ' ?_
    have : pre ++ keepK y [] ++ ys = pre ++ keepK y ys := by cases y <;> simp [keepK]
    rw [← this]; exact h
end
def EndV (c : Cell) (K : Cell → Prop) : Prop := match c with
  | .dat d => K (.dat d)
  | .own ds => K (.own ds)
  | .dic kvs => K (.dic kvs)
  | .emp => False
theorem EndV_c {kvs : List (D × D)} {K : Cell → Prop} : EndV (.dic kvs) K = K (.dic kvs) := rfl
theorem EndV_d {d : D} {K : Cell → Prop} : EndV (.dat d) K = K (.dat d) := rfl
theorem EndV_o {ds : List D} {K : Cell → Prop} : EndV (.own ds) K = K (.own ds) := rfl
section
variable {K : Cell → Cell → Prop}
theorem none_P {α β : Type} {K : α → β → Prop} : WP (none : Option (α × β)) K = False := propext ⟨fun ⟨_, _, e, _⟩ => (nomatch e), fun e => nomatch e⟩
theorem en_nx : WP (endB false (.nx, ρ)) K = K (.dat .none) .emp := WP_some
theorem en_t {c : Cell} : WP (endB false (.rt (.t c), ρ)) K = K c .emp := WP_some
theorem en_v {i : Nat} : WP (endB false (.rt (.v i), ρ)) K = EndV (cellAt ρ i) fun c => K c .emp := by
  show WP ((retC false (.v i) ρ).bind _) K = _
  unfold retC
  cases h : cellAt ρ i <;> simp only [h, WP_bindV] <;> first | (rw [if_neg Bool.false_ne_true, WV_some, if_neg Bool.false_ne_true, WP_some]; rfl) | (rw [WV_some, if_neg Bool.false_ne_true, WP_some]; rfl) | exact propext ⟨fun ⟨_, e, _⟩ => (nomatch e), fun e => nomatch e⟩
/-- the first slot's cell goes back to the caller -/
def OutV (c : Cell) (K : Cell → Prop) : Prop := match c with
  | .emp => False
  | x => K x
theorem OutV_o {ds : List D} {K : Cell → Prop} : OutV (.own ds) K = K (.own ds) := rfl
theorem OutV_d {d : D} {K : Cell → Prop} : OutV (.dat d) K = K (.dat d) := rfl
theorem outV_eq {c : Cell} {ρ : Rho} : WP (match cellAt ρ 0 with
    | .emp => none
    | x => some (c, x)) K = OutV (cellAt ρ 0) fun x => K c x := by
  cases h : cellAt ρ 0 <;> first | exact none_P | exact WP_some
theorem eo_nx : WP (endB true (.nx, ρ)) K = OutV (cellAt ρ 0) fun x => K (.dat .none) x := outV_eq
theorem eo_t {c : Cell} : WP (endB true (.rt (.t c), ρ)) K = OutV (cellAt ρ 0) fun x => K c x := outV_eq
def OwnL (c : Cell) : Prop := match c with
  | .own _ => True
  | _ => False
theorem OwnL_o {ds : List D} : OwnL (.own ds) = True := rfl
def EndO (i : Nat) (c c0 : Cell) (K : Cell → Cell → Prop) : Prop := match c with
  | .dat d => OutV c0 fun x => K (.dat d) x
  | .own ds => i ≠ 0 ∧ OwnL c0 ∧ K (.own ds) c0
  | .dic kvs => i ≠ 0 ∧ OwnL c0 ∧ K (.dic kvs) c0
  | .emp => False
theorem EndO_c {i : Nat} {kvs : List (D × D)} {c0 : Cell} : EndO i (.dic kvs) c0 K = (i ≠ 0 ∧ OwnL c0 ∧ K (.dic kvs) c0) := rfl
theorem EndO_d {i : Nat} {d : D} {c0 : Cell} : EndO i (.dat d) c0 K = OutV c0 fun x => K (.dat d) x := rfl
theorem EndO_o {i : Nat} {ds : List D} {c0 : Cell} : EndO i (.own ds) c0 K = (i ≠ 0 ∧ OwnL c0 ∧ K (.own ds) c0) := rfl
theorem eo_v {i : Nat} : WP (endB true (.rt (.v i), ρ)) K = EndO i (cellAt ρ i) (cellAt ρ 0) K := by
  show WP ((retC true (.v i) ρ).bind fun c => if true = true then (match cellAt ρ 0 with
    | .emp => none
    | x => some (c, x)) else some (c, .emp)) K = _
  unfold retC
  cases h : cellAt ρ i with
  | emp => simp only [h]; exact none_P
  | dat d => simp only [h, WP_bindV, WV_some, if_true]; exact outV_eq
  | own ds =>
    simp only [h, if_true]
    show _ = (i ≠ 0 ∧ OwnL (cellAt ρ 0) ∧ K (.own ds) (cellAt ρ 0))
    by_cases hi : i = 0
    · rw [if_pos hi]; exact propext ⟨fun ⟨_, _, e, _⟩ => (nomatch e), fun e => absurd hi e.1⟩
    · rw [if_neg hi]
      cases h0 : cellAt ρ 0 with
      | own es => simp only [WP_bindV, WV_some]; rw [WP_some]; exact propext ⟨fun k => ⟨hi, trivial, k⟩, fun k => k.2.2⟩
      | _ => exact propext ⟨fun ⟨_, _, e, _⟩ => (nomatch e), fun e => nomatch e.2.1⟩
  | dic kvs =>
    simp only [h, if_true]
    show _ = (i ≠ 0 ∧ OwnL (cellAt ρ 0) ∧ K (.dic kvs) (cellAt ρ 0))
    by_cases hi : i = 0
    · rw [if_pos hi]; exact propext ⟨fun ⟨_, _, e, _⟩ => (nomatch e), fun e => absurd hi e.1⟩
    · rw [if_neg hi]
      cases h0 : cellAt ρ 0 with
      | own es => simp only [WP_bindV, WV_some]; rw [WP_some]; exact propext ⟨fun k => ⟨hi, trivial, k⟩, fun k => k.2.2⟩
      | _ => exact propext ⟨fun ⟨_, _, e, _⟩ => (nomatch e), fun e => nomatch e.2.1⟩
theorem wf_eq {T : Tab} {b : Sms} {L : Nat} {io : Bool} {cs : List Cell} : WF (mkF T b L io) cs K = WP (exs T fuel b (cs ++ List.replicate (L - cs.length) .emp)) fun o ρ => WP (endB io (o, ρ)) K := by
  show WP ((exs T fuel b (cs ++ List.replicate (L - cs.length) .emp)).bind (endB io)) K = _
  simp only [WP_bindV, WV_pair]
end
end
def tab (fs : List (Nat × Fn)) (gs : List (Nat × D)) : Tab := ⟨fun i => fs.lookup i, fun i => gs.lookup i⟩
section
variable {K : Cell → Prop} {i j : Int}
theorem o_add : WV (binD .Add (.int i) (.int j)) K = K (.dat (.int (i + j))) := WV_some
theorem o_sub : WV (binD .Sub (.int i) (.int j)) K = K (.dat (.int (i - j))) := WV_some
theorem o_mul : WV (binD .Mult (.int i) (.int j)) K = (mulOk i j = true ∧ K (.dat (.int (i * j)))) := WV_if
theorem o_div : WV (binD .FloorDiv (.int i) (.int j)) K = (divOk j = true ∧ K (.dat (.int (i.fdiv j)))) := WV_if
theorem o_mod : WV (binD .Mod (.int i) (.int j)) K = (j ≠ 0 ∧ K (.dat (.int (i.fmod j)))) := by
  show WV (if j = 0 then none else some _) K = _
  by_cases h : j = 0
  · rw [if_pos h]; exact propext ⟨fun ⟨_, e, _⟩ => (nomatch e), fun k => absurd h k.1⟩
  · rw [if_neg h, WV_some]; exact propext ⟨fun k => ⟨h, k⟩, fun k => k.2⟩
theorem o_pow : WV (binD .Pow (.int i) (.int j)) K = (powOk i j = true ∧ K (.dat (.int (i ^ j.toNat)))) := WV_if
theorem o_addT {xs ys : List D} : WV (binD .Add (.tuple xs) (.tuple ys)) K = (xs.length + ys.length ≤ 16777216 ∧ K (.dat (.tuple (xs ++ ys)))) := WV_if
theorem o_addL {xs ys : List D} : WV (binD .Add (.list xs) (.list ys)) K = (xs.length + ys.length ≤ 16777216 ∧ K (.own (xs ++ ys))) := WV_if
end
section
variable {K : D → Prop} {x y z u v w : D} {r : List D}
theorem ix0 : WV (idxD (.tuple (x :: r)) (.int 0)) K = K x := by
  rw [show idxD (.tuple (x :: r)) (.int 0) = some x from atI_nat (j := 0) rfl, WV_some]
theorem ixL0 : WV (idxD (.list (x :: r)) (.int 0)) K = K x := by
  rw [show idxD (.list (x :: r)) (.int 0) = some x from atI_nat (j := 0) rfl, WV_some]
theorem ix1 : WV (idxD (.tuple (x :: y :: r)) (.int 1)) K = K y := by
  rw [show idxD (.tuple (x :: y :: r)) (.int 1) = some y from atI_nat (j := 1) rfl, WV_some]
theorem ixL1 : WV (idxD (.list (x :: y :: r)) (.int 1)) K = K y := by
  rw [show idxD (.list (x :: y :: r)) (.int 1) = some y from atI_nat (j := 1) rfl, WV_some]
theorem ix2 : WV (idxD (.tuple (x :: y :: z :: r)) (.int 2)) K = K z := by
  rw [show idxD (.tuple (x :: y :: z :: r)) (.int 2) = some z from atI_nat (j := 2) rfl, WV_some]
theorem ixL2 : WV (idxD (.list (x :: y :: z :: r)) (.int 2)) K = K z := by
  rw [show idxD (.list (x :: y :: z :: r)) (.int 2) = some z from atI_nat (j := 2) rfl, WV_some]
theorem ix3 : WV (idxD (.tuple (x :: y :: z :: w :: r)) (.int 3)) K = K w := by
  rw [show idxD (.tuple (x :: y :: z :: w :: r)) (.int 3) = some w from atI_nat (j := 3) rfl, WV_some]
theorem ixL3 : WV (idxD (.list (x :: y :: z :: w :: r)) (.int 3)) K = K w := by
  rw [show idxD (.list (x :: y :: z :: w :: r)) (.int 3) = some w from atI_nat (j := 3) rfl, WV_some]
/-- an item at a place -/
theorem ixTn {xs : List D} {i : Nat} {d : D} (h : xs[i]? = some d) (k : K d) : WV (idxD (.tuple xs) (.int (i : Int))) K := by
  rw [show idxD (.tuple xs) (.int (i : Int)) = some d from atI_nat h, WV_some]; exact k
theorem ixLn {xs : List D} {i : Nat} {d : D} (h : xs[i]? = some d) (k : K d) : WV (idxD (.list xs) (.int (i : Int))) K := by
  rw [show idxD (.list xs) (.int (i : Int)) = some d from atI_nat h, WV_some]; exact k
end
section
variable {K : Bool → Prop} {i j : Int} {b c : Bool} {x : D} {xs ys : List D}
theorem eqv_int : PyData.eqv (.int i) (.int j) = decide (i = j) := by
  simp only [PyData.eqv]
  by_cases h : i = j
  · rw [decide_eq_true h, h]; simp
  · rw [decide_eq_false h]; exact beq_eq_false_iff_ne.mpr h
theorem putL0 {x d : D} {r : List D} {K : List D → Prop} : WV (putL (x :: r) 0 d) K = K (d :: r) := by
  have e : putL (x :: r) 0 d = some (d :: r) := by simp [putL, ixN]
  rw [e, WV_some]
theorem putL1 {x y d : D} {r : List D} {K : List D → Prop} : WV (putL (x :: y :: r) 1 d) K = K (x :: d :: r) := by
  have e : putL (x :: y :: r) 1 d = some (x :: d :: r) := by
    have h : (1 : Int) < (((x :: y :: r).length : Nat) : Int) := by simp only [List.length_cons]; omega
    simp only [putL, ixN]
    rw [if_pos (by decide), if_pos h]; rfl
  rw [e, WV_some]
theorem pow64 {K : Cell → Prop} : WV (binD .Pow (.int 2) (.int 64)) K = K (.dat (.int 18446744073709551616)) := by rw [o_pow]; exact propext ⟨fun k => k.2, fun k => ⟨by decide, k⟩⟩
theorem pow33 {K : Cell → Prop} : WV (binD .Pow (.int 2) (.int 33)) K = K (.dat (.int 8589934592)) := by rw [o_pow]; exact propext ⟨fun k => k.2, fun k => ⟨by decide, k⟩⟩
theorem pow22 {K : Cell → Prop} : WV (binD .Pow (.int 2) (.int 22)) K = K (.dat (.int 4194304)) := by rw [o_pow]; exact propext ⟨fun k => k.2, fun k => ⟨by decide, k⟩⟩
theorem pow18 {K : Cell → Prop} : WV (binD .Pow (.int 10) (.int 18)) K = K (.dat (.int 1000000000000000000)) := by rw [o_pow]; exact propext ⟨fun k => k.2, fun k => ⟨by decide, k⟩⟩
theorem pow10 {K : Cell → Prop} : WV (binD .Pow (.int 10) (.int 10)) K = K (.dat (.int 10000000000)) := by rw [o_pow]; exact propext ⟨fun k => k.2, fun k => ⟨by decide, k⟩⟩
theorem p_eqI : WV (cmpD .Eq (.int i) (.int j)) K = K (decide (i = j)) := by
  show WV (eqD (.int i) (.int j)) K = _
  unfold eqD
  rw [if_pos (show scalD (.int i) (.int j) = true from rfl), WV_some, eqv_int]
theorem p_neI : WV (cmpD .NotEq (.int i) (.int j)) K = K (!decide (i = j)) := by
  show WV ((eqD (.int i) (.int j)).map _) K = _
  unfold eqD
  rw [if_pos (show scalD (.int i) (.int j) = true from rfl), WV_map, WV_some, eqv_int]
theorem eqv_bool : PyData.eqv (.bool b) (.bool c) = decide (b = c) := by
  simp only [PyData.eqv]
  cases b <;> cases c <;> rfl
theorem p_eqB : WV (cmpD .Eq (.bool b) (.bool c)) K = K (decide (b = c)) := by
  show WV (eqD (.bool b) (.bool c)) K = _
  unfold eqD
  rw [if_pos (show scalD (.bool b) (.bool c) = true from rfl), WV_some, eqv_bool]
theorem p_neB : WV (cmpD .NotEq (.bool b) (.bool c)) K = K (!decide (b = c)) := by
  show WV ((eqD (.bool b) (.bool c)).map _) K = _
  unfold eqD
  rw [if_pos (show scalD (.bool b) (.bool c) = true from rfl), WV_map, WV_some, eqv_bool]
theorem eqv_str {s r : Str} : PyData.eqv (.str s) (.str r) = decide (s = r) := by
  simp only [PyData.eqv]
  by_cases h : s = r
  · rw [decide_eq_true h, h]; simp
  · rw [decide_eq_false h]; exact beq_eq_false_iff_ne.mpr h
theorem p_eqS {s r : Str} : WV (cmpD .Eq (.str s) (.str r)) K = K (decide (s = r)) := by
  show WV (eqD (.str s) (.str r)) K = _
  unfold eqD
  rw [if_pos (show scalD (.str s) (.str r) = true from rfl), WV_some, eqv_str]
theorem p_neS {s r : Str} : WV (cmpD .NotEq (.str s) (.str r)) K = K (!decide (s = r)) := by
  show WV ((eqD (.str s) (.str r)).map _) K = _
  unfold eqD
  rw [if_pos (show scalD (.str s) (.str r) = true from rfl), WV_map, WV_some, eqv_str]
theorem p_ltI : WV (cmpD .Lt (.int i) (.int j)) K = K (decide (i < j)) := WV_some
theorem p_leI : WV (cmpD .LtE (.int i) (.int j)) K = K (decide (i ≤ j)) := WV_some
theorem p_gtI : WV (cmpD .Gt (.int i) (.int j)) K = K (decide (j < i)) := WV_some
theorem p_geI : WV (cmpD .GtE (.int i) (.int j)) K = K (decide (j ≤ i)) := WV_some
def isNon : D → Bool
  | .none => true
  | _ => false
theorem p_isN : WV (cmpD .Is x .none) K = K (isNon x) := by
  show WV (some _) K = _
  rw [WV_some]; cases x <;> rfl
theorem p_isnN : WV (cmpD .IsNot x .none) K = K (!isNon x) := by
  show WV (some _) K = _
  rw [WV_some]; cases x <;> rfl
theorem nonN : isNon .none = true := rfl
theorem nonI : isNon (.int i) = false := rfl
theorem nonB : isNon (.bool b) = false := rfl
theorem nonT : isNon (.tuple xs) = false := rfl
theorem nonL : isNon (.list xs) = false := rfl
theorem nonS {s : Str} : isNon (.str s) = false := rfl
end
section
variable {K : Cell → Prop} {xs : List D} {i j : Int}
theorem f_lenT : WV (bltD .len [.tuple xs]) K = K (.dat (.int (xs.length : Nat))) := WV_some
theorem f_lenL : WV (bltD .len [.list xs]) K = K (.dat (.int (xs.length : Nat))) := WV_some
theorem f_abs : WV (bltD .abs [.int i]) K = K (.dat (.int (if i < 0 then -i else i))) := WV_some
theorem f_int : WV (bltD .int [.int i]) K = K (.dat (.int i)) := WV_some
theorem f_max : WV (bltD .max [.int i, .int j]) K = K (.dat (.int (if j > i then j else i))) := WV_some
theorem f_min : WV (bltD .min [.int i, .int j]) K = K (.dat (.int (if j < i then j else i))) := WV_some
theorem f_tupL : WV (bltD .tuple [.list xs]) K = K (.dat (.tuple xs)) := WV_some
theorem f_tupT : WV (bltD .tuple [.tuple xs]) K = K (.dat (.tuple xs)) := WV_some
theorem f_lisL : WV (bltD .list [.list xs]) K = K (.own xs) := WV_some
theorem f_lisT : WV (bltD .list [.tuple xs]) K = K (.own xs) := WV_some
theorem f_gcd : WV (bltD .gcd [.int i, .int j]) K = K (.dat (.int (Nat.gcd i.natAbs j.natAbs : Nat))) := WV_some
end
section
variable {T : Tab} {ρ : Rho} {Q : Od → Rho → Prop} {a b : Ex} {es : Exs}
theorem q_sm {m : Sf} : WP (ev T (.sm m a b) ρ) Q = WP (ev T a ρ) fun o ρ1 => WV (lookD ρ1 o) fun x => WV (strD x) fun s => WP (ev T b ρ1) fun o2 ρ2 => WV (lookD ρ2 o2) fun y => WV (smD m s y) fun c => Q (.t c) ρ2 := by
  show WP ((ev T a ρ).bind _) Q = _
  simp only [WP_bindV, WP_mapV, WV_pair]
theorem none_if {c : Prop} [Decidable c] {r : Od × Rho} : WP (if c then some r else none) Q = (c ∧ Q r.1 r.2) := by
  by_cases h : c
  · rw [if_pos h]; exact propext ⟨fun ⟨_, _, e, q⟩ => ⟨h, by cases e; exact q⟩, fun k => ⟨_, _, rfl, k.2⟩⟩
  · rw [if_neg h]; exact propext ⟨fun ⟨_, _, e, _⟩ => (nomatch e), fun k => absurd k.1 h⟩
theorem q_lsS : WP (ev T (.lsS a es) ρ) Q = WP (ev T a ρ) fun o ρ1 => WP (frz ρ1 o) fun x ρ2 => WV (seqD x) fun ds => WP (evs T es ρ2) fun os ρ3 => WP (frzs ρ3 os) fun ws ρ4 => ds.length + ws.length ≤ 16777216 ∧ Q (.t (.own (ds ++ ws))) ρ4 := by
  show WP ((ev T a ρ).bind _) Q = _
  simp only [WP_bindV, none_if, WV_pair]
theorem q_lsE : WP (ev T (.lsE a b) ρ) Q = WP (ev T a ρ) fun o ρ1 => WP (ev T b ρ1) fun o2 ρ2 => WP (frz ρ2 o2) fun x ρ3 => WV (seqD x) fun ds => WP (frz ρ3 o) fun w ρ4 => ds.length + 1 ≤ 16777216 ∧ Q (.t (.own (w :: ds))) ρ4 := by
  show WP ((ev T a ρ).bind _) Q = _
  simp only [WP_bindV, none_if, WV_pair]
end
theorem strD_s {s : Str} {K : Str → Prop} : WV (strD (.str s)) K = K s := WV_some
theorem WV_ifP {α : Type} {c : Prop} [Decidable c] {x : α} {K : α → Prop} : WV (if c then some x else none) K = (c ∧ K x) := by
  by_cases h : c
  · rw [if_pos h, WV_some]; exact propext ⟨fun k => ⟨h, k⟩, fun k => k.2⟩
  · rw [if_neg h]; exact propext ⟨fun ⟨_, e, _⟩ => (nomatch e), fun k => absurd k.1 h⟩
theorem o_addS {x y : Str} {K : Cell → Prop} : WV (binD .Add (.str x) (.str y)) K = (x.length + y.length ≤ 16777216 ∧ K (.dat (.str (x ++ y)))) := WV_ifP
theorem f_lenS {x : Str} {K : Cell → Prop} : WV (bltD .len [.str x]) K = (x.length ≤ 16777216 ∧ K (.dat (.int (x.length : Nat)))) := WV_ifP
theorem f_str {i : Int} {K : Cell → Prop} : WV (bltD .str [.int i]) K = (i.natAbs.log2 < 1920 ∧ K (.dat (.str (toString i)))) := WV_ifP
theorem slc_s {z : Str} {lo hi : Option Int} {K : Cell → Prop} : WV (slcD (.str z) lo hi) K = (z.length ≤ 16777216 ∧ K (.dat (.str (cutS z lo hi)))) := WV_ifP
theorem wk_s {z : Str} {K : List D → Prop} : WV (walkD (.str z)) K = (z.length ≤ 16777216 ∧ K (z.cps.toList.map fun c => .str ⟨#[c]⟩)) := WV_ifP
theorem ixS {z : Str} {i : Int} {c : Nat} {K : D → Prop} (l : z.length ≤ 16777216) (h : atI z.cps.toList i = some c) (k : K (.str ⟨#[c]⟩)) : WV (idxD (.str z) (.int i)) K := by
  show WV (if z.length ≤ 16777216 then (atI z.cps.toList i).map fun c => PyData.str ⟨#[c]⟩ else none) K
  rw [if_pos l, h]; exact WV_some ▸ k
theorem p_isB {b c : Bool} {K : Bool → Prop} : WV (cmpD .Is (.bool b) (.bool c)) K = K (decide (b = c)) := WV_some
theorem p_isnB {b c : Bool} {K : Bool → Prop} : WV (cmpD .IsNot (.bool b) (.bool c)) K = K (!decide (b = c)) := WV_some
def inS (y z : Str) : Bool := !(Builtin.Str.occurrences z y 0 z.length 1).isEmpty
theorem p_inS {y z : Str} {K : Bool → Prop} : WV (cmpD .In (.str y) (.str z)) K = K (inS y z) := WV_some
theorem p_ninS {y z : Str} {K : Bool → Prop} : WV (cmpD .NotIn (.str y) (.str z)) K = K (!inS y z) := WV_some
theorem asStrs_map {ys : List Str} : asStrs (ys.map .str) = some ys := by
  induction ys with
  | nil => rfl
  | cons b bs ih => show (asStrs (bs.map .str)).map _ = _; rw [ih]; rfl
theorem m_joinL {s : Str} {xs : List D} {ys : List Str} {K : Cell → Prop} (h : xs = ys.map .str) (l : (ys.map (·.length)).sum + ys.length * s.length ≤ 16777216) (k : K (.dat (.str (Txt.join s ys)))) : WV (smD .join s (.list xs)) K := by
  subst h
  show WV ((asStrs (ys.map .str)).bind _) K
  rw [asStrs_map]
  show WV (if _ then _ else _) K
  rw [if_pos l]; exact WV_some ▸ k
theorem m_split {s b : Str} {K : Cell → Prop} : WV (smD .split s (.str b)) K = (((b.length == 0) = false ∧ s.length + 2 ≤ 16777216) ∧ K (.own ((Txt.split s b).map .str))) := WV_ifP
theorem m_part {s b : Str} {K : Cell → Prop} : WV (smD .partition s (.str b)) K = (((b.length == 0) = false ∧ s.length ≤ 16777216) ∧ K (.dat (.tuple [.str (Txt.partition s b).1, .str (Txt.partition s b).2.1, .str (Txt.partition s b).2.2]))) := WV_ifP
theorem m_starts {s b : Str} {K : Cell → Prop} : WV (smD .startswith s (.str b)) K = K (.dat (.bool (Txt.startswith s b))) := WV_some
theorem m_ends {s b : Str} {K : Cell → Prop} : WV (smD .endswith s (.str b)) K = K (.dat (.bool (Txt.endswith s b))) := WV_some
section
variable {T : Tab} {ρ : Rho} {Q : Od → Rho → Prop} {a : Ex} {es : Exs}
def OwnP (c : Cell) (K : List D → Prop) : Prop := match c with
  | .own xs => K xs
  | _ => False
theorem OwnP_o {xs : List D} {K : List D → Prop} : OwnP (.own xs) K = K xs := rfl
def mutP (o : Od) (ρ : Rho) (K : Nat → Prop) : Prop := match o with
  | .v i => OwnP (cellAt ρ i) fun _ => K i
  | _ => False
theorem mutP_v {i : Nat} {ρ : Rho} {K : Nat → Prop} : mutP (.v i) ρ K = OwnP (cellAt ρ i) fun _ => K i := rfl
theorem q_mut {m : Mf} (hm : isMut m = true) : WP (ev T (.mth m a es) ρ) Q = WP (ev T a ρ) fun o ρ1 => mutP o ρ1 fun i => WP (evs T es ρ1) fun os ρ2 => WP (frzs ρ2 os) fun ds ρ3 => OwnP (cellAt ρ3 i) fun xs => WP (mthOwn m xs ds) fun c xs' => Q (.t c) (ρ3.set i (.own xs')) := by
  show WP ((ev T a ρ).bind fun r => if isMut m = true then _ else _) Q = _
  simp only [hm, if_true, WP_bindV, WV_pair]
  congr; funext o ρ1
  cases o with
  | t c => exact none_P
  | v i =>
    show _ = OwnP (cellAt ρ1 i) fun _ => _
    simp only []
    cases h : cellAt ρ1 i with
    | own xs0 =>
      simp only [WP_bindV, WV_pair, OwnP_o]
      congr; funext os ρ2; congr; funext ds ρ3
      cases h3 : cellAt ρ3 i with
      | own xs => simp only [WP_mapV, WV_pair, OwnP_o]
      | _ => exact none_P
    | _ => exact none_P
theorem m_app {xs : List D} {d : D} {K : Cell → List D → Prop} : WP (mthOwn .append xs [d]) K = (xs.length < 16777216 ∧ K (.dat .none) (xs ++ [d])) := by
  show WP (if _ then _ else none) K = _
  rw [WP_if, WP_some]
theorem m_ext {xs ys : List D} {K : Cell → List D → Prop} : WP (mthOwn .extend xs [.list ys]) K = (xs.length + ys.length ≤ 16777216 ∧ K (.dat .none) (xs ++ ys)) := by
  show WP (if _ then _ else none) K = _
  rw [WP_if, WP_some]
theorem m_rev {xs : List D} {K : Cell → List D → Prop} : WP (mthOwn .reverse xs []) K = K (.dat .none) xs.reverse := WP_some
def isSq : D → Bool
  | .list _ => true
  | .tuple _ => true
  | _ => false
def sqP (x : D) : Prop := isSq x = true
theorem sqP_t {xs : List D} : sqP (.tuple xs) = True := propext ⟨fun _ => trivial, fun _ => rfl⟩
theorem sqP_l {xs : List D} : sqP (.list xs) = True := propext ⟨fun _ => trivial, fun _ => rfl⟩
def sameK : D → D → Prop
  | .list _, .list _ => True
  | .tuple _, .tuple _ => True
  | _, _ => False
theorem sameK_l {xs ys : List D} : sameK (.list xs) (.list ys) = True := rfl
theorem sameK_t {xs ys : List D} : sameK (.tuple xs) (.tuple ys) = True := rfl
theorem q_mth {m : Mf} (hm : isMut m = false) : WP (ev T (.mth m a es) ρ) Q = WP (ev T a ρ) fun o ρ1 => WV (lookD ρ1 o) fun x0 => sqP x0 ∧ WP (evs T es ρ1) fun os ρ2 => WV (lookD ρ2 o) fun x => sameK x0 x ∧ WV (lookDs ρ2 os) fun vs => WV (mthD m x vs) fun c => Q (.t c) ρ2 := by
  show WP ((ev T a ρ).bind fun r => if isMut m = true then _ else _) Q = _
  simp only [hm, if_neg Bool.false_ne_true, WP_bindV, WV_pair]
  congr; funext o ρ1; congr; funext x0
  have ff : ∀ {α β : Type} {x : Option (α × β)}, (WP x fun _ _ => False) = False := fun {_ _ _} => propext ⟨fun ⟨_, _, _, k⟩ => k, fun k => nomatch k⟩
  cases x0 with
  | list xs =>
    simp only [sqP_l, true_and, WP_bindV, WV_pair]
    congr; funext os ρ2; congr; funext x
    cases x <;> simp only [WP_bindV, WP_mapV, sameK, true_and, false_and] <;> exact none_P
  | tuple xs =>
    simp only [sqP_t, true_and, WP_bindV, WV_pair]
    congr; funext os ρ2; congr; funext x
    cases x <;> simp only [WP_bindV, WP_mapV, sameK, true_and, false_and] <;> exact none_P
  | _ => simp only [sqP, isSq]; rw [none_P]; exact propext ⟨fun k => (nomatch k), fun k => nomatch k.1⟩
theorem q_count : WP (ev T (.mth .count a es) ρ) Q = WP (ev T a ρ) fun o ρ1 => WV (lookD ρ1 o) fun x0 => sqP x0 ∧ WP (evs T es ρ1) fun os ρ2 => WV (lookD ρ2 o) fun x => sameK x0 x ∧ WV (lookDs ρ2 os) fun vs => WV (mthD .count x vs) fun c => Q (.t c) ρ2 := q_mth rfl
theorem q_index : WP (ev T (.mth .index a es) ρ) Q = WP (ev T a ρ) fun o ρ1 => WV (lookD ρ1 o) fun x0 => sqP x0 ∧ WP (evs T es ρ1) fun os ρ2 => WV (lookD ρ2 o) fun x => sameK x0 x ∧ WV (lookDs ρ2 os) fun vs => WV (mthD .index x vs) fun c => Q (.t c) ρ2 := q_mth rfl
theorem q_append : WP (ev T (.mth .append a es) ρ) Q = WP (ev T a ρ) fun o ρ1 => mutP o ρ1 fun i => WP (evs T es ρ1) fun os ρ2 => WP (frzs ρ2 os) fun ds ρ3 => OwnP (cellAt ρ3 i) fun xs => WP (mthOwn .append xs ds) fun c xs' => Q (.t c) (ρ3.set i (.own xs')) := q_mut rfl
theorem q_extend : WP (ev T (.mth .extend a es) ρ) Q = WP (ev T a ρ) fun o ρ1 => mutP o ρ1 fun i => WP (evs T es ρ1) fun os ρ2 => WP (frzs ρ2 os) fun ds ρ3 => OwnP (cellAt ρ3 i) fun xs => WP (mthOwn .extend xs ds) fun c xs' => Q (.t c) (ρ3.set i (.own xs')) := q_mut rfl
theorem q_pop : WP (ev T (.mth .pop a es) ρ) Q = WP (ev T a ρ) fun o ρ1 => mutP o ρ1 fun i => WP (evs T es ρ1) fun os ρ2 => WP (frzs ρ2 os) fun ds ρ3 => OwnP (cellAt ρ3 i) fun xs => WP (mthOwn .pop xs ds) fun c xs' => Q (.t c) (ρ3.set i (.own xs')) := q_mut rfl
theorem q_reverse : WP (ev T (.mth .reverse a es) ρ) Q = WP (ev T a ρ) fun o ρ1 => mutP o ρ1 fun i => WP (evs T es ρ1) fun os ρ2 => WP (frzs ρ2 os) fun ds ρ3 => OwnP (cellAt ρ3 i) fun xs => WP (mthOwn .reverse xs ds) fun c xs' => Q (.t c) (ρ3.set i (.own xs')) := q_mut rfl
theorem m_cntT {xs : List D} {d : D} {K : Cell → Prop} : WV (mthD .count (.tuple xs) [d]) K = ((SeqAt.shaped (.tuple xs) && SeqAt.shaped d) = true ∧ K (.dat (.int (xs.countP fun z => PyData.eqv z d : Nat)))) := WV_if
theorem m_cntL {xs : List D} {d : D} {K : Cell → Prop} : WV (mthD .count (.list xs) [d]) K = ((SeqAt.shaped (.list xs) && SeqAt.shaped d) = true ∧ K (.dat (.int (xs.countP fun z => PyData.eqv z d : Nat)))) := WV_if
end
section
variable {T : Tab} {ρ : Rho} {Q : Od → Rho → Prop} {a : Ex}
theorem isi1 {t : String} {f : D → Bool} (ht : isiOk [t] = true) (hf : ∀ d, isiOne d t = f d) : WP (ev T (.isi a [t]) ρ) Q = WP (ev T a ρ) fun o ρ1 => WV (lookD ρ1 o) fun x => noDict x = true ∧ Q (.t (.dat (.bool (f x)))) ρ1 := by
  rw [q_isi ht]; congr; funext o ρ1; congr; funext x
  have e : ([t].any fun t => isiOne x t) = f x := by rw [List.any_cons, List.any_nil, Bool.or_false, hf]
  cases x <;> first
    | (show WV (some ([t].any fun t => isiOne _ t)) _ = _; rw [e, WV_some]; exact propext ⟨fun k => ⟨rfl, k⟩, fun k => k.2⟩)
    | exact propext ⟨fun ⟨_, e, _⟩ => (nomatch e), fun k => nomatch k.1⟩
theorem isi2 {t u : String} {f g : D → Bool} (ht : isiOk [t, u] = true) (hf : ∀ d, isiOne d t = f d) (hg : ∀ d, isiOne d u = g d) : WP (ev T (.isi a [t, u]) ρ) Q = WP (ev T a ρ) fun o ρ1 => WV (lookD ρ1 o) fun x => noDict x = true ∧ Q (.t (.dat (.bool (f x || g x)))) ρ1 := by
  rw [q_isi ht]; congr; funext o ρ1; congr; funext x
  have e : ([t, u].any fun t => isiOne x t) = (f x || g x) := by rw [List.any_cons, List.any_cons, List.any_nil, Bool.or_false, hf, hg]
  cases x <;> first
    | (show WV (some ([t, u].any fun t => isiOne _ t)) _ = _; rw [e, WV_some]; exact propext ⟨fun k => ⟨rfl, k⟩, fun k => k.2⟩)
    | exact propext ⟨fun ⟨_, e, _⟩ => (nomatch e), fun k => nomatch k.1⟩
theorem isi3 {t u v : String} {f g e : D → Bool} (ht : isiOk [t, u, v] = true) (hf : ∀ d, isiOne d t = f d) (hg : ∀ d, isiOne d u = g d) (he : ∀ d, isiOne d v = e d) : WP (ev T (.isi a [t, u, v]) ρ) Q = WP (ev T a ρ) fun o ρ1 => WV (lookD ρ1 o) fun x => noDict x = true ∧ Q (.t (.dat (.bool (f x || (g x || e x))))) ρ1 := by
  rw [q_isi ht]; congr; funext o ρ1; congr; funext x
  have e : ([t, u, v].any fun t => isiOne x t) = (f x || (g x || e x)) := by rw [List.any_cons, List.any_cons, List.any_cons, List.any_nil, Bool.or_false, hf, hg, he]
  cases x <;> first
    | (show WV (some ([t, u, v].any fun t => isiOne _ t)) _ = _; rw [e, WV_some]; exact propext ⟨fun k => ⟨rfl, k⟩, fun k => k.2⟩)
    | exact propext ⟨fun ⟨_, e, _⟩ => (nomatch e), fun k => nomatch k.1⟩
theorem isiBIS : WP (ev T (.isi a ["bool", "int", "str"]) ρ) Q = WP (ev T a ρ) fun o ρ1 => WV (lookD ρ1 o) fun x => noDict x = true ∧ Q (.t (.dat (.bool (tBool x || (tInt x || tStr x))))) ρ1 := isi3 (by decide) isi_bool isi_int isi_str
theorem isiI : WP (ev T (.isi a ["int"]) ρ) Q = WP (ev T a ρ) fun o ρ1 => WV (lookD ρ1 o) fun x => noDict x = true ∧ Q (.t (.dat (.bool (tInt x)))) ρ1 := isi1 (by decide) isi_int
theorem isiB : WP (ev T (.isi a ["bool"]) ρ) Q = WP (ev T a ρ) fun o ρ1 => WV (lookD ρ1 o) fun x => noDict x = true ∧ Q (.t (.dat (.bool (tBool x)))) ρ1 := isi1 (by decide) isi_bool
theorem isiTu : WP (ev T (.isi a ["tuple"]) ρ) Q = WP (ev T a ρ) fun o ρ1 => WV (lookD ρ1 o) fun x => noDict x = true ∧ Q (.t (.dat (.bool (tTup x)))) ρ1 := isi1 (by decide) isi_tup
theorem isiL : WP (ev T (.isi a ["list"]) ρ) Q = WP (ev T a ρ) fun o ρ1 => WV (lookD ρ1 o) fun x => noDict x = true ∧ Q (.t (.dat (.bool (tLst x)))) ρ1 := isi1 (by decide) isi_lst
theorem isiS : WP (ev T (.isi a ["str"]) ρ) Q = WP (ev T a ρ) fun o ρ1 => WV (lookD ρ1 o) fun x => noDict x = true ∧ Q (.t (.dat (.bool (tStr x)))) ρ1 := isi1 (by decide) isi_str
theorem isiTL : WP (ev T (.isi a ["tuple", "list"]) ρ) Q = WP (ev T a ρ) fun o ρ1 => WV (lookD ρ1 o) fun x => noDict x = true ∧ Q (.t (.dat (.bool (tTup x || tLst x)))) ρ1 := isi2 (by decide) isi_tup isi_lst
end
section
variable {i : Int} {b : Bool} {s : Str} {xs : List D}
theorem nd_i : noDict (.int i) = true := rfl
theorem nd_b : noDict (.bool b) = true := rfl
theorem nd_s : noDict (.str s) = true := rfl
theorem nd_t : noDict (.tuple xs) = true := rfl
theorem nd_l : noDict (.list xs) = true := rfl
theorem nd_n : noDict .none = true := rfl
theorem ti_i : tInt (.int i) = true := rfl
theorem ti_b : tInt (.bool b) = true := rfl
theorem ti_s : tInt (.str s) = false := rfl
theorem ti_t : tInt (.tuple xs) = false := rfl
theorem ti_l : tInt (.list xs) = false := rfl
theorem ti_n : tInt .none = false := rfl
theorem tb_i' : tBool (.int i) = false := rfl
theorem tb_b' : tBool (.bool b) = true := rfl
theorem tb_s' : tBool (.str s) = false := rfl
theorem tb_t' : tBool (.tuple xs) = false := rfl
theorem tb_l' : tBool (.list xs) = false := rfl
theorem tb_n' : tBool .none = false := rfl
theorem tt_i : tTup (.int i) = false := rfl
theorem tt_b : tTup (.bool b) = false := rfl
theorem tt_s : tTup (.str s) = false := rfl
theorem tt_t : tTup (.tuple xs) = true := rfl
theorem tt_l : tTup (.list xs) = false := rfl
theorem tt_n : tTup .none = false := rfl
theorem tl_i : tLst (.int i) = false := rfl
theorem tl_b : tLst (.bool b) = false := rfl
theorem tl_s : tLst (.str s) = false := rfl
theorem tl_t : tLst (.tuple xs) = false := rfl
theorem tl_l : tLst (.list xs) = true := rfl
theorem tl_n : tLst .none = false := rfl
theorem ts_i : tStr (.int i) = false := rfl
theorem ts_b : tStr (.bool b) = false := rfl
theorem ts_s : tStr (.str s) = true := rfl
theorem ts_t : tStr (.tuple xs) = false := rfl
theorem ts_l : tStr (.list xs) = false := rfl
theorem ts_n : tStr .none = false := rfl
theorem no_t : (!true) = false := rfl
theorem no_f : (!false) = true := rfl
theorem mapN {α β : Type} {f : α → β} : List.map f [] = [] := rfl
theorem mapC {α β : Type} {f : α → β} {x : α} {l : List α} : List.map f (x :: l) = f x :: List.map f l := rfl
theorem appN {α : Type} {l : List α} : [] ++ l = l := rfl
theorem appC {α : Type} {x : α} {k l : List α} : (x :: k) ++ l = x :: (k ++ l) := rfl
theorem gD0 {α : Type} {x d : α} {l : List α} : (x :: l).getD 0 d = x := rfl
theorem gDS {α : Type} {x d : α} {l : List α} {i : Nat} : (x :: l).getD (i + 1) d = l.getD i d := rfl
theorem lenN {α : Type} : ([] : List α).length = 0 := rfl
theorem lenC {α : Type} {x : α} {l : List α} : (x :: l).length = l.length + 1 := rfl
theorem bkN {ρ ρ' : Rho} : backR ρ ρ' [] = ρ' := rfl
theorem bkC {ρ ρ' : Rho} {i : Nat} {is : List Nat} : backR ρ ρ' (i :: is) = (backR ρ ρ' is).set i (cellAt ρ i) := rfl
theorem wpN {ρ : Rho} : wipeR ρ [] = ρ := rfl
theorem wpC {ρ : Rho} {i : Nat} {is : List Nat} : wipeR ρ (i :: is) = (wipeR ρ is).set i .emp := rfl
end
/-- rules of the run, part 0 -/
def RUN0 := And.intro @q_var (And.intro @q_con (And.intro @q_bin (And.intro @q_neg (And.intro @neg_int (And.intro @q_not (And.intro @q_cmp (And.intro @q_chn (And.intro @q_and (And.intro @q_or (And.intro @q_ifx (And.intro @q_tup (And.intro @q_lst (And.intro @q_idx (And.intro @q_slc (And.intro @q_rev (And.intro @q_blt (And.intro @q_lc (And.intro @qs_nil (And.intro @qs_cons (And.intro @ld_v (And.intro @ld_d (And.intro @ld_o (And.intro @AtD_dat (And.intro @AtD_own (And.intro @AtB_b (And.intro @tb_v (And.intro @tb_b (And.intro @lds_nil (And.intro @lds_cons (And.intro @f1_v (And.intro @f1_d (And.intro @f1_o (And.intro @fs_nil (And.intro @fs_cons (And.intro @FrC_dat (And.intro @FrC_own (And.intro @co_v (And.intro @co_t (@cos_nil)))))))))))))))))))))))))))))))))))))))
/-- rules of the run, part 1 -/
def RUN1 := And.intro @cos_cons (And.intro @eo_no (And.intro @eo_so (And.intro @intV_i (And.intro @ec_no (And.intro @ec_so (And.intro @i_seq (And.intro @i_rng1 (And.intro @i_rng2 (And.intro @i_enm (And.intro @i_zip (And.intro @i_rev (And.intro @sq_l (And.intro @sq_t (And.intro @tg_n (And.intro @tg_t (And.intro @tgs_nil (And.intro @tgs_cons (And.intro @r_nil (And.intro @so_nx (And.intro @so_bk (And.intro @so_ct (And.intro @so_rt (And.intro @r_cons (And.intro @r_set (And.intro @r_asg (And.intro @r_par (And.intro @sA_nil (And.intro @sA_cons (And.intro @OwnC_o (And.intro @PutC_o (And.intro @r_put (And.intro @r_exp (And.intro @r_ret (And.intro @r_retN (And.intro @r_pas (And.intro @r_brk (And.intro @r_cnt (And.intro @r_ite (@r_for)))))))))))))))))))))))))))))))))))))))
/-- rules of the run, part 3 -/
def RUN3 := And.intro @o_div (And.intro @o_mod (And.intro @o_addT (And.intro @o_addL (And.intro @ix0 (And.intro @ix1 (And.intro @ix2 (And.intro @ix3 (And.intro @ixL0 (And.intro @ixL1 (And.intro @ixL2 (And.intro @ixL3 (And.intro @p_eqI (And.intro @p_neI (And.intro @p_eqB (And.intro @p_neB (And.intro @p_ltI (And.intro @p_leI (And.intro @p_gtI (And.intro @p_geI (And.intro @p_isN (And.intro @p_isnN (And.intro @nonN (And.intro @nonI (And.intro @nonB (And.intro @nonT (And.intro @nonL (And.intro @nonS (And.intro @f_lenT (And.intro @f_lenL (And.intro @f_abs (And.intro @f_int (And.intro @f_max (And.intro @f_min (And.intro @f_tupL (And.intro @f_tupT (And.intro @f_lisL (And.intro @f_lisT (And.intro @f_gcd (@mutP_v)))))))))))))))))))))))))))))))))))))))
/-- rules of the run, part 4 -/
def RUN4 := And.intro @OwnP_o (And.intro @m_app (And.intro @m_ext (And.intro @m_rev (And.intro @isiI (And.intro @isiB (And.intro @isiTu (And.intro @isiL (And.intro @isiS (And.intro @isiTL (And.intro @nd_i (And.intro @nd_b (And.intro @nd_s (And.intro @nd_t (And.intro @nd_l (And.intro @nd_n (And.intro @ti_i (And.intro @ti_b (And.intro @ti_s (And.intro @ti_t (And.intro @ti_l (And.intro @ti_n (And.intro @tb_i' (And.intro @tb_b' (And.intro @tb_s' (And.intro @tb_t' (And.intro @tb_l' (And.intro @tb_n' (And.intro @tt_i (And.intro @tt_b (And.intro @tt_s (And.intro @tt_t (And.intro @tt_l (And.intro @tt_n (And.intro @tl_i (And.intro @tl_b (And.intro @tl_s (And.intro @tl_t (And.intro @tl_l (@tl_n)))))))))))))))))))))))))))))))))))))))
/-- rules of the run, part 5 -/
def RUN5 := And.intro @ts_i (And.intro @ts_b (And.intro @ts_s (And.intro @ts_t (And.intro @ts_l (And.intro @ts_n (And.intro @no_t (And.intro @no_f (And.intro @q_count (And.intro @q_index (And.intro @q_append (And.intro @q_extend (And.intro @q_pop (And.intro @q_reverse (And.intro @sqP_t (And.intro @sqP_l (And.intro @sameK_l (And.intro @sameK_t (And.intro @m_cntT (And.intro @m_cntL (And.intro @putL0 (And.intro @putL1 (And.intro @pow64 (And.intro @pow33 (And.intro @pow22 (And.intro @pow18 (And.intro @pow10 (And.intro @p_eqS (And.intro @p_neS (And.intro @AN_t (And.intro @AN_f (And.intro @OR_t (And.intro @OR_f (And.intro @q_dnew (And.intro @ba_1 (And.intro @ba_2 (And.intro @f_sorted (And.intro @OwnC_d (And.intro @PutC_d (@zs_l)))))))))))))))))))))))))))))))))))))))
/-- rules of the run, part 7 -/
def RUN7 := And.intro @augD_a (And.intro @augD_s (And.intro @q_dc (And.intro @dc_turn (And.intro @q_sm (And.intro @q_lsS (And.intro @q_lsE (And.intro @strD_s (And.intro @o_addS (And.intro @f_lenS (And.intro @f_str (And.intro @slc_s (And.intro @wk_s (And.intro @p_isB (And.intro @p_isnB (And.intro @p_inS (And.intro @p_ninS (And.intro @m_split (And.intro @m_part (And.intro @m_starts (And.intro @m_ends (@isiBIS)))))))))))))))))))))
def RUNH2 := And.intro @to_nx (And.intro @to_ct (And.intro @to_bk (And.intro @to_rt (And.intro @fo_nil (And.intro @fo_cons (And.intro @r_whl (And.intro @lc_nil (And.intro @lc_cons (And.intro @kk_s (And.intro @kk_n (And.intro @lc_turn (And.intro @EndV_d (And.intro @EndV_o (And.intro @en_nx (And.intro @en_t (And.intro @en_v (And.intro @OutV_o (And.intro @OutV_d (And.intro @eo_nx (And.intro @eo_t (And.intro @eo_v (And.intro @EndO_d (And.intro @EndO_o (And.intro @IT_t (And.intro @IT_f (And.intro @NotE_dat (And.intro @NotE_own (And.intro @NotE_dic (And.intro @cell0 (And.intro @cellS (And.intro @set0 (And.intro @setS (And.intro @WC_defH (And.intro @WCI_def (And.intro @WCI1_ownH (And.intro @WV_some (And.intro @o_add (And.intro @o_sub (@o_mul)))))))))))))))))))))))))))))))))))))))
def RUNH6 := And.intro @zs_t (And.intro @rv_l (And.intro @rv_t (And.intro @WCI1_dicH (And.intro @OwnL_o (And.intro @uz_n (And.intro @uz_b (And.intro @uz_i (And.intro @uz_s (And.intro @uz_t (And.intro @uz_l (And.intro @uz_o (And.intro @uz_d (And.intro @uz_r (And.intro @WCI_tO (And.intro @WCI_tD (And.intro @q_lc2 (And.intro @lcL_nil (And.intro @lcL_cons (And.intro @lc_turn2 (And.intro @q_dsp (And.intro @q_sset (And.intro @ssetD_l (And.intro @tg_l (And.intro @f_repr (And.intro @p_inK (And.intro @p_notInK (And.intro @ix_dc (And.intro @ld_c (And.intro @AtD_dic (And.intro @FrC_dic (And.intro @f_sortedK (And.intro @wk_l (And.intro @wk_t (And.intro @wk_d (And.intro @f1_c (And.intro @EndV_c (And.intro @EndO_c (And.intro @r_aug (@intC_i)))))))))))))))))))))))))))))))))))))))
/-- the rules with the calls' continuations held -/
def RUNH := And.intro @RUN0 (And.intro @RUN1 (And.intro @RUNH2 (And.intro @RUN3 (And.intro @RUN4 (And.intro @RUN5 (And.intro @RUNH6 (@RUN7)))))))
theorem eqSelf {α : Type} {a : α} : (a = a) = True := eq_self a
theorem decTrue : decide True = true := rfl
theorem decFalse : decide False = false := rfl
def POST := And.intro @AN_p (And.intro @OR_p (And.intro @mapN (And.intro @mapC (And.intro @appN (And.intro @appC (And.intro @gD0 (And.intro @gDS (And.intro @lenN (And.intro @lenC (And.intro @bkN (And.intro @bkC (And.intro @wpN (And.intro @wpC (And.intro @cell0 (And.intro @cellS (And.intro @set0 (And.intro @setS (And.intro @Nat.zero_add (And.intro @true_and (And.intro @and_true (And.intro @Bool.not_true (And.intro @Bool.not_false (And.intro @Bool.true_or (And.intro @Bool.or_true (And.intro @Bool.false_or (And.intro @Bool.or_false (And.intro @Bool.true_and (And.intro @Bool.and_true (And.intro @Bool.false_and (And.intro @Bool.and_false (And.intro @eqSelf (And.intro @decTrue (@decFalse)))))))))))))))))))))))))))))))))
end Lt
namespace Lt
open PySem L2
section
variable {K : List D → Prop}
def rngL (a : Int) (n : Nat) : List D := (List.range n).map fun k : Nat => .int (a + (k : Nat))
theorem rngL_len {a : Int} {n : Nat} : (rngL a n).length = n := by simp [rngL]
theorem rngL_at {a : Int} {n i : Nat} {d : D} (h : (rngL a n)[i]? = some d) : i < n ∧ d = .int (a + (i : Nat)) := by
  obtain ⟨h1, h2⟩ := List.getElem?_eq_some_iff.mp h
  rw [rngL_len] at h1
  exact ⟨h1, by rw [← h2]; simp [rngL]⟩
theorem rng1 {m : Nat} (hm : m ≤ 16777216) (k : K (rngL 0 m)) : WV (rng1D (.int (m : Int))) K := by
  refine ⟨_, ?_, k⟩
  show (if -(2 ^ 62) ≤ (m : Int) ∧ (m : Int) ≤ 16777216 then some _ else none) = _
  rw [if_pos ⟨by have : (0 : Int) ≤ 2 ^ 62 := by decide
                 omega, by omega⟩]
  simp [rngL]
/-- a range's turns by the ints -/
theorem rng1' {n : Int} (h : n ≤ 16777216) (h2 : -(2 ^ 62) ≤ n) (k : K (rngL 0 n.toNat)) : WV (rng1D (.int n)) K := by
  refine ⟨_, ?_, k⟩
  show (if -(2 ^ 62) ≤ n ∧ n ≤ 16777216 then some _ else none) = _
  rw [if_pos ⟨h2, h⟩]
  simp [rngL]
theorem rng2 {a b : Int} (h1 : -(2 ^ 62) ≤ a ∧ a < 2 ^ 62 ∧ -(2 ^ 62) ≤ b ∧ b < 2 ^ 62 ∧ b - a ≤ 16777216) (k : K (rngL a (b - a).toNat)) : WV (rng2D (.int a) (.int b)) K := by
  refine ⟨_, ?_, k⟩
  show (if _ then some _ else none) = _
  rw [if_pos h1]; rfl
theorem rng1_2 : WV (rng1D (.int 2)) K = K [.int 0, .int 1] := WV_some
theorem rng1_4 : WV (rng1D (.int 4)) K = K [.int 0, .int 1, .int 2, .int 3] := WV_some
end
section
variable {T : Tab} {n : Nat} {ρ : Rho} {Q : Out → Rho → Prop} {tg : Tg} {b : Rho → Option (Out × Rho)} {a : Int} {m : Nat}
theorem fo_range (Inv : Nat → Rho → Prop) (h0 : Inv 0 ρ) (step : ∀ i ρ, i < m → Inv i ρ → WV (bindTg tg (.int (a + (i : Nat))) ρ) fun ρ1 => WP (b ρ1) fun o ρ2 => turnO (Inv (i + 1)) Q o ρ2) (he : ∀ ρ, Inv m ρ → Q .nx ρ) : WP (forL tg b (rngL a m) ρ) Q := by
  refine fo_inv Inv h0 (fun i d ρ hd hi => ?_) (by rw [rngL_len]; exact he)
  obtain ⟨h1, rfl⟩ := rngL_at hd
  exact step i ρ h1 hi
end
theorem wpL {own : List Nat} : ∀ {ρ : Rho}, (wipeR ρ own).length = ρ.length := by
  induction own with
  | nil => intro ρ; rfl
  | cons i is ih => intro ρ; show ((wipeR ρ is).set i .emp).length = _; rw [List.length_set, ih]
theorem bkL {ρ ρ' : Rho} {own : List Nat} : (backR ρ ρ' own).length = ρ'.length := by
  induction own with
  | nil => rfl
  | cons i is ih => show ((backR ρ ρ' is).set i _).length = _; rw [List.length_set, ih]
theorem wpAt {own : List Nat} : ∀ {ρ : Rho} {j : Nat}, (wipeR ρ own)[j]? = if j ∈ own ∧ j < ρ.length then some .emp else ρ[j]? := by
  induction own with
  | nil => intro ρ j; simp [wipeR]
  | cons i is ih =>
    intro ρ j
    show ((wipeR ρ is).set i .emp)[j]? = _
    rw [List.getElem?_set, ih, wpL]
    by_cases h : i = j
    · subst h
      by_cases hl : i < ρ.length
      · simp [hl]
      · simp [hl]
    · rw [if_neg h]
      simp [show j ≠ i from fun z => h z.symm]
theorem bkAt {ρ ρ' : Rho} (hl : ρ'.length = ρ.length) {own : List Nat} : ∀ {j : Nat}, (backR ρ ρ' own)[j]? = if j ∈ own then ρ[j]? else ρ'[j]? := by
  induction own with
  | nil => intro j; simp [backR]
  | cons i is ih =>
    intro j
    show ((backR ρ ρ' is).set i (cellAt ρ i))[j]? = _
    rw [List.getElem?_set, ih, bkL]
    by_cases h : i = j
    · subst h
      by_cases hh : i < ρ'.length
      · have hh' : i < ρ.length := by omega
        simp [hh, cellAt, List.getD_eq_getElem?_getD, List.getElem?_eq_getElem hh']
      · simp [hh]; omega
    · rw [if_neg h]
      simp [show j ≠ i from fun z => h z.symm]
/-- only the block's own slots were changed: nothing was -/
theorem back_wipe {ρ ρ' : Rho} {own : List Nat} (h : wipeR ρ' own = wipeR ρ own) : backR ρ ρ' own = ρ := by
  have hl : ρ'.length = ρ.length := by rw [← wpL (own := own), h, wpL]
  refine List.ext_getElem? fun j => ?_
  rw [bkAt hl]
  by_cases hj : j ∈ own
  · rw [if_pos hj]
  · rw [if_neg hj]
    have := congrArg (fun l => l[j]?) h
    simpa [wpAt, hj] using this
section
variable {turn : D → Rho → Option (Option D × Rho)} {own : List Nat} {K : List D → Rho → Prop} {ρ : Rho} {ds : List D}
theorem lc_pure (f : D → Option D) (h : ∀ d ∈ ds, WP (turn d (wipeR ρ own)) fun y ρ1 => y = f d ∧ wipeR ρ1 own = wipeR ρ own) (k : ∀ ρ2, backR ρ ρ2 own = ρ → wipeR ρ2 own = wipeR ρ own → K (ds.filterMap f) ρ2) : WP (lcLoop turn own ds ρ) K := by
  suffices g : ∀ (ds : List D) (ρ0 : Rho), (∀ d ∈ ds, WP (turn d (wipeR ρ own)) fun y ρ1 => y = f d ∧ wipeR ρ1 own = wipeR ρ own) → wipeR ρ0 own = wipeR ρ own → WP (lcLoop turn own ds ρ0) fun ys ρ2 => ys = ds.filterMap f ∧ wipeR ρ2 own = wipeR ρ own by
    refine (g ds ρ h rfl).mono fun ys ρ2 h => ?_
    obtain ⟨rfl, h⟩ := h
    exact k ρ2 (back_wipe h) h
  intro ds
  induction ds with
  | nil => intro ρ0 _ e; rw [lc_nil]; exact ⟨rfl, e⟩
  | cons d ds ih =>
    intro ρ0 h e
    rw [lc_cons, e]
    refine (h d (List.mem_cons_self ..)).mono fun y ρ1 hy => ?_
    refine (ih ρ1 (fun d' h' => h d' (List.mem_cons_of_mem _ h')) hy.2).mono fun ys ρ2 hz => ?_
    obtain ⟨rfl, hz⟩ := hz
    refine ⟨?_, hz⟩
    rw [hy.1, List.filterMap_cons]
    cases f d <;> rfl
/-- each item gives one -/
theorem lc_map (f : D → D) (h : ∀ d ∈ ds, WP (turn d (wipeR ρ own)) fun y ρ1 => y = some (f d) ∧ wipeR ρ1 own = wipeR ρ own) (k : ∀ ρ2, backR ρ ρ2 own = ρ → K (ds.map f) ρ2) : WP (lcLoop turn own ds ρ) K := by
  refine lc_pure (fun d => some (f d)) h fun ρ2 hb _ => ?_
  have : ds.filterMap (fun d => some (f d)) = ds.map f := by induction ds with
    | nil => rfl
    | cons d ds ih => simp [List.filterMap_cons]
  rw [this]; exact k ρ2 hb
end
theorem fuel_lt {n m : Nat} (h : m < 2 ^ n) (k : n ≤ 100000) : m < fuel := by
  unfold fuel
  exact Nat.lt_of_lt_of_le h (Nat.pow_le_pow_right (by decide) k)
theorem lenScr {ns : List Int} {K : Cell → Prop} : WV (bltD .len [scr ns]) K = K (.dat (.int (ns.length : Nat))) := by
  show WV (some (Cell.dat (.int (((ns.map PyData.int).length : Nat) : Int)))) K = _
  rw [WV_some, List.length_map]
theorem atScr {ns : List Int} {i : Nat} {n : Int} {K : D → Prop} (h : ns[i]? = some n) (k : K (.int n)) : WV (idxD (scr ns) (.int (i : Int))) K := by
  have e : idxD (scr ns) (.int (i : Int)) = some (.int n) := by
    show atI (ns.map PyData.int) (i : Int) = _
    rw [atI_nat (v := PyData.int n) (by rw [List.getElem?_map, h]; rfl)]
  rw [e, WV_some]; exact k
end Lt
namespace Lt
open PySem L2 PySem.Spec PyProof.Rows
structure OKF (P : Program) (w : World) (K : PySem.W.Frag) (mg : Str → Option Value) (base : Heap) (x : Str) (fn : Fn) (kws : List (Nat × List Str)) : Prop where
  ex : ∃ f fd, FnPr P w K mg base fn.lvl f fd fn.ps (spF K fn) ∧ mg x = some (.ref f) ∧ PySem.W.keepIn K (.ref f) = true ∧ Binds K fd fn.ps [] ∧
    ∀ p ∈ kws, KBn K fd fn.ps p.1 p.2 (kwArr .none fn.ps p.2) (kwArr .non fn.ps p.2)
section
variable {P : Program} {w : World} {K : PySem.W.Frag} {mg : Str → Option Value} {base : Heap} {x : Str} {fn : Fn} {kws : List (Nat × List Str)}
theorem OKF.fnm (h : OKF P w K mg base x fn kws) {T : Tab} {j k : Nat} {kws' : List (Str × Nat × List Str)} {ps : List Str} (hT : T.fn j = some fn) (hps : fn.ps = ps) (hl : fn.lvl ≤ k) (hk : (kws'.all fun q => !(q.1 == x) || kws.contains q.2) = true) : FnM P w K mg base T k kws' (x, j, ps) := by
  obtain ⟨f, fd, h1, h2, h3, h4, h5⟩ := h.ex
  subst hps
  refine ⟨⟨fn, f, fd, hT, rfl, h1, hl, h2, h3, h4, fun n ks hm => ?_⟩⟩
  have q := List.all_eq_true.mp hk _ hm
  have q2 : kws.contains (n, ks) = true := by simpa using q
  exact h5 (n, ks) (by simpa using q2)
theorem df_ok2 {qual : Str} {params : Arguments} {body : List Stmt} {scope : Scope} {f : Addr} {fd : FuncData} (F : FunD K x qual params body scope [] [] f fd)
    {N : List Str} {k L : Nat} {T : Tab} {I : Inf} {b : Sms} (hF : fn.F = mkF T b L fn.io) (hL : N.length = L) (S : FnScope N fn.ps scope) (M : Mo P w K mg base T k I) (hN : I.N = N) (hs : I.sc = scope) (hb : cSl (cS 60 I 30) body = b)
    (hp : fn.io = true → b.p0 = true) (hl : fn.lvl = k + 1) : FnPr P w K mg base fn.lvl f fd fn.ps (spF K fn) :=
  df_ok F S M hN hs hb hp hl fun cs r _ h => by rw [hF] at h; subst hL; exact mkF_run h
/-- nothing is promised: any level -/
theorem fn_none {f : Addr} {fd : FuncData} {k : Nat} {ps : List Str} {io : Bool} {l : Nat} : FnPr P w K mg base k f fd ps (spF K ⟨ps, io, l, fun _ => none⟩) :=
  ⟨fun vs H Q E h => spF_len (fn := ⟨ps, io, l, fun _ => none⟩) vs H Q E h, fun A outer s H args us vs Q E hr gd e0 hb r h => by
    obtain ⟨Z, cs, c, out, _, _, _, hf, _⟩ := h
    cases hf⟩
theorem all_nil {α : Type} {p : α → Prop} : ∀ x ∈ ([] : List α), p x := fun _ h => absurd h List.not_mem_nil
theorem all_cons {α : Type} {p : α → Prop} {a : α} {l : List α} (h : p a) (r : ∀ x ∈ l, p x) : ∀ x ∈ a :: l, p x := List.forall_mem_cons.mpr ⟨h, r⟩
end
end Lt
namespace Ok
open PySem PySem.Spec PyProof.Rows L2 Lt
def top (i : Nat) : Stmt := PySem.Challenge.pw_wholekits_k51_whole_texts_shown.main.body.getD i (.Pass ⟨0, 0, 0, 0⟩)
abbrev s_show_number : Stmt := top 1
def N_show_number : List Str := ["a", "top", "bottom"]
def I_show_number : Inf := ⟨N_show_number, defScope s_show_number, true, [], [], [], ["str"], false⟩
abbrev s_show_point : Stmt := top 2
def N_show_point : List Str := ["point", "one"]
def I_show_point : Inf := ⟨N_show_point, defScope s_show_point, true, [("show_number", 188, ["a"])], [], [], [], false⟩
abbrev s_worded : Stmt := top 3
def N_worded : List Str := ["integers", "one"]
def I_worded : Inf := ⟨N_worded, defScope s_worded, true, [], [], [], ["str"], false⟩
abbrev s_show_address : Stmt := top 4
def N_show_address : List Str := ["address", "ahead", "ring", "place"]
def I_show_address : Inf := ⟨N_show_address, defScope s_show_address, true, [("worded", 190, ["integers"])], [], [], ["str"], false⟩
abbrev s_show_copy : Stmt := top 5
def N_show_copy : List Str := ["copy", "step", "state"]
def I_show_copy : Inf := ⟨N_show_copy, defScope s_show_copy, true, [("worded", 190, ["integers"])], [], [], [], false⟩
abbrev s_show_kit : Stmt := top 6
def N_show_kit : List Str := ["kit", "table", "states", "lines", "row", "entry", "index", "copies", "copy"]
def I_show_kit : Inf := ⟨N_show_kit, defScope s_show_kit, true, [("worded", 190, ["integers"]), ("show_copy", 192, ["copy"])], [], [], ["enumerate", "str"], false⟩
abbrev s_show_rows : Stmt := top 7
def N_show_rows : List Str := ["rows"]
def I_show_rows : Inf := ⟨N_show_rows, defScope s_show_rows, true, [], [], [], [], false⟩
abbrev s_law_well_2 : Stmt := top 9
def N_law_well_2 : List Str := ["script", "place", "cell"]
def I_law_well_2 : Inf := ⟨N_law_well_2, defScope s_law_well_2, true, [], [], [], ["abs", "int", "len", "max"], false⟩
abbrev s_law_draw : Stmt := top 10
def N_law_draw : List Str := ["well", "many", "found", "mixed"]
def I_law_draw : Inf := ⟨N_law_draw, defScope s_law_draw, true, [], [], [], ["int"], false⟩
abbrev s_law_same_3 : Stmt := top 11
def N_law_same_3 : List Str := ["told", "due", "k"]
def I_law_same_3 : Inf := ⟨N_law_same_3, defScope s_law_same_3, true, [("_law_same", 197, ["told", "due"])], [], [], ["all", "bool", "int", "isinstance", "len", "list", "range", "str", "tuple"], false⟩
abbrev s_law_lowest : Stmt := top 12
def N_law_lowest : List Str := ["top", "bottom", "one", "two"]
def I_law_lowest : Inf := ⟨N_law_lowest, defScope s_law_lowest, true, [], [], [], ["abs", "int"], false⟩
abbrev s_law_power_2 : Stmt := top 13
def N_law_power_2 : List Str := ["many", "power", "turn"]
def I_law_power_2 : Inf := ⟨N_law_power_2, defScope s_law_power_2, true, [], [], [], ["range"], false⟩
abbrev s_law_number : Stmt := top 14
def N_law_number : List Str := ["well", "most", "kind", "side", "great", "bottom"]
def I_law_number : Inf := ⟨N_law_number, defScope s_law_number, true, [("_law_lowest", 198, ["top", "bottom"]), ("_law_draw", 196, ["well", "many"]), ("_law_power", 199, ["many"])], [], [], [], false⟩
abbrev s_law_grows_3 : Stmt := top 15
def N_law_grows_3 : List Str := ["table", "a", "b", "c", "d", "size", "trace"]
def I_law_grows_3 : Inf := ⟨N_law_grows_3, defScope s_law_grows_3, true, [], [], [], [], false⟩
abbrev s_law_table_3 : Stmt := top 16
def N_law_table_3 : List Str := ["well", "some", "turn", "a", "b", "c", "d", "spot"]
def I_law_table_3 : Inf := ⟨N_law_table_3, defScope s_law_table_3, true, [("_law_draw", 196, ["well", "many"]), ("_law_grows", 201, ["table"])], [], [], ["abs", "range"], false⟩
abbrev s_law_copies : Stmt := top 17
def N_law_copies : List Str := ["well", "many", "wide", "states", "found", "turn", "step"]
def I_law_copies : Inf := ⟨N_law_copies, defScope s_law_copies, true, [("_law_draw", 196, ["well", "many"])], [], [], ["range", "set", "sorted", "tuple"], false⟩
abbrev s_law_product_2 : Stmt := top 18
def N_law_product_2 : List Str := ["one", "other", "rows", "row", "at"]
def I_law_product_2 : Inf := ⟨N_law_product_2, defScope s_law_product_2, true, [], [], [], ["range", "tuple"], false⟩
abbrev s_law_kit_2 : Stmt := top 19
def N_law_kit_2 : List Str := ["well", "states", "table", "power", "most", "rows", "turn", "wide"]
def I_law_kit_2 : Inf := ⟨N_law_kit_2, defScope s_law_kit_2, true, [("_law_table", 202, ["well"]), ("_law_product", 204, ["one", "other"]), ("_law_draw", 196, ["well", "many"]), ("_law_copies", 203, ["well", "many", "wide", "states"])], [], [], ["range", "tuple"], false⟩
abbrev s_law_address : Stmt := top 20
def N_law_address : List Str := ["well", "sizes", "wide", "turn", "size"]
def I_law_address : Inf := ⟨N_law_address, defScope s_law_address, true, [("_law_draw", 196, ["well", "many"])], [], [], ["range", "tuple"], false⟩
abbrev s_law_said_number : Stmt := top 21
def N_law_said_number : List Str := ["number"]
def I_law_said_number : Inf := ⟨N_law_said_number, defScope s_law_said_number, true, [], [], [], ["str"], false⟩
abbrev s_law_said_address : Stmt := top 22
def N_law_said_address : List Str := ["address", "words", "place"]
def I_law_said_address : Inf := ⟨N_law_said_address, defScope s_law_said_address, true, [], [], [], ["str"], false⟩
abbrev s_law_said_copies : Stmt := top 23
def N_law_said_copies : List Str := ["copies", "words", "step", "state"]
def I_law_said_copies : Inf := ⟨N_law_said_copies, defScope s_law_said_copies, true, [], [], [], ["str"], false⟩
abbrev s_law_said_kit : Stmt := top 24
def N_law_said_kit : List Str := ["kit", "lines", "entry", "index", "copies"]
def I_law_said_kit : Inf := ⟨N_law_said_kit, defScope s_law_said_kit, true, [("_law_said_copies", 209, ["copies"])], [], [], ["enumerate", "str"], false⟩
abbrev s_law_thing : Stmt := top 25
def N_law_thing : List Str := ["well", "door", "most", "thing", "wide", "high", "turn", "column", "row"]
def I_law_thing : Inf := ⟨N_law_thing, defScope s_law_thing, true, [("_law_draw", 196, ["well", "many"]), ("_law_number", 200, ["well", "most"]), ("_law_address", 206, ["well"]), ("_law_kit", 205, ["well"]), ("_law_said_number", 207, ["number"]), ("_law_said_address", 208, ["address"]), ("_law_said_kit", 210, ["kit"])], [], [], ["range"], false⟩
abbrev s_law_shown : Stmt := top 26
def N_law_shown : List Str := ["door", "thing", "named"]
def I_law_shown : Inf := ⟨N_law_shown, defScope s_law_shown, true, [("show_rows", 194, ["rows"]), ("show_number", 188, ["a"]), ("show_point", 189, ["point"]), ("show_address", 191, ["address"]), ("show_kit", 193, ["kit"])], [("show_rows", 0, ["rows"]), ("show_number", 0, ["a"]), ("show_point", 0, ["point"]), ("show_address", 0, ["address"]), ("show_kit", 0, ["kit"])], [], [], false⟩
abbrev s_law_10 : Stmt := top 27
def N_law_10 : List Str := ["script", "rows", "place", "well", "door", "thing", "said", "kept"]
def I_law_10 : Inf := ⟨N_law_10, defScope s_law_10, true, [("_law_well", 195, ["script", "place"]), ("_law_thing", 211, ["well", "door"]), ("_law_same", 197, ["told", "due"]), ("_law_shown", 212, ["door", "thing", "named"]), ("_law_draw", 196, ["well", "many"])], [], [], ["len", "list", "max", "min", "range"], false⟩
def d_show_number : He.DefD := ⟨("show_number", none), "show_number", "show_number", defArgs s_show_number, defBody s_show_number, defScope s_show_number, [], []⟩
def d_show_point : He.DefD := ⟨("show_point", none), "show_point", "show_point", defArgs s_show_point, defBody s_show_point, defScope s_show_point, [], []⟩
def d_worded : He.DefD := ⟨("worded", none), "worded", "worded", defArgs s_worded, defBody s_worded, defScope s_worded, [], []⟩
def d_show_address : He.DefD := ⟨("show_address", none), "show_address", "show_address", defArgs s_show_address, defBody s_show_address, defScope s_show_address, [], []⟩
def d_show_copy : He.DefD := ⟨("show_copy", none), "show_copy", "show_copy", defArgs s_show_copy, defBody s_show_copy, defScope s_show_copy, [], []⟩
def d_show_kit : He.DefD := ⟨("show_kit", none), "show_kit", "show_kit", defArgs s_show_kit, defBody s_show_kit, defScope s_show_kit, [], []⟩
def d_show_rows : He.DefD := ⟨("show_rows", none), "show_rows", "show_rows", defArgs s_show_rows, defBody s_show_rows, defScope s_show_rows, [], []⟩
def d_law_well_2 : He.DefD := ⟨("_law_well", none), "_law_well", "_law_well", defArgs s_law_well_2, defBody s_law_well_2, defScope s_law_well_2, [], []⟩
def d_law_draw : He.DefD := ⟨("_law_draw", none), "_law_draw", "_law_draw", defArgs s_law_draw, defBody s_law_draw, defScope s_law_draw, [], []⟩
def d_law_same_3 : He.DefD := ⟨("_law_same", none), "_law_same", "_law_same", defArgs s_law_same_3, defBody s_law_same_3, defScope s_law_same_3, [], []⟩
def d_law_lowest : He.DefD := ⟨("_law_lowest", none), "_law_lowest", "_law_lowest", defArgs s_law_lowest, defBody s_law_lowest, defScope s_law_lowest, [], []⟩
def d_law_power_2 : He.DefD := ⟨("_law_power", none), "_law_power", "_law_power", defArgs s_law_power_2, defBody s_law_power_2, defScope s_law_power_2, [], []⟩
def d_law_number : He.DefD := ⟨("_law_number", none), "_law_number", "_law_number", defArgs s_law_number, defBody s_law_number, defScope s_law_number, [], []⟩
def d_law_grows_3 : He.DefD := ⟨("_law_grows", none), "_law_grows", "_law_grows", defArgs s_law_grows_3, defBody s_law_grows_3, defScope s_law_grows_3, [], []⟩
def d_law_table_3 : He.DefD := ⟨("_law_table", none), "_law_table", "_law_table", defArgs s_law_table_3, defBody s_law_table_3, defScope s_law_table_3, [], []⟩
def d_law_copies : He.DefD := ⟨("_law_copies", none), "_law_copies", "_law_copies", defArgs s_law_copies, defBody s_law_copies, defScope s_law_copies, [], []⟩
def d_law_product_2 : He.DefD := ⟨("_law_product", none), "_law_product", "_law_product", defArgs s_law_product_2, defBody s_law_product_2, defScope s_law_product_2, [], []⟩
def d_law_kit_2 : He.DefD := ⟨("_law_kit", none), "_law_kit", "_law_kit", defArgs s_law_kit_2, defBody s_law_kit_2, defScope s_law_kit_2, [], []⟩
def d_law_address : He.DefD := ⟨("_law_address", none), "_law_address", "_law_address", defArgs s_law_address, defBody s_law_address, defScope s_law_address, [], []⟩
def d_law_said_number : He.DefD := ⟨("_law_said_number", none), "_law_said_number", "_law_said_number", defArgs s_law_said_number, defBody s_law_said_number, defScope s_law_said_number, [], []⟩
def d_law_said_address : He.DefD := ⟨("_law_said_address", none), "_law_said_address", "_law_said_address", defArgs s_law_said_address, defBody s_law_said_address, defScope s_law_said_address, [], []⟩
def d_law_said_copies : He.DefD := ⟨("_law_said_copies", none), "_law_said_copies", "_law_said_copies", defArgs s_law_said_copies, defBody s_law_said_copies, defScope s_law_said_copies, [], []⟩
def d_law_said_kit : He.DefD := ⟨("_law_said_kit", none), "_law_said_kit", "_law_said_kit", defArgs s_law_said_kit, defBody s_law_said_kit, defScope s_law_said_kit, [], []⟩
def d_law_thing : He.DefD := ⟨("_law_thing", none), "_law_thing", "_law_thing", defArgs s_law_thing, defBody s_law_thing, defScope s_law_thing, [], []⟩
def d_law_shown : He.DefD := ⟨("_law_shown", none), "_law_shown", "_law_shown", defArgs s_law_shown, defBody s_law_shown, defScope s_law_shown, [], []⟩
def d_law_10 : He.DefD := ⟨("law", none), "law", "law", defArgs s_law_10, defBody s_law_10, defScope s_law_10, [], []⟩
def fnD : List He.DefD := [d_show_number, d_show_point, d_worded, d_show_address, d_show_copy, d_show_kit, d_show_rows, d_law_well_2, d_law_draw, d_law_same_3, d_law_lowest, d_law_power_2, d_law_number, d_law_grows_3, d_law_table_3, d_law_copies, d_law_product_2, d_law_kit_2, d_law_address, d_law_said_number, d_law_said_address, d_law_said_copies, d_law_said_kit, d_law_thing, d_law_shown, d_law_10]
def fa : List He.Fa := [.glo "show_number", .glo "show_point", .glo "worded", .glo "show_address", .glo "show_copy", .glo "show_kit", .glo "show_rows", .glo "_law_well", .glo "_law_draw", .glo "_law_same", .glo "_law_lowest", .glo "_law_power", .glo "_law_number", .glo "_law_grows", .glo "_law_table", .glo "_law_copies", .glo "_law_product", .glo "_law_kit", .glo "_law_address", .glo "_law_said_number", .glo "_law_said_address", .glo "_law_said_copies", .glo "_law_said_kit", .glo "_law_thing", .glo "_law_shown", .glo "law", .free "abs", .free "all", .free "bool", .free "enumerate", .free "int", .free "isinstance", .free "len", .free "list", .free "max", .free "min", .free "range", .free "set", .free "sorted", .free "str", .free "tuple"]
def xs : List Xf := []
def names0 : List PySem.Str := ["__name__", "show_number", "show_point", "worded", "show_address", "show_copy", "show_kit", "show_rows", "_law_well", "_law_draw", "_law_same", "_law_lowest", "_law_power", "_law_number", "_law_grows", "_law_table", "_law_copies", "_law_product", "_law_kit", "_law_address", "_law_said_number", "_law_said_address", "_law_said_copies", "_law_said_kit", "_law_thing"]
def names1 : List PySem.Str := ["_law_shown"]
def names : List PySem.Str := names0 ++ names1
abbrev R : PySem.W.OpenRow := PySem.W.OpenLaw.row PySem.Challenge.rw_wholekits_k51_whole_texts_shown
abbrev hk : PySem.W.Hook := hookX 5 fa fnD xs
def ob (s : PySem.W.SharedT) : AlX := obsX 5 fa fnD xs (HandSHeadRun.getT s)
theorem ob_eq (s : PySem.W.SharedT) : ob s = hk.obs s.abs := obsX_eq (HandSHeadRun.getT_eq s)
theorem run (w : World) : HandSHeadRun.RunEq R (PySem.W.view R.prog [27]) hk ob 6000 names w := by
  intro os; kernel_rfl
end Ok
namespace Df
open PySem Lt
def ir_show_number : Sms :=
  (.cons (.asg (.t [(.n 1), (.n 2)]) (.var 0))
  (.cons (.ret (.ifx (.cmp .Eq (.var 2) (.con (.int 1))) (.blt .str (.cons (.var 1) .nil)) (.bin .Add (.bin .Add (.blt .str (.cons (.var 1) .nil)) (.con (.str ⟨#[47]⟩))) (.blt .str (.cons (.var 2) .nil)))))
  .nil))
def T_show_number : Tab := tab [] []
def F_show_number : List Cell → Option (Cell × Cell) := mkF T_show_number ir_show_number 3 false
def fn_show_number : Fn := ⟨["a"], false, 1, F_show_number⟩
theorem b_show_number {K : Cell → Cell → Prop} {c0 : Cell} : WF F_show_number [c0] K = WP (exs T_show_number fuel ir_show_number [c0, .emp, .emp]) fun o ρ => WP (endB false (o, ρ)) K := wf_eq
theorem hF_show_number : fn_show_number.F = mkF T_show_number ir_show_number 3 false := by kernel_rfl
def ir_show_point : Sms :=
  (.cons (.ret (.sm .join (.con (.str ⟨#[32]⟩)) (.lc (.call 188 (.cons (.var 1) .nil) [] .nil) (.n 1) (.seq (.var 0)) .no [1])))
  .nil)
def T_show_point : Tab := tab [(188, fn_show_number)] []
def F_show_point : List Cell → Option (Cell × Cell) := mkF T_show_point ir_show_point 2 false
def fn_show_point : Fn := ⟨["point"], false, 2, F_show_point⟩
theorem b_show_point {K : Cell → Cell → Prop} {c0 : Cell} : WF F_show_point [c0] K = WP (exs T_show_point fuel ir_show_point [c0, .emp]) fun o ρ => WP (endB false (o, ρ)) K := wf_eq
theorem hF_show_point : fn_show_point.F = mkF T_show_point ir_show_point 2 false := by kernel_rfl
theorem t_show_point_show_number : Tab.fn T_show_point 188 = some fn_show_number := rfl
theorem k_show_point_show_number {es kes : Exs} {ix : List Nat} {ρ : Rho} {Q : Od → Rho → Prop} : WP (ev T_show_point (.call 188 es ix kes) ρ) Q = WP (evs T_show_point es ρ) fun us ρ1 => WP (evs T_show_point kes ρ1) fun ws ρ2 => us.length + ix.length = 1 ∧ WC F_show_number (us ++ ix.map fun i => ws.getD i (.t .emp)) ρ2 Q := q_callfr t_show_point_show_number rfl rfl (by kernel_rfl)
def ir_worded : Sms :=
  (.cons (.ret (.sm .join (.con (.str ⟨#[32]⟩)) (.lc (.blt .str (.cons (.var 1) .nil)) (.n 1) (.seq (.var 0)) .no [1])))
  .nil)
def T_worded : Tab := tab [] []
def F_worded : List Cell → Option (Cell × Cell) := mkF T_worded ir_worded 2 false
def fn_worded : Fn := ⟨["integers"], false, 1, F_worded⟩
theorem b_worded {K : Cell → Cell → Prop} {c0 : Cell} : WF F_worded [c0] K = WP (exs T_worded fuel ir_worded [c0, .emp]) fun o ρ => WP (endB false (o, ρ)) K := wf_eq
theorem hF_worded : fn_worded.F = mkF T_worded ir_worded 2 false := by kernel_rfl
def ir_show_address : Sms :=
  (.cons (.asg (.t [(.n 1), (.n 2)]) (.var 0))
  (.cons (.ret (.sm .join (.con (.str ⟨#[32]⟩)) (.bin .Add (.lc (.blt .str (.cons (.var 3) .nil)) (.n 3) (.seq (.var 1)) .no [3]) (.lst (.cons (.bin .Add (.bin .Add (.con (.str ⟨#[40, 32]⟩)) (.call 190 (.cons (.var 2) .nil) [] .nil)) (.con (.str ⟨#[32, 41]⟩))) .nil)))))
  .nil))
def T_show_address : Tab := tab [(190, fn_worded)] []
def F_show_address : List Cell → Option (Cell × Cell) := mkF T_show_address ir_show_address 4 false
def fn_show_address : Fn := ⟨["address"], false, 2, F_show_address⟩
theorem b_show_address {K : Cell → Cell → Prop} {c0 : Cell} : WF F_show_address [c0] K = WP (exs T_show_address fuel ir_show_address [c0, .emp, .emp, .emp]) fun o ρ => WP (endB false (o, ρ)) K := wf_eq
theorem hF_show_address : fn_show_address.F = mkF T_show_address ir_show_address 4 false := by kernel_rfl
theorem t_show_address_worded : Tab.fn T_show_address 190 = some fn_worded := rfl
theorem k_show_address_worded {es kes : Exs} {ix : List Nat} {ρ : Rho} {Q : Od → Rho → Prop} : WP (ev T_show_address (.call 190 es ix kes) ρ) Q = WP (evs T_show_address es ρ) fun us ρ1 => WP (evs T_show_address kes ρ1) fun ws ρ2 => us.length + ix.length = 1 ∧ WC F_worded (us ++ ix.map fun i => ws.getD i (.t .emp)) ρ2 Q := q_callfr t_show_address_worded rfl rfl (by kernel_rfl)
def ir_show_copy : Sms :=
  (.cons (.asg (.t [(.n 1), (.n 2)]) (.var 0))
  (.cons (.ret (.call 190 (.cons (.lsS (.var 1) (.cons (.var 2) .nil)) .nil) [] .nil))
  .nil))
def T_show_copy : Tab := tab [(190, fn_worded)] []
def F_show_copy : List Cell → Option (Cell × Cell) := mkF T_show_copy ir_show_copy 3 false
def fn_show_copy : Fn := ⟨["copy"], false, 2, F_show_copy⟩
theorem b_show_copy {K : Cell → Cell → Prop} {c0 : Cell} : WF F_show_copy [c0] K = WP (exs T_show_copy fuel ir_show_copy [c0, .emp, .emp]) fun o ρ => WP (endB false (o, ρ)) K := wf_eq
theorem hF_show_copy : fn_show_copy.F = mkF T_show_copy ir_show_copy 3 false := by kernel_rfl
theorem t_show_copy_worded : Tab.fn T_show_copy 190 = some fn_worded := rfl
theorem k_show_copy_worded {es kes : Exs} {ix : List Nat} {ρ : Rho} {Q : Od → Rho → Prop} : WP (ev T_show_copy (.call 190 es ix kes) ρ) Q = WP (evs T_show_copy es ρ) fun us ρ1 => WP (evs T_show_copy kes ρ1) fun ws ρ2 => us.length + ix.length = 1 ∧ WC F_worded (us ++ ix.map fun i => ws.getD i (.t .emp)) ρ2 Q := q_callfr t_show_copy_worded rfl rfl (by kernel_rfl)
def ir_show_kit : Sms :=
  (.cons (.asg (.t [(.n 1), (.n 2)]) (.var 0))
  (.cons (.set 3 (.lst (.cons (.bin .Add (.con (.str ⟨#[116, 97, 98, 108, 101, 32]⟩)) (.call 190 (.cons (.lc2 (.var 5) (.n 4) (.seq (.var 1)) .no (.n 5) (.seq (.var 4)) .no [4, 5] [5]) .nil) [] .nil)) .nil)))
  (.cons (.for_ (.t [(.n 6), (.n 7)]) (.enm (.var 2)) (.cons (.exp (.mth .append (.var 3) (.cons (.bin .Add (.bin .Add (.blt .str (.cons (.var 6) .nil)) (.con (.str ⟨#[32, 58, 32]⟩))) (.sm .join (.con (.str ⟨#[44, 32]⟩)) (.lc (.call 192 (.cons (.var 8) .nil) [] .nil) (.n 8) (.seq (.var 7)) .no [8]))) .nil)))
  .nil))
  (.cons (.ret (.sm .join (.con (.str ⟨#[10]⟩)) (.var 3)))
  .nil))))
def T_show_kit : Tab := tab [(190, fn_worded), (192, fn_show_copy)] []
def F_show_kit : List Cell → Option (Cell × Cell) := mkF T_show_kit ir_show_kit 9 false
def fn_show_kit : Fn := ⟨["kit"], false, 3, F_show_kit⟩
theorem b_show_kit {K : Cell → Cell → Prop} {c0 : Cell} : WF F_show_kit [c0] K = WP (exs T_show_kit fuel ir_show_kit [c0, .emp, .emp, .emp, .emp, .emp, .emp, .emp, .emp]) fun o ρ => WP (endB false (o, ρ)) K := wf_eq
theorem hF_show_kit : fn_show_kit.F = mkF T_show_kit ir_show_kit 9 false := by kernel_rfl
theorem t_show_kit_worded : Tab.fn T_show_kit 190 = some fn_worded := rfl
theorem k_show_kit_worded {es kes : Exs} {ix : List Nat} {ρ : Rho} {Q : Od → Rho → Prop} : WP (ev T_show_kit (.call 190 es ix kes) ρ) Q = WP (evs T_show_kit es ρ) fun us ρ1 => WP (evs T_show_kit kes ρ1) fun ws ρ2 => us.length + ix.length = 1 ∧ WC F_worded (us ++ ix.map fun i => ws.getD i (.t .emp)) ρ2 Q := q_callfr t_show_kit_worded rfl rfl (by kernel_rfl)
theorem t_show_kit_show_copy : Tab.fn T_show_kit 192 = some fn_show_copy := rfl
theorem k_show_kit_show_copy {es kes : Exs} {ix : List Nat} {ρ : Rho} {Q : Od → Rho → Prop} : WP (ev T_show_kit (.call 192 es ix kes) ρ) Q = WP (evs T_show_kit es ρ) fun us ρ1 => WP (evs T_show_kit kes ρ1) fun ws ρ2 => us.length + ix.length = 1 ∧ WC F_show_copy (us ++ ix.map fun i => ws.getD i (.t .emp)) ρ2 Q := q_callfr t_show_kit_show_copy rfl rfl (by kernel_rfl)
def ir_show_rows : Sms :=
  (.cons (.ret (.sm .join (.con (.str ⟨#[10]⟩)) (.var 0)))
  .nil)
def T_show_rows : Tab := tab [] []
def F_show_rows : List Cell → Option (Cell × Cell) := mkF T_show_rows ir_show_rows 1 false
def fn_show_rows : Fn := ⟨["rows"], false, 1, F_show_rows⟩
theorem b_show_rows {K : Cell → Cell → Prop} {c0 : Cell} : WF F_show_rows [c0] K = WP (exs T_show_rows fuel ir_show_rows [c0]) fun o ρ => WP (endB false (o, ρ)) K := wf_eq
theorem hF_show_rows : fn_show_rows.F = mkF T_show_rows ir_show_rows 1 false := by kernel_rfl
def ir_law_well_2 : Sms :=
  (.cons (.set 2 (.ifx (.cmp .Lt (.var 1) (.blt .len (.cons (.var 0) .nil))) (.blt .int (.cons (.idx (.var 0) (.var 1)) .nil)) (.bin .Add (.bin .Mult (.var 1) (.con (.int 104723))) (.bin .Mult (.blt .len (.cons (.var 0) .nil)) (.con (.int 15485863))))))
  (.cons (.ret (.lst (.cons (.blt .max (.cons (.con (.int 0)) (.cons (.bin .Sub (.blt .abs (.cons (.var 2) .nil)) (.bin .Pow (.con (.int 10)) (.con (.int 18)))) .nil))) (.cons (.bin .Mod (.blt .int (.cons (.bin .Add (.bin .Add (.bin .Mult (.var 2) (.con (.int 86028157))) (.bin .Mult (.var 1) (.con (.int 179424691)))) (.con (.int 7919))) .nil)) (.bin .Add (.bin .Pow (.con (.int 10)) (.con (.int 25))) (.con (.int 13)))) (.cons (.con (.int 0)) .nil)))))
  .nil))
def T_law_well_2 : Tab := tab [] []
def F_law_well_2 : List Cell → Option (Cell × Cell) := mkF T_law_well_2 ir_law_well_2 3 false
def fn_law_well_2 : Fn := ⟨["script", "place"], false, 1, F_law_well_2⟩
theorem b_law_well_2 {K : Cell → Cell → Prop} {c0 c1 : Cell} : WF F_law_well_2 [c0, c1] K = WP (exs T_law_well_2 fuel ir_law_well_2 [c0, c1, .emp]) fun o ρ => WP (endB false (o, ρ)) K := wf_eq
theorem hF_law_well_2 : fn_law_well_2.F = mkF T_law_well_2 ir_law_well_2 3 false := by kernel_rfl
def ir_law_draw : Sms :=
  (.cons (.ite (.cmp .Gt (.idx (.var 0) (.con (.int 0))) (.con (.int 0))) (.cons (.set 2 (.bin .Mod (.blt .int (.cons (.idx (.var 0) (.con (.int 0))) .nil)) (.var 1)))
  (.cons (.put 0 (.con (.int 0)) (.bin .FloorDiv (.idx (.var 0) (.con (.int 0))) (.var 1)))
  (.cons (.ret (.var 2))
  .nil))) .nil)
  (.cons (.put 0 (.con (.int 2)) (.bin .Add (.idx (.var 0) (.con (.int 2))) (.con (.int 1))))
  (.cons (.set 3 (.bin .Mod (.blt .int (.cons (.bin .Pow (.bin .Add (.idx (.var 0) (.con (.int 1))) (.bin .Mult (.con (.int 49979693)) (.idx (.var 0) (.con (.int 2))))) (.con (.int 3))) .nil)) (.bin .Add (.bin .Pow (.con (.int 10)) (.con (.int 29))) (.con (.int 319)))))
  (.cons (.set 3 (.bin .Mod (.blt .int (.cons (.bin .Pow (.bin .Add (.var 3) (.con (.int 2038074751))) (.con (.int 3))) .nil)) (.bin .Add (.bin .Pow (.con (.int 10)) (.con (.int 33))) (.con (.int 33)))))
  (.cons (.ret (.bin .Mod (.blt .int (.cons (.bin .FloorDiv (.var 3) (.bin .Pow (.con (.int 10)) (.con (.int 6)))) .nil)) (.var 1)))
  .nil)))))
def T_law_draw : Tab := tab [] []
def F_law_draw : List Cell → Option (Cell × Cell) := mkF T_law_draw ir_law_draw 4 true
def fn_law_draw : Fn := ⟨["well", "many"], true, 1, F_law_draw⟩
theorem b_law_draw {K : Cell → Cell → Prop} {c0 c1 : Cell} : WF F_law_draw [c0, c1] K = WP (exs T_law_draw fuel ir_law_draw [c0, c1, .emp, .emp]) fun o ρ => WP (endB true (o, ρ)) K := wf_eq
theorem hF_law_draw : fn_law_draw.F = mkF T_law_draw ir_law_draw 4 true := by kernel_rfl
def ir_law_same_3 : Sms :=
  (.cons (.ite (.cmp .Is (.var 1) (.con .none)) (.cons (.ret (.cmp .Is (.var 0) (.con .none)))
  .nil) .nil)
  (.cons (.ite (.isi (.var 1) ["bool"]) (.cons (.ret (.ifx (.var 1) (.cmp .Is (.var 0) (.con (.bool true))) (.cmp .Is (.var 0) (.con (.bool false)))))
  .nil) .nil)
  (.cons (.ite (.isi (.var 1) ["int"]) (.cons (.ret (.and (.isi (.var 0) ["int"]) (.and (.not (.isi (.var 0) ["bool"])) (.cmp .Eq (.var 0) (.var 1)))))
  .nil) .nil)
  (.cons (.ite (.isi (.var 1) ["str"]) (.cons (.ret (.and (.isi (.var 0) ["str"]) (.cmp .Eq (.var 0) (.var 1))))
  .nil) .nil)
  (.cons (.ite (.or (.cmp .NotEq (.isi (.var 1) ["tuple"]) (.isi (.var 0) ["tuple"])) (.cmp .NotEq (.isi (.var 1) ["list"]) (.isi (.var 0) ["list"]))) (.cons (.ret (.con (.bool false)))
  .nil) .nil)
  (.cons (.ret (.and (.cmp .Eq (.blt .len (.cons (.var 0) .nil)) (.blt .len (.cons (.var 1) .nil))) (.blt .all (.cons (.lc (.call 197 (.cons (.idx (.var 0) (.var 2)) (.cons (.idx (.var 1) (.var 2)) .nil)) [] .nil) (.n 2) (.rng1 (.blt .len (.cons (.var 1) .nil))) .no [2]) .nil))))
  .nil))))))
def T_law_same_3 (f : Fn) : Tab := tab ((197, f) :: []) []
def F_law_same_3 : Nat → List Cell → Option (Cell × Cell)
  | 0 => fun _ => none
  | k + 1 => mkF (T_law_same_3 ⟨["told", "due"], false, k + 1, F_law_same_3 k⟩) ir_law_same_3 3 false
def fnr_law_same_3 (k : Nat) : Fn := ⟨["told", "due"], false, k + 1, F_law_same_3 k⟩
def fn_law_same_3 : Fn := fnr_law_same_3 8
theorem b_law_same_3 {k : Nat} {K : Cell → Cell → Prop} {c0 c1 : Cell} : WF (F_law_same_3 (k + 1)) [c0, c1] K = WP (exs (T_law_same_3 (fnr_law_same_3 k)) fuel ir_law_same_3 [c0, c1, .emp]) fun o ρ => WP (endB false (o, ρ)) K := wf_eq
theorem hF_law_same_3 {k : Nat} : (fnr_law_same_3 (k + 1)).F = mkF (T_law_same_3 (fnr_law_same_3 k)) ir_law_same_3 3 false := rfl
theorem t_law_same_3_law_same_3 {k : Nat} : Tab.fn (T_law_same_3 (fnr_law_same_3 k)) 197 = some (fnr_law_same_3 k) := rfl
theorem k_law_same_3_law_same_3 {k : Nat} {es kes : Exs} {ix : List Nat} {ρ : Rho} {Q : Od → Rho → Prop} : WP (ev (T_law_same_3 (fnr_law_same_3 k)) (.call 197 es ix kes) ρ) Q = WP (evs (T_law_same_3 (fnr_law_same_3 k)) es ρ) fun us ρ1 => WP (evs (T_law_same_3 (fnr_law_same_3 k)) kes ρ1) fun ws ρ2 => us.length + ix.length = 2 ∧ WC (F_law_same_3 k) (us ++ ix.map fun i => ws.getD i (.t .emp)) ρ2 Q := q_callfr t_law_same_3_law_same_3 rfl rfl (by kernel_rfl)
def ir_law_lowest : Sms :=
  (.cons (.par [2, 3] (.cons (.blt .abs (.cons (.var 0) .nil)) (.cons (.var 1) .nil)))
  (.cons (.whl (.cmp .NotEq (.var 3) (.con (.int 0))) (.cons (.par [2, 3] (.cons (.var 3) (.cons (.bin .Mod (.blt .int (.cons (.var 2) .nil)) (.var 3)) .nil)))
  .nil))
  (.cons (.ret (.tup (.cons (.bin .FloorDiv (.var 0) (.var 2)) (.cons (.bin .FloorDiv (.var 1) (.var 2)) .nil))))
  .nil)))
def T_law_lowest : Tab := tab [] []
def F_law_lowest : List Cell → Option (Cell × Cell) := mkF T_law_lowest ir_law_lowest 4 false
def fn_law_lowest : Fn := ⟨["top", "bottom"], false, 1, F_law_lowest⟩
theorem b_law_lowest {K : Cell → Cell → Prop} {c0 c1 : Cell} : WF F_law_lowest [c0, c1] K = WP (exs T_law_lowest fuel ir_law_lowest [c0, c1, .emp, .emp]) fun o ρ => WP (endB false (o, ρ)) K := wf_eq
theorem hF_law_lowest : fn_law_lowest.F = mkF T_law_lowest ir_law_lowest 4 false := by kernel_rfl
def ir_law_power_2 : Sms :=
  (.cons (.set 1 (.con (.int 1)))
  (.cons (.for_ (.n 2) (.rng1 (.var 0)) (.cons (.set 1 (.bin .Mult (.con (.int 10)) (.var 1)))
  .nil))
  (.cons (.ret (.var 1))
  .nil)))
def T_law_power_2 : Tab := tab [] []
def F_law_power_2 : List Cell → Option (Cell × Cell) := mkF T_law_power_2 ir_law_power_2 3 false
def fn_law_power_2 : Fn := ⟨["many"], false, 1, F_law_power_2⟩
theorem b_law_power_2 {K : Cell → Cell → Prop} {c0 : Cell} : WF F_law_power_2 [c0] K = WP (exs T_law_power_2 fuel ir_law_power_2 [c0, .emp, .emp]) fun o ρ => WP (endB false (o, ρ)) K := wf_eq
theorem hF_law_power_2 : fn_law_power_2.F = mkF T_law_power_2 ir_law_power_2 3 false := by kernel_rfl
def ir_law_number : Sms :=
  (.cons (.par [2, 3] (.cons (.call 196 (.cons (.var 0) (.cons (.con (.int 8)) .nil)) [] .nil) (.cons (.bin .Sub (.con (.int 1)) (.bin .Mult (.con (.int 2)) (.call 196 (.cons (.var 0) (.cons (.con (.int 2)) .nil)) [] .nil))) .nil)))
  (.cons (.ite (.cmp .Lt (.var 2) (.con (.int 3))) (.cons (.ret (.tup (.cons (.bin .Mult (.call 196 (.cons (.var 0) (.cons (.con (.int 13)) .nil)) [] .nil) (.var 3)) (.cons (.con (.int 1)) .nil))))
  .nil) .nil)
  (.cons (.ite (.cmp .Lt (.var 2) (.con (.int 5))) (.cons (.ret (.call 198 (.cons (.bin .Mult (.var 3) (.call 196 (.cons (.var 0) (.cons (.con (.int 30)) .nil)) [] .nil)) (.cons (.bin .Add (.con (.int 1)) (.call 196 (.cons (.var 0) (.cons (.con (.int 8)) .nil)) [] .nil)) .nil)) [] .nil))
  .nil) .nil)
  (.cons (.ite (.cmp .Eq (.var 2) (.con (.int 5))) (.cons (.set 4 (.bin .Sub (.call 199 (.cons (.var 1) .nil) [] .nil) (.con (.int 1))))
  (.cons (.ret (.call 198 (.cons (.bin .Mult (.var 3) (.bin .Sub (.var 4) (.call 196 (.cons (.var 0) (.cons (.con (.int 9)) .nil)) [] .nil))) (.cons (.bin .Sub (.var 4) (.call 196 (.cons (.var 0) (.cons (.con (.int 99)) .nil)) [] .nil)) .nil)) [] .nil))
  .nil)) .nil)
  (.cons (.ite (.cmp .Eq (.var 2) (.con (.int 6))) (.cons (.ret (.tup (.cons (.bin .Mult (.var 3) (.bin .Add (.call 199 (.cons (.call 196 (.cons (.var 0) (.cons (.var 1) .nil)) [] .nil) .nil) [] .nil) (.call 196 (.cons (.var 0) (.cons (.con (.int 2)) .nil)) [] .nil))) (.cons (.con (.int 1)) .nil))))
  .nil) .nil)
  (.cons (.set 5 (.bin .Add (.con (.int 1)) (.call 196 (.cons (.var 0) (.cons (.call 199 (.cons (.call 196 (.cons (.var 0) (.cons (.var 1) .nil)) [] .nil) .nil) [] .nil) .nil)) [] .nil)))
  (.cons (.ret (.call 198 (.cons (.bin .Mult (.var 3) (.call 196 (.cons (.var 0) (.cons (.call 199 (.cons (.var 1) .nil) [] .nil) .nil)) [] .nil)) (.cons (.var 5) .nil)) [] .nil))
  .nil)))))))
def T_law_number : Tab := tab [(198, fn_law_lowest), (196, fn_law_draw), (199, fn_law_power_2)] []
def F_law_number : List Cell → Option (Cell × Cell) := mkF T_law_number ir_law_number 6 true
def fn_law_number : Fn := ⟨["well", "most"], true, 2, F_law_number⟩
theorem b_law_number {K : Cell → Cell → Prop} {c0 c1 : Cell} : WF F_law_number [c0, c1] K = WP (exs T_law_number fuel ir_law_number [c0, c1, .emp, .emp, .emp, .emp]) fun o ρ => WP (endB true (o, ρ)) K := wf_eq
theorem hF_law_number : fn_law_number.F = mkF T_law_number ir_law_number 6 true := by kernel_rfl
theorem t_law_number_law_lowest : Tab.fn T_law_number 198 = some fn_law_lowest := rfl
theorem k_law_number_law_lowest {es kes : Exs} {ix : List Nat} {ρ : Rho} {Q : Od → Rho → Prop} : WP (ev T_law_number (.call 198 es ix kes) ρ) Q = WP (evs T_law_number es ρ) fun us ρ1 => WP (evs T_law_number kes ρ1) fun ws ρ2 => us.length + ix.length = 2 ∧ WC F_law_lowest (us ++ ix.map fun i => ws.getD i (.t .emp)) ρ2 Q := q_callfr t_law_number_law_lowest rfl rfl (by kernel_rfl)
theorem t_law_number_law_draw : Tab.fn T_law_number 196 = some fn_law_draw := rfl
theorem k_law_number_law_draw {es kes : Exs} {ix : List Nat} {ρ : Rho} {Q : Od → Rho → Prop} : WP (ev T_law_number (.call 196 es ix kes) ρ) Q = WP (evs T_law_number es ρ) fun us ρ1 => WP (evs T_law_number kes ρ1) fun ws ρ2 => us.length + ix.length = 2 ∧ WCI F_law_draw (us ++ ix.map fun i => ws.getD i (.t .emp)) ρ2 Q := q_callio t_law_number_law_draw rfl rfl (by kernel_rfl)
theorem t_law_number_law_power_2 : Tab.fn T_law_number 199 = some fn_law_power_2 := rfl
theorem k_law_number_law_power_2 {es kes : Exs} {ix : List Nat} {ρ : Rho} {Q : Od → Rho → Prop} : WP (ev T_law_number (.call 199 es ix kes) ρ) Q = WP (evs T_law_number es ρ) fun us ρ1 => WP (evs T_law_number kes ρ1) fun ws ρ2 => us.length + ix.length = 1 ∧ WC F_law_power_2 (us ++ ix.map fun i => ws.getD i (.t .emp)) ρ2 Q := q_callfr t_law_number_law_power_2 rfl rfl (by kernel_rfl)
def ir_law_grows_3 : Sms :=
  (.cons (.asg (.t [(.n 1), (.n 2)]) (.idx (.var 0) (.con (.int 0))))
  (.cons (.asg (.t [(.n 3), (.n 4)]) (.idx (.var 0) (.con (.int 1))))
  (.cons (.par [5, 6] (.cons (.bin .Sub (.bin .Mult (.var 1) (.var 4)) (.bin .Mult (.var 2) (.var 3))) (.cons (.bin .Add (.var 1) (.var 4)) .nil)))
  (.cons (.ret (.or (.and (.cmp .Gt (.var 5) (.con (.int 1))) (.chn .LtE .LtE (.neg (.var 5)) (.var 6) (.var 5))) (.and (.cmp .Lt (.var 5) (.neg (.con (.int 1)))) (.chn .LtE .LtE (.bin .Add (.var 5) (.con (.int 2))) (.var 6) (.bin .Sub (.neg (.var 5)) (.con (.int 2)))))))
  .nil))))
def T_law_grows_3 : Tab := tab [] []
def F_law_grows_3 : List Cell → Option (Cell × Cell) := mkF T_law_grows_3 ir_law_grows_3 7 false
def fn_law_grows_3 : Fn := ⟨["table"], false, 1, F_law_grows_3⟩
theorem b_law_grows_3 {K : Cell → Cell → Prop} {c0 : Cell} : WF F_law_grows_3 [c0] K = WP (exs T_law_grows_3 fuel ir_law_grows_3 [c0, .emp, .emp, .emp, .emp, .emp, .emp]) fun o ρ => WP (endB false (o, ρ)) K := wf_eq
theorem hF_law_grows_3 : fn_law_grows_3.F = mkF T_law_grows_3 ir_law_grows_3 7 false := by kernel_rfl
def ir_law_table_3 : Sms :=
  (.cons (.set 1 (.lst (.cons (.tup (.cons (.tup (.cons (.con (.int 2)) (.cons (.con (.int 0)) .nil))) (.cons (.tup (.cons (.con (.int 0)) (.cons (.con (.int 2)) .nil))) .nil))) (.cons (.tup (.cons (.tup (.cons (.con (.int 1)) (.cons (.neg (.con (.int 1))) .nil))) (.cons (.tup (.cons (.con (.int 1)) (.cons (.con (.int 1)) .nil))) .nil))) (.cons (.tup (.cons (.tup (.cons (.con (.int 0)) (.cons (.con (.int 2)) .nil))) (.cons (.tup (.cons (.con (.int 1)) (.cons (.con (.int 0)) .nil))) .nil))) (.cons (.tup (.cons (.tup (.cons (.neg (.con (.int 2))) (.cons (.con (.int 0)) .nil))) (.cons (.tup (.cons (.con (.int 0)) (.cons (.con (.int 3)) .nil))) .nil))) (.cons (.tup (.cons (.tup (.cons (.con (.int 2)) (.cons (.con (.int 1)) .nil))) (.cons (.tup (.cons (.con (.int 0)) (.cons (.con (.int 2)) .nil))) .nil))) .nil)))))))
  (.cons (.set 1 (.bin .Add (.var 1) (.lst (.cons (.tup (.cons (.tup (.cons (.con (.int 1)) (.cons (.con (.int 2)) .nil))) (.cons (.tup (.cons (.neg (.con (.int 2))) (.cons (.con (.int 1)) .nil))) .nil))) (.cons (.tup (.cons (.tup (.cons (.con (.int 0)) (.cons (.neg (.con (.int 3))) .nil))) (.cons (.tup (.cons (.con (.int 1)) (.cons (.con (.int 0)) .nil))) .nil))) (.cons (.tup (.cons (.tup (.cons (.con (.int 0)) (.cons (.con (.int 1)) .nil))) (.cons (.tup (.cons (.neg (.con (.int 2))) (.cons (.con (.int 0)) .nil))) .nil))) (.cons (.tup (.cons (.tup (.cons (.con (.int 2)) (.cons (.neg (.con (.int 3))) .nil))) (.cons (.tup (.cons (.con (.int 0)) (.cons (.neg (.con (.int 3))) .nil))) .nil))) (.cons (.tup (.cons (.tup (.cons (.con (.int 1)) (.cons (.con (.int 1)) .nil))) (.cons (.tup (.cons (.neg (.con (.int 1))) (.cons (.con (.int 2)) .nil))) .nil))) .nil))))))))
  (.cons (.for_ (.n 2) (.rng1 (.con (.int 3))) (.cons (.asg (.t [(.n 3), (.n 4), (.n 5), (.n 6)]) (.lc (.bin .Sub (.call 196 (.cons (.var 0) (.cons (.con (.int 7)) .nil)) [] .nil) (.con (.int 3))) (.n 7) (.rng1 (.con (.int 4))) .no [7]))
  (.cons (.ite (.and (.call 201 (.cons (.tup (.cons (.tup (.cons (.var 3) (.cons (.var 4) .nil))) (.cons (.tup (.cons (.var 5) (.cons (.var 6) .nil))) .nil))) .nil) [] .nil) (.cmp .Lt (.blt .abs (.cons (.bin .Sub (.bin .Mult (.var 3) (.var 6)) (.bin .Mult (.var 4) (.var 5))) .nil)) (.con (.int 7)))) (.cons (.ret (.tup (.cons (.tup (.cons (.var 3) (.cons (.var 4) .nil))) (.cons (.tup (.cons (.var 5) (.cons (.var 6) .nil))) .nil))))
  .nil) .nil)
  .nil)))
  (.cons (.ret (.idx (.var 1) (.call 196 (.cons (.var 0) (.cons (.con (.int 10)) .nil)) [] .nil)))
  .nil))))
def T_law_table_3 : Tab := tab [(196, fn_law_draw), (201, fn_law_grows_3)] []
def F_law_table_3 : List Cell → Option (Cell × Cell) := mkF T_law_table_3 ir_law_table_3 8 true
def fn_law_table_3 : Fn := ⟨["well"], true, 2, F_law_table_3⟩
theorem b_law_table_3 {K : Cell → Cell → Prop} {c0 : Cell} : WF F_law_table_3 [c0] K = WP (exs T_law_table_3 fuel ir_law_table_3 [c0, .emp, .emp, .emp, .emp, .emp, .emp, .emp]) fun o ρ => WP (endB true (o, ρ)) K := wf_eq
theorem hF_law_table_3 : fn_law_table_3.F = mkF T_law_table_3 ir_law_table_3 8 true := by kernel_rfl
theorem t_law_table_3_law_draw : Tab.fn T_law_table_3 196 = some fn_law_draw := rfl
theorem k_law_table_3_law_draw {es kes : Exs} {ix : List Nat} {ρ : Rho} {Q : Od → Rho → Prop} : WP (ev T_law_table_3 (.call 196 es ix kes) ρ) Q = WP (evs T_law_table_3 es ρ) fun us ρ1 => WP (evs T_law_table_3 kes ρ1) fun ws ρ2 => us.length + ix.length = 2 ∧ WCI F_law_draw (us ++ ix.map fun i => ws.getD i (.t .emp)) ρ2 Q := q_callio t_law_table_3_law_draw rfl rfl (by kernel_rfl)
theorem t_law_table_3_law_grows_3 : Tab.fn T_law_table_3 201 = some fn_law_grows_3 := rfl
theorem k_law_table_3_law_grows_3 {es kes : Exs} {ix : List Nat} {ρ : Rho} {Q : Od → Rho → Prop} : WP (ev T_law_table_3 (.call 201 es ix kes) ρ) Q = WP (evs T_law_table_3 es ρ) fun us ρ1 => WP (evs T_law_table_3 kes ρ1) fun ws ρ2 => us.length + ix.length = 1 ∧ WC F_law_grows_3 (us ++ ix.map fun i => ws.getD i (.t .emp)) ρ2 Q := q_callfr t_law_table_3_law_grows_3 rfl rfl (by kernel_rfl)
def ir_law_copies : Sms :=
  (.cons (.set 4 (.lst .nil))
  (.cons (.for_ (.n 5) (.rng1 (.var 1)) (.cons (.set 6 (.tup (.cons (.bin .Sub (.call 196 (.cons (.var 0) (.cons (.bin .Add (.bin .Mult (.con (.int 2)) (.var 2)) (.con (.int 1))) .nil)) [] .nil) (.var 2)) (.cons (.bin .Sub (.call 196 (.cons (.var 0) (.cons (.bin .Add (.bin .Mult (.con (.int 2)) (.var 2)) (.con (.int 1))) .nil)) [] .nil) (.var 2)) .nil))))
  (.cons (.exp (.mth .append (.var 4) (.cons (.tup (.cons (.var 6) (.cons (.call 196 (.cons (.var 0) (.cons (.var 3) .nil)) [] .nil) .nil))) .nil)))
  .nil)))
  (.cons (.ret (.blt .tuple (.cons (.sset (.var 4)) .nil)))
  .nil)))
def T_law_copies : Tab := tab [(196, fn_law_draw)] []
def F_law_copies : List Cell → Option (Cell × Cell) := mkF T_law_copies ir_law_copies 7 true
def fn_law_copies : Fn := ⟨["well", "many", "wide", "states"], true, 2, F_law_copies⟩
theorem b_law_copies {K : Cell → Cell → Prop} {c0 c1 c2 c3 : Cell} : WF F_law_copies [c0, c1, c2, c3] K = WP (exs T_law_copies fuel ir_law_copies [c0, c1, c2, c3, .emp, .emp, .emp]) fun o ρ => WP (endB true (o, ρ)) K := wf_eq
theorem hF_law_copies : fn_law_copies.F = mkF T_law_copies ir_law_copies 7 true := by kernel_rfl
theorem t_law_copies_law_draw : Tab.fn T_law_copies 196 = some fn_law_draw := rfl
theorem k_law_copies_law_draw {es kes : Exs} {ix : List Nat} {ρ : Rho} {Q : Od → Rho → Prop} : WP (ev T_law_copies (.call 196 es ix kes) ρ) Q = WP (evs T_law_copies es ρ) fun us ρ1 => WP (evs T_law_copies kes ρ1) fun ws ρ2 => us.length + ix.length = 2 ∧ WCI F_law_draw (us ++ ix.map fun i => ws.getD i (.t .emp)) ρ2 Q := q_callio t_law_copies_law_draw rfl rfl (by kernel_rfl)
def ir_law_product_2 : Sms :=
  (.cons (.set 2 (.lst .nil))
  (.cons (.for_ (.n 3) (.seq (.var 0)) (.cons (.exp (.mth .append (.var 2) (.cons (.blt .tuple (.cons (.lc (.bin .Add (.bin .Mult (.idx (.var 3) (.con (.int 0))) (.idx (.idx (.var 1) (.con (.int 0))) (.var 4))) (.bin .Mult (.idx (.var 3) (.con (.int 1))) (.idx (.idx (.var 1) (.con (.int 1))) (.var 4)))) (.n 4) (.rng1 (.con (.int 2))) .no [4]) .nil)) .nil)))
  .nil))
  (.cons (.ret (.blt .tuple (.cons (.var 2) .nil)))
  .nil)))
def T_law_product_2 : Tab := tab [] []
def F_law_product_2 : List Cell → Option (Cell × Cell) := mkF T_law_product_2 ir_law_product_2 5 false
def fn_law_product_2 : Fn := ⟨["one", "other"], false, 1, F_law_product_2⟩
theorem b_law_product_2 {K : Cell → Cell → Prop} {c0 c1 : Cell} : WF F_law_product_2 [c0, c1] K = WP (exs T_law_product_2 fuel ir_law_product_2 [c0, c1, .emp, .emp, .emp]) fun o ρ => WP (endB false (o, ρ)) K := wf_eq
theorem hF_law_product_2 : fn_law_product_2.F = mkF T_law_product_2 ir_law_product_2 5 false := by kernel_rfl
def ir_law_kit_2 : Sms :=
  (.cons (.par [1, 2] (.cons (.idx (.lst (.cons (.con (.int 1)) (.cons (.con (.int 2)) (.cons (.con (.int 3)) (.cons (.con (.int 4)) (.cons (.con (.int 4)) (.cons (.con (.int 12)) (.cons (.con (.int 40)) .nil)))))))) (.call 196 (.cons (.var 0) (.cons (.con (.int 7)) .nil)) [] .nil)) (.cons (.call 202 (.cons (.var 0) .nil) [] .nil) .nil)))
  (.cons (.par [3, 4, 5] (.cons (.var 2) (.cons (.idx (.lst (.cons (.con (.int 6)) (.cons (.con (.int 6)) (.cons (.con (.int 20)) .nil)))) (.call 196 (.cons (.var 0) (.cons (.con (.int 3)) .nil)) [] .nil)) (.cons (.lst .nil) .nil))))
  (.cons (.ite (.cmp .Lt (.var 1) (.con (.int 5))) (.cons (.set 4 (.idx (.lst (.cons (.con (.int 6)) (.cons (.con (.int 6)) (.cons (.con (.int 6)) (.cons (.con (.int 40)) (.cons (.con (.int 216)) (.cons (.bin .FloorDiv (.con (.int 900)) (.var 1)) .nil))))))) (.call 196 (.cons (.var 0) (.cons (.con (.int 6)) .nil)) [] .nil)))
  .nil) .nil)
  (.cons (.for_ (.n 6) (.rng1 (.var 1)) (.cons (.set 7 (.ifx (.cmp .Lt (.var 4) (.con (.int 7))) (.idx (.lst (.cons (.con (.int 1)) (.cons (.con (.int 4)) (.cons (.con (.int 4)) (.cons (.con (.int 999999999)) .nil))))) (.call 196 (.cons (.var 0) (.cons (.con (.int 4)) .nil)) [] .nil)) (.con (.int 40))))
  (.cons (.exp (.mth .append (.var 5) (.cons (.call 203 (.cons (.var 0) (.cons (.bin .Add (.con (.int 1)) (.call 196 (.cons (.var 0) (.cons (.var 4) .nil)) [] .nil)) (.cons (.var 7) (.cons (.var 1) .nil)))) [] .nil) .nil)))
  .nil)))
  (.cons (.for_ (.n 6) (.rng1 (.idx (.lst (.cons (.con (.int 0)) (.cons (.con (.int 0)) (.cons (.con (.int 0)) (.cons (.con (.int 1)) (.cons (.con (.int 3)) (.cons (.con (.int 8)) .nil))))))) (.call 196 (.cons (.var 0) (.cons (.con (.int 6)) .nil)) [] .nil))) (.cons (.set 3 (.call 204 (.cons (.var 2) (.cons (.var 3) .nil)) [] .nil))
  .nil))
  (.cons (.ret (.tup (.cons (.var 3) (.cons (.blt .tuple (.cons (.var 5) .nil)) .nil))))
  .nil))))))
def T_law_kit_2 : Tab := tab [(202, fn_law_table_3), (204, fn_law_product_2), (196, fn_law_draw), (203, fn_law_copies)] []
def F_law_kit_2 : List Cell → Option (Cell × Cell) := mkF T_law_kit_2 ir_law_kit_2 8 true
def fn_law_kit_2 : Fn := ⟨["well"], true, 3, F_law_kit_2⟩
theorem b_law_kit_2 {K : Cell → Cell → Prop} {c0 : Cell} : WF F_law_kit_2 [c0] K = WP (exs T_law_kit_2 fuel ir_law_kit_2 [c0, .emp, .emp, .emp, .emp, .emp, .emp, .emp]) fun o ρ => WP (endB true (o, ρ)) K := wf_eq
theorem hF_law_kit_2 : fn_law_kit_2.F = mkF T_law_kit_2 ir_law_kit_2 8 true := by kernel_rfl
theorem t_law_kit_2_law_table_3 : Tab.fn T_law_kit_2 202 = some fn_law_table_3 := rfl
theorem k_law_kit_2_law_table_3 {es kes : Exs} {ix : List Nat} {ρ : Rho} {Q : Od → Rho → Prop} : WP (ev T_law_kit_2 (.call 202 es ix kes) ρ) Q = WP (evs T_law_kit_2 es ρ) fun us ρ1 => WP (evs T_law_kit_2 kes ρ1) fun ws ρ2 => us.length + ix.length = 1 ∧ WCI F_law_table_3 (us ++ ix.map fun i => ws.getD i (.t .emp)) ρ2 Q := q_callio t_law_kit_2_law_table_3 rfl rfl (by kernel_rfl)
theorem t_law_kit_2_law_product_2 : Tab.fn T_law_kit_2 204 = some fn_law_product_2 := rfl
theorem k_law_kit_2_law_product_2 {es kes : Exs} {ix : List Nat} {ρ : Rho} {Q : Od → Rho → Prop} : WP (ev T_law_kit_2 (.call 204 es ix kes) ρ) Q = WP (evs T_law_kit_2 es ρ) fun us ρ1 => WP (evs T_law_kit_2 kes ρ1) fun ws ρ2 => us.length + ix.length = 2 ∧ WC F_law_product_2 (us ++ ix.map fun i => ws.getD i (.t .emp)) ρ2 Q := q_callfr t_law_kit_2_law_product_2 rfl rfl (by kernel_rfl)
theorem t_law_kit_2_law_draw : Tab.fn T_law_kit_2 196 = some fn_law_draw := rfl
theorem k_law_kit_2_law_draw {es kes : Exs} {ix : List Nat} {ρ : Rho} {Q : Od → Rho → Prop} : WP (ev T_law_kit_2 (.call 196 es ix kes) ρ) Q = WP (evs T_law_kit_2 es ρ) fun us ρ1 => WP (evs T_law_kit_2 kes ρ1) fun ws ρ2 => us.length + ix.length = 2 ∧ WCI F_law_draw (us ++ ix.map fun i => ws.getD i (.t .emp)) ρ2 Q := q_callio t_law_kit_2_law_draw rfl rfl (by kernel_rfl)
theorem t_law_kit_2_law_copies : Tab.fn T_law_kit_2 203 = some fn_law_copies := rfl
theorem k_law_kit_2_law_copies {es kes : Exs} {ix : List Nat} {ρ : Rho} {Q : Od → Rho → Prop} : WP (ev T_law_kit_2 (.call 203 es ix kes) ρ) Q = WP (evs T_law_kit_2 es ρ) fun us ρ1 => WP (evs T_law_kit_2 kes ρ1) fun ws ρ2 => us.length + ix.length = 4 ∧ WCI F_law_copies (us ++ ix.map fun i => ws.getD i (.t .emp)) ρ2 Q := q_callio t_law_kit_2_law_copies rfl rfl (by kernel_rfl)
def ir_law_address : Sms :=
  (.cons (.set 1 (.lst (.cons (.idx (.lst (.cons (.con (.int 0)) (.cons (.con (.int 1)) (.cons (.con (.int 2)) (.cons (.con (.int 7)) (.cons (.con (.int 40)) .nil)))))) (.call 196 (.cons (.var 0) (.cons (.con (.int 5)) .nil)) [] .nil)) (.cons (.idx (.lst (.cons (.con (.int 1)) (.cons (.con (.int 1)) (.cons (.con (.int 2)) (.cons (.con (.int 3)) (.cons (.con (.int 9)) (.cons (.con (.int 96)) (.cons (.con (.int 3000)) .nil)))))))) (.call 196 (.cons (.var 0) (.cons (.con (.int 7)) .nil)) [] .nil)) .nil))))
  (.cons (.set 2 (.idx (.lst (.cons (.con (.int 2)) (.cons (.con (.int 6)) (.cons (.con (.int 36)) (.cons (.con (.int 100000000)) .nil))))) (.call 196 (.cons (.var 0) (.cons (.con (.int 4)) .nil)) [] .nil)))
  (.cons (.ret (.blt .tuple (.cons (.lc (.blt .tuple (.cons (.lc (.call 196 (.cons (.var 0) (.cons (.var 2) .nil)) [] .nil) (.n 3) (.rng1 (.var 4)) .no [3]) .nil)) (.n 4) (.seq (.var 1)) .no [4]) .nil)))
  .nil)))
def T_law_address : Tab := tab [(196, fn_law_draw)] []
def F_law_address : List Cell → Option (Cell × Cell) := mkF T_law_address ir_law_address 5 true
def fn_law_address : Fn := ⟨["well"], true, 2, F_law_address⟩
theorem b_law_address {K : Cell → Cell → Prop} {c0 : Cell} : WF F_law_address [c0] K = WP (exs T_law_address fuel ir_law_address [c0, .emp, .emp, .emp, .emp]) fun o ρ => WP (endB true (o, ρ)) K := wf_eq
theorem hF_law_address : fn_law_address.F = mkF T_law_address ir_law_address 5 true := by kernel_rfl
theorem t_law_address_law_draw : Tab.fn T_law_address 196 = some fn_law_draw := rfl
theorem k_law_address_law_draw {es kes : Exs} {ix : List Nat} {ρ : Rho} {Q : Od → Rho → Prop} : WP (ev T_law_address (.call 196 es ix kes) ρ) Q = WP (evs T_law_address es ρ) fun us ρ1 => WP (evs T_law_address kes ρ1) fun ws ρ2 => us.length + ix.length = 2 ∧ WCI F_law_draw (us ++ ix.map fun i => ws.getD i (.t .emp)) ρ2 Q := q_callio t_law_address_law_draw rfl rfl (by kernel_rfl)
def ir_law_said_number : Sms :=
  (.cons (.ite (.cmp .Eq (.idx (.var 0) (.con (.int 1))) (.con (.int 1))) (.cons (.ret (.blt .str (.cons (.idx (.var 0) (.con (.int 0))) .nil)))
  .nil) .nil)
  (.cons (.ret (.bin .Add (.bin .Add (.blt .str (.cons (.idx (.var 0) (.con (.int 0))) .nil)) (.con (.str ⟨#[47]⟩))) (.blt .str (.cons (.idx (.var 0) (.con (.int 1))) .nil))))
  .nil))
def T_law_said_number : Tab := tab [] []
def F_law_said_number : List Cell → Option (Cell × Cell) := mkF T_law_said_number ir_law_said_number 1 false
def fn_law_said_number : Fn := ⟨["number"], false, 1, F_law_said_number⟩
theorem b_law_said_number {K : Cell → Cell → Prop} {c0 : Cell} : WF F_law_said_number [c0] K = WP (exs T_law_said_number fuel ir_law_said_number [c0]) fun o ρ => WP (endB false (o, ρ)) K := wf_eq
theorem hF_law_said_number : fn_law_said_number.F = mkF T_law_said_number ir_law_said_number 1 false := by kernel_rfl
def ir_law_said_address : Sms :=
  (.cons (.set 1 (.bin .Add (.bin .Add (.bin .Add (.lc (.blt .str (.cons (.var 2) .nil)) (.n 2) (.seq (.idx (.var 0) (.con (.int 0)))) .no [2]) (.lst (.cons (.con (.str ⟨#[40]⟩)) .nil))) (.lc (.blt .str (.cons (.var 2) .nil)) (.n 2) (.seq (.idx (.var 0) (.con (.int 1)))) .no [2])) (.lst (.cons (.con (.str ⟨#[41]⟩)) .nil))))
  (.cons (.ret (.sm .join (.con (.str ⟨#[32]⟩)) (.var 1)))
  .nil))
def T_law_said_address : Tab := tab [] []
def F_law_said_address : List Cell → Option (Cell × Cell) := mkF T_law_said_address ir_law_said_address 3 false
def fn_law_said_address : Fn := ⟨["address"], false, 1, F_law_said_address⟩
theorem b_law_said_address {K : Cell → Cell → Prop} {c0 : Cell} : WF F_law_said_address [c0] K = WP (exs T_law_said_address fuel ir_law_said_address [c0, .emp, .emp]) fun o ρ => WP (endB false (o, ρ)) K := wf_eq
theorem hF_law_said_address : fn_law_said_address.F = mkF T_law_said_address ir_law_said_address 3 false := by kernel_rfl
def ir_law_said_copies : Sms :=
  (.cons (.set 1 (.lst .nil))
  (.cons (.for_ (.t [(.n 2), (.n 3)]) (.seq (.var 0)) (.cons (.exp (.mth .append (.var 1) (.cons (.bin .Add (.bin .Add (.bin .Add (.bin .Add (.blt .str (.cons (.idx (.var 2) (.con (.int 0))) .nil)) (.con (.str ⟨#[32]⟩))) (.blt .str (.cons (.idx (.var 2) (.con (.int 1))) .nil))) (.con (.str ⟨#[32]⟩))) (.blt .str (.cons (.var 3) .nil))) .nil)))
  .nil))
  (.cons (.ret (.sm .join (.con (.str ⟨#[44, 32]⟩)) (.var 1)))
  .nil)))
def T_law_said_copies : Tab := tab [] []
def F_law_said_copies : List Cell → Option (Cell × Cell) := mkF T_law_said_copies ir_law_said_copies 4 false
def fn_law_said_copies : Fn := ⟨["copies"], false, 1, F_law_said_copies⟩
theorem b_law_said_copies {K : Cell → Cell → Prop} {c0 : Cell} : WF F_law_said_copies [c0] K = WP (exs T_law_said_copies fuel ir_law_said_copies [c0, .emp, .emp, .emp]) fun o ρ => WP (endB false (o, ρ)) K := wf_eq
theorem hF_law_said_copies : fn_law_said_copies.F = mkF T_law_said_copies ir_law_said_copies 4 false := by kernel_rfl
def ir_law_said_kit : Sms :=
  (.cons (.set 1 (.lst (.cons (.bin .Add (.con (.str ⟨#[116, 97, 98, 108, 101, 32]⟩)) (.sm .join (.con (.str ⟨#[32]⟩)) (.lc (.blt .str (.cons (.var 2) .nil)) (.n 2) (.seq (.bin .Add (.idx (.idx (.var 0) (.con (.int 0))) (.con (.int 0))) (.idx (.idx (.var 0) (.con (.int 0))) (.con (.int 1))))) .no [2]))) .nil)))
  (.cons (.for_ (.t [(.n 3), (.n 4)]) (.enm (.idx (.var 0) (.con (.int 1)))) (.cons (.exp (.mth .append (.var 1) (.cons (.bin .Add (.bin .Add (.blt .str (.cons (.var 3) .nil)) (.con (.str ⟨#[32, 58, 32]⟩))) (.call 209 (.cons (.var 4) .nil) [] .nil)) .nil)))
  .nil))
  (.cons (.ret (.sm .join (.con (.str ⟨#[10]⟩)) (.var 1)))
  .nil)))
def T_law_said_kit : Tab := tab [(209, fn_law_said_copies)] []
def F_law_said_kit : List Cell → Option (Cell × Cell) := mkF T_law_said_kit ir_law_said_kit 5 false
def fn_law_said_kit : Fn := ⟨["kit"], false, 2, F_law_said_kit⟩
theorem b_law_said_kit {K : Cell → Cell → Prop} {c0 : Cell} : WF F_law_said_kit [c0] K = WP (exs T_law_said_kit fuel ir_law_said_kit [c0, .emp, .emp, .emp, .emp]) fun o ρ => WP (endB false (o, ρ)) K := wf_eq
theorem hF_law_said_kit : fn_law_said_kit.F = mkF T_law_said_kit ir_law_said_kit 5 false := by kernel_rfl
theorem t_law_said_kit_law_said_copies : Tab.fn T_law_said_kit 209 = some fn_law_said_copies := rfl
theorem k_law_said_kit_law_said_copies {es kes : Exs} {ix : List Nat} {ρ : Rho} {Q : Od → Rho → Prop} : WP (ev T_law_said_kit (.call 209 es ix kes) ρ) Q = WP (evs T_law_said_kit es ρ) fun us ρ1 => WP (evs T_law_said_kit kes ρ1) fun ws ρ2 => us.length + ix.length = 1 ∧ WC F_law_said_copies (us ++ ix.map fun i => ws.getD i (.t .emp)) ρ2 Q := q_callfr t_law_said_kit_law_said_copies rfl rfl (by kernel_rfl)
def ir_law_thing : Sms :=
  (.cons (.set 2 (.idx (.lst (.cons (.con (.int 2)) (.cons (.con (.int 9)) (.cons (.con (.int 40)) (.cons (.con (.int 300)) .nil))))) (.call 196 (.cons (.var 0) (.cons (.con (.int 4)) .nil)) [] .nil)))
  (.cons (.ite (.cmp .Eq (.var 1) (.con (.int 0))) (.cons (.set 3 (.call 200 (.cons (.var 0) (.cons (.var 2) .nil)) [] .nil))
  (.cons (.ret (.tup (.cons (.var 3) (.cons (.call 207 (.cons (.var 3) .nil) [] .nil) .nil))))
  .nil)) .nil)
  (.cons (.ite (.cmp .Eq (.var 1) (.con (.int 1))) (.cons (.set 3 (.tup (.cons (.call 200 (.cons (.var 0) (.cons (.var 2) .nil)) [] .nil) (.cons (.call 200 (.cons (.var 0) (.cons (.var 2) .nil)) [] .nil) .nil))))
  (.cons (.ret (.tup (.cons (.var 3) (.cons (.bin .Add (.bin .Add (.call 207 (.cons (.idx (.var 3) (.con (.int 0))) .nil) [] .nil) (.con (.str ⟨#[32]⟩))) (.call 207 (.cons (.idx (.var 3) (.con (.int 1))) .nil) [] .nil)) .nil))))
  .nil)) .nil)
  (.cons (.ite (.cmp .Eq (.var 1) (.con (.int 2))) (.cons (.set 3 (.call 206 (.cons (.var 0) .nil) [] .nil))
  (.cons (.ret (.tup (.cons (.var 3) (.cons (.call 208 (.cons (.var 3) .nil) [] .nil) .nil))))
  .nil)) .nil)
  (.cons (.ite (.cmp .Eq (.var 1) (.con (.int 3))) (.cons (.set 3 (.call 205 (.cons (.var 0) .nil) [] .nil))
  (.cons (.ret (.tup (.cons (.var 3) (.cons (.call 210 (.cons (.var 3) .nil) [] .nil) .nil))))
  .nil)) .nil)
  (.cons (.asg (.t [(.n 4), (.n 5)]) (.lc (.idx (.lst (.cons (.con (.int 0)) (.cons (.con (.int 1)) (.cons (.con (.int 2)) (.cons (.con (.int 7)) (.cons (.con (.int 40)) .nil)))))) (.call 196 (.cons (.var 0) (.cons (.con (.int 5)) .nil)) [] .nil)) (.n 6) (.rng1 (.con (.int 2))) .no [6]))
  (.cons (.set 3 (.lc (.sm .join (.con (.str ⟨#[]⟩)) (.lc (.idx (.con (.str ⟨#[46, 35]⟩)) (.call 196 (.cons (.var 0) (.cons (.con (.int 2)) .nil)) [] .nil)) (.n 7) (.rng1 (.var 4)) .no [7])) (.n 8) (.rng1 (.var 5)) .no [8]))
  (.cons (.ret (.tup (.cons (.var 3) (.cons (.sm .join (.con (.str ⟨#[10]⟩)) (.var 3)) .nil))))
  .nil))))))))
def T_law_thing : Tab := tab [(196, fn_law_draw), (200, fn_law_number), (206, fn_law_address), (205, fn_law_kit_2), (207, fn_law_said_number), (208, fn_law_said_address), (210, fn_law_said_kit)] []
def F_law_thing : List Cell → Option (Cell × Cell) := mkF T_law_thing ir_law_thing 9 true
def fn_law_thing : Fn := ⟨["well", "door"], true, 4, F_law_thing⟩
theorem b_law_thing {K : Cell → Cell → Prop} {c0 c1 : Cell} : WF F_law_thing [c0, c1] K = WP (exs T_law_thing fuel ir_law_thing [c0, c1, .emp, .emp, .emp, .emp, .emp, .emp, .emp]) fun o ρ => WP (endB true (o, ρ)) K := wf_eq
theorem hF_law_thing : fn_law_thing.F = mkF T_law_thing ir_law_thing 9 true := by kernel_rfl
theorem t_law_thing_law_draw : Tab.fn T_law_thing 196 = some fn_law_draw := rfl
theorem k_law_thing_law_draw {es kes : Exs} {ix : List Nat} {ρ : Rho} {Q : Od → Rho → Prop} : WP (ev T_law_thing (.call 196 es ix kes) ρ) Q = WP (evs T_law_thing es ρ) fun us ρ1 => WP (evs T_law_thing kes ρ1) fun ws ρ2 => us.length + ix.length = 2 ∧ WCI F_law_draw (us ++ ix.map fun i => ws.getD i (.t .emp)) ρ2 Q := q_callio t_law_thing_law_draw rfl rfl (by kernel_rfl)
theorem t_law_thing_law_number : Tab.fn T_law_thing 200 = some fn_law_number := rfl
theorem k_law_thing_law_number {es kes : Exs} {ix : List Nat} {ρ : Rho} {Q : Od → Rho → Prop} : WP (ev T_law_thing (.call 200 es ix kes) ρ) Q = WP (evs T_law_thing es ρ) fun us ρ1 => WP (evs T_law_thing kes ρ1) fun ws ρ2 => us.length + ix.length = 2 ∧ WCI F_law_number (us ++ ix.map fun i => ws.getD i (.t .emp)) ρ2 Q := q_callio t_law_thing_law_number rfl rfl (by kernel_rfl)
theorem t_law_thing_law_address : Tab.fn T_law_thing 206 = some fn_law_address := rfl
theorem k_law_thing_law_address {es kes : Exs} {ix : List Nat} {ρ : Rho} {Q : Od → Rho → Prop} : WP (ev T_law_thing (.call 206 es ix kes) ρ) Q = WP (evs T_law_thing es ρ) fun us ρ1 => WP (evs T_law_thing kes ρ1) fun ws ρ2 => us.length + ix.length = 1 ∧ WCI F_law_address (us ++ ix.map fun i => ws.getD i (.t .emp)) ρ2 Q := q_callio t_law_thing_law_address rfl rfl (by kernel_rfl)
theorem t_law_thing_law_kit_2 : Tab.fn T_law_thing 205 = some fn_law_kit_2 := rfl
theorem k_law_thing_law_kit_2 {es kes : Exs} {ix : List Nat} {ρ : Rho} {Q : Od → Rho → Prop} : WP (ev T_law_thing (.call 205 es ix kes) ρ) Q = WP (evs T_law_thing es ρ) fun us ρ1 => WP (evs T_law_thing kes ρ1) fun ws ρ2 => us.length + ix.length = 1 ∧ WCI F_law_kit_2 (us ++ ix.map fun i => ws.getD i (.t .emp)) ρ2 Q := q_callio t_law_thing_law_kit_2 rfl rfl (by kernel_rfl)
theorem t_law_thing_law_said_number : Tab.fn T_law_thing 207 = some fn_law_said_number := rfl
theorem k_law_thing_law_said_number {es kes : Exs} {ix : List Nat} {ρ : Rho} {Q : Od → Rho → Prop} : WP (ev T_law_thing (.call 207 es ix kes) ρ) Q = WP (evs T_law_thing es ρ) fun us ρ1 => WP (evs T_law_thing kes ρ1) fun ws ρ2 => us.length + ix.length = 1 ∧ WC F_law_said_number (us ++ ix.map fun i => ws.getD i (.t .emp)) ρ2 Q := q_callfr t_law_thing_law_said_number rfl rfl (by kernel_rfl)
theorem t_law_thing_law_said_address : Tab.fn T_law_thing 208 = some fn_law_said_address := rfl
theorem k_law_thing_law_said_address {es kes : Exs} {ix : List Nat} {ρ : Rho} {Q : Od → Rho → Prop} : WP (ev T_law_thing (.call 208 es ix kes) ρ) Q = WP (evs T_law_thing es ρ) fun us ρ1 => WP (evs T_law_thing kes ρ1) fun ws ρ2 => us.length + ix.length = 1 ∧ WC F_law_said_address (us ++ ix.map fun i => ws.getD i (.t .emp)) ρ2 Q := q_callfr t_law_thing_law_said_address rfl rfl (by kernel_rfl)
theorem t_law_thing_law_said_kit : Tab.fn T_law_thing 210 = some fn_law_said_kit := rfl
theorem k_law_thing_law_said_kit {es kes : Exs} {ix : List Nat} {ρ : Rho} {Q : Od → Rho → Prop} : WP (ev T_law_thing (.call 210 es ix kes) ρ) Q = WP (evs T_law_thing es ρ) fun us ρ1 => WP (evs T_law_thing kes ρ1) fun ws ρ2 => us.length + ix.length = 1 ∧ WC F_law_said_kit (us ++ ix.map fun i => ws.getD i (.t .emp)) ρ2 Q := q_callfr t_law_thing_law_said_kit rfl rfl (by kernel_rfl)
def ir_law_shown : Sms :=
  (.cons (.ite (.cmp .Eq (.var 0) (.con (.int 0))) (.cons (.ret (.ifx (.var 2) (.call 188 .nil [0] (.cons (.var 1) .nil)) (.call 188 (.cons (.var 1) .nil) [] .nil)))
  .nil) .nil)
  (.cons (.ite (.cmp .Eq (.var 0) (.con (.int 1))) (.cons (.ret (.ifx (.var 2) (.call 189 .nil [0] (.cons (.var 1) .nil)) (.call 189 (.cons (.var 1) .nil) [] .nil)))
  .nil) .nil)
  (.cons (.ite (.cmp .Eq (.var 0) (.con (.int 2))) (.cons (.ret (.ifx (.var 2) (.call 191 .nil [0] (.cons (.var 1) .nil)) (.call 191 (.cons (.var 1) .nil) [] .nil)))
  .nil) .nil)
  (.cons (.ite (.cmp .Eq (.var 0) (.con (.int 3))) (.cons (.ret (.ifx (.var 2) (.call 193 .nil [0] (.cons (.var 1) .nil)) (.call 193 (.cons (.var 1) .nil) [] .nil)))
  .nil) .nil)
  (.cons (.ret (.ifx (.var 2) (.call 194 .nil [0] (.cons (.var 1) .nil)) (.call 194 (.cons (.var 1) .nil) [] .nil)))
  .nil)))))
def T_law_shown : Tab := tab [(194, fn_show_rows), (188, fn_show_number), (189, fn_show_point), (191, fn_show_address), (193, fn_show_kit)] []
def F_law_shown : List Cell → Option (Cell × Cell) := mkF T_law_shown ir_law_shown 3 false
def fn_law_shown : Fn := ⟨["door", "thing", "named"], false, 4, F_law_shown⟩
theorem b_law_shown {K : Cell → Cell → Prop} {c0 c1 c2 : Cell} : WF F_law_shown [c0, c1, c2] K = WP (exs T_law_shown fuel ir_law_shown [c0, c1, c2]) fun o ρ => WP (endB false (o, ρ)) K := wf_eq
theorem hF_law_shown : fn_law_shown.F = mkF T_law_shown ir_law_shown 3 false := by kernel_rfl
theorem t_law_shown_show_rows : Tab.fn T_law_shown 194 = some fn_show_rows := rfl
theorem k_law_shown_show_rows {es kes : Exs} {ix : List Nat} {ρ : Rho} {Q : Od → Rho → Prop} : WP (ev T_law_shown (.call 194 es ix kes) ρ) Q = WP (evs T_law_shown es ρ) fun us ρ1 => WP (evs T_law_shown kes ρ1) fun ws ρ2 => us.length + ix.length = 1 ∧ WC F_show_rows (us ++ ix.map fun i => ws.getD i (.t .emp)) ρ2 Q := q_callfr t_law_shown_show_rows rfl rfl (by kernel_rfl)
theorem t_law_shown_show_number : Tab.fn T_law_shown 188 = some fn_show_number := rfl
theorem k_law_shown_show_number {es kes : Exs} {ix : List Nat} {ρ : Rho} {Q : Od → Rho → Prop} : WP (ev T_law_shown (.call 188 es ix kes) ρ) Q = WP (evs T_law_shown es ρ) fun us ρ1 => WP (evs T_law_shown kes ρ1) fun ws ρ2 => us.length + ix.length = 1 ∧ WC F_show_number (us ++ ix.map fun i => ws.getD i (.t .emp)) ρ2 Q := q_callfr t_law_shown_show_number rfl rfl (by kernel_rfl)
theorem t_law_shown_show_point : Tab.fn T_law_shown 189 = some fn_show_point := rfl
theorem k_law_shown_show_point {es kes : Exs} {ix : List Nat} {ρ : Rho} {Q : Od → Rho → Prop} : WP (ev T_law_shown (.call 189 es ix kes) ρ) Q = WP (evs T_law_shown es ρ) fun us ρ1 => WP (evs T_law_shown kes ρ1) fun ws ρ2 => us.length + ix.length = 1 ∧ WC F_show_point (us ++ ix.map fun i => ws.getD i (.t .emp)) ρ2 Q := q_callfr t_law_shown_show_point rfl rfl (by kernel_rfl)
theorem t_law_shown_show_address : Tab.fn T_law_shown 191 = some fn_show_address := rfl
theorem k_law_shown_show_address {es kes : Exs} {ix : List Nat} {ρ : Rho} {Q : Od → Rho → Prop} : WP (ev T_law_shown (.call 191 es ix kes) ρ) Q = WP (evs T_law_shown es ρ) fun us ρ1 => WP (evs T_law_shown kes ρ1) fun ws ρ2 => us.length + ix.length = 1 ∧ WC F_show_address (us ++ ix.map fun i => ws.getD i (.t .emp)) ρ2 Q := q_callfr t_law_shown_show_address rfl rfl (by kernel_rfl)
theorem t_law_shown_show_kit : Tab.fn T_law_shown 193 = some fn_show_kit := rfl
theorem k_law_shown_show_kit {es kes : Exs} {ix : List Nat} {ρ : Rho} {Q : Od → Rho → Prop} : WP (ev T_law_shown (.call 193 es ix kes) ρ) Q = WP (evs T_law_shown es ρ) fun us ρ1 => WP (evs T_law_shown kes ρ1) fun ws ρ2 => us.length + ix.length = 1 ∧ WC F_show_kit (us ++ ix.map fun i => ws.getD i (.t .emp)) ρ2 Q := q_callfr t_law_shown_show_kit rfl rfl (by kernel_rfl)
def ir_law_10 : Sms :=
  (.cons (.set 1 (.lst .nil))
  (.cons (.for_ (.n 2) (.rng1 (.blt .max (.cons (.con (.int 1)) (.cons (.blt .min (.cons (.con (.int 8)) (.cons (.blt .len (.cons (.var 0) .nil)) .nil))) .nil)))) (.cons (.set 3 (.call 195 (.cons (.var 0) (.cons (.var 2) .nil)) [] .nil))
  (.cons (.for_ (.n 4) (.rng1 (.con (.int 5))) (.cons (.asg (.t [(.n 5), (.n 6)]) (.call 211 (.cons (.var 3) (.cons (.var 4) .nil)) [] .nil))
  (.cons (.set 7 (.blt .list (.cons (.var 5) .nil)))
  (.cons (.ite (.not (.call 197 (.cons (.call 212 (.cons (.var 4) (.cons (.var 5) (.cons (.cmp .Eq (.call 196 (.cons (.var 3) (.cons (.con (.int 2)) .nil)) [] .nil) (.con (.int 0))) .nil))) [] .nil) (.cons (.var 6) .nil)) [] .nil)) (.cons (.ret (.con (.bool false)))
  .nil) .nil)
  (.cons (.ite (.not (.call 197 (.cons (.blt .list (.cons (.var 5) .nil)) (.cons (.var 7) .nil)) [] .nil)) (.cons (.ret (.con (.bool false)))
  .nil) .nil)
  (.cons (.exp (.mth .append (.var 1) (.cons (.tup (.cons (.var 4) (.cons (.var 5) (.cons (.var 6) .nil)))) .nil)))
  .nil))))))
  .nil)))
  (.cons (.for_ (.t [(.n 4), (.n 5), (.n 6)]) (.seq (.rev (.var 1))) (.cons (.ite (.not (.call 197 (.cons (.call 212 (.cons (.var 4) (.cons (.var 5) (.cons (.cmp .Lt (.blt .len (.cons (.var 6) .nil)) (.con (.int 9))) .nil))) [] .nil) (.cons (.var 6) .nil)) [] .nil)) (.cons (.ret (.con (.bool false)))
  .nil) .nil)
  .nil))
  (.cons (.ret (.con (.bool true)))
  .nil))))
def T_law_10 : Tab := tab [(195, fn_law_well_2), (211, fn_law_thing), (197, fn_law_same_3), (212, fn_law_shown), (196, fn_law_draw)] []
def F_law_10 : List Cell → Option (Cell × Cell) := mkF T_law_10 ir_law_10 8 false
def fn_law_10 : Fn := ⟨["script"], false, 10, F_law_10⟩
theorem b_law_10 {K : Cell → Cell → Prop} {c0 : Cell} : WF F_law_10 [c0] K = WP (exs T_law_10 fuel ir_law_10 [c0, .emp, .emp, .emp, .emp, .emp, .emp, .emp]) fun o ρ => WP (endB false (o, ρ)) K := wf_eq
theorem hF_law_10 : fn_law_10.F = mkF T_law_10 ir_law_10 8 false := by kernel_rfl
theorem t_law_10_law_well_2 : Tab.fn T_law_10 195 = some fn_law_well_2 := rfl
theorem k_law_10_law_well_2 {es kes : Exs} {ix : List Nat} {ρ : Rho} {Q : Od → Rho → Prop} : WP (ev T_law_10 (.call 195 es ix kes) ρ) Q = WP (evs T_law_10 es ρ) fun us ρ1 => WP (evs T_law_10 kes ρ1) fun ws ρ2 => us.length + ix.length = 2 ∧ WC F_law_well_2 (us ++ ix.map fun i => ws.getD i (.t .emp)) ρ2 Q := q_callfr t_law_10_law_well_2 rfl rfl (by kernel_rfl)
theorem t_law_10_law_thing : Tab.fn T_law_10 211 = some fn_law_thing := rfl
theorem k_law_10_law_thing {es kes : Exs} {ix : List Nat} {ρ : Rho} {Q : Od → Rho → Prop} : WP (ev T_law_10 (.call 211 es ix kes) ρ) Q = WP (evs T_law_10 es ρ) fun us ρ1 => WP (evs T_law_10 kes ρ1) fun ws ρ2 => us.length + ix.length = 2 ∧ WCI F_law_thing (us ++ ix.map fun i => ws.getD i (.t .emp)) ρ2 Q := q_callio t_law_10_law_thing rfl rfl (by kernel_rfl)
theorem t_law_10_law_same_3 : Tab.fn T_law_10 197 = some fn_law_same_3 := rfl
theorem k_law_10_law_same_3 {es kes : Exs} {ix : List Nat} {ρ : Rho} {Q : Od → Rho → Prop} : WP (ev T_law_10 (.call 197 es ix kes) ρ) Q = WP (evs T_law_10 es ρ) fun us ρ1 => WP (evs T_law_10 kes ρ1) fun ws ρ2 => us.length + ix.length = 2 ∧ WC (F_law_same_3 8) (us ++ ix.map fun i => ws.getD i (.t .emp)) ρ2 Q := q_callfr t_law_10_law_same_3 rfl rfl (by kernel_rfl)
theorem t_law_10_law_shown : Tab.fn T_law_10 212 = some fn_law_shown := rfl
theorem k_law_10_law_shown {es kes : Exs} {ix : List Nat} {ρ : Rho} {Q : Od → Rho → Prop} : WP (ev T_law_10 (.call 212 es ix kes) ρ) Q = WP (evs T_law_10 es ρ) fun us ρ1 => WP (evs T_law_10 kes ρ1) fun ws ρ2 => us.length + ix.length = 3 ∧ WC F_law_shown (us ++ ix.map fun i => ws.getD i (.t .emp)) ρ2 Q := q_callfr t_law_10_law_shown rfl rfl (by kernel_rfl)
theorem t_law_10_law_draw : Tab.fn T_law_10 196 = some fn_law_draw := rfl
theorem k_law_10_law_draw {es kes : Exs} {ix : List Nat} {ρ : Rho} {Q : Od → Rho → Prop} : WP (ev T_law_10 (.call 196 es ix kes) ρ) Q = WP (evs T_law_10 es ρ) fun us ρ1 => WP (evs T_law_10 kes ρ1) fun ws ρ2 => us.length + ix.length = 2 ∧ WCI F_law_draw (us ++ ix.map fun i => ws.getD i (.t .emp)) ρ2 Q := q_callio t_law_10_law_draw rfl rfl (by kernel_rfl)
end Df
namespace Ok
open PySem PySem.Spec PyProof.Rows L2 Lt Df
theorem S_show_number : FnScope N_show_number ["a"] (defScope s_show_number) := ⟨rfl, rfl, rfl, by decide +kernel, rfl, by decide +kernel, by decide +kernel⟩
theorem e_show_number : cSl (cS 60 I_show_number 30) (defBody s_show_number) = ir_show_number := by kernel_rfl
theorem S_show_point : FnScope N_show_point ["point"] (defScope s_show_point) := ⟨rfl, rfl, rfl, by decide +kernel, rfl, by decide +kernel, by decide +kernel⟩
theorem e_show_point : cSl (cS 60 I_show_point 30) (defBody s_show_point) = ir_show_point := by kernel_rfl
theorem S_worded : FnScope N_worded ["integers"] (defScope s_worded) := ⟨rfl, rfl, rfl, by decide +kernel, rfl, by decide +kernel, by decide +kernel⟩
theorem e_worded : cSl (cS 60 I_worded 30) (defBody s_worded) = ir_worded := by kernel_rfl
theorem S_show_address : FnScope N_show_address ["address"] (defScope s_show_address) := ⟨rfl, rfl, rfl, by decide +kernel, rfl, by decide +kernel, by decide +kernel⟩
theorem e_show_address : cSl (cS 60 I_show_address 30) (defBody s_show_address) = ir_show_address := by kernel_rfl
theorem S_show_copy : FnScope N_show_copy ["copy"] (defScope s_show_copy) := ⟨rfl, rfl, rfl, by decide +kernel, rfl, by decide +kernel, by decide +kernel⟩
theorem e_show_copy : cSl (cS 60 I_show_copy 30) (defBody s_show_copy) = ir_show_copy := by kernel_rfl
theorem S_show_kit : FnScope N_show_kit ["kit"] (defScope s_show_kit) := ⟨rfl, rfl, rfl, by decide +kernel, rfl, by decide +kernel, by decide +kernel⟩
theorem e_show_kit : cSl (cS 60 I_show_kit 30) (defBody s_show_kit) = ir_show_kit := by kernel_rfl
theorem S_show_rows : FnScope N_show_rows ["rows"] (defScope s_show_rows) := ⟨rfl, rfl, rfl, by decide +kernel, rfl, by decide +kernel, by decide +kernel⟩
theorem e_show_rows : cSl (cS 60 I_show_rows 30) (defBody s_show_rows) = ir_show_rows := by kernel_rfl
theorem S_law_well_2 : FnScope N_law_well_2 ["script", "place"] (defScope s_law_well_2) := ⟨rfl, rfl, rfl, by decide +kernel, rfl, by decide +kernel, by decide +kernel⟩
theorem e_law_well_2 : cSl (cS 60 I_law_well_2 30) (defBody s_law_well_2) = ir_law_well_2 := by kernel_rfl
theorem S_law_draw : FnScope N_law_draw ["well", "many"] (defScope s_law_draw) := ⟨rfl, rfl, rfl, by decide +kernel, rfl, by decide +kernel, by decide +kernel⟩
theorem e_law_draw : cSl (cS 60 I_law_draw 30) (defBody s_law_draw) = ir_law_draw := by kernel_rfl
theorem S_law_same_3 : FnScope N_law_same_3 ["told", "due"] (defScope s_law_same_3) := ⟨rfl, rfl, rfl, by decide +kernel, rfl, by decide +kernel, by decide +kernel⟩
theorem e_law_same_3 : cSl (cS 60 I_law_same_3 30) (defBody s_law_same_3) = ir_law_same_3 := by kernel_rfl
theorem S_law_lowest : FnScope N_law_lowest ["top", "bottom"] (defScope s_law_lowest) := ⟨rfl, rfl, rfl, by decide +kernel, rfl, by decide +kernel, by decide +kernel⟩
theorem e_law_lowest : cSl (cS 60 I_law_lowest 30) (defBody s_law_lowest) = ir_law_lowest := by kernel_rfl
theorem S_law_power_2 : FnScope N_law_power_2 ["many"] (defScope s_law_power_2) := ⟨rfl, rfl, rfl, by decide +kernel, rfl, by decide +kernel, by decide +kernel⟩
theorem e_law_power_2 : cSl (cS 60 I_law_power_2 30) (defBody s_law_power_2) = ir_law_power_2 := by kernel_rfl
theorem S_law_number : FnScope N_law_number ["well", "most"] (defScope s_law_number) := ⟨rfl, rfl, rfl, by decide +kernel, rfl, by decide +kernel, by decide +kernel⟩
theorem e_law_number : cSl (cS 60 I_law_number 30) (defBody s_law_number) = ir_law_number := by kernel_rfl
theorem S_law_grows_3 : FnScope N_law_grows_3 ["table"] (defScope s_law_grows_3) := ⟨rfl, rfl, rfl, by decide +kernel, rfl, by decide +kernel, by decide +kernel⟩
theorem e_law_grows_3 : cSl (cS 60 I_law_grows_3 30) (defBody s_law_grows_3) = ir_law_grows_3 := by kernel_rfl
theorem S_law_table_3 : FnScope N_law_table_3 ["well"] (defScope s_law_table_3) := ⟨rfl, rfl, rfl, by decide +kernel, rfl, by decide +kernel, by decide +kernel⟩
theorem e_law_table_3 : cSl (cS 60 I_law_table_3 30) (defBody s_law_table_3) = ir_law_table_3 := by kernel_rfl
theorem S_law_copies : FnScope N_law_copies ["well", "many", "wide", "states"] (defScope s_law_copies) := ⟨rfl, rfl, rfl, by decide +kernel, rfl, by decide +kernel, by decide +kernel⟩
theorem e_law_copies : cSl (cS 60 I_law_copies 30) (defBody s_law_copies) = ir_law_copies := by kernel_rfl
theorem S_law_product_2 : FnScope N_law_product_2 ["one", "other"] (defScope s_law_product_2) := ⟨rfl, rfl, rfl, by decide +kernel, rfl, by decide +kernel, by decide +kernel⟩
theorem e_law_product_2 : cSl (cS 60 I_law_product_2 30) (defBody s_law_product_2) = ir_law_product_2 := by kernel_rfl
theorem S_law_kit_2 : FnScope N_law_kit_2 ["well"] (defScope s_law_kit_2) := ⟨rfl, rfl, rfl, by decide +kernel, rfl, by decide +kernel, by decide +kernel⟩
theorem e_law_kit_2 : cSl (cS 60 I_law_kit_2 30) (defBody s_law_kit_2) = ir_law_kit_2 := by kernel_rfl
theorem S_law_address : FnScope N_law_address ["well"] (defScope s_law_address) := ⟨rfl, rfl, rfl, by decide +kernel, rfl, by decide +kernel, by decide +kernel⟩
theorem e_law_address : cSl (cS 60 I_law_address 30) (defBody s_law_address) = ir_law_address := by kernel_rfl
theorem S_law_said_number : FnScope N_law_said_number ["number"] (defScope s_law_said_number) := ⟨rfl, rfl, rfl, by decide +kernel, rfl, by decide +kernel, by decide +kernel⟩
theorem e_law_said_number : cSl (cS 60 I_law_said_number 30) (defBody s_law_said_number) = ir_law_said_number := by kernel_rfl
theorem S_law_said_address : FnScope N_law_said_address ["address"] (defScope s_law_said_address) := ⟨rfl, rfl, rfl, by decide +kernel, rfl, by decide +kernel, by decide +kernel⟩
theorem e_law_said_address : cSl (cS 60 I_law_said_address 30) (defBody s_law_said_address) = ir_law_said_address := by kernel_rfl
theorem S_law_said_copies : FnScope N_law_said_copies ["copies"] (defScope s_law_said_copies) := ⟨rfl, rfl, rfl, by decide +kernel, rfl, by decide +kernel, by decide +kernel⟩
theorem e_law_said_copies : cSl (cS 60 I_law_said_copies 30) (defBody s_law_said_copies) = ir_law_said_copies := by kernel_rfl
theorem S_law_said_kit : FnScope N_law_said_kit ["kit"] (defScope s_law_said_kit) := ⟨rfl, rfl, rfl, by decide +kernel, rfl, by decide +kernel, by decide +kernel⟩
theorem e_law_said_kit : cSl (cS 60 I_law_said_kit 30) (defBody s_law_said_kit) = ir_law_said_kit := by kernel_rfl
theorem S_law_thing : FnScope N_law_thing ["well", "door"] (defScope s_law_thing) := ⟨rfl, rfl, rfl, by decide +kernel, rfl, by decide +kernel, by decide +kernel⟩
theorem e_law_thing : cSl (cS 60 I_law_thing 30) (defBody s_law_thing) = ir_law_thing := by kernel_rfl
theorem S_law_shown : FnScope N_law_shown ["door", "thing", "named"] (defScope s_law_shown) := ⟨rfl, rfl, rfl, by decide +kernel, rfl, by decide +kernel, by decide +kernel⟩
theorem e_law_shown : cSl (cS 60 I_law_shown 30) (defBody s_law_shown) = ir_law_shown := by kernel_rfl
theorem S_law_10 : FnScope N_law_10 ["script"] (defScope s_law_10) := ⟨rfl, rfl, rfl, by decide +kernel, rfl, by decide +kernel, by decide +kernel⟩
theorem e_law_10 : cSl (cS 60 I_law_10 30) (defBody s_law_10) = ir_law_10 := by kernel_rfl
section
variable {P : Program} {w : World} {K : PySem.W.Frag} {mg : Str → Option Value} {base h : Heap}
theorem ok_show_number (X : K.In h) (G : h.Ns mainGlobals mg) (c : SaysX fa fnD xs K) : OKF P w K mg base "show_number" fn_show_number [(0, ["a"])] := by
  obtain ⟨fd, F⟩ := c.1.def_ 0 (d := d_show_number) rfl
  have M : Mo P w K mg base T_show_number 0 I_show_number := ⟨all_cons (He.free_ok X G (c.1.fact 39 (f := .free "str") rfl)) (all_nil), (fun z => (nomatch z)), all_nil, all_nil⟩
  exact ⟨_, fd, df_ok2 F (fn := fn_show_number) hF_show_number rfl S_show_number M rfl rfl e_show_number (fun z => (nomatch z)) rfl, He.glo_ok X G (c.1.fact 0 (f := .glo "show_number") rfl), F.kp, (F.bindsN (ps := ["a"]) fun _ _ _ _ _ _ us hl => match us, hl with | [_], _ => rfl), all_cons (KBn.of0 F fun _ _ _ _ _ _ us ws l1 l2 => match us, l1, ws, l2 with | [], _, [_], _ => rfl) (all_nil)⟩
theorem ok_show_point (X : K.In h) (G : h.Ns mainGlobals mg) (c : SaysX fa fnD xs K) : OKF P w K mg base "show_point" fn_show_point [(0, ["point"])] := by
  obtain ⟨fd, F⟩ := c.1.def_ 1 (d := d_show_point) rfl
  have M : Mo P w K mg base T_show_point 1 I_show_point := ⟨all_nil, (fun z => (nomatch z)), all_nil, all_cons ((ok_show_number X G c).fnm t_show_point_show_number rfl (by decide) (by decide +kernel)) (all_nil)⟩
  exact ⟨_, fd, df_ok2 F (fn := fn_show_point) hF_show_point rfl S_show_point M rfl rfl e_show_point (fun z => (nomatch z)) rfl, He.glo_ok X G (c.1.fact 1 (f := .glo "show_point") rfl), F.kp, (F.bindsN (ps := ["point"]) fun _ _ _ _ _ _ us hl => match us, hl with | [_], _ => rfl), all_cons (KBn.of0 F fun _ _ _ _ _ _ us ws l1 l2 => match us, l1, ws, l2 with | [], _, [_], _ => rfl) (all_nil)⟩
theorem ok_worded (X : K.In h) (G : h.Ns mainGlobals mg) (c : SaysX fa fnD xs K) : OKF P w K mg base "worded" fn_worded [] := by
  obtain ⟨fd, F⟩ := c.1.def_ 2 (d := d_worded) rfl
  have M : Mo P w K mg base T_worded 0 I_worded := ⟨all_cons (He.free_ok X G (c.1.fact 39 (f := .free "str") rfl)) (all_nil), (fun z => (nomatch z)), all_nil, all_nil⟩
  exact ⟨_, fd, df_ok2 F (fn := fn_worded) hF_worded rfl S_worded M rfl rfl e_worded (fun z => (nomatch z)) rfl, He.glo_ok X G (c.1.fact 2 (f := .glo "worded") rfl), F.kp, (F.bindsN (ps := ["integers"]) fun _ _ _ _ _ _ us hl => match us, hl with | [_], _ => rfl), all_nil⟩
theorem ok_show_address (X : K.In h) (G : h.Ns mainGlobals mg) (c : SaysX fa fnD xs K) : OKF P w K mg base "show_address" fn_show_address [(0, ["address"])] := by
  obtain ⟨fd, F⟩ := c.1.def_ 3 (d := d_show_address) rfl
  have M : Mo P w K mg base T_show_address 1 I_show_address := ⟨all_cons (He.free_ok X G (c.1.fact 39 (f := .free "str") rfl)) (all_nil), (fun z => (nomatch z)), all_nil, all_cons ((ok_worded X G c).fnm t_show_address_worded rfl (by decide) (by decide +kernel)) (all_nil)⟩
  exact ⟨_, fd, df_ok2 F (fn := fn_show_address) hF_show_address rfl S_show_address M rfl rfl e_show_address (fun z => (nomatch z)) rfl, He.glo_ok X G (c.1.fact 3 (f := .glo "show_address") rfl), F.kp, (F.bindsN (ps := ["address"]) fun _ _ _ _ _ _ us hl => match us, hl with | [_], _ => rfl), all_cons (KBn.of0 F fun _ _ _ _ _ _ us ws l1 l2 => match us, l1, ws, l2 with | [], _, [_], _ => rfl) (all_nil)⟩
theorem ok_show_copy (X : K.In h) (G : h.Ns mainGlobals mg) (c : SaysX fa fnD xs K) : OKF P w K mg base "show_copy" fn_show_copy [] := by
  obtain ⟨fd, F⟩ := c.1.def_ 4 (d := d_show_copy) rfl
  have M : Mo P w K mg base T_show_copy 1 I_show_copy := ⟨all_nil, (fun z => (nomatch z)), all_nil, all_cons ((ok_worded X G c).fnm t_show_copy_worded rfl (by decide) (by decide +kernel)) (all_nil)⟩
  exact ⟨_, fd, df_ok2 F (fn := fn_show_copy) hF_show_copy rfl S_show_copy M rfl rfl e_show_copy (fun z => (nomatch z)) rfl, He.glo_ok X G (c.1.fact 4 (f := .glo "show_copy") rfl), F.kp, (F.bindsN (ps := ["copy"]) fun _ _ _ _ _ _ us hl => match us, hl with | [_], _ => rfl), all_nil⟩
theorem ok_show_kit (X : K.In h) (G : h.Ns mainGlobals mg) (c : SaysX fa fnD xs K) : OKF P w K mg base "show_kit" fn_show_kit [(0, ["kit"])] := by
  obtain ⟨fd, F⟩ := c.1.def_ 5 (d := d_show_kit) rfl
  have M : Mo P w K mg base T_show_kit 2 I_show_kit := ⟨all_cons (He.free_ok X G (c.1.fact 29 (f := .free "enumerate") rfl)) (all_cons (He.free_ok X G (c.1.fact 39 (f := .free "str") rfl)) (all_nil)), (fun z => (nomatch z)), all_nil, all_cons ((ok_worded X G c).fnm t_show_kit_worded rfl (by decide) (by decide +kernel)) (all_cons ((ok_show_copy X G c).fnm t_show_kit_show_copy rfl (by decide) (by decide +kernel)) (all_nil))⟩
  exact ⟨_, fd, df_ok2 F (fn := fn_show_kit) hF_show_kit rfl S_show_kit M rfl rfl e_show_kit (fun z => (nomatch z)) rfl, He.glo_ok X G (c.1.fact 5 (f := .glo "show_kit") rfl), F.kp, (F.bindsN (ps := ["kit"]) fun _ _ _ _ _ _ us hl => match us, hl with | [_], _ => rfl), all_cons (KBn.of0 F fun _ _ _ _ _ _ us ws l1 l2 => match us, l1, ws, l2 with | [], _, [_], _ => rfl) (all_nil)⟩
theorem ok_show_rows (X : K.In h) (G : h.Ns mainGlobals mg) (c : SaysX fa fnD xs K) : OKF P w K mg base "show_rows" fn_show_rows [(0, ["rows"])] := by
  obtain ⟨fd, F⟩ := c.1.def_ 6 (d := d_show_rows) rfl
  have M : Mo P w K mg base T_show_rows 0 I_show_rows := ⟨all_nil, (fun z => (nomatch z)), all_nil, all_nil⟩
  exact ⟨_, fd, df_ok2 F (fn := fn_show_rows) hF_show_rows rfl S_show_rows M rfl rfl e_show_rows (fun z => (nomatch z)) rfl, He.glo_ok X G (c.1.fact 6 (f := .glo "show_rows") rfl), F.kp, (F.bindsN (ps := ["rows"]) fun _ _ _ _ _ _ us hl => match us, hl with | [_], _ => rfl), all_cons (KBn.of0 F fun _ _ _ _ _ _ us ws l1 l2 => match us, l1, ws, l2 with | [], _, [_], _ => rfl) (all_nil)⟩
theorem ok_law_well_2 (X : K.In h) (G : h.Ns mainGlobals mg) (c : SaysX fa fnD xs K) : OKF P w K mg base "_law_well" fn_law_well_2 [] := by
  obtain ⟨fd, F⟩ := c.1.def_ 7 (d := d_law_well_2) rfl
  have M : Mo P w K mg base T_law_well_2 0 I_law_well_2 := ⟨all_cons (He.free_ok X G (c.1.fact 26 (f := .free "abs") rfl)) (all_cons (He.free_ok X G (c.1.fact 30 (f := .free "int") rfl)) (all_cons (He.free_ok X G (c.1.fact 32 (f := .free "len") rfl)) (all_cons (He.free_ok X G (c.1.fact 34 (f := .free "max") rfl)) (all_nil)))), (fun z => (nomatch z)), all_nil, all_nil⟩
  exact ⟨_, fd, df_ok2 F (fn := fn_law_well_2) hF_law_well_2 rfl S_law_well_2 M rfl rfl e_law_well_2 (fun z => (nomatch z)) rfl, He.glo_ok X G (c.1.fact 7 (f := .glo "_law_well") rfl), F.kp, (F.bindsN (ps := ["script", "place"]) fun _ _ _ _ _ _ us hl => match us, hl with | [_, _], _ => rfl), all_nil⟩
theorem ok_law_draw (X : K.In h) (G : h.Ns mainGlobals mg) (c : SaysX fa fnD xs K) : OKF P w K mg base "_law_draw" fn_law_draw [] := by
  obtain ⟨fd, F⟩ := c.1.def_ 8 (d := d_law_draw) rfl
  have M : Mo P w K mg base T_law_draw 0 I_law_draw := ⟨all_cons (He.free_ok X G (c.1.fact 30 (f := .free "int") rfl)) (all_nil), (fun z => (nomatch z)), all_nil, all_nil⟩
  exact ⟨_, fd, df_ok2 F (fn := fn_law_draw) hF_law_draw rfl S_law_draw M rfl rfl e_law_draw (fun _ => by decide +kernel) rfl, He.glo_ok X G (c.1.fact 8 (f := .glo "_law_draw") rfl), F.kp, (F.bindsN (ps := ["well", "many"]) fun _ _ _ _ _ _ us hl => match us, hl with | [_, _], _ => rfl), all_nil⟩
theorem okr_law_same_3 (X : K.In h) (G : h.Ns mainGlobals mg) (c : SaysX fa fnD xs K) : ∀ k, OKF P w K mg base "_law_same" (fnr_law_same_3 k) []
  | 0 => by
    obtain ⟨fd, F⟩ := c.1.def_ 9 (d := d_law_same_3) rfl
    exact ⟨_, fd, fn_none, He.glo_ok X G (c.1.fact 9 (f := .glo "_law_same") rfl), F.kp, (F.bindsN (ps := ["told", "due"]) fun _ _ _ _ _ _ us hl => match us, hl with | [_, _], _ => rfl), all_nil⟩
  | k + 1 => by
    obtain ⟨fd, F⟩ := c.1.def_ 9 (d := d_law_same_3) rfl
    have ih := okr_law_same_3 X G c k
    have M : Mo P w K mg base (T_law_same_3 (fnr_law_same_3 k)) (k + 1) I_law_same_3 := ⟨all_cons (He.free_ok X G (c.1.fact 27 (f := .free "all") rfl)) (all_cons (He.free_ok X G (c.1.fact 28 (f := .free "bool") rfl)) (all_cons (He.free_ok X G (c.1.fact 30 (f := .free "int") rfl)) (all_cons (He.free_ok X G (c.1.fact 31 (f := .free "isinstance") rfl)) (all_cons (He.free_ok X G (c.1.fact 32 (f := .free "len") rfl)) (all_cons (He.free_ok X G (c.1.fact 33 (f := .free "list") rfl)) (all_cons (He.free_ok X G (c.1.fact 36 (f := .free "range") rfl)) (all_cons (He.free_ok X G (c.1.fact 39 (f := .free "str") rfl)) (all_cons (He.free_ok X G (c.1.fact 40 (f := .free "tuple") rfl)) (all_nil))))))))), (fun z => (nomatch z)), all_nil, all_cons ((ih).fnm t_law_same_3_law_same_3 rfl (by show _ ≤ k + 1; exact Nat.le_refl _) (by decide +kernel)) (all_nil)⟩
    exact ⟨_, fd, df_ok2 F (fn := fnr_law_same_3 (k + 1)) hF_law_same_3 rfl S_law_same_3 M rfl rfl e_law_same_3 (fun z => (nomatch z)) (by show k + 1 + 1 = k + 1 + 1; omega), He.glo_ok X G (c.1.fact 9 (f := .glo "_law_same") rfl), F.kp, (F.bindsN (ps := ["told", "due"]) fun _ _ _ _ _ _ us hl => match us, hl with | [_, _], _ => rfl), all_nil⟩
theorem ok_law_same_3 (X : K.In h) (G : h.Ns mainGlobals mg) (c : SaysX fa fnD xs K) : OKF P w K mg base "_law_same" fn_law_same_3 [] := okr_law_same_3 X G c 8
theorem ok_law_lowest (X : K.In h) (G : h.Ns mainGlobals mg) (c : SaysX fa fnD xs K) : OKF P w K mg base "_law_lowest" fn_law_lowest [] := by
  obtain ⟨fd, F⟩ := c.1.def_ 10 (d := d_law_lowest) rfl
  have M : Mo P w K mg base T_law_lowest 0 I_law_lowest := ⟨all_cons (He.free_ok X G (c.1.fact 26 (f := .free "abs") rfl)) (all_cons (He.free_ok X G (c.1.fact 30 (f := .free "int") rfl)) (all_nil)), (fun z => (nomatch z)), all_nil, all_nil⟩
  exact ⟨_, fd, df_ok2 F (fn := fn_law_lowest) hF_law_lowest rfl S_law_lowest M rfl rfl e_law_lowest (fun z => (nomatch z)) rfl, He.glo_ok X G (c.1.fact 10 (f := .glo "_law_lowest") rfl), F.kp, (F.bindsN (ps := ["top", "bottom"]) fun _ _ _ _ _ _ us hl => match us, hl with | [_, _], _ => rfl), all_nil⟩
theorem ok_law_power_2 (X : K.In h) (G : h.Ns mainGlobals mg) (c : SaysX fa fnD xs K) : OKF P w K mg base "_law_power" fn_law_power_2 [] := by
  obtain ⟨fd, F⟩ := c.1.def_ 11 (d := d_law_power_2) rfl
  have M : Mo P w K mg base T_law_power_2 0 I_law_power_2 := ⟨all_cons (He.free_ok X G (c.1.fact 36 (f := .free "range") rfl)) (all_nil), (fun z => (nomatch z)), all_nil, all_nil⟩
  exact ⟨_, fd, df_ok2 F (fn := fn_law_power_2) hF_law_power_2 rfl S_law_power_2 M rfl rfl e_law_power_2 (fun z => (nomatch z)) rfl, He.glo_ok X G (c.1.fact 11 (f := .glo "_law_power") rfl), F.kp, (F.bindsN (ps := ["many"]) fun _ _ _ _ _ _ us hl => match us, hl with | [_], _ => rfl), all_nil⟩
theorem ok_law_number (X : K.In h) (G : h.Ns mainGlobals mg) (c : SaysX fa fnD xs K) : OKF P w K mg base "_law_number" fn_law_number [] := by
  obtain ⟨fd, F⟩ := c.1.def_ 12 (d := d_law_number) rfl
  have M : Mo P w K mg base T_law_number 1 I_law_number := ⟨all_nil, (fun z => (nomatch z)), all_nil, all_cons ((ok_law_lowest X G c).fnm t_law_number_law_lowest rfl (by decide) (by decide +kernel)) (all_cons ((ok_law_draw X G c).fnm t_law_number_law_draw rfl (by decide) (by decide +kernel)) (all_cons ((ok_law_power_2 X G c).fnm t_law_number_law_power_2 rfl (by decide) (by decide +kernel)) (all_nil)))⟩
  exact ⟨_, fd, df_ok2 F (fn := fn_law_number) hF_law_number rfl S_law_number M rfl rfl e_law_number (fun _ => by decide +kernel) rfl, He.glo_ok X G (c.1.fact 12 (f := .glo "_law_number") rfl), F.kp, (F.bindsN (ps := ["well", "most"]) fun _ _ _ _ _ _ us hl => match us, hl with | [_, _], _ => rfl), all_nil⟩
theorem ok_law_grows_3 (X : K.In h) (G : h.Ns mainGlobals mg) (c : SaysX fa fnD xs K) : OKF P w K mg base "_law_grows" fn_law_grows_3 [] := by
  obtain ⟨fd, F⟩ := c.1.def_ 13 (d := d_law_grows_3) rfl
  have M : Mo P w K mg base T_law_grows_3 0 I_law_grows_3 := ⟨all_nil, (fun z => (nomatch z)), all_nil, all_nil⟩
  exact ⟨_, fd, df_ok2 F (fn := fn_law_grows_3) hF_law_grows_3 rfl S_law_grows_3 M rfl rfl e_law_grows_3 (fun z => (nomatch z)) rfl, He.glo_ok X G (c.1.fact 13 (f := .glo "_law_grows") rfl), F.kp, (F.bindsN (ps := ["table"]) fun _ _ _ _ _ _ us hl => match us, hl with | [_], _ => rfl), all_nil⟩
theorem ok_law_table_3 (X : K.In h) (G : h.Ns mainGlobals mg) (c : SaysX fa fnD xs K) : OKF P w K mg base "_law_table" fn_law_table_3 [] := by
  obtain ⟨fd, F⟩ := c.1.def_ 14 (d := d_law_table_3) rfl
  have M : Mo P w K mg base T_law_table_3 1 I_law_table_3 := ⟨all_cons (He.free_ok X G (c.1.fact 26 (f := .free "abs") rfl)) (all_cons (He.free_ok X G (c.1.fact 36 (f := .free "range") rfl)) (all_nil)), (fun z => (nomatch z)), all_nil, all_cons ((ok_law_draw X G c).fnm t_law_table_3_law_draw rfl (by decide) (by decide +kernel)) (all_cons ((ok_law_grows_3 X G c).fnm t_law_table_3_law_grows_3 rfl (by decide) (by decide +kernel)) (all_nil))⟩
  exact ⟨_, fd, df_ok2 F (fn := fn_law_table_3) hF_law_table_3 rfl S_law_table_3 M rfl rfl e_law_table_3 (fun _ => by decide +kernel) rfl, He.glo_ok X G (c.1.fact 14 (f := .glo "_law_table") rfl), F.kp, (F.bindsN (ps := ["well"]) fun _ _ _ _ _ _ us hl => match us, hl with | [_], _ => rfl), all_nil⟩
theorem ok_law_copies (X : K.In h) (G : h.Ns mainGlobals mg) (c : SaysX fa fnD xs K) : OKF P w K mg base "_law_copies" fn_law_copies [] := by
  obtain ⟨fd, F⟩ := c.1.def_ 15 (d := d_law_copies) rfl
  have M : Mo P w K mg base T_law_copies 1 I_law_copies := ⟨all_cons (He.free_ok X G (c.1.fact 36 (f := .free "range") rfl)) (all_cons (He.free_ok X G (c.1.fact 37 (f := .free "set") rfl)) (all_cons (He.free_ok X G (c.1.fact 38 (f := .free "sorted") rfl)) (all_cons (He.free_ok X G (c.1.fact 40 (f := .free "tuple") rfl)) (all_nil)))), (fun z => (nomatch z)), all_nil, all_cons ((ok_law_draw X G c).fnm t_law_copies_law_draw rfl (by decide) (by decide +kernel)) (all_nil)⟩
  exact ⟨_, fd, df_ok2 F (fn := fn_law_copies) hF_law_copies rfl S_law_copies M rfl rfl e_law_copies (fun _ => by decide +kernel) rfl, He.glo_ok X G (c.1.fact 15 (f := .glo "_law_copies") rfl), F.kp, (F.bindsN (ps := ["well", "many", "wide", "states"]) fun _ _ _ _ _ _ us hl => match us, hl with | [_, _, _, _], _ => rfl), all_nil⟩
theorem ok_law_product_2 (X : K.In h) (G : h.Ns mainGlobals mg) (c : SaysX fa fnD xs K) : OKF P w K mg base "_law_product" fn_law_product_2 [] := by
  obtain ⟨fd, F⟩ := c.1.def_ 16 (d := d_law_product_2) rfl
  have M : Mo P w K mg base T_law_product_2 0 I_law_product_2 := ⟨all_cons (He.free_ok X G (c.1.fact 36 (f := .free "range") rfl)) (all_cons (He.free_ok X G (c.1.fact 40 (f := .free "tuple") rfl)) (all_nil)), (fun z => (nomatch z)), all_nil, all_nil⟩
  exact ⟨_, fd, df_ok2 F (fn := fn_law_product_2) hF_law_product_2 rfl S_law_product_2 M rfl rfl e_law_product_2 (fun z => (nomatch z)) rfl, He.glo_ok X G (c.1.fact 16 (f := .glo "_law_product") rfl), F.kp, (F.bindsN (ps := ["one", "other"]) fun _ _ _ _ _ _ us hl => match us, hl with | [_, _], _ => rfl), all_nil⟩
theorem ok_law_kit_2 (X : K.In h) (G : h.Ns mainGlobals mg) (c : SaysX fa fnD xs K) : OKF P w K mg base "_law_kit" fn_law_kit_2 [] := by
  obtain ⟨fd, F⟩ := c.1.def_ 17 (d := d_law_kit_2) rfl
  have M : Mo P w K mg base T_law_kit_2 2 I_law_kit_2 := ⟨all_cons (He.free_ok X G (c.1.fact 36 (f := .free "range") rfl)) (all_cons (He.free_ok X G (c.1.fact 40 (f := .free "tuple") rfl)) (all_nil)), (fun z => (nomatch z)), all_nil, all_cons ((ok_law_table_3 X G c).fnm t_law_kit_2_law_table_3 rfl (by decide) (by decide +kernel)) (all_cons ((ok_law_product_2 X G c).fnm t_law_kit_2_law_product_2 rfl (by decide) (by decide +kernel)) (all_cons ((ok_law_draw X G c).fnm t_law_kit_2_law_draw rfl (by decide) (by decide +kernel)) (all_cons ((ok_law_copies X G c).fnm t_law_kit_2_law_copies rfl (by decide) (by decide +kernel)) (all_nil))))⟩
  exact ⟨_, fd, df_ok2 F (fn := fn_law_kit_2) hF_law_kit_2 rfl S_law_kit_2 M rfl rfl e_law_kit_2 (fun _ => by decide +kernel) rfl, He.glo_ok X G (c.1.fact 17 (f := .glo "_law_kit") rfl), F.kp, (F.bindsN (ps := ["well"]) fun _ _ _ _ _ _ us hl => match us, hl with | [_], _ => rfl), all_nil⟩
theorem ok_law_address (X : K.In h) (G : h.Ns mainGlobals mg) (c : SaysX fa fnD xs K) : OKF P w K mg base "_law_address" fn_law_address [] := by
  obtain ⟨fd, F⟩ := c.1.def_ 18 (d := d_law_address) rfl
  have M : Mo P w K mg base T_law_address 1 I_law_address := ⟨all_cons (He.free_ok X G (c.1.fact 36 (f := .free "range") rfl)) (all_cons (He.free_ok X G (c.1.fact 40 (f := .free "tuple") rfl)) (all_nil)), (fun z => (nomatch z)), all_nil, all_cons ((ok_law_draw X G c).fnm t_law_address_law_draw rfl (by decide) (by decide +kernel)) (all_nil)⟩
  exact ⟨_, fd, df_ok2 F (fn := fn_law_address) hF_law_address rfl S_law_address M rfl rfl e_law_address (fun _ => by decide +kernel) rfl, He.glo_ok X G (c.1.fact 18 (f := .glo "_law_address") rfl), F.kp, (F.bindsN (ps := ["well"]) fun _ _ _ _ _ _ us hl => match us, hl with | [_], _ => rfl), all_nil⟩
theorem ok_law_said_number (X : K.In h) (G : h.Ns mainGlobals mg) (c : SaysX fa fnD xs K) : OKF P w K mg base "_law_said_number" fn_law_said_number [] := by
  obtain ⟨fd, F⟩ := c.1.def_ 19 (d := d_law_said_number) rfl
  have M : Mo P w K mg base T_law_said_number 0 I_law_said_number := ⟨all_cons (He.free_ok X G (c.1.fact 39 (f := .free "str") rfl)) (all_nil), (fun z => (nomatch z)), all_nil, all_nil⟩
  exact ⟨_, fd, df_ok2 F (fn := fn_law_said_number) hF_law_said_number rfl S_law_said_number M rfl rfl e_law_said_number (fun z => (nomatch z)) rfl, He.glo_ok X G (c.1.fact 19 (f := .glo "_law_said_number") rfl), F.kp, (F.bindsN (ps := ["number"]) fun _ _ _ _ _ _ us hl => match us, hl with | [_], _ => rfl), all_nil⟩
theorem ok_law_said_address (X : K.In h) (G : h.Ns mainGlobals mg) (c : SaysX fa fnD xs K) : OKF P w K mg base "_law_said_address" fn_law_said_address [] := by
  obtain ⟨fd, F⟩ := c.1.def_ 20 (d := d_law_said_address) rfl
  have M : Mo P w K mg base T_law_said_address 0 I_law_said_address := ⟨all_cons (He.free_ok X G (c.1.fact 39 (f := .free "str") rfl)) (all_nil), (fun z => (nomatch z)), all_nil, all_nil⟩
  exact ⟨_, fd, df_ok2 F (fn := fn_law_said_address) hF_law_said_address rfl S_law_said_address M rfl rfl e_law_said_address (fun z => (nomatch z)) rfl, He.glo_ok X G (c.1.fact 20 (f := .glo "_law_said_address") rfl), F.kp, (F.bindsN (ps := ["address"]) fun _ _ _ _ _ _ us hl => match us, hl with | [_], _ => rfl), all_nil⟩
theorem ok_law_said_copies (X : K.In h) (G : h.Ns mainGlobals mg) (c : SaysX fa fnD xs K) : OKF P w K mg base "_law_said_copies" fn_law_said_copies [] := by
  obtain ⟨fd, F⟩ := c.1.def_ 21 (d := d_law_said_copies) rfl
  have M : Mo P w K mg base T_law_said_copies 0 I_law_said_copies := ⟨all_cons (He.free_ok X G (c.1.fact 39 (f := .free "str") rfl)) (all_nil), (fun z => (nomatch z)), all_nil, all_nil⟩
  exact ⟨_, fd, df_ok2 F (fn := fn_law_said_copies) hF_law_said_copies rfl S_law_said_copies M rfl rfl e_law_said_copies (fun z => (nomatch z)) rfl, He.glo_ok X G (c.1.fact 21 (f := .glo "_law_said_copies") rfl), F.kp, (F.bindsN (ps := ["copies"]) fun _ _ _ _ _ _ us hl => match us, hl with | [_], _ => rfl), all_nil⟩
theorem ok_law_said_kit (X : K.In h) (G : h.Ns mainGlobals mg) (c : SaysX fa fnD xs K) : OKF P w K mg base "_law_said_kit" fn_law_said_kit [] := by
  obtain ⟨fd, F⟩ := c.1.def_ 22 (d := d_law_said_kit) rfl
  have M : Mo P w K mg base T_law_said_kit 1 I_law_said_kit := ⟨all_cons (He.free_ok X G (c.1.fact 29 (f := .free "enumerate") rfl)) (all_cons (He.free_ok X G (c.1.fact 39 (f := .free "str") rfl)) (all_nil)), (fun z => (nomatch z)), all_nil, all_cons ((ok_law_said_copies X G c).fnm t_law_said_kit_law_said_copies rfl (by decide) (by decide +kernel)) (all_nil)⟩
  exact ⟨_, fd, df_ok2 F (fn := fn_law_said_kit) hF_law_said_kit rfl S_law_said_kit M rfl rfl e_law_said_kit (fun z => (nomatch z)) rfl, He.glo_ok X G (c.1.fact 22 (f := .glo "_law_said_kit") rfl), F.kp, (F.bindsN (ps := ["kit"]) fun _ _ _ _ _ _ us hl => match us, hl with | [_], _ => rfl), all_nil⟩
theorem ok_law_thing (X : K.In h) (G : h.Ns mainGlobals mg) (c : SaysX fa fnD xs K) : OKF P w K mg base "_law_thing" fn_law_thing [] := by
  obtain ⟨fd, F⟩ := c.1.def_ 23 (d := d_law_thing) rfl
  have M : Mo P w K mg base T_law_thing 3 I_law_thing := ⟨all_cons (He.free_ok X G (c.1.fact 36 (f := .free "range") rfl)) (all_nil), (fun z => (nomatch z)), all_nil, all_cons ((ok_law_draw X G c).fnm t_law_thing_law_draw rfl (by decide) (by decide +kernel)) (all_cons ((ok_law_number X G c).fnm t_law_thing_law_number rfl (by decide) (by decide +kernel)) (all_cons ((ok_law_address X G c).fnm t_law_thing_law_address rfl (by decide) (by decide +kernel)) (all_cons ((ok_law_kit_2 X G c).fnm t_law_thing_law_kit_2 rfl (by decide) (by decide +kernel)) (all_cons ((ok_law_said_number X G c).fnm t_law_thing_law_said_number rfl (by decide) (by decide +kernel)) (all_cons ((ok_law_said_address X G c).fnm t_law_thing_law_said_address rfl (by decide) (by decide +kernel)) (all_cons ((ok_law_said_kit X G c).fnm t_law_thing_law_said_kit rfl (by decide) (by decide +kernel)) (all_nil)))))))⟩
  exact ⟨_, fd, df_ok2 F (fn := fn_law_thing) hF_law_thing rfl S_law_thing M rfl rfl e_law_thing (fun _ => by decide +kernel) rfl, He.glo_ok X G (c.1.fact 23 (f := .glo "_law_thing") rfl), F.kp, (F.bindsN (ps := ["well", "door"]) fun _ _ _ _ _ _ us hl => match us, hl with | [_, _], _ => rfl), all_nil⟩
theorem ok_law_shown (X : K.In h) (G : h.Ns mainGlobals mg) (c : SaysX fa fnD xs K) : OKF P w K mg base "_law_shown" fn_law_shown [] := by
  obtain ⟨fd, F⟩ := c.1.def_ 24 (d := d_law_shown) rfl
  have M : Mo P w K mg base T_law_shown 3 I_law_shown := ⟨all_nil, (fun z => (nomatch z)), all_nil, all_cons ((ok_show_rows X G c).fnm t_law_shown_show_rows rfl (by decide) (by decide +kernel)) (all_cons ((ok_show_number X G c).fnm t_law_shown_show_number rfl (by decide) (by decide +kernel)) (all_cons ((ok_show_point X G c).fnm t_law_shown_show_point rfl (by decide) (by decide +kernel)) (all_cons ((ok_show_address X G c).fnm t_law_shown_show_address rfl (by decide) (by decide +kernel)) (all_cons ((ok_show_kit X G c).fnm t_law_shown_show_kit rfl (by decide) (by decide +kernel)) (all_nil)))))⟩
  exact ⟨_, fd, df_ok2 F (fn := fn_law_shown) hF_law_shown rfl S_law_shown M rfl rfl e_law_shown (fun z => (nomatch z)) rfl, He.glo_ok X G (c.1.fact 24 (f := .glo "_law_shown") rfl), F.kp, (F.bindsN (ps := ["door", "thing", "named"]) fun _ _ _ _ _ _ us hl => match us, hl with | [_, _, _], _ => rfl), all_nil⟩
theorem okl_law_10 (X : K.In h) (G : h.Ns mainGlobals mg) (c : SaysX fa fnD xs K) {fd : FuncData} (F : FunD K d_law_10.name d_law_10.qual d_law_10.params d_law_10.body d_law_10.scope (He.DefD.dvs K d_law_10) (He.DefD.kws K d_law_10) (He.fAd K d_law_10.at_) fd) : FnPr P w K mg base fn_law_10.lvl (He.fAd K d_law_10.at_) fd fn_law_10.ps (spF K fn_law_10) := by
  have M : Mo P w K mg base T_law_10 9 I_law_10 := ⟨all_cons (He.free_ok X G (c.1.fact 32 (f := .free "len") rfl)) (all_cons (He.free_ok X G (c.1.fact 33 (f := .free "list") rfl)) (all_cons (He.free_ok X G (c.1.fact 34 (f := .free "max") rfl)) (all_cons (He.free_ok X G (c.1.fact 35 (f := .free "min") rfl)) (all_cons (He.free_ok X G (c.1.fact 36 (f := .free "range") rfl)) (all_nil))))), (fun z => (nomatch z)), all_nil, all_cons ((ok_law_well_2 X G c).fnm t_law_10_law_well_2 rfl (by decide) (by decide +kernel)) (all_cons ((ok_law_thing X G c).fnm t_law_10_law_thing rfl (by decide) (by decide +kernel)) (all_cons ((ok_law_same_3 X G c).fnm t_law_10_law_same_3 rfl (by decide) (by decide +kernel)) (all_cons ((ok_law_shown X G c).fnm t_law_10_law_shown rfl (by decide) (by decide +kernel)) (all_cons ((ok_law_draw X G c).fnm t_law_10_law_draw rfl (by decide) (by decide +kernel)) (all_nil)))))⟩
  exact df_ok2 F (fn := fn_law_10) hF_law_10 rfl S_law_10 M rfl rfl e_law_10 (fun z => (nomatch z)) rfl
end
end Ok
namespace Df
open PySem Lt
abbrev dP (x y : Int) : D := .tuple [.int x, .int y]
structure Tb where
  a : Int
  b : Int
  c : Int
  d : Int
  deriving DecidableEq
abbrev dT (t : Tb) : D := .tuple [.tuple [.int t.a, .int t.b], .tuple [.int t.c, .int t.d]]
/-- below 2 ^ n in size -/
def B (n : Nat) (i : Int) : Prop := i.natAbs < 2 ^ n
theorem B.mono {n m : Nat} {i : Int} (h : B n i) (k : n ≤ m) : B m i := Nat.lt_of_lt_of_le h (Nat.pow_le_pow_right (by decide) k)
theorem B.neg {n : Nat} {i : Int} (h : B n i) : B n (-i) := by unfold B at *; rwa [Int.natAbs_neg]
theorem B.mul {n m : Nat} {i j : Int} (h : B n i) (k : B m j) : B (n + m) (i * j) := by
  unfold B at *
  rw [Int.natAbs_mul, Nat.pow_add]
  rcases Nat.eq_zero_or_pos j.natAbs with e | e
  · rw [e, Nat.mul_zero]; exact Nat.mul_pos (Nat.two_pow_pos n) (Nat.two_pow_pos m)
  · exact Nat.lt_of_lt_of_le (Nat.mul_lt_mul_of_pos_right h e) (Nat.mul_le_mul_left _ (Nat.le_of_lt k))
theorem B.add {n : Nat} {i j : Int} (h : B n i) (k : B n j) : B (n + 1) (i + j) := by
  unfold B at *
  rw [Nat.pow_succ]
  omega
theorem B.sub {n : Nat} {i j : Int} (h : B n i) (k : B n j) : B (n + 1) (i - j) := by
  unfold B at *
  rw [Nat.pow_succ]
  omega
theorem B.mulOk {n m : Nat} {i j : Int} (h : B n i) (k : B m j) (l : n + m ≤ 900000) : mulOk i j = true := by
  unfold Lt.mulOk
  have l1 : i.natAbs.log2 ≤ n := by
    by_cases z : i.natAbs = 0
    · rw [z]; exact Nat.zero_le _
    · exact Nat.le_of_lt ((Nat.log2_lt z).mpr h)
  have l2 : j.natAbs.log2 ≤ m := by
    by_cases z : j.natAbs = 0
    · rw [z]; exact Nat.zero_le _
    · exact Nat.le_of_lt ((Nat.log2_lt z).mpr k)
  have : i.natAbs.log2 + j.natAbs.log2 < 1000000 := by omega
  rw [decide_eq_true this, Bool.or_true]
theorem B.divOk {n : Nat} {j : Int} (h : B n j) (h0 : j ≠ 0) (l : n ≤ 8999) : divOk j = true := by
  unfold Lt.divOk
  have l1 : j.natAbs.log2 < 9000 := by
    have := (Nat.log2_lt (n := j.natAbs) (k := n) (by omega)).mpr h
    omega
  rw [decide_eq_true l1, decide_eq_true h0]; rfl
theorem B.zero {n : Nat} : B n 0 := Nat.two_pow_pos n
theorem B.one {n : Nat} : B (n + 1) 1 := by
  unfold B
  exact Nat.one_lt_two_pow (by omega)
theorem B.ediv {n : Nat} {i j : Int} (h : B n i) : B n (i / j) := Nat.lt_of_le_of_lt (Int.natAbs_ediv_le_natAbs i j) h
/-- a table's entries -/
structure TB (n : Nat) (t : Tb) : Prop where
  a : B n t.a
  b : B n t.b
  c : B n t.c
  d : B n t.d
theorem TB.mono {n m : Nat} {t : Tb} (h : TB n t) (k : n ≤ m) : TB m t := ⟨h.a.mono k, h.b.mono k, h.c.mono k, h.d.mono k⟩
def Tb.det (t : Tb) : Int := t.a * t.d - t.b * t.c
def Tb.tr (t : Tb) : Int := t.a + t.d
def Tb.mul (s t : Tb) : Tb := ⟨s.a * t.a + s.b * t.c, s.a * t.b + s.b * t.d, s.c * t.a + s.d * t.c, s.c * t.b + s.d * t.d⟩
def Tb.one : Tb := ⟨1, 0, 0, 1⟩
theorem TB.mul {n m : Nat} {s t : Tb} (h : TB n s) (k : TB m t) : TB (n + m + 1) (s.mul t) := ⟨(h.a.mul k.a).add (h.b.mul k.c), (h.a.mul k.b).add (h.b.mul k.d), (h.c.mul k.a).add (h.d.mul k.c), (h.c.mul k.b).add (h.d.mul k.d)⟩
theorem TB.one {n : Nat} : TB (n + 1) Tb.one := ⟨B.one, B.zero, B.zero, B.one⟩
theorem TB.det {n : Nat} {t : Tb} (h : TB n t) : B (n + n + 1) t.det := (h.a.mul h.d).sub (h.b.mul h.c)
/-- it grows -/
def Tb.grow (t : Tb) : Bool := (decide (2 ≤ t.det) && (decide (-t.det ≤ t.tr) && decide (t.tr ≤ t.det))) || (decide (t.det ≤ -2) && (decide (t.det + 2 ≤ t.tr) && decide (t.tr ≤ -t.det - 2)))
theorem Tb.grow_iff {t : Tb} : t.grow = true ↔ (2 ≤ t.det ∧ -t.det ≤ t.a + t.d ∧ t.a + t.d ≤ t.det) ∨ (t.det ≤ -2 ∧ t.det + 2 ≤ t.a + t.d ∧ t.a + t.d ≤ -t.det - 2) := by
  unfold Tb.grow
  simp only [Bool.or_eq_true, Bool.and_eq_true, decide_eq_true_eq]
  rfl
def isInt : D → Bool
  | .int _ => true
  | _ => false
def isOff : D → Bool
  | .tuple [x, y] => isInt x && isInt y
  | _ => false
def isTab : D → Bool
  | .tuple [x, y] => isOff x && isOff y
  | _ => false
theorem isTab_dT {t : Tb} : isTab (dT t) = true := rfl
end Df
namespace Df
open PySem Lt
variable {K : Cell → Cell → Prop}
/-- the number p by q, in lowest terms -/
def lowT (p q : Int) : Int := if q < 0 then -(p / (Int.gcd p q : Int)) else p / (Int.gcd p q : Int)
def lowB (p q : Int) : Int := if q < 0 then -(q / (Int.gcd p q : Int)) else q / (Int.gcd p q : Int)
theorem gcd_pos {p q : Int} (h : q ≠ 0) : 0 < (Int.gcd p q : Int) := by
  have := Int.gcd_pos_of_ne_zero_right p h
  omega
theorem B.gcd {n : Nat} {p q : Int} (h : B n q) (h0 : q ≠ 0) : B n (Int.gcd p q : Int) := by
  have h1 : Int.gcd p q ≤ q.natAbs := Nat.le_of_dvd (by omega) (Nat.gcd_dvd_right ..)
  show (Int.gcd p q : Int).natAbs < _
  have h2 : q.natAbs < 2 ^ n := h
  omega
theorem fdiv_pos {p g : Int} (h : 0 < g) : p.fdiv g = p / g := Int.fdiv_eq_ediv_of_nonneg _ (by omega)
end Df
namespace Df
open PySem Lt
variable {K : Cell → Cell → Prop}
/-- the table that a value is -/
def tabOf : D → Tb
  | .tuple [.tuple [.int a, .int b], .tuple [.int c, .int d]] => ⟨a, b, c, d⟩
  | _ => .one
def isGrow (v : D) : Bool := isTab v && (tabOf v).grow
theorem isGrow_dT {t : Tb} : isGrow (dT t) = t.grow := by simp [isGrow, tabOf, isTab_dT]
end Df
namespace Df
open PySem Lt
variable {K : Cell → Cell → Prop}
abbrev dk (p q : Int) : Cell := .own [.int p, .int q]
theorem mulOk_l {i j : Int} (h : i.natAbs < 2 ^ 64) : mulOk i j = true := mulOk_small h
theorem mulOk_r {i j : Int} (h : j.natAbs < 2 ^ 64) : mulOk i j = true := mulOk_smallR h
theorem fmod_lt {a m : Int} (h : 0 < m) : 0 ≤ a.fmod m ∧ a.fmod m < m := by
  rw [Int.fmod_eq_emod_of_nonneg _ (by omega)]
  exact ⟨Int.emod_nonneg _ (by omega), Int.emod_lt_of_pos _ h⟩
theorem fdiv_nn {a m : Int} (h : 0 < m) (h0 : 0 ≤ a) : 0 ≤ a.fdiv m := by
  rw [fdiv_pos h]
  exact Int.ediv_nonneg h0 (by omega)
theorem abs_nat {i : Int} : (if i < 0 then -i else i) = ((i.natAbs : Nat) : Int) := by split <;> omega
mutual
/-- a value of few levels -/
def smOk : Nat → D → Bool
  | k, .list xs => smOks k xs && decide (xs.length ≤ 1000000)
  | k, .tuple xs => smOks k xs && decide (xs.length ≤ 1000000)
  | _, .dict _ => false
  | _, .none => true
  | _, .bool _ => true
  | _, .int _ => true
  | _, .str _ => true
def smOks : Nat → List D → Bool
  | _, [] => true
  | 0, _ :: _ => false
  | k + 1, x :: xs => smOk k x && smOks (k + 1) xs
end
theorem smOks_mem {k : Nat} : ∀ {xs : List D}, smOks (k + 1) xs = true → ∀ x ∈ xs, smOk k x = true
  | [], _, x, h => by cases h
  | y :: ys, h, x, hx => by
    obtain ⟨h1, h2⟩ := Bool.and_eq_true_iff.mp (show (smOk k y && smOks (k + 1) ys) = true from h)
    rcases List.mem_cons.mp hx with e | e
    · rw [e]; exact h1
    · exact smOks_mem h2 x e
theorem smOks_zero : ∀ {xs : List D}, smOks 0 xs = true → xs = []
  | [], _ => rfl
  | _ :: _, h => by cases h
/-- an item of a list of tables at a drawn place -/
theorem ix_tabs {ts : List Tb} {r : Int} {Q : D → Prop} (h0 : 0 ≤ r) (h1 : r < ts.length) (k : ∀ t ∈ ts, Q (dT t)) : WV (idxD (.list (ts.map fun t => dT t)) (.int r)) Q := by
  obtain ⟨i, rfl⟩ := Int.eq_ofNat_of_zero_le h0
  have hi : i < ts.length := by omega
  exact ixLn (d := dT ts[i]) (by simp [hi]) (k _ (List.getElem_mem hi))
/-- what the drawn tables are -/
structure Grid (t : Tb) : Prop where
  g : t.grow = true
  a : -3 ≤ t.a ∧ t.a ≤ 3
  b : -3 ≤ t.b ∧ t.b ≤ 3
  c : -3 ≤ t.c ∧ t.c ≤ 3
  d : -3 ≤ t.d ∧ t.d ≤ 3
  h : -9 ≤ t.det ∧ t.det ≤ 9
theorem Grid.tb {t : Tb} (h : Grid t) : TB 2 t := by
  have ⟨_, a, b, c, d, _⟩ := h
  refine ⟨?_, ?_, ?_, ?_⟩ <;> (show Int.natAbs _ < 4; omega)
theorem two_lt {m n : Nat} (h : m < 2 ^ 64) (k : 64 ≤ n := by decide) : m < 2 ^ n := Nat.lt_of_lt_of_le h (Nat.pow_le_pow_right (by decide) k)
theorem B_small {n : Nat} {i : Int} (m : Nat) (h : -(m : Int) ≤ i ∧ i ≤ m) (k : m < 2 ^ n) : B n i := by
  unfold B
  omega
end Df
namespace Df
open PySem Lt
theorem low_eqn {p q : Int} (h : q ≠ 0) : lowT p q * q = p * lowB p q := by
  have h1 := Int.ediv_mul_cancel (Int.gcd_dvd_left p q)
  have h2 := Int.ediv_mul_cancel (Int.gcd_dvd_right p q)
  unfold lowT lowB
  generalize p / (Int.gcd p q : Int) = a at *
  generalize q / (Int.gcd p q : Int) = b at *
  split <;> grind
theorem lowB_pos {p q : Int} (h : q ≠ 0) : 0 < lowB p q := by
  have gp := gcd_pos (p := p) h
  have h2 := Int.ediv_mul_cancel (Int.gcd_dvd_right p q)
  unfold lowB
  generalize q / (Int.gcd p q : Int) = b at *
  split
  · rename_i hq
    have : b < 0 := by
      apply Int.lt_of_not_ge
      intro hb
      have := Int.mul_nonneg hb (Int.le_of_lt gp)
      omega
    omega
  · rename_i hq
    have : ¬ b ≤ 0 := by
      intro hb
      have := Int.mul_nonpos_of_nonpos_of_nonneg hb (Int.le_of_lt gp)
      omega
    omega
theorem low_cop {p q : Int} (h : q ≠ 0) : Int.gcd (lowT p q) (lowB p q) = 1 := by
  have h0 : 0 < Int.gcd p q := Int.gcd_pos_of_ne_zero_right p h
  have e : Int.gcd (p / (Int.gcd p q : Int)) (q / (Int.gcd p q : Int)) = 1 := by
    rw [Int.gcd_ediv (Int.gcd_dvd_left ..) (Int.gcd_dvd_right ..), Int.natAbs_natCast, Nat.div_self h0]
  unfold lowT lowB
  split
  · rw [Int.neg_gcd, Int.gcd_neg]; exact e
  · exact e
theorem dvd_cop {b t c : Int} (h : b ∣ t * c) (k : Int.gcd t b = 1) : b ∣ c := by
  have h1 : b.natAbs ∣ t.natAbs * c.natAbs := by rw [← Int.natAbs_mul]; exact Int.natAbs_dvd_natAbs.mpr h
  have h2 : Nat.Coprime b.natAbs t.natAbs := by rw [Nat.coprime_comm]; exact k
  exact Int.natAbs_dvd_natAbs.mp (h2.dvd_of_dvd_mul_left h1)
/-- numbers in lowest terms are one if they are equal -/
theorem num_unique {t b u c : Int} (hb : 0 < b) (hc : 0 < c) (h1 : Int.gcd t b = 1) (h2 : Int.gcd u c = 1) (h : t * c = u * b) : t = u ∧ b = c := by
  have d1 : b ∣ c := by
    have : b ∣ t * c := ⟨u, by rw [h, Int.mul_comm]⟩
    exact dvd_cop this h1
  have d2 : c ∣ b := by
    have : c ∣ u * b := ⟨t, by rw [← h, Int.mul_comm]⟩
    exact dvd_cop this h2
  have e : b = c := Int.le_antisymm (Int.le_of_dvd hc d1) (Int.le_of_dvd hb d2)
  subst e
  exact ⟨Int.eq_of_mul_eq_mul_right (by omega) h, rfl⟩
theorem low_B {p q : Int} {n : Nat} (hp : B n p) : B n (lowT p q) := by
  unfold lowT
  split
  · exact hp.ediv.neg
  · exact hp.ediv
theorem low_B' {p q : Int} {n : Nat} (hq : B n q) : B n (lowB p q) := by
  unfold lowB
  split
  · exact hq.ediv.neg
  · exact hq.ediv
theorem mul_one {t : Tb} : t.mul .one = t := by cases t; simp [Tb.mul, Tb.one]
end Df
namespace Df
open PySem Lt
variable {K : Cell → Cell → Prop}
theorem rat_eta (r : Rat) : (r.num : Rat) / ((r.den : Int) : Rat) = r := by
  rw [← Rat.divInt_eq_div]; exact Rat.num_divInt_den r
theorem den_pos (r : Rat) : 0 < (r.den : Int) := by have := r.den_pos; omega
theorem den_ne (r : Rat) : ((r.den : Int) : Rat) ≠ 0 := by
  have h : (r.den : Int) ≠ 0 := by have := den_pos r; omega
  exact fun z => h (Rat.intCast_inj.mp z)
theorem ne_cast {q : Int} (h : q ≠ 0) : (q : Rat) ≠ 0 := fun z => h (Rat.intCast_inj.mp z)
theorem rat_cross {p q : Int} (h : q ≠ 0) : ((p : Rat) / (q : Rat)).num * q = p * (((p : Rat) / (q : Rat)).den : Int) := by
  have h1 := rat_eta ((p : Rat) / (q : Rat))
  have h2 := ne_cast h
  have h3 := den_ne ((p : Rat) / (q : Rat))
  generalize hr : (p : Rat) / (q : Rat) = r at *
  have h4 : (r.num : Rat) * (q : Rat) = (p : Rat) * ((r.den : Int) : Rat) := by grind
  rw [← Rat.intCast_mul, ← Rat.intCast_mul] at h4
  exact Rat.intCast_inj.mp h4
theorem rat_cop (r : Rat) : Int.gcd r.num (r.den : Int) = 1 := r.reduced
theorem low_rat {p q : Int} (h : q ≠ 0) : lowT p q = ((p : Rat) / (q : Rat)).num ∧ lowB p q = (((p : Rat) / (q : Rat)).den : Int) := by
  have e1 := rat_cross (p := p) h
  have e2 := low_eqn (p := p) h
  refine num_unique (lowB_pos h) (den_pos _) (low_cop h) (rat_cop _) ?_
  generalize ((p : Rat) / (q : Rat)).num = u at *
  generalize (((p : Rat) / (q : Rat)).den : Int) = c at *
  generalize lowT p q = t at *
  generalize lowB p q = b at *
  refine Int.eq_of_mul_eq_mul_right h ?_
  have : t * c * q = t * q * c := by grind
  rw [this, e2]
  have : u * b * q = u * q * b := by grind
  rw [this, e1]
  grind
/-- top and bottom below 2 ^ n -/
structure RB (n : Nat) (r : Rat) : Prop where
  t : B n r.num
  b : B n (r.den : Int)
theorem RB.mono {n m : Nat} {r : Rat} (h : RB n r) (k : n ≤ m) : RB m r := ⟨h.t.mono k, h.b.mono k⟩
theorem RB.of {n : Nat} {p q : Int} (h : q ≠ 0) (hp : B n p) (hq : B n q) : RB n ((p : Rat) / (q : Rat)) := by
  have e := low_rat (p := p) h
  have b1 := low_B (q := q) hp
  have b2 := low_B' (p := p) hq
  rw [e.1] at b1
  rw [e.2] at b2
  exact ⟨b1, b2⟩
theorem RB.int {n : Nat} {p : Int} (hp : B (n + 1) p) : RB (n + 1) (p : Rat) := ⟨by rw [Rat.num_intCast]; exact hp, by rw [Rat.den_intCast]; exact B.one⟩
theorem add_frac (a b : Rat) : ((a.num * (b.den : Int) + b.num * (a.den : Int) : Int) : Rat) / (((a.den : Int) * (b.den : Int) : Int) : Rat) = a + b := by
  have ha := rat_eta a
  have hb := rat_eta b
  have h1 := den_ne a
  have h2 := den_ne b
  rw [Rat.intCast_add, Rat.intCast_mul, Rat.intCast_mul, Rat.intCast_mul]
  generalize (a.num : Rat) = u at *
  generalize (b.num : Rat) = v at *
  generalize ((a.den : Int) : Rat) = x at *
  generalize ((b.den : Int) : Rat) = y at *
  grind
theorem mul_frac (a b : Rat) : ((a.num * b.num : Int) : Rat) / (((a.den : Int) * (b.den : Int) : Int) : Rat) = a * b := by
  have ha := rat_eta a
  have hb := rat_eta b
  have h1 := den_ne a
  have h2 := den_ne b
  rw [Rat.intCast_mul, Rat.intCast_mul]
  generalize (a.num : Rat) = u at *
  generalize (b.num : Rat) = v at *
  generalize ((a.den : Int) : Rat) = x at *
  generalize ((b.den : Int) : Rat) = y at *
  grind
theorem den_mul_ne (a b : Rat) : (a.den : Int) * (b.den : Int) ≠ 0 := by
  have h1 := den_pos a
  have h2 := den_pos b
  exact Int.mul_ne_zero (by omega) (by omega)
theorem RB.add {n m : Nat} {a b : Rat} (ha : RB n a) (hb : RB m b) : RB (n + m + 1) (a + b) := by
  rw [← add_frac a b]
  exact RB.of (den_mul_ne a b) (((ha.t.mul hb.b).mono (by omega)).add ((hb.t.mul ha.b).mono (by omega))) ((ha.b.mul hb.b).mono (by omega))
theorem RB.mul {n m : Nat} {a b : Rat} (ha : RB n a) (hb : RB m b) : RB (n + m) (a * b) := by
  rw [← mul_frac a b]
  exact RB.of (den_mul_ne a b) (ha.t.mul hb.t) (ha.b.mul hb.b)
theorem RB.neg {n : Nat} {a : Rat} (ha : RB n a) : RB n (-a) := ⟨by rw [Rat.neg_num]; exact ha.t.neg, by rw [Rat.neg_den]; exact ha.b⟩
structure PRB (n : Nat) (p : Rat × Rat) : Prop where
  x : RB n p.1
  y : RB n p.2
end Df
namespace Df
open PySem Lt
variable {K : Cell → Cell → Prop}
/-- a copy: its place, its goal -/
structure Cp where
  x : Int
  y : Int
  g : Int
  deriving DecidableEq
abbrev dC (c : Cp) : D := .tuple [dP c.x c.y, .int c.g]
def Cp.lt (a b : Cp) : Bool := decide (a.x < b.x) || (decide (a.x = b.x) && (decide (a.y < b.y) || (decide (a.y = b.y) && decide (a.g < b.g))))
theorem dC_lt {a b : Cp} : PySem.W.dataLt (dC a) (dC b) = a.lt b := by
  unfold PySem.W.dataLt Cp.lt
  simp only [PySem.W.keyToks, PySem.W.keyToksAll, List.cons_append, List.append_nil, List.nil_append, PyProof.Rows.lex_cons]
  have il : ∀ a b : Int, PyProof.Rows.itemLt (.inl a) (.inl b) = decide (a < b) := fun _ _ => rfl
  simp only [PyProof.Rows.lexLt, il, Int.lt_irrefl, decide_false, Bool.false_or, Bool.not_false, Bool.true_and, Bool.and_false, Bool.or_false]
  rw [Bool.eq_iff_iff]
  simp only [Bool.or_eq_true, Bool.and_eq_true, decide_eq_true_eq, Bool.not_eq_true', decide_eq_false_iff_not]
  grind
/-- one after another -/
def ascC (cs : List Cp) : Bool := (List.range (cs.length - 1)).all fun k => (cs.getD k ⟨0, 0, 0⟩).lt (cs.getD (k + 1) ⟨0, 0, 0⟩)
end Df
namespace Df
open PySem Lt
variable {K : Cell → Cell → Prop}
/-- tuples of ints, True, False, None of at most so many levels -/
inductive Nc : Nat → D → Prop where
  | non {k} : Nc k .none
  | bl {k} (b : Bool) : Nc k (.bool b)
  | int {k} (i : Int) (h : i.natAbs < 2 ^ 64) : Nc k (.int i)
  | tup {k} (xs : List D) (hl : xs.length ≤ 1000) (h : ∀ x ∈ xs, Nc k x) : Nc (k + 1) (.tuple xs)
theorem Nc.mono {k m : Nat} {d : D} (h : Nc k d) (l : k ≤ m) : Nc m d := by
  induction h generalizing m with
  | non => exact .non
  | bl b => exact .bl b
  | int i h => exact .int i h
  | @tup k xs hl h ih =>
    obtain ⟨m, rfl⟩ : ∃ m', m = m' + 1 := ⟨m - 1, by omega⟩
    exact .tup xs hl fun x hx => ih x hx (by omega)
theorem Nc.lay {k : Nat} {d : D} (h : Nc k d) : d.canLay0 = true ∧ d.depth ≤ k := by
  induction h with
  | non => exact ⟨rfl, Nat.zero_le _⟩
  | bl b => exact ⟨rfl, Nat.zero_le _⟩
  | int i h => exact ⟨rfl, Nat.zero_le _⟩
  | @tup k xs hl h ih =>
    clear hl h
    have : PyData.canLayAll0 xs = true ∧ PyData.depthAll xs ≤ k := by
      induction xs with
      | nil => exact ⟨rfl, Nat.zero_le _⟩
      | cons x xs i2 =>
        obtain ⟨a1, a2⟩ := ih x (by simp)
        obtain ⟨b1, b2⟩ := i2 fun y hy => ih y (by simp [hy])
        exact ⟨by rw [PyData.canLayAll0, a1, b1]; rfl, by rw [PyData.depthAll]; omega⟩
    exact ⟨by rw [PyData.canLay0]; exact this.1, by rw [PyData.depth]; omega⟩
theorem Nc.shaped {k : Nat} {d : D} (h : Nc k d) (l : k ≤ 60) : SeqAt.shaped d = true := by
  obtain ⟨h1, h2⟩ := h.lay
  unfold SeqAt.shaped
  rw [h1, decide_eq_true (show d.depth ≤ 64 by omega)]; rfl
theorem Nc.items {k : Nat} {xs : List D} (h : Nc (k + 1) (.tuple xs)) : xs.length ≤ 1000 ∧ ∀ x ∈ xs, Nc k x := by
  cases h with
  | tup xs hl h => exact ⟨hl, h⟩
theorem Nc.int_ {k : Nat} {i : Int} (h : Nc k (.int i)) : i.natAbs < 2 ^ 64 := by cases h; assumption
theorem Nc.tb {k : Nat} {t : Tb} (h : Nc (k + 2) (dT t)) : TB 64 t := by
  obtain ⟨_, h⟩ := h.items
  obtain ⟨_, h1⟩ := (h (dP t.a t.b) (by simp)).items
  obtain ⟨_, h2⟩ := (h (dP t.c t.d) (by simp)).items
  exact ⟨(h1 (.int t.a) (by simp)).int_, (h1 (.int t.b) (by simp)).int_, (h2 (.int t.c) (by simp)).int_, (h2 (.int t.d) (by simp)).int_⟩
/-- the goal is one of so many -/
def goalB (many : Int) : D → Bool
  | .int g => decide (0 ≤ g) && decide (g < many)
  | _ => false
def copyB (many : Int) : D → Bool
  | .tuple [x, y] => isOff x && goalB many y
  | _ => false
def cpOf : D → Cp
  | .tuple [.tuple [.int x, .int y], .int g] => ⟨x, y, g⟩
  | _ => ⟨0, 0, 0⟩
def stateB (many : Int) : D → Bool
  | .tuple xs => !xs.isEmpty && (xs.all (copyB many) && ascC (xs.map cpOf))
  | _ => false
def kitB : D → Bool
  | .tuple [t, .tuple ss] => isGrow t && (!ss.isEmpty && ss.all (stateB (ss.length : Nat)))
  | _ => false
end Df
namespace Df
open PySem Lt
variable {K : Cell → Cell → Prop}
theorem dC_eqv {a b : Cp} : PyData.eqv (dC a) (dC b) = decide (a = b) := by
  cases a; cases b
  simp only [PyData.eqv, PyData.eqvAll, Bool.and_true, Cp.mk.injEq]
  rw [Bool.eq_iff_iff]
  simp [and_assoc]
/-- the order of copies -/
def leC (a b : Cp) : Bool := !b.lt a
theorem leC_trans (a b c : Cp) (h1 : leC a b = true) (h2 : leC b c = true) : leC a c = true := by
  unfold leC Cp.lt at *
  simp only [Bool.not_eq_true', Bool.or_eq_false_iff, Bool.and_eq_false_iff, decide_eq_false_iff_not] at *
  omega
theorem leC_total (a b : Cp) : (leC a b || leC b a) = true := by
  unfold leC Cp.lt
  rw [Bool.or_eq_true]
  simp only [Bool.not_eq_true', Bool.or_eq_false_iff, Bool.and_eq_false_iff, decide_eq_false_iff_not]
  omega
theorem leC_lt {a b : Cp} (h : leC a b = true) (n : a ≠ b) : a.lt b = true := by
  unfold leC Cp.lt at *
  simp only [Bool.not_eq_true', Bool.or_eq_false_iff, Bool.and_eq_false_iff, decide_eq_false_iff_not, Bool.or_eq_true, Bool.and_eq_true, decide_eq_true_eq] at *
  have : ¬ (a.x = b.x ∧ a.y = b.y ∧ a.g = b.g) := fun ⟨h1, h2, h3⟩ => n (by cases a; cases b; simp_all)
  omega
theorem sortD_C {cs : List Cp} : sortD (cs.map fun c => dC c) = (cs.mergeSort leC).map fun c => dC c := by
  unfold sortD
  refine (List.map_mergeSort fun a _ b _ => ?_).symm
  show leC a b = !PySem.W.dataLt (dC b) (dC a)
  rw [dC_lt]; rfl
theorem asc_of {l : List Cp} (h : l.Pairwise fun a b => a.lt b = true) : ascC l = true := by
  unfold ascC
  rw [List.all_eq_true]
  intro k hk
  have hk' : k < l.length - 1 := List.mem_range.mp hk
  have h1 : k < l.length := by omega
  have h2 : k + 1 < l.length := by omega
  rw [List.getD_eq_getElem?_getD, List.getD_eq_getElem?_getD, List.getElem?_eq_getElem h1, List.getElem?_eq_getElem h2]
  exact List.pairwise_iff_getElem.mp h k (k + 1) h1 h2 (Nat.lt_succ_self k)
theorem sorted_asc {cs : List Cp} (h : cs.Nodup) : ascC (cs.mergeSort leC) = true := by
  refine asc_of ?_
  have s : (cs.mergeSort leC).Pairwise fun a b => leC a b = true := List.pairwise_mergeSort leC_trans leC_total cs
  have n : (cs.mergeSort leC).Pairwise (· ≠ ·) := (List.mergeSort_perm cs leC).nodup_iff.mpr h
  exact List.Pairwise.imp₂ (fun a b h1 h2 => leC_lt h1 h2) s n
theorem sortOk_C {cs : List Cp} (h : cs.length ≤ 1200) : sortOk (cs.map fun c => dC c) = true := by
  unfold sortOk
  simp only [Bool.and_eq_true, List.all_eq_true, decide_eq_true_eq, Bool.or_eq_true, List.mem_map, List.length_map]
  refine ⟨?_, ?_, .inl ?_, by omega⟩
  · rintro _ ⟨a, _, rfl⟩ _ ⟨b, _, rfl⟩
    rfl
  · rintro _ ⟨a, _, rfl⟩
    exact ⟨rfl, by show (2 : Nat) ≤ 60; decide⟩
  · rintro _ ⟨a, _, rfl⟩
    rfl
/-- a copy of a drawn kit -/
def COk (many far : Int) (c : Cp) : Prop := -far ≤ c.x ∧ c.x ≤ far ∧ -far ≤ c.y ∧ c.y ≤ far ∧ 0 ≤ c.g ∧ c.g < many
structure LOk (many most far : Int) (l : List Cp) : Prop where
  ne : l ≠ []
  len : (l.length : Int) ≤ most
  asc : ascC l = true
  ok : ∀ c ∈ l, COk many far c
abbrev dS (l : List Cp) : D := .tuple (l.map fun c => dC c)
abbrev dG (t : Tb) (ls : List (List Cp)) : D := .tuple [dT t, .tuple (ls.map fun l => dS l)]
end Df
namespace Df
open PySem Lt
variable {K : Cell → Cell → Prop}
/-- a drawn kit -/
structure KG (t : Tb) (ls : List (List Cp)) : Prop where
  g : Grid t
  ne : ls ≠ []
  len : ls.length ≤ 100
  st : ∀ l ∈ ls, l ≠ [] ∧ l.length ≤ 100
  goal : ∀ l ∈ ls, ∀ c ∈ l, 0 ≤ c.g ∧ c.g < ls.length
  far : ∀ l ∈ ls, ∀ c ∈ l, -100 ≤ c.x ∧ c.x ≤ 100 ∧ -100 ≤ c.y ∧ c.y ≤ 100
  kit : kitB (dG t ls) = true
  nc : Nc 6 (dG t ls)
def stAt (ls : List (List Cp)) (s : Int) : List Cp := ls.getD s.toNat []
def cpAt (ls : List (List Cp)) (s a : Int) : Option Cp := if 0 ≤ a then (stAt ls s)[a.toNat]? else none
abbrev Off := Int × Int
def goS (t : Tb) (o : Off) (c : Cp) : Off := (t.a * o.1 + t.b * o.2 + c.x, t.c * o.1 + t.d * o.2 + c.y)
def walkG (t : Tb) (ls : List (List Cp)) : Int → Off → List Int → Option (Int × Off)
  | s, o, [] => some (s, o)
  | s, o, a :: r => (cpAt ls s a).bind fun c => walkG t ls c.g (goS t o c) r
abbrev dW (ps : List Int) : D := .tuple (ps.map .int)
theorem st_mem {ls : List (List Cp)} {s : Int} (h0 : 0 ≤ s) (h1 : s < ls.length) : stAt ls s ∈ ls := by
  unfold stAt
  have h : s.toNat < ls.length := by omega
  rw [List.getD_eq_getElem?_getD, List.getElem?_eq_getElem h]
  exact List.getElem_mem h
theorem cp_mem {ls : List (List Cp)} {s a : Int} {c : Cp} (h : cpAt ls s a = some c) : c ∈ stAt ls s ∧ 0 ≤ a ∧ a < (stAt ls s).length := by
  unfold cpAt at h
  split at h
  · have := List.getElem?_eq_some_iff.mp h
    obtain ⟨h1, h2⟩ := this
    exact ⟨List.mem_of_getElem? h, by assumption, by omega⟩
  · cases h
/-- the numbers of a walk -/
def OB (n : Nat) (o : Off) : Prop := B n o.1 ∧ B n o.2
theorem OB.go {n : Nat} {t : Tb} {o : Off} {c : Cp} (h : OB n o) (g : Grid t) (hx : -100 ≤ c.x ∧ c.x ≤ 100) (hy : -100 ≤ c.y ∧ c.y ≤ 100) (hn : 5 ≤ n) : OB (n + 4) (goS t o c) := by
  have b5 : ∀ i : Int, -100 ≤ i ∧ i ≤ 100 → B (n + 3) i := fun i hi => (B_small 100 hi (show 100 < 2 ^ 7 by decide)).mono (by omega)
  have tb := g.tb
  have e : ∀ i j : Int, B 2 i → B n j → B (n + 2) (i * j) := fun i j h1 h2 => (h1.mul h2).mono (by omega)
  exact ⟨((e _ _ tb.a h.1).add (e _ _ tb.b h.2)).add (b5 _ hx), ((e _ _ tb.c h.1).add (e _ _ tb.d h.2)).add (b5 _ hy)⟩
end Df
namespace Df
open PySem Lt
variable {K : Cell → Cell → Prop}
/-- it is an address -/
def okA (t : Tb) (ls : List (List Cp)) (s : Int) (a b : List Int) : Bool := match walkG t ls s (0, 0) a with
  | none => false
  | some (s1, _) => !b.isEmpty && (match walkG t ls s1 (0, 0) b with
    | none => false
    | some (s2, _) => decide (s2 = s1))
end Df
namespace Df
open PySem Lt
variable {K : Cell → Cell → Prop}
theorem walk_snoc {t : Tb} {ls : List (List Cp)} {a : Int} : ∀ {ps : List Int} {s : Int} {o : Off}, walkG t ls s o (ps ++ [a]) = (walkG t ls s o ps).bind fun q => (cpAt ls q.1 a).map fun c => (c.g, goS t q.2 c)
  | [], s, o => by
    show (cpAt ls s a).bind (fun c => some (c.g, goS t o c)) = (cpAt ls s a).map _
    cases cpAt ls s a <;> rfl
  | b :: r, s, o => by
    show (cpAt ls s b).bind (fun c => walkG t ls c.g (goS t o c) (r ++ [a])) = ((cpAt ls s b).bind fun c => walkG t ls c.g (goS t o c) r).bind _
    cases cpAt ls s b with
    | none => rfl
    | some c => exact walk_snoc
end Df
namespace Df
abbrev RP := Rat × Rat
def radd (p q : RP) : RP := (p.1 + q.1, p.2 + q.2)
def foldO (t : Tb) (o : Off) (cs : List Cp) : Off := cs.foldl (goS t) o
end Df
namespace Df
open PySem Lt
variable {K : Cell → Cell → Prop}
theorem any_int {seen : List Int} {x : Int} : ((seen.map PyData.int).any fun z => PyData.eqv z (.int x)) = decide (x ∈ seen) := by
  rw [List.any_map, Bool.eq_iff_iff, List.any_eq_true, decide_eq_true_eq]
  constructor
  · rintro ⟨y, hy, h⟩
    have : y = x := by simpa [PyData.eqv] using h
    rwa [← this]
  · intro h
    exact ⟨x, h, by simp [PyData.eqv]⟩
/-- a walk of two parts -/
theorem walk_app {t : Tb} {ls : List (List Cp)} {b : List Int} : ∀ {a : List Int} {s : Int} {o : Off}, walkG t ls s o (a ++ b) = (walkG t ls s o a).bind fun q => walkG t ls q.1 q.2 b
  | [], s, o => rfl
  | x :: r, s, o => by
    show (cpAt ls s x).bind (fun c => walkG t ls c.g (goS t o c) (r ++ b)) = ((cpAt ls s x).bind fun c => walkG t ls c.g (goS t o c) r).bind _
    cases cpAt ls s x with
    | none => rfl
    | some c => exact walk_app
/-- where a walk leads hangs not on the offset -/
theorem walk_off {t : Tb} {ls : List (List Cp)} : ∀ {a : List Int} {s : Int} {o o' : Off}, (walkG t ls s o a).map (·.1) = (walkG t ls s o' a).map (·.1)
  | [], s, o, o' => rfl
  | x :: r, s, o, o' => by
    show ((cpAt ls s x).bind fun c => walkG t ls c.g (goS t o c) r).map (·.1) = ((cpAt ls s x).bind fun c => walkG t ls c.g (goS t o' c) r).map (·.1)
    cases cpAt ls s x with
    | none => rfl
    | some c => exact walk_off
end Df
namespace Df
open PySem Lt
variable {K : Cell → Cell → Prop}
/-- distinct numbers below n are at most n -/
theorem nodup_le {n : Nat} {l : List Int} (h : l.Nodup) (hb : ∀ x ∈ l, 0 ≤ x ∧ x < n) : l.length ≤ n := by
  have hm : (l.map Int.toNat).Nodup := by
    refine List.pairwise_map.mpr (List.Pairwise.imp_of_mem (fun {a b} ha hb' hne => ?_) h)
    have h1 := hb a ha
    have h2 := hb b hb'
    omega
  have hs : l.map Int.toNat ⊆ List.range n := fun x hx => by
    obtain ⟨y, hy, rfl⟩ := List.mem_map.mp hx
    have := hb y hy
    exact List.mem_range.mpr (by omega)
  have := List.Nodup.length_le_of_subset hm hs
  simpa using this
/-- the state of the loop -/
structure TrI (t : Tb) (ls : List (List Cp)) (s : Int) (seen ps : List Int) (here : Int) (o : Off) : Prop where
  nd : seen.Nodup
  bd : ∀ x ∈ seen, 0 ≤ x ∧ x < ls.length
  h0 : 0 ≤ here
  h1 : here < ls.length
  len : ps.length = seen.length
  pre : ∀ i x, seen[i]? = some x → ∃ o, walkG t ls s (0, 0) (ps.take i) = some (x, o)
  all : walkG t ls s (0, 0) ps = some (here, o)
  sm : ∀ a ∈ ps, 0 ≤ a ∧ a < 100
theorem TrI.step {t : Tb} {ls : List (List Cp)} {s : Int} {seen ps : List Int} {here : Int} {o : Off} {a : Int} {c : Cp} (G : KG t ls) (I : TrI t ls s seen ps here o) (hn : here ∉ seen) (a0 : 0 ≤ a) (a1 : a < 100) (hc : cpAt ls here a = some c) : TrI t ls s (seen ++ [here]) (ps ++ [a]) c.g (goS t o c) := by
  obtain ⟨e1, e2⟩ := G.goal _ (st_mem I.h0 I.h1) c (cp_mem hc).1
  refine ⟨List.nodup_append.mpr ⟨I.nd, by simp, fun x hx y hy => ?_⟩, fun x hx => ?_, e1, e2, by simp [I.len], fun i x hx => ?_, ?_, fun b hb => ?_⟩
  · rw [List.mem_singleton] at hy
    subst hy
    exact fun z => hn (z ▸ hx)
  · rcases List.mem_append.mp hx with h | h
    · exact I.bd x h
    · rw [List.mem_singleton] at h
      subst h
      exact ⟨I.h0, I.h1⟩
  · have hlt : i < (seen ++ [here]).length := (List.getElem?_eq_some_iff.mp hx).1
    rw [List.length_append, List.length_singleton] at hlt
    rw [List.take_append_of_le_length (by rw [I.len]; omega)]
    by_cases hi : i < seen.length
    · rw [List.getElem?_append_left hi] at hx
      exact I.pre i x hx
    · have hi' : i = seen.length := by omega
      subst hi'
      rw [List.getElem?_append_right (Nat.le_refl _), Nat.sub_self] at hx
      have : here = x := by simpa using hx
      subst this
      rw [← I.len, List.take_length]
      exact ⟨o, I.all⟩
  · rw [walk_snoc, I.all]
    show (cpAt ls here a).map _ = _
    rw [hc]; rfl
  · rcases List.mem_append.mp hb with h | h
    · exact I.sm b h
    · rw [List.mem_singleton] at h
      subst h
      exact ⟨a0, a1⟩
/-- behind the loop: a way to the ring, the ring -/
theorem TrI.done {t : Tb} {ls : List (List Cp)} {s : Int} {seen ps : List Int} {here : Int} {o : Off} {i : Nat} (I : TrI t ls s seen ps here o) (hi : seen[i]? = some here) : ∃ o1 o2, walkG t ls s (0, 0) (ps.take i) = some (here, o1) ∧ walkG t ls here (0, 0) (ps.drop i) = some (here, o2) ∧ ps.drop i ≠ [] := by
  obtain ⟨o1, h1⟩ := I.pre i here hi
  have hlt : i < seen.length := (List.getElem?_eq_some_iff.mp hi).1
  have hall := I.all
  rw [← List.take_append_drop i ps, walk_app, h1] at hall
  have hall' : walkG t ls here o1 (ps.drop i) = some (here, o) := hall
  have := walk_off (t := t) (ls := ls) (a := ps.drop i) (s := here) (o := o1) (o' := (0, 0))
  rw [hall'] at this
  cases hq : walkG t ls here (0, 0) (ps.drop i) with
  | none => rw [hq] at this; cases this
  | some q =>
    rw [hq] at this
    obtain ⟨q1, q2⟩ := q
    cases (show some here = some q1 from this)
    refine ⟨o1, q2, h1, rfl, fun z => ?_⟩
    have : (ps.drop i).length = 0 := by rw [z]; rfl
    rw [List.length_drop, I.len] at this
    omega
def rep (n : Nat) (r : List Int) : List Int := (List.replicate n r).flatten
end Df
namespace Df
open PySem Lt
end Df
namespace Df
open PySem Lt
variable {K : Cell → Cell → Prop}
theorem Nc.nil {k : Nat} : Nc (k + 1) (.tuple []) := .tup _ (by decide) fun x h => by cases h
theorem Nc.t3 {k : Nat} {a b c : D} (ha : Nc k a) (hb : Nc k b) (hc : Nc k c) : Nc (k + 1) (.tuple [a, b, c]) := .tup _ (by simp) fun x h => by
  simp only [List.mem_cons, List.not_mem_nil, or_false] at h
  rcases h with rfl | rfl | rfl <;> assumption
theorem cut_sub {xs : List D} {lo hi : Option Int} : (∀ x ∈ cutD xs lo hi, x ∈ xs) ∧ (cutD xs lo hi).length ≤ xs.length := by
  unfold cutD
  refine ⟨fun x h => List.mem_of_mem_drop (List.mem_of_mem_take h), ?_⟩
  rw [List.length_take, List.length_drop]
  omega
theorem Nc.cut {k : Nat} {xs : List D} {lo hi : Option Int} (h : Nc (k + 1) (.tuple xs)) : Nc (k + 1) (.tuple (cutD xs lo hi)) := by
  have c := cut_sub (xs := xs) (lo := lo) (hi := hi)
  exact .tup _ (Nat.le_trans c.2 h.items.1) fun x hx => h.items.2 x (c.1 x hx)
theorem ix_mem2 {xs : List D} {P : D → Prop} {r : Int} {Q : D → Prop} (h0 : 0 ≤ r) (h1 : r < xs.length) (hp : ∀ x ∈ xs, P x) (k : ∀ x, P x → Q x) : WV (idxD (.list xs) (.int r)) Q := by
  obtain ⟨i, rfl⟩ := Int.eq_ofNat_of_zero_le h0
  have hi : i < xs.length := by omega
  exact ixLn (List.getElem?_eq_getElem hi) (k _ (hp _ (List.getElem_mem hi)))
/-- small numbers of a copy -/
def CSm (c : Cp) : Prop := c.x.natAbs < 2 ^ 40 ∧ c.y.natAbs < 2 ^ 40 ∧ c.g.natAbs < 2 ^ 40
theorem LOk.sm {m most far : Int} {l : List Cp} (h : LOk m most far l) (hm : m ≤ 100) (hf : far ≤ 1000000) : ∀ c ∈ l, CSm c := fun c hc => by
  obtain ⟨h1, h2, h3, h4, h5, h6⟩ := h.ok c hc
  exact ⟨by omega, by omega, by omega⟩
theorem copyB_dC {c : Cp} {m : Int} (h : 0 ≤ c.g ∧ c.g < m) : copyB m (dC c) = true := by
  show (true && (decide (0 ≤ c.g) && decide (c.g < m))) = true
  rw [decide_eq_true h.1, decide_eq_true h.2]; rfl
/-- a drawn kit is one -/
theorem gear_kit {t : Tb} {ls : List (List Cp)} {most far : Int} (ht : Grid t) (hn : ls ≠ []) (h : ∀ l ∈ ls, LOk ls.length most far l) : kitB (dG t ls) = true := by
  show (isGrow (dT t) && (!(ls.map fun l => dS l).isEmpty && (ls.map fun l => dS l).all (stateB ((ls.map fun l => dS l).length : Nat)))) = true
  rw [isGrow_dT, ht.g, List.length_map, Bool.true_and, Bool.and_eq_true]
  refine ⟨?_, ?_⟩
  · cases ls with
    | nil => exact absurd rfl hn
    | cons _ _ => rfl
  · rw [List.all_map, List.all_eq_true]
    intro l hl
    have L := h l hl
    show (!(l.map fun c => dC c).isEmpty && ((l.map fun c => dC c).all (copyB (ls.length : Nat)) && ascC ((l.map fun c => dC c).map cpOf))) = true
    have e : (l.map fun c => dC c).map cpOf = l := by
      rw [List.map_map]
      exact (List.map_congr_left fun c _ => rfl).trans (List.map_id l)
    rw [e, L.asc, Bool.and_true, Bool.and_eq_true]
    refine ⟨?_, ?_⟩
    · cases l with
      | nil => exact absurd rfl L.ne
      | cons _ _ => rfl
    · rw [List.all_map, List.all_eq_true]
      intro c hc
      obtain ⟨_, _, _, _, h5, h6⟩ := L.ok c hc
      exact copyB_dC ⟨h5, h6⟩
end Df
namespace Df
open PySem Lt
variable {K : Cell → Cell → Prop}
/-- the copies along a walk, the state behind it -/
def copiesG (ls : List (List Cp)) : Int → List Int → Option (List Cp × Int)
  | s, [] => some ([], s)
  | s, a :: r => (cpAt ls s a).bind fun c => (copiesG ls c.g r).map fun q => (c :: q.1, q.2)
theorem walk_copies {t : Tb} {ls : List (List Cp)} : ∀ {ps : List Int} {s : Int} {o : Off}, walkG t ls s o ps = (copiesG ls s ps).map fun q => (q.2, foldO t o q.1)
  | [], s, o => rfl
  | a :: r, s, o => by
    show (cpAt ls s a).bind _ = ((cpAt ls s a).bind _).map _
    cases cpAt ls s a with
    | none => rfl
    | some c =>
      show walkG t ls c.g (goS t o c) r = ((copiesG ls c.g r).map _).map _
      rw [walk_copies]
      cases copiesG ls c.g r <;> rfl
/-- an address: its places, its copies, the ring's state -/
structure Adr (ls : List (List Cp)) (s : Int) (a b : List Int) (cs ds : List Cp) (s1 : Int) : Prop where
  ha : copiesG ls s a = some (cs, s1)
  hb : copiesG ls s1 b = some (ds, s1)
  ne : b ≠ []
theorem Adr.ok {t : Tb} {ls : List (List Cp)} {s : Int} {a b : List Int} {cs ds : List Cp} {s1 : Int} (A : Adr ls s a b cs ds s1) : okA t ls s a b = true := by
  unfold okA
  rw [walk_copies, A.ha]
  show (!b.isEmpty && _) = true
  rw [List.isEmpty_eq_false_iff.mpr A.ne, walk_copies, A.hb]
  show (!false && decide (s1 = s1)) = true
  simp
theorem PRB.mono {n m : Nat} {p : RP} (h : PRB n p) (k : n ≤ m) : PRB m p := ⟨h.x.mono k, h.y.mono k⟩
theorem PRB.add {n m : Nat} {p q : RP} (h : PRB n p) (k : PRB m q) : PRB (n + m + 1) (radd p q) := ⟨h.x.add k.x, h.y.add k.y⟩
end Df
namespace Df
open PySem Lt
abbrev Mx := RP × RP
def mmul (A B : Mx) : Mx := ((A.1.1 * B.1.1 + A.1.2 * B.2.1, A.1.1 * B.1.2 + A.1.2 * B.2.2), (A.2.1 * B.1.1 + A.2.2 * B.2.1, A.2.1 * B.1.2 + A.2.2 * B.2.2))
def rabs (r : Rat) : Rat := if r < 0 then -r else r
def invM (t : Tb) : Mx := (((t.d : Rat) / (t.det : Rat), (-t.b : Rat) / (t.det : Rat)), ((-t.c : Rat) / (t.det : Rat), (t.a : Rat) / (t.det : Rat)))
def pw (t : Tb) : Nat → Mx
  | 0 => invM t
  | n + 1 => mmul (invM t) (pw t n)
structure Bd (m : Rat) (p : RP) : Prop where
  x : -m ≤ p.1 ∧ p.1 ≤ m
  y : -m ≤ p.2 ∧ p.2 ≤ m
theorem Bd.nn {m : Rat} {p : RP} (h : Bd m p) : 0 ≤ m := by have := h.x; grind
def r7 : List Int := [-3, -2, -1, 0, 1, 2, 3]
end Df
namespace Df
open PySem Lt
end Df
namespace Df
open PySem Lt
end Df
namespace Df
open PySem Lt
end Df
namespace Df
open PySem Lt
end Df
namespace Df
open PySem Lt
variable {K : Cell → Cell → Prop}
theorem smOk_int {k : Nat} {i : Int} : smOk k (.int i) = true := by cases k <;> rfl
theorem smOks_of {k : Nat} : ∀ {xs : List D}, (∀ x ∈ xs, smOk k x = true) → smOks (k + 1) xs = true
  | [], _ => rfl
  | x :: xs, h => by
    show (smOk k x && smOks (k + 1) xs) = true
    rw [h x (by simp), smOks_of fun y hy => h y (by simp [hy])]; rfl
theorem smOk_tup {k : Nat} {xs : List D} (hl : xs.length ≤ 1000000) (h : ∀ x ∈ xs, smOk k x = true) : smOk (k + 1) (.tuple xs) = true := by
  show (smOks (k + 1) xs && decide (xs.length ≤ 1000000)) = true
  rw [smOks_of h, decide_eq_true hl]; rfl
theorem smOk_lst {k : Nat} {xs : List D} (hl : xs.length ≤ 1000000) (h : ∀ x ∈ xs, smOk k x = true) : smOk (k + 1) (.list xs) = true := by
  show (smOks (k + 1) xs && decide (xs.length ≤ 1000000)) = true
  rw [smOks_of h, decide_eq_true hl]; rfl
theorem smOk_w {k : Nat} {ps : List Int} (hl : ps.length ≤ 1000000) : smOk (k + 1) (dW ps) = true := smOk_tup (by rw [List.length_map]; exact hl) fun x hx => by
  obtain ⟨i, _, rfl⟩ := List.mem_map.mp hx
  exact smOk_int
end Df
namespace Df
open PySem Lt
end Df
namespace Df
open PySem Lt
/-- the size of a table is below a number -/
def Tb.below (t : Tb) (m : Int) : Prop := (t.a.natAbs : Int) + t.b.natAbs < m ∧ (t.c.natAbs : Int) + t.d.natAbs < m
end Df
namespace Df
open PySem Lt
end Df
namespace Df
open PySem Lt
variable {K : Cell → Cell → Prop}
theorem neg_num {r : Rat} : r < 0 ↔ r.num < 0 := by
  rw [Rat.lt_iff]
  simp
theorem RB.abs {n : Nat} {r : Rat} (h : RB n r) : RB n (rabs r) := by
  unfold rabs
  split
  · exact h.neg
  · exact h
structure MB (n : Nat) (A : Mx) : Prop where
  u : PRB n A.1
  v : PRB n A.2
theorem MB.mono {n m : Nat} {A : Mx} (h : MB n A) (k : n ≤ m) : MB m A := ⟨h.u.mono k, h.v.mono k⟩
theorem MB.mul {n m : Nat} {A B : Mx} (h : MB n A) (k : MB m B) : MB (n + m + (n + m) + 1) (mmul A B) :=
  ⟨⟨(h.u.x.mul k.u.x).add (h.u.y.mul k.v.x), (h.u.x.mul k.u.y).add (h.u.y.mul k.v.y)⟩, ⟨(h.v.x.mul k.u.x).add (h.v.y.mul k.v.x), (h.v.x.mul k.u.y).add (h.v.y.mul k.v.y)⟩⟩
theorem wipe_sub {a b : Rho} {o1 o : List Nat} (hs : ∀ i ∈ o1, i ∈ o) (h : wipeR a o1 = wipeR b o1) : wipeR a o = wipeR b o := by
  have hl : a.length = b.length := by rw [← wpL (own := o1), h, wpL]
  refine List.ext_getElem? fun j => ?_
  rw [Lt.wpAt, Lt.wpAt, hl]
  by_cases hj : j ∈ o ∧ j < b.length
  · rw [if_pos hj, if_pos hj]
  · rw [if_neg hj, if_neg hj]
    by_cases hl2 : j < b.length
    · have hn : j ∉ o1 := fun z => hj ⟨hs j z, hl2⟩
      have := congrArg (fun l => l[j]?) h
      simpa [Lt.wpAt, hn] using this
    · rw [List.getElem?_eq_none (by omega), List.getElem?_eq_none (by omega)]
/-- the greatest step -/
def stp (c : Cp) : Int := let x : Int := if c.x < 0 then -c.x else c.x; let y : Int := if c.y < 0 then -c.y else c.y; if y > x then y else x
def eC : D → D
  | .tuple [.tuple [.int x, .int y], _] => .int (stp ⟨x, y, 0⟩)
  | _ => .none
def eL : D → List D
  | .tuple cs => cs.map eC
  | _ => []
inductive Rch (ls : List (List Cp)) (s : Int) : Int → Prop
  | refl : Rch ls s s
  | step {x : Int} {c : Cp} : Rch ls s x → c ∈ stAt ls x → Rch ls s c.g
structure RC (ls : List (List Cp)) (s : Int) (f : List Int) : Prop where
  nd : f.Nodup
  mem : s ∈ f
  bd : ∀ x ∈ f, 0 ≤ x ∧ x < ls.length
  re : ∀ x ∈ f, Rch ls s x
  cl : ∀ x ∈ f, ∀ c ∈ stAt ls x, c.g ∈ f
theorem RC.all {ls : List (List Cp)} {s : Int} {f : List Int} (h : RC ls s f) {x : Int} (r : Rch ls s x) : x ∈ f := by
  induction r with
  | refl => exact h.mem
  | step _ hc ih => exact h.cl _ ih _ hc
def addI (f : List Int) (x : Int) : List Int := if x ∈ f then f else f ++ [x]
theorem addI_nd {f : List Int} {x : Int} (h : f.Nodup) : (addI f x).Nodup := by
  unfold addI
  split
  · exact h
  · rename_i hn
    exact List.nodup_append.mpr ⟨h, by simp, fun a ha b hb => by
      simp at hb; subst hb
      exact fun z => hn (z ▸ ha)⟩
theorem addI_mem {f : List Int} {x y : Int} : y ∈ addI f x ↔ y ∈ f ∨ y = x := by
  unfold addI
  split
  · rename_i h
    exact ⟨.inl, fun z => z.elim id fun e => e ▸ h⟩
  · simp
/-- what is found, all of it led to -/
structure RF (ls : List (List Cp)) (s : Int) (f : List Int) : Prop where
  nd : f.Nodup
  mem : s ∈ f
  bd : ∀ x ∈ f, 0 ≤ x ∧ x < ls.length
  re : ∀ x ∈ f, Rch ls s x
theorem RF.add {t : Tb} {ls : List (List Cp)} (G : KG t ls) {s x : Int} {f : List Int} (h : RF ls s f) (hx : x ∈ f) {c : Cp} (hc : c ∈ stAt ls x) : RF ls s (addI f c.g) := by
  refine ⟨addI_nd h.nd, addI_mem.mpr (.inl h.mem), fun y hy => ?_, fun y hy => ?_⟩
  · rcases addI_mem.mp hy with z | rfl
    · exact h.bd y z
    · obtain ⟨b0, b1⟩ := h.bd x hx
      exact G.goal _ (st_mem b0 b1) c hc
  · rcases addI_mem.mp hy with z | rfl
    · exact h.re y z
    · exact .step (h.re x hx) hc
theorem RF.one {ls : List (List Cp)} {s : Int} (h0 : 0 ≤ s) (h1 : s < ls.length) : RF ls s [s] :=
  ⟨by simp, by simp, fun x hx => by rw [List.mem_singleton.mp hx]; exact ⟨h0, h1⟩, fun x hx => by rw [List.mem_singleton.mp hx]; exact .refl⟩
theorem RF.len {t : Tb} {ls : List (List Cp)} (G : KG t ls) {s : Int} {f : List Int} (h : RF ls s f) : f.length ≤ ls.length ∧ ls.length ≤ 100 := ⟨nodup_le h.nd h.bd, G.len⟩
end Df
namespace Df
open PySem Lt
variable {K : Cell → Cell → Prop}
def ddC : List Cp → List Cp
  | [] => []
  | c :: cs => if c ∈ cs then ddC cs else c :: ddC cs
theorem any_C {c : Cp} {cs : List Cp} : (cs.map fun c => dC c).any (fun y => PyData.eqv y (dC c)) = decide (c ∈ cs) := by
  rw [Bool.eq_iff_iff, List.any_eq_true, decide_eq_true_eq]
  constructor
  · rintro ⟨y, hy, e⟩
    obtain ⟨a, ha, rfl⟩ := List.mem_map.mp hy
    rw [dC_eqv, decide_eq_true_eq] at e
    exact e ▸ ha
  · intro h
    exact ⟨dC c, List.mem_map.mpr ⟨c, h, rfl⟩, by rw [dC_eqv]; exact decide_eq_true rfl⟩
theorem ddD_C : ∀ {cs : List Cp}, ddD (cs.map fun c => dC c) = (ddC cs).map fun c => dC c
  | [] => rfl
  | c :: cs => by
    rw [List.map_cons]
    show (if (cs.map fun c => dC c).any (fun y => PyData.eqv y (dC c)) = true then ddD (cs.map fun c => dC c) else dC c :: ddD (cs.map fun c => dC c)) = _
    rw [any_C, ddD_C]
    unfold ddC
    by_cases h : c ∈ cs
    · rw [decide_eq_true h, if_pos rfl, if_pos h, ddC.eq_def]
    · rw [decide_eq_false h, if_neg Bool.false_ne_true, if_neg h, List.map_cons, ddC.eq_def]
theorem ddC_mem {x : Cp} : ∀ {cs : List Cp}, x ∈ ddC cs ↔ x ∈ cs
  | [] => Iff.rfl
  | c :: cs => by
    unfold ddC
    by_cases h : c ∈ cs
    · rw [if_pos h, ddC_mem, List.mem_cons]
      exact ⟨.inr, fun z => z.elim (fun e => e ▸ h) id⟩
    · rw [if_neg h, List.mem_cons, List.mem_cons, ddC_mem]
theorem ddC_nd : ∀ {cs : List Cp}, (ddC cs).Nodup
  | [] => .nil
  | c :: cs => by
    unfold ddC
    by_cases h : c ∈ cs
    · rw [if_pos h]; exact ddC_nd
    · rw [if_neg h]; exact List.nodup_cons.mpr ⟨fun z => h (ddC_mem.mp z), ddC_nd⟩
theorem ddC_len : ∀ {cs : List Cp}, (ddC cs).length ≤ cs.length
  | [] => Nat.le_refl _
  | c :: cs => by
    have := ddC_len (cs := cs)
    unfold ddC
    split
    · rw [List.length_cons]; omega
    · rw [List.length_cons, List.length_cons]; omega
/-- the copies, each once, ascending -/
def onC (cs : List Cp) : List Cp := (ddC cs).mergeSort leC
theorem sset_ok {cs : List Cp} (h : cs.length ≤ 1200) : ((cs.map fun c => dC c).all inSet && (sortOk (ddD (cs.map fun c => dC c)) && decide ((cs.map fun c => dC c).length ≤ 1200))) = true := by
  have hl := ddC_len (cs := cs)
  rw [ddD_C, Bool.and_eq_true, Bool.and_eq_true, decide_eq_true_eq, List.length_map, List.all_eq_true]
  refine ⟨fun x hx => ?_, sortOk_C (by omega), h⟩
  obtain ⟨c, _, rfl⟩ := List.mem_map.mp hx
  rfl
theorem sset_eq {cs : List Cp} : sortD (ddD (cs.map fun c => dC c)) = (onC cs).map fun c => dC c := by rw [ddD_C, sortD_C]; rfl
theorem onC_mem {cs : List Cp} {x : Cp} : x ∈ onC cs ↔ x ∈ cs := by
  unfold onC
  rw [(List.mergeSort_perm _ _).mem_iff, ddC_mem]
theorem onC_len {cs : List Cp} : (onC cs).length ≤ cs.length := by
  unfold onC
  rw [List.length_mergeSort]
  exact ddC_len
end Df
namespace Df
/-- a way one step on -/
def Tb.stp (t : Tb) (p : Rat × Rat) : Rat × Rat := ((p.1 * (t.d : Rat) - p.2 * (t.c : Rat)) / (t.det : Rat), (p.2 * (t.a : Rat) - p.1 * (t.b : Rat)) / (t.det : Rat))
def Tb.row (t : Tb) (p : Rat × Rat) : Rat × Rat := (p.1 * (t.a : Rat) + p.2 * (t.c : Rat), p.1 * (t.b : Rat) + p.2 * (t.d : Rat))
end Df
namespace Df
open PySem Lt
variable {K : Cell → Cell → Prop}
abbrev wl (a b c : Int) : Cell := .own [.int a, .int b, .int c]
theorem pow25 {K : Cell → Prop} : WV (binD .Pow (.int 10) (.int 25)) K = K (.dat (.int 10000000000000000000000000)) := by rw [o_pow]; exact propext ⟨fun k => k.2, fun k => ⟨by decide, k⟩⟩
theorem powOk_B {x j : Int} {n : Nat} (h : B n x) (hn : n ≤ 1000) (h0 : 0 ≤ j) (h1 : j ≤ 64) : powOk x j = true := by
  unfold powOk
  have : x.natAbs.log2 < 1024 := by
    by_cases z : x.natAbs = 0
    · rw [z]; decide
    · have := (Nat.log2_lt z).mpr h
      omega
  rw [Bool.or_eq_true]
  right
  exact decide_eq_true ⟨h0, h1, this⟩
theorem pow3 {x : Int} {K : Cell → Prop} : WV (binD .Pow (.int x) (.int 3)) K = (powOk x 3 = true ∧ K (.dat (.int (x ^ 3)))) := o_pow
theorem putL2 {x y z d : D} {r : List D} {K : List D → Prop} : WV (putL (x :: y :: z :: r) 2 d) K = K (x :: y :: d :: r) := by
  have e : putL (x :: y :: z :: r) 2 d = some (x :: y :: d :: r) := by
    have h : (2 : Int) < (((x :: y :: z :: r).length : Nat) : Int) := by simp only [List.length_cons]; omega
    have h' : (2 : Int) < ((r.length : Nat) : Int) + 1 + 1 + 1 := by omega
    simp only [putL, L2.ixN]
    simp [h, h']
  rw [e, WV_some]
theorem max0 (i : Int) : 0 ≤ (if i > 0 then i else 0) := by split <;> omega
end Df
namespace Df
open PySem Lt
variable {K : Cell → Cell → Prop}
/-- the text of an integer -/
abbrev sI (i : Int) : Str := Str.ofString (toString i)
/-- below 10 ^ n in size -/
def Nb (n : Nat) (i : Int) : Prop := i.natAbs < 10 ^ n
theorem Nb.mono {n m : Nat} {i : Int} (h : Nb n i) (k : n ≤ m) : Nb m i := Nat.lt_of_lt_of_le h (Nat.pow_le_pow_right (by decide) k)
theorem Nb.len {n : Nat} {i : Int} (h : Nb n i) (h0 : 0 < n) : (sI i).length ≤ n + 1 := by
  rw [ofString_length]; exact int_text_length_le10 h0 h
theorem Nb.log {n : Nat} {i : Int} (h : Nb n i) (k : n ≤ 400) : i.natAbs.log2 < 1920 := by
  by_cases z : i.natAbs = 0
  · rw [z]; decide
  · refine (Nat.log2_lt z).mpr (Nat.lt_trans (h.mono k) (by decide +kernel))
abbrev sp1 : Str := ⟨#[32]⟩
/-- joined -/
theorem sum_le {w : Nat} : ∀ {ys : List Str}, (∀ y ∈ ys, y.length ≤ w) → (ys.map (·.length)).sum ≤ ys.length * w
  | [], _ => Nat.zero_le _
  | y :: ys, h => by
    have h1 := h y (List.mem_cons_self ..)
    have h2 := sum_le fun z hz => h z (List.mem_cons_of_mem _ hz)
    rw [List.map_cons, List.sum_cons, List.length_cons, Nat.succ_mul]
    omega
theorem fit_le {s : Str} {ys : List Str} {w n : Nat} (hw : ∀ y ∈ ys, y.length ≤ w) (hn : ys.length ≤ n) : (ys.map (·.length)).sum + ys.length * s.length ≤ n * (w + s.length) := by
  have h1 := sum_le hw
  have h2 : ys.length * (w + s.length) ≤ n * (w + s.length) := Nat.mul_le_mul_right _ hn
  rw [Nat.mul_add] at h2
  omega
theorem jn_len {s : Str} {ys : List Str} {w n : Nat} (hw : ∀ y ∈ ys, y.length ≤ w) (hn : ys.length ≤ n) : (Txt.join s ys).length ≤ n * (w + s.length) := by
  show (Builtin.Str.glued s ys).length ≤ _
  rw [StrLaws.glued_eq_join]
  exact Nat.le_trans (StrLaws.join_length_le s ys) (fit_le hw hn)
theorem m_join {s : Str} {xs : List D} {ys : List Str} {K : Cell → Prop} (w n : Nat) (h : xs = ys.map .str) (hw : ∀ y ∈ ys, y.length ≤ w) (hn : ys.length ≤ n) (hs : n * (w + s.length) ≤ 16777216) (k : K (.dat (.str (Txt.join s ys)))) : WV (smD .join s (.list xs)) K :=
  m_joinL h (Nat.le_trans (fit_le hw hn) hs) k
theorem jn_one {s x : Str} : Txt.join s [x] = x := by show Builtin.Str.glued s [x] = _; rw [StrLaws.glued_eq_join]; rfl
theorem jn_cons {s x : Str} : ∀ {ys : List Str}, ys ≠ [] → Txt.join s (x :: ys) = x ++ s ++ Txt.join s ys
  | [], h => absurd rfl h
  | y :: ys, _ => by
    show Builtin.Str.glued s (x :: y :: ys) = x ++ s ++ Builtin.Str.glued s (y :: ys)
    rw [StrLaws.glued_eq_join, StrLaws.glued_eq_join]; rfl
theorem jn_app {s : Str} {zs ws : List Str} (hz : zs ≠ []) (hw : ws ≠ []) (h : Txt.join s zs = Txt.join s ws) : ∀ {xs : List Str}, Txt.join s (xs ++ zs) = Txt.join s (xs ++ ws)
  | [] => h
  | x :: xs => by
    rw [List.cons_append, List.cons_append, jn_cons (by simp [hz]), jn_cons (by simp [hw]), jn_app hz hw h]
theorem jn_snoc {s b : Str} : ∀ {ys : List Str}, ys ≠ [] → Txt.join s (ys ++ [b]) = Txt.join s ys ++ s ++ b
  | [], h => absurd rfl h
  | [y], _ => by
    show Txt.join s (y :: [b]) = _
    rw [jn_cons (by simp), jn_one, jn_one]
  | y :: z :: ys, _ => by
    rw [List.cons_append, jn_cons (by simp), jn_snoc (by simp), jn_cons (ys := z :: ys) (by simp)]
    simp only [Str.append_assoc]
def tN (p q : Int) : Str := if q = 1 then sI p else sI p ++ ⟨#[47]⟩ ++ sI q
theorem tN_len {p q : Int} {n : Nat} (hp : Nb n p) (hq : Nb n q) (h0 : 0 < n) : (tN p q).length ≤ 2 * n + 3 := by
  have h1 := hp.len h0
  have h2 := hq.len h0
  have h3 : (⟨#[47]⟩ : Str).length = 1 := rfl
  unfold tN
  split
  · omega
  · rw [Str.length_append, Str.length_append, h3]; omega
theorem wf_show_number {p q : Int} (hp : Nb 300 p) (hq : Nb 300 q) (k : K (.dat (.str (tN p q))) .emp) : WF F_show_number [.dat (dP p q)] K := by
  have h1 : (Str.ofString (toString p)).length ≤ 301 := hp.len (by decide)
  have h2 : (Str.ofString (toString q)).length ≤ 301 := hq.len (by decide)
  have h3 : (⟨#[47]⟩ : Str).length = 1 := rfl
  unfold tN at k
  rw [b_show_number]
  simp only [↓ir_show_number, ↓RUNH, POST]
  refine IT.dec (fun h => ?_) fun h => ?_
  · rw [if_pos h] at k
    try simp only [↓RUNH, POST]
    exact ⟨hp.log (by decide), k⟩
  · rw [if_neg h] at k
    try simp only [↓RUNH, POST]
    refine ⟨hp.log (by decide), by rw [h3]; omega, hq.log (by decide), by rw [Str.length_append, h3]; omega, k⟩
theorem wf_law_said_number {p q : Int} (hp : Nb 300 p) (hq : Nb 300 q) (k : K (.dat (.str (tN p q))) .emp) : WF F_law_said_number [.dat (dP p q)] K := by
  have h1 : (Str.ofString (toString p)).length ≤ 301 := hp.len (by decide)
  have h2 : (Str.ofString (toString q)).length ≤ 301 := hq.len (by decide)
  have h3 : (⟨#[47]⟩ : Str).length = 1 := rfl
  unfold tN at k
  rw [b_law_said_number]
  simp only [↓ir_law_said_number, ↓RUNH, POST]
  refine IT.dec (fun h => ?_) fun h => ?_
  · rw [if_pos h] at k
    try simp only [↓RUNH, POST]
    exact ⟨hp.log (by decide), k⟩
  · rw [if_neg h] at k
    try simp only [↓RUNH, POST]
    refine ⟨hp.log (by decide), by rw [h3]; omega, hq.log (by decide), by rw [Str.length_append, h3]; omega, k⟩
theorem tN2_len {p q : Int} (hp : Nb 300 p) (hq : Nb 300 q) : (tN p q).length ≤ 603 := tN_len hp hq (by decide)
def tPt (p q r s : Int) : Str := tN p q ++ sp1 ++ tN r s
theorem wf_show_point {p q r s : Int} (hp : Nb 300 p) (hq : Nb 300 q) (hr : Nb 300 r) (hs : Nb 300 s) (k : K (.dat (.str (tPt p q r s))) .emp) : WF F_show_point [.dat (.tuple [dP p q, dP r s])] K := by
  have h1 := tN2_len hp hq
  have h2 := tN2_len hr hs
  rw [b_show_point]
  simp only [↓ir_show_point, ↓RUNH, POST, ↓k_show_point_show_number]
  refine wf_show_number hp hq ?_
  try simp only [↓RUNH, POST, ↓k_show_point_show_number]
  refine wf_show_number hr hs ?_
  try simp only [↓RUNH, POST, ↓k_show_point_show_number]
  refine m_join 603 2 (ys := [tN p q, tN r s]) rfl (by simp [h1, h2]) (by simp) (by decide) ?_
  rw [jn_cons (by simp), jn_one]
  try simp only [↓RUNH, POST]
  exact k
def tW (ns : List Int) : Str := Txt.join sp1 (ns.map sI)
theorem tW_len {ns : List Int} {n m : Nat} (h : ∀ i ∈ ns, Nb n i) (h0 : 0 < n) (hl : ns.length ≤ m) : (tW ns).length ≤ m * (n + 2) := by
  refine jn_len (w := n + 1) (fun y hy => ?_) (by rw [List.length_map]; exact hl)
  obtain ⟨i, hi, rfl⟩ := List.mem_map.mp hy
  exact (h i hi).len h0
def shI (d : D) : D := match d with
  | .int i => .str (sI i)
  | _ => .none
theorem shI_map {ns : List Int} : (ns.map PyData.int).map shI = (ns.map sI).map .str := by
  rw [List.map_map, List.map_map]; rfl
theorem wf_worded {ns : List Int} {d : D} (hd : d = .list (ns.map .int) ∨ d = .tuple (ns.map .int)) (h : ∀ i ∈ ns, Nb 300 i) (hl : ns.length ≤ 10000) (k : K (.dat (.str (tW ns))) .emp) : WF F_worded [.dat d] K := by
  have hj : ∀ {K : Cell → Prop}, K (.dat (.str (tW ns))) → WV (smD .join sp1 (.list ((ns.map PyData.int).map shI))) K := fun k => by
    refine m_join 301 10000 shI_map (fun y hy => ?_) (by rw [List.length_map]; exact hl) (by decide) k
    obtain ⟨i, hi, rfl⟩ := List.mem_map.mp hy
    exact (h i hi).len (by decide)
  have turn : ∀ x ∈ ns.map PyData.int, WP (lcTurn T_worded (.blt .str (.cons (.var 1) .nil)) (.n 1) .no x (wipeR [.dat d, .emp] [1])) fun y ρ1 => y = some (shI x) ∧ wipeR ρ1 [1] = wipeR [.dat d, .emp] [1] := fun x hx => by
    obtain ⟨i, hi, rfl⟩ := List.mem_map.mp hx
    rw [lc_turn]
    try simp only [↓RUNH, POST]
    refine ⟨(h i hi).log (by decide), ?_⟩
    first
      | rfl
      | exact ⟨rfl, rfl⟩
  rw [b_worded]
  simp only [↓ir_worded, ↓RUNH, POST]
  rcases hd with rfl | rfl
  · try simp only [↓RUNH, POST]
    refine lc_map shI turn fun ρ2 hb => ?_
    try simp only [hb, ↓RUNH, POST]
    exact hj k
  · try simp only [↓RUNH, POST]
    refine lc_map shI turn fun ρ2 hb => ?_
    try simp only [hb, ↓RUNH, POST]
    exact hj k
def tA (ah ri : List Int) : Str := Txt.join sp1 (ah.map sI ++ [⟨#[40, 32]⟩ ++ tW ri ++ ⟨#[32, 41]⟩])
def tA2 (ah ri : List Int) : Str := Txt.join sp1 (ah.map sI ++ [⟨#[40]⟩] ++ ri.map sI ++ [⟨#[41]⟩])
theorem tA_eq {ah ri : List Int} (h : ri ≠ []) : tA ah ri = tA2 ah ri := by
  unfold tA tA2 tW
  rw [List.append_assoc, List.append_assoc]
  refine jn_app (by simp) (by simp) ?_
  have hne : ri.map sI ≠ [] := by simp [h]
  rw [jn_one]
  show _ = Txt.join sp1 (⟨#[40]⟩ :: (ri.map sI ++ [⟨#[41]⟩]))
  rw [jn_cons (by simp), jn_snoc hne]
  have e1 : (⟨#[40, 32]⟩ : Str) = ⟨#[40]⟩ ++ sp1 := rfl
  have e2 : (⟨#[32, 41]⟩ : Str) = sp1 ++ ⟨#[41]⟩ := rfl
  rw [e1, e2]
  simp only [Str.append_assoc]
/-- an address of integers that are no longer than so -/
structure Ad (ah ri : List Int) : Prop where
  a : ∀ i ∈ ah, Nb 12 i
  r : ∀ i ∈ ri, Nb 12 i
  la : ah.length ≤ 4000
  lr : ri.length ≤ 4000
  ne : ri ≠ []
theorem Nb.len12 {i : Int} (h : Nb 12 i) : (sI i).length ≤ 13 := h.len (by decide)
theorem map_len {ns : List Int} (h : ∀ i ∈ ns, Nb 12 i) : ∀ y ∈ ns.map sI, y.length ≤ 13 := fun y hy => by
  obtain ⟨i, hi, rfl⟩ := List.mem_map.mp hy
  exact (h i hi).len12
theorem tA_len {ah ri : List Int} (h : Ad ah ri) : (tA ah ri).length ≤ 2000000 := by
  rw [tA_eq h.ne]
  have := h.la
  have := h.lr
  refine Nat.le_trans (jn_len (w := 13) (n := 9000) (fun y hy => ?_) (by simp only [List.length_append, List.length_map, List.length_cons, List.length_nil]; omega)) (by decide)
  simp only [List.mem_append, List.mem_singleton] at hy
  rcases hy with ((hy | rfl) | hy) | rfl
  · exact map_len h.a y hy
  · decide
  · exact map_len h.r y hy
  · decide
abbrev dA (ah ri : List Int) : D := .tuple [dW ah, dW ri]
theorem wf_show_address {ah ri : List Int} (h : Ad ah ri) (k : K (.dat (.str (tA ah ri))) .emp) : WF F_show_address [.dat (dA ah ri)] K := by
  have la := h.la
  have lr := h.lr
  have hw : (tW ri).length ≤ 4000 * 14 := tW_len h.r (by decide) h.lr
  rw [b_show_address]
  simp only [↓ir_show_address, ↓RUNH, POST, ↓k_show_address_worded]
  refine lc_map shI (fun x hx => ?_) fun ρ2 hb => ?_
  · obtain ⟨i, hi, rfl⟩ := List.mem_map.mp hx
    rw [lc_turn]
    try simp only [↓RUNH, POST]
    refine ⟨(h.a i hi).log (by decide), ?_⟩
    first
      | rfl
      | exact ⟨rfl, rfl⟩
  · have e : List.set ρ2 3 .emp = [.dat (dA ah ri), .dat (dW ah), .dat (dW ri), .emp] := hb
    try simp only [↓RUNH, POST, ↓k_show_address_worded]
    rw [e]
    try simp only [↓RUNH, POST, ↓k_show_address_worded]
    refine wf_worded (.inr rfl) (fun i hi => (h.r i hi).mono (by decide)) (by omega) ?_
    have e1 : (⟨#[40, 32]⟩ : Str).length = 2 := rfl
    have e2 : (⟨#[32, 41]⟩ : Str).length = 2 := rfl
    try simp only [↓RUNH, POST, ↓k_show_address_worded]
    refine ⟨by rw [e1]; omega, by rw [Str.length_append, e1, e2]; omega, by rw [List.length_map, List.length_map]; show _ + 1 ≤ _; omega, ?_⟩
    have s1 := sum_le (map_len h.a)
    rw [List.length_map] at s1
    refine m_joinL (ys := ah.map sI ++ [⟨#[40, 32]⟩ ++ tW ri ++ ⟨#[32, 41]⟩]) (by rw [List.map_append, shI_map]; rfl) ?_ ?_
    · rw [List.map_append, List.sum_append, List.map_cons, List.map_nil, List.sum_cons, List.sum_nil, Str.length_append, Str.length_append, e1, e2, List.length_append, List.length_map, List.length_singleton]
      have e3 : (⟨#[32]⟩ : Str).length = 1 := rfl
      rw [e3]
      omega
    · try simp only [↓RUNH, POST]
      exact k
theorem wf_law_said_address {ah ri : List Int} (h : Ad ah ri) (k : K (.dat (.str (tA ah ri))) .emp) : WF F_law_said_address [.dat (dA ah ri)] K := by
  have la := h.la
  have lr := h.lr
  rw [tA_eq h.ne] at k
  have turn : ∀ {ns : List Int} {ρ : Rho}, (∀ i ∈ ns, Nb 12 i) → (∃ c0 c1, ρ = [c0, c1, .emp]) → ∀ x ∈ ns.map PyData.int, WP (lcTurn T_law_said_address (.blt .str (.cons (.var 2) .nil)) (.n 2) .no x (wipeR ρ [2])) fun y ρ1 => y = some (shI x) ∧ wipeR ρ1 [2] = wipeR ρ [2] := fun {ns ρ} hn hρ x hx => by
    obtain ⟨c0, c1, rfl⟩ := hρ
    obtain ⟨i, hi, rfl⟩ := List.mem_map.mp hx
    rw [lc_turn]
    try simp only [↓RUNH, POST]
    refine ⟨(hn i hi).log (by decide), ?_⟩
    first
      | rfl
      | exact ⟨rfl, rfl⟩
  rw [b_law_said_address]
  simp only [↓ir_law_said_address, ↓RUNH, POST]
  refine lc_map shI (turn h.a ⟨_, _, rfl⟩) fun ρ2 hb => ?_
  have e : List.set ρ2 2 .emp = [.dat (dA ah ri), .emp, .emp] := hb
  try simp only [↓RUNH, POST, ]
  rw [e]
  try simp only [↓RUNH, POST]
  refine ⟨by rw [List.length_map, List.length_map]; show _ + 1 ≤ _; omega, ?_⟩
  refine lc_map shI (turn h.r ⟨_, _, rfl⟩) fun ρ3 hb => ?_
  have e' : List.set ρ3 2 .emp = [.dat (dA ah ri), .emp, .emp] := hb
  try simp only [↓RUNH, POST, ]
  rw [e']
  try simp only [↓RUNH, POST]
  refine ⟨by simp only [List.length_append, List.length_map, List.length_singleton]; omega, by simp only [List.length_append, List.length_map, List.length_singleton]; omega, ?_⟩
  refine m_join 13 9000 (ys := ah.map sI ++ [⟨#[40]⟩] ++ ri.map sI ++ [⟨#[41]⟩]) ?_ (fun y hy => ?_) ?_ (by decide) ?_
  · rw [shI_map, shI_map]; simp only [List.map_append]; rfl
  · simp only [List.mem_append, List.mem_singleton] at hy
    rcases hy with ((hy | rfl) | hy) | rfl
    · exact map_len h.a y hy
    · decide
    · exact map_len h.r y hy
    · decide
  · simp only [List.length_append, List.length_map, List.length_singleton]; omega
  · try simp only [↓RUNH, POST]
    exact k
/-- a copy of integers that are no longer than so -/
structure Cb (c : Cp) : Prop where
  x : Nb 12 c.x
  y : Nb 12 c.y
  g : Nb 12 c.g
def tC (c : Cp) : Str := sI c.x ++ sp1 ++ sI c.y ++ sp1 ++ sI c.g
theorem sp1_len : (⟨#[32]⟩ : Str).length = 1 := rfl
theorem tC_len {c : Cp} (h : Cb c) : (tC c).length ≤ 41 := by
  have h1 := h.x.len12
  have h2 := h.y.len12
  have h3 := h.g.len12
  unfold tC
  simp only [Str.length_append, sp1_len]
  omega
theorem tW3 {a b c : Int} : tW [a, b, c] = sI a ++ sp1 ++ sI b ++ sp1 ++ sI c := by
  show Txt.join sp1 (sI a :: sI b :: [sI c]) = _
  rw [jn_cons (by simp), jn_cons (by simp), jn_one]
  simp only [Str.append_assoc]
theorem Cb.ws {c : Cp} (h : Cb c) : ∀ i ∈ [c.x, c.y, c.g], Nb 300 i := by
  intro i hi
  simp only [List.mem_cons, List.not_mem_nil, or_false] at hi
  rcases hi with rfl | rfl | rfl
  · exact h.x.mono (by decide)
  · exact h.y.mono (by decide)
  · exact h.g.mono (by decide)
theorem wf_show_copy {c : Cp} (h : Cb c) (k : K (.dat (.str (tC c))) .emp) : WF F_show_copy [.dat (dC c)] K := by
  rw [b_show_copy]
  simp only [↓ir_show_copy, ↓RUNH, POST, ↓k_show_copy_worded]
  refine ⟨by decide, ?_⟩
  refine wf_worded (ns := [c.x, c.y, c.g]) (.inl rfl) h.ws (by simp) ?_
  rw [tW3]
  try simp only [↓RUNH, POST, ↓k_show_copy_worded]
  exact k
abbrev spC : Str := ⟨#[44, 32]⟩
abbrev spK : Str := ⟨#[32, 58, 32]⟩
abbrev spT : Str := ⟨#[116, 97, 98, 108, 101, 32]⟩
abbrev spL : Str := ⟨#[10]⟩
def tCs (cs : List Cp) : Str := Txt.join spC (cs.map tC)
theorem tCs_len {cs : List Cp} (h : ∀ c ∈ cs, Cb c) (hl : cs.length ≤ 1000) : (tCs cs).length ≤ 43000 := by
  refine Nat.le_trans (jn_len (w := 41) (n := 1000) (fun y hy => ?_) (by rw [List.length_map]; exact hl)) (by decide)
  obtain ⟨c, hc, rfl⟩ := List.mem_map.mp hy
  exact tC_len (h c hc)
def tL (i : Nat) (cs : List Cp) : Str := sI (i : Int) ++ spK ++ tCs cs
theorem nb_nat {i : Nat} (h : i < 1000000) : Nb 12 (i : Int) := Nat.lt_trans (show (i : Int).natAbs < 1000000 by omega) (by decide +kernel)
theorem tL_len {i : Nat} {cs : List Cp} (hi : i < 1000000) (h : ∀ c ∈ cs, Cb c) (hl : cs.length ≤ 1000) : (tL i cs).length ≤ 43100 := by
  have h1 := tCs_len h hl
  have h2 := (nb_nat hi).len12
  have h3 : spK.length = 3 := rfl
  unfold tL
  rw [Str.length_append, Str.length_append, h3]
  omega
/-- a kit of integers that are no longer than so -/
structure Kt (t : Tb) (ls : List (List Cp)) : Prop where
  a : Nb 12 t.a
  b : Nb 12 t.b
  c : Nb 12 t.c
  d : Nb 12 t.d
  len : ls.length ≤ 100
  cs : ∀ l ∈ ls, l.length ≤ 1000 ∧ ∀ c ∈ l, Cb c
theorem Kt.ws {t : Tb} {ls : List (List Cp)} (h : Kt t ls) : ∀ i ∈ [t.a, t.b, t.c, t.d], Nb 12 i := by
  intro i hi
  simp only [List.mem_cons, List.not_mem_nil, or_false] at hi
  rcases hi with rfl | rfl | rfl | rfl
  · exact h.a
  · exact h.b
  · exact h.c
  · exact h.d
def tT (t : Tb) : Str := spT ++ tW [t.a, t.b, t.c, t.d]
def tLs (t : Tb) (ls : List (List Cp)) : List Str := tT t :: ls.mapIdx tL
def tK (t : Tb) (ls : List (List Cp)) : Str := Txt.join spL (tLs t ls)
theorem mapIdx_take {α β : Type} {f : Nat → α → β} {ls : List α} {i : Nat} (hi : i < ls.length) : (ls.take (i + 1)).mapIdx f = (ls.take i).mapIdx f ++ [f i ls[i]] := by
  rw [List.take_succ_eq_append_getElem hi, List.mapIdx_append]
  simp [Nat.min_eq_left (Nat.le_of_lt hi)]
theorem tW4_len {t : Tb} {ls : List (List Cp)} (h : Kt t ls) : (tW [t.a, t.b, t.c, t.d]).length ≤ 56 := tW_len (m := 4) h.ws (by decide) (by simp)
theorem tLs_len {t : Tb} {ls : List (List Cp)} (h : Kt t ls) : ∀ y ∈ tLs t ls, y.length ≤ 43100 := by
  have h1 := tW4_len h
  have h3 : spT.length = 6 := rfl
  have := h.len
  intro y hy
  rcases List.mem_cons.mp hy with rfl | hy
  · unfold tT
    rw [Str.length_append, h3]
    omega
  · obtain ⟨i, hi, rfl⟩ := List.mem_mapIdx.mp hy
    have := h.cs _ (List.getElem_mem hi)
    exact tL_len (by omega) this.2 this.1
theorem tLs_n {t : Tb} {ls : List (List Cp)} (h : Kt t ls) : (tLs t ls).length ≤ 101 := by
  have := h.len
  unfold tLs
  rw [List.length_cons, List.length_mapIdx]
  omega
theorem tK_len {t : Tb} {ls : List (List Cp)} (h : Kt t ls) : (tK t ls).length ≤ 5000000 := Nat.le_trans (jn_len (tLs_len h) (tLs_n h)) (by decide)
def shC (d : D) : D := match d with
  | .tuple [.tuple [.int x, .int y], .int g] => .str (tC ⟨x, y, g⟩)
  | _ => .none
theorem shC_map {cs : List Cp} : (cs.map fun c => dC c).map shC = (cs.map tC).map .str := by
  rw [List.map_map, List.map_map]; rfl
theorem wf_show_kit {t : Tb} {ls : List (List Cp)} (h : Kt t ls) (k : K (.dat (.str (tK t ls))) .emp) : WF F_show_kit [.dat (dG t ls)] K := by
  have hl := h.len
  have h3 : (⟨#[116, 97, 98, 108, 101, 32]⟩ : Str).length = 6 := rfl
  have h4 := tW4_len h
  rw [b_show_kit]
  simp only [↓ir_show_kit, ↓RUNH, POST, ↓k_show_kit_worded, ↓k_show_kit_show_copy]
  refine ⟨by simp, ?_⟩
  refine wf_worded (ns := [t.a, t.b, t.c, t.d]) (.inl rfl) (fun i hi => (h.ws i hi).mono (by decide)) (by simp) ?_
  try simp only [↓RUNH, POST, ↓k_show_kit_worded, ↓k_show_kit_show_copy]
  refine ⟨by rw [h3]; omega, ?_⟩
  refine fo_inv (fun i ρ => ∃ c4 c5 c6 c7 c8, ρ = [.dat (dG t ls), .dat (dT t), .dat (.tuple (ls.map fun l => dS l)), .own ((tT t :: (ls.take i).mapIdx tL).map .str), c4, c5, c6, c7, c8]) ⟨_, _, _, _, _, rfl⟩ (fun i d ρ hd hI => ?_) fun ρ hI => ?_
  · obtain ⟨c4, c5, c6, c7, c8, rfl⟩ := hI
    obtain ⟨x, hx, rfl⟩ := enmD_at hd
    rw [List.getElem?_map] at hx
    obtain ⟨l, hl', rfl⟩ := mpd hx
    obtain ⟨hi, el⟩ := List.getElem?_eq_some_iff.mp hl'
    have hc := h.cs l (List.mem_of_getElem? hl')
    try simp only [↓RUNH, POST, ↓k_show_kit_worded, ↓k_show_kit_show_copy]
    have e3 : (⟨#[32, 58, 32]⟩ : Str).length = 3 := rfl
    have l1 : (Str.ofString (toString (i : Int))).length ≤ 13 := (nb_nat (show i < 1000000 by omega)).len12
    have l2 := tCs_len hc.2 hc.1
    refine ⟨(nb_nat (show i < 1000000 by omega)).log (by decide), by rw [e3]; omega, ?_⟩
    refine lc_map shC (fun x hx => ?_) fun ρ2 hb => ?_
    · obtain ⟨c, hcm, rfl⟩ := List.mem_map.mp hx
      rw [lc_turn]
      try simp only [↓RUNH, POST, ↓k_show_kit_worded, ↓k_show_kit_show_copy]
      refine wf_show_copy (hc.2 c hcm) ?_
      try simp only [↓RUNH, POST, ↓k_show_kit_worded, ↓k_show_kit_show_copy]
      try rfl
      try exact ⟨rfl, rfl⟩
    · have e : List.set ρ2 8 c8 = _ := hb
      try simp only [↓RUNH, POST, ↓k_show_kit_worded, ↓k_show_kit_show_copy]
      rw [e]
      refine m_join 41 1000 (ys := l.map tC) shC_map (fun y hy => ?_) (by rw [List.length_map]; exact hc.1) (by decide) ?_
      · obtain ⟨c, hcm, rfl⟩ := List.mem_map.mp hy
        exact tC_len (hc.2 c hcm)
      have e5 : Txt.join spC (l.map tC) = tCs l := rfl
      rw [e5]
      try simp only [↓RUNH, POST, ↓k_show_kit_worded, ↓k_show_kit_show_copy]
      refine ⟨by rw [Str.length_append, e3]; omega, by simp only [List.length_cons, List.length_map, List.length_mapIdx, List.length_take]; omega, ?_⟩
      have ee : (PyData.str (tT t) :: ((ls.take (i + 1)).mapIdx tL).map PyData.str) = PyData.str (tT t) :: (((ls.take i).mapIdx tL).map PyData.str ++ [PyData.str (Str.ofString (toString (i : Int)) ++ ⟨#[32, 58, 32]⟩ ++ tCs l)]) := by
        rw [mapIdx_take hi, el, List.map_append]; rfl
      exact ⟨c4, c5, _, _, _, by rw [ee]⟩
  · obtain ⟨c4, c5, c6, c7, c8, rfl⟩ := hI
    rw [enmD_len, List.length_map, List.take_length]
    try simp only [↓RUNH, POST, ↓k_show_kit_worded, ↓k_show_kit_show_copy]
    refine m_join 43100 101 (ys := tLs t ls) rfl (tLs_len h) (tLs_n h) (by decide) ?_
    try simp only [↓RUNH, POST, ↓k_show_kit_worded, ↓k_show_kit_show_copy]
    exact k
theorem wf_law_said_copies {cs : List Cp} (h : ∀ c ∈ cs, Cb c) (hl : cs.length ≤ 1000) (k : K (.dat (.str (tCs cs))) .emp) : WF F_law_said_copies [.dat (dS cs)] K := by
  rw [b_law_said_copies]
  simp only [↓ir_law_said_copies, ↓RUNH, POST]
  refine fo_inv (fun i ρ => ∃ c2 c3, ρ = [.dat (dS cs), .own (((cs.take i).map tC).map .str), c2, c3]) ⟨_, _, rfl⟩ (fun i d ρ hd hI => ?_) fun ρ hI => ?_
  · obtain ⟨c2, c3, rfl⟩ := hI
    rw [List.getElem?_map] at hd
    obtain ⟨c, hc, rfl⟩ := mpd hd
    obtain ⟨hi, el⟩ := List.getElem?_eq_some_iff.mp hc
    have cb := h c (List.mem_of_getElem? hc)
    have h1 : (Str.ofString (toString c.x)).length ≤ 13 := cb.x.len12
    have h2 : (Str.ofString (toString c.y)).length ≤ 13 := cb.y.len12
    have h3 : (Str.ofString (toString c.g)).length ≤ 13 := cb.g.len12
    try simp only [↓RUNH, POST]
    simp only [Str.length_append, sp1_len]
    refine ⟨cb.x.log (by decide), by omega, cb.y.log (by decide), by omega, by omega, cb.g.log (by decide), by omega, by simp only [List.length_map, List.length_take]; omega, ?_⟩
    have ee : ((cs.take (i + 1)).map tC).map PyData.str = ((cs.take i).map tC).map PyData.str ++ [PyData.str (tC c)] := by
      rw [List.take_succ_eq_append_getElem hi, el, List.map_append, List.map_append]; rfl
    exact ⟨_, _, by rw [ee]; rfl⟩
  · obtain ⟨c2, c3, rfl⟩ := hI
    rw [List.length_map, List.take_length]
    try simp only [↓RUNH, POST]
    refine m_join 41 1000 (ys := cs.map tC) rfl (fun y hy => ?_) (by rw [List.length_map]; exact hl) (by decide) ?_
    · obtain ⟨c, hcm, rfl⟩ := List.mem_map.mp hy
      exact tC_len (h c hcm)
    try simp only [↓RUNH, POST]
    exact k
theorem wf_law_said_kit {t : Tb} {ls : List (List Cp)} (h : Kt t ls) (k : K (.dat (.str (tK t ls))) .emp) : WF F_law_said_kit [.dat (dG t ls)] K := by
  have hl := h.len
  have h3 : (⟨#[116, 97, 98, 108, 101, 32]⟩ : Str).length = 6 := rfl
  have h4 := tW4_len h
  rw [b_law_said_kit]
  simp only [↓ir_law_said_kit, ↓RUNH, POST, ↓k_law_said_kit_law_said_copies]
  refine ⟨by decide, h.a.log (by decide), h.b.log (by decide), h.c.log (by decide), h.d.log (by decide), ?_⟩
  refine m_join 13 4 (ys := [t.a, t.b, t.c, t.d].map sI) rfl (map_len h.ws) (by simp) (by decide) ?_
  have e5 : Txt.join sp1 ([t.a, t.b, t.c, t.d].map sI) = tW [t.a, t.b, t.c, t.d] := rfl
  rw [e5]
  try simp only [↓RUNH, POST, ↓k_law_said_kit_law_said_copies]
  refine ⟨by rw [h3]; omega, ?_⟩
  refine fo_inv (fun i ρ => ∃ c2 c3 c4, ρ = [.dat (dG t ls), .own ((tT t :: (ls.take i).mapIdx tL).map .str), c2, c3, c4]) ⟨_, _, _, rfl⟩ (fun i d ρ hd hI => ?_) fun ρ hI => ?_
  · obtain ⟨c2, c3, c4, rfl⟩ := hI
    obtain ⟨x, hx, rfl⟩ := enmD_at hd
    rw [List.getElem?_map] at hx
    obtain ⟨l, hl', rfl⟩ := mpd hx
    obtain ⟨hi, el⟩ := List.getElem?_eq_some_iff.mp hl'
    have hc := h.cs l (List.mem_of_getElem? hl')
    have e3 : (⟨#[32, 58, 32]⟩ : Str).length = 3 := rfl
    have l1 : (Str.ofString (toString (i : Int))).length ≤ 13 := (nb_nat (show i < 1000000 by omega)).len12
    have l2 := tCs_len hc.2 hc.1
    try simp only [↓RUNH, POST, ↓k_law_said_kit_law_said_copies]
    refine ⟨(nb_nat (show i < 1000000 by omega)).log (by decide), by rw [e3]; omega, ?_⟩
    refine wf_law_said_copies hc.2 hc.1 ?_
    try simp only [↓RUNH, POST, ↓k_law_said_kit_law_said_copies]
    refine ⟨by rw [Str.length_append, e3]; omega, by simp only [List.length_cons, List.length_map, List.length_mapIdx, List.length_take]; omega, ?_⟩
    have ee : (PyData.str (tT t) :: ((ls.take (i + 1)).mapIdx tL).map PyData.str) = PyData.str (tT t) :: (((ls.take i).mapIdx tL).map PyData.str ++ [PyData.str (Str.ofString (toString (i : Int)) ++ ⟨#[32, 58, 32]⟩ ++ tCs l)]) := by
      rw [mapIdx_take hi, el, List.map_append]; rfl
    exact ⟨_, _, _, by rw [ee]⟩
  · obtain ⟨c2, c3, c4, rfl⟩ := hI
    rw [enmD_len, List.length_map, List.take_length]
    try simp only [↓RUNH, POST, ↓k_law_said_kit_law_said_copies]
    refine m_join 43100 101 (ys := tLs t ls) rfl (tLs_len h) (tLs_n h) (by decide) ?_
    try simp only [↓RUNH, POST, ↓k_law_said_kit_law_said_copies]
    exact k
def tR (rs : List Str) : Str := Txt.join spL rs
theorem wf_show_rows {rs : List Str} (h : ∀ r ∈ rs, r.length ≤ 1000) (hl : rs.length ≤ 1000) (k : K (.dat (.str (tR rs))) .emp) : WF F_show_rows [.dat (.list (rs.map .str))] K := by
  rw [b_show_rows]
  simp only [↓ir_show_rows, ↓RUNH, POST]
  refine m_join 1000 1000 (ys := rs) rfl h hl (by decide) ?_
  try simp only [↓RUNH, POST]
  exact k
end Df
namespace Df
open PySem Lt
variable {K : Cell → Cell → Prop}
/-- a stock's three numbers -/
structure Sk (n : Nat) (a b c : Int) : Prop where
  a0 : 0 ≤ a
  b0 : 0 ≤ b
  b1 : b < 10000000000000000000000000331
  c0 : 0 ≤ c
  c1 : c ≤ (n : Int)
theorem Sk.mono {n m : Nat} {a b c : Int} (h : Sk n a b c) (k : n ≤ m) : Sk m a b c := ⟨h.a0, h.b0, h.b1, h.c0, by have := h.c1; omega⟩
theorem allT {xs : List D} {Q : Cell → Prop} (k : Q (.dat (.bool true))) : WV (bltD .all [.list (xs.map fun _ => .bool true)]) Q := by
  refine ⟨_, ?_, k⟩
  show (asBools (xs.map fun _ => PyData.bool true)).map (fun bs => Cell.dat (.bool (bs.all id))) = _
  have : asBools (xs.map fun _ => PyData.bool true) = some (xs.map fun _ => true) := by
    induction xs with
    | nil => rfl
    | cons x xs ih => show (asBools (xs.map fun _ => PyData.bool true)).map (true :: ·) = _; rw [ih]; rfl
  rw [this]
  simp
def TI (t : Tb) : Prop := ((-3 ≤ t.a ∧ t.a ≤ 3) ∧ (-3 ≤ t.b ∧ t.b ≤ 3)) ∧ (-3 ≤ t.c ∧ t.c ≤ 3) ∧ (-3 ≤ t.d ∧ t.d ≤ 3)
theorem TI.tb {t : Tb} (h : TI t) : TB 2 t := by
  obtain ⟨⟨a, b⟩, c, d⟩ := h
  exact ⟨B_small 3 a (by decide), B_small 3 b (by decide), B_small 3 c (by decide), B_small 3 d (by decide)⟩
end Df
namespace Df
open PySem Lt
variable {K : Cell → Cell → Prop}
structure T32 (t : Tb) : Prop where
  g : t.grow = true
  i : TI t
  h : t.det.natAbs ≤ 6
end Df
namespace Df
open PySem Lt
variable {K : Cell → Cell → Prop}
/-- a kit of a table with states of so many copies, steps so far -/
structure KW (most far : Int) (t : Tb) (ls : List (List Cp)) : Prop where
  t3 : T32 t
  ne : ls ≠ []
  len : ls.length ≤ 90
  ok : ∀ l ∈ ls, LOk ls.length most far l
  b : most ≤ 90 ∧ far ≤ 100000
theorem T32.grid {t : Tb} (h : T32 t) : Grid t := ⟨h.g, h.i.1.1, h.i.1.2, h.i.2.1, h.i.2.2, by have := h.h; omega⟩
theorem KW.kit {most far : Int} {t : Tb} {ls : List (List Cp)} (h : KW most far t ls) : kitB (dG t ls) = true := gear_kit h.t3.grid h.ne h.ok
theorem COk.mono {a b m n : Int} {c : Cp} (h : COk a m c) (l : a ≤ b) (l2 : m ≤ n) : COk b n c := by
  obtain ⟨h1, h2, h3, h4, h5, h6⟩ := h
  exact ⟨by omega, by omega, by omega, by omega, h5, by omega⟩
theorem onC_asc {cs : List Cp} : ascC (onC cs) = true := sorted_asc ddC_nd
theorem onC_ne {cs : List Cp} (h : cs ≠ []) : onC cs ≠ [] := by
  obtain ⟨c, r, rfl⟩ := List.exists_cons_of_ne_nil h
  exact List.ne_nil_of_mem (onC_mem.mpr (List.mem_cons_self ..))
theorem onC_LOk {many most far : Int} {cs : List Cp} (h : cs ≠ []) (hl : (cs.length : Int) ≤ most) (hc : ∀ c ∈ cs, COk many far c) : LOk many most far (onC cs) :=
  ⟨onC_ne h, by have := onC_len (cs := cs); omega, onC_asc, fun c hc' => hc c (onC_mem.mp hc')⟩
end Df
namespace Df
open PySem Lt
variable {K : Cell → Cell → Prop}
/-- a well's three numbers -/
structure We (n : Nat) (a b c : Int) : Prop where
  a0 : 0 ≤ a
  b0 : 0 ≤ b
  b1 : b < 10000000000000000000000013
  c0 : 0 ≤ c
  c1 : c ≤ (n : Int)
theorem We.mono {n m : Nat} {a b c : Int} (h : We n a b c) (k : n ≤ m) : We m a b c := ⟨h.a0, h.b0, h.b1, h.c0, by have := h.c1; omega⟩
theorem pow29 {K : Cell → Prop} : WV (binD .Pow (.int 10) (.int 29)) K = K (.dat (.int 100000000000000000000000000000)) := by rw [o_pow]; exact propext ⟨fun k => k.2, fun k => ⟨by decide, k⟩⟩
theorem pow33' {K : Cell → Prop} : WV (binD .Pow (.int 10) (.int 33)) K = K (.dat (.int 1000000000000000000000000000000000)) := by rw [o_pow]; exact propext ⟨fun k => k.2, fun k => ⟨by decide, k⟩⟩
theorem pow6' {K : Cell → Prop} : WV (binD .Pow (.int 10) (.int 6)) K = K (.dat (.int 1000000)) := by rw [o_pow]; exact propext ⟨fun k => k.2, fun k => ⟨by decide, k⟩⟩
theorem wf_law_well_2 {ns : List Int} {i : Nat} (ha : i < 1000) (k : ∀ a b, We 0 a b 0 → K (wl a b 0) .emp) : WF F_law_well_2 [.dat (scr ns), .dat (.int (i : Int))] K := by
  have m1 : mulOk (i : Int) 104723 = true := mulOk_l (by omega)
  have m2 : mulOk (i : Int) 179424691 = true := mulOk_l (by omega)
  have m3 : mulOk (ns.length : Int) 15485863 = true := mulOk_r (by decide)
  have m4 : ∀ a : Int, mulOk a 86028157 = true := fun a => mulOk_r (by decide)
  have fin : ∀ a b : Int, 0 ≤ a → K (wl a (b.fmod (10000000000000000000000000 + 13)) 0) .emp := fun a b h => by
    have := fmod_lt (a := b) (m := 10000000000000000000000000 + 13) (by decide)
    exact k _ _ ⟨h, this.1, by omega, by decide, by decide⟩
  rw [b_law_well_2]
  simp only [↓ir_law_well_2, ↓RUNH, POST, ↓lenScr]
  refine IT.dec (fun h => ?_) fun h => ?_
  · have hl : i < ns.length := by omega
    refine atScr (List.getElem?_eq_getElem hl) ?_
    simp only [↓RUNH, POST, ↓pow25, m1, m2, m3, m4]
    exact ⟨by decide, fin _ _ (max0 _)⟩
  · simp only [↓RUNH, POST, ↓pow25, m1, m2, m3, m4]
    exact ⟨by decide, fin _ _ (max0 _)⟩
theorem wf_law_draw {n : Nat} {a b c m : Int} (hw : We n a b c) (hn : n ≤ 100000000) (h0 : 0 < m) (hm : B 8000 m) (k : ∀ r a' b' c', We (n + 1) a' b' c' → 0 ≤ r → r < m → K (.dat (.int r)) (wl a' b' c')) : WF F_law_draw [wl a b c, .dat (.int m)] K := by
  obtain ⟨a0, b0, b1, c0, c1⟩ := hw
  rw [b_law_draw]
  simp only [↓ir_law_draw, ↓RUNH, POST]
  refine IT.dec (fun h => ⟨by omega, hm.divOk (by omega) (by omega), ?_⟩) fun h => ?_
  · have := fmod_lt (a := a) h0
    exact k _ _ _ _ ⟨fdiv_nn h0 a0, b0, b1, c0, by omega⟩ this.1 this.2
  · simp only [↓RUNH, POST, ↓putL2, ↓pow29, ↓pow33', ↓pow6', ↓pow3]
    generalize hc1 : c + 1 = c' at *
    have e1 := fmod_lt (a := (b + 49979693 * c') ^ 3) (m := 100000000000000000000000000000 + 319) (by decide)
    have e2 := fmod_lt (a := (((b + 49979693 * c') ^ 3).fmod (100000000000000000000000000000 + 319) + 2038074751) ^ 3) (m := 1000000000000000000000000000000000 + 33) (by decide)
    have e3 := fmod_lt (a := (((((b + 49979693 * c') ^ 3).fmod (100000000000000000000000000000 + 319) + 2038074751) ^ 3).fmod (1000000000000000000000000000000000 + 33)).fdiv 1000000) h0
    refine ⟨mulOk_l (by decide), powOk_B (n := 128) (B_small 20000000000000000000000000 (by omega) (by decide)) (by decide) (by decide) (by decide), by decide, ?_⟩
    refine ⟨powOk_B (n := 128) (B_small 200000000000000000000000000000 (by omega) (by decide)) (by decide) (by decide) (by decide), by decide, by decide, by omega, ?_⟩
    exact k _ _ _ _ ⟨a0, b0, b1, by omega, by omega⟩ e3.1 e3.2
theorem wf_draw {n : Nat} {a b c m : Int} (hw : We n a b c) (hn : n ≤ 100000000) (h0 : 0 < m) (hm : m ≤ 10000000000) (k : ∀ r a' b' c', We (n + 1) a' b' c' → 0 ≤ r → r < m → K (.dat (.int r)) (wl a' b' c')) : WF F_law_draw [wl a b c, .dat (.int m)] K := wf_law_draw hw hn h0 (B_small 10000000000 (by omega) (two_lt (by decide))) k
theorem Nb.b {n : Nat} {i : Int} (h : Nb n i) (hn : n ≤ 300) : B 1000 i := Nat.lt_trans (h.mono hn) (by decide +kernel)
theorem Nb.fdiv {n : Nat} {i j : Int} (h : Nb n i) (h0 : 0 < j) : Nb n (i.fdiv j) := by
  rw [Int.fdiv_eq_ediv_of_nonneg _ (by omega)]
  exact Nat.lt_of_le_of_lt (Int.natAbs_ediv_le_natAbs i j) h
theorem wf_law_lowest {p q : Int} (h0 : 0 < q) (hp : Nb 300 p) (hq : Nb 300 q) (k : ∀ p' q', Nb 300 p' → Nb 300 q' → K (.dat (dP p' q')) .emp) : WF F_law_lowest [.dat (.int p), .dat (.int q)] K := by
  obtain ⟨m, rfl⟩ := Int.eq_ofNat_of_zero_le (show 0 ≤ q by omega)
  rw [b_law_lowest]
  simp only [↓ir_law_lowest, ↓RUNH, POST]
  rw [abs_nat]
  refine wh_inv (fun m' ρ => ∃ u v : Nat, ρ = [.dat (.int p), .dat (.int (m : Int)), .dat (.int (u : Int)), .dat (.int (v : Int))] ∧ m' = v ∧ (0 < u ∨ 0 < v) ∧ u < 10 ^ 300 ∧ v < 10 ^ 300) m (fuel_lt (n := 1000) (hq.b (by decide)) (by decide)) ⟨p.natAbs, m, rfl, rfl, .inr (by omega), hp, hq⟩ fun m' ρ hI => ?_
  obtain ⟨u, v, rfl, rfl, h1, h2, h3⟩ := hI
  try simp only [↓RUNH, POST]
  have hv : decide ((m' : Int) = 0) = decide (m' = 0) := by
    rcases Nat.eq_zero_or_pos m' with z | z
    · subst z; rfl
    · rw [decide_eq_false (by omega), decide_eq_false (by omega)]
  by_cases hz : m' = 0
  · subst hz
    have hu : 0 < u := by omega
    have dk : divOk (u : Int) = true := B.divOk (n := 1000) (Nat.lt_trans h2 (by decide +kernel)) (by omega) (by decide)
    rw [show decide (((0 : Nat) : Int) = 0) = true from rfl]
    try simp only [↓RUNH, POST]
    exact ⟨dk, dk, k _ _ (hp.fdiv (by omega)) (hq.fdiv (by omega))⟩
  · have e : decide ((m' : Int) = 0) = false := decide_eq_false (by omega)
    rw [e]
    try simp only [↓RUNH, POST]
    refine ⟨by omega, u % m', Nat.mod_lt _ (by omega), m', u % m', ?_, rfl, .inl (by omega), h3, Nat.lt_trans (Nat.mod_lt _ (by omega)) h3⟩
    rw [Int.fmod_eq_emod_of_nonneg _ (by omega)]; rfl
theorem wf_law_power_2 {n : Nat} (hn : n ≤ 300) (k : K (.dat (.int (10 ^ n : Nat))) .emp) : WF F_law_power_2 [.dat (.int (n : Int))] K := by
  rw [b_law_power_2]
  simp only [↓ir_law_power_2, ↓RUNH, POST]
  refine rng1 (by omega) ?_
  refine fo_range (fun i ρ => ∃ c2, ρ = [.dat (.int (n : Int)), .dat (.int (10 ^ i : Nat)), c2]) ⟨_, rfl⟩ (fun i ρ hi hI => ?_) fun ρ hI => ?_
  · obtain ⟨c2, rfl⟩ := hI
    try simp only [↓RUNH, POST]
    exact ⟨mulOk_l (by decide), _, by rw [Nat.pow_succ, Nat.mul_comm, Int.natCast_mul]; rfl⟩
  · obtain ⟨c2, rfl⟩ := hI
    try simp only [↓RUNH, POST]
    exact k
/-- 1 or -1 -/
theorem nb_side {n : Nat} {r x : Int} (r0 : 0 ≤ r) (r1 : r < 2) (h : Nb n x) : Nb n ((1 - 2 * r) * x) ∧ Nb n (x * (1 - 2 * r)) := by
  have : r = 0 ∨ r = 1 := by omega
  rcases this with rfl | rfl
  · constructor
    · rw [show (1 - 2 * 0 : Int) = 1 by decide, Int.one_mul]; exact h
    · rw [show (1 - 2 * 0 : Int) = 1 by decide, Int.mul_one]; exact h
  · constructor
    · rw [show (1 - 2 * 1 : Int) = -1 by decide, Int.neg_one_mul]; unfold Nb; rw [Int.natAbs_neg]; exact h
    · rw [show (1 - 2 * 1 : Int) = -1 by decide, Int.mul_neg_one]; unfold Nb; rw [Int.natAbs_neg]; exact h
theorem nb_small {n : Nat} {x : Int} (h : x.natAbs < 1000) (hn : 3 ≤ n) : Nb n x := Nat.lt_of_lt_of_le h (Nat.pow_le_pow_right (show 0 < 10 by decide) hn)
theorem p10_B {n : Nat} (hn : n ≤ 300) : B 8000 ((10 ^ n : Nat) : Int) := Nat.lt_of_le_of_lt (Nat.pow_le_pow_right (by decide) hn) (by decide +kernel)
theorem p10_pos {n : Nat} : (0 : Int) < ((10 ^ n : Nat) : Int) := Int.natCast_pos.mpr (Nat.pow_pos (by decide))
theorem wf_law_number {n m : Nat} {a b c : Int} (hw : We n a b c) (hn : n ≤ 9000000) (h2 : 2 ≤ m) (hm : m ≤ 300) (k : ∀ p q a' b' c', We (n + 10) a' b' c' → Nb 300 p → Nb 300 q → K (.dat (dP p q)) (wl a' b' c')) : WF F_law_number [wl a b c, .dat (.int (m : Int))] K := by
  have g1 : (10 ^ 2 : Nat) ≤ 10 ^ m := Nat.pow_le_pow_right (by decide) h2
  have g2 : (10 ^ m : Nat) ≤ 10 ^ 300 := Nat.pow_le_pow_right (by decide) hm
  have s1 : Nb 300 1 := nb_small (by decide) (by decide)
  have m2 : ∀ x : Int, mulOk 2 x = true := fun x => mulOk_l (by decide)
  have ms : ∀ {r : Int} (x : Int), 0 ≤ r → r < 2 → mulOk (1 - 2 * r) x = true := fun x h0 h1 => mulOk_l (by omega)
  have ms' : ∀ {r : Int} (x : Int), 0 ≤ r → r < 2 → mulOk x (1 - 2 * r) = true := fun x h0 h1 => mulOk_r (by omega)
  rw [b_law_number]
  simp only [↓ir_law_number, ↓RUNH, POST, ↓k_law_number_law_lowest, ↓k_law_number_law_draw, ↓k_law_number_law_power_2]
  refine wf_draw hw (by omega) (by decide) (by decide) fun kd a1 b1 c1 w1 k0 k1 => ?_
  try simp only [↓RUNH, POST, ↓k_law_number_law_lowest, ↓k_law_number_law_draw, ↓k_law_number_law_power_2]
  refine wf_draw w1 (by omega) (by decide) (by decide) fun r a2 b2 c2 w2 r0 r1 => ?_
  try simp only [↓RUNH, POST, ↓k_law_number_law_lowest, ↓k_law_number_law_draw, ↓k_law_number_law_power_2]
  refine ⟨m2 _, ?_⟩
  refine IT.dec (fun h => ?_) fun h => ?_
  · try simp only [↓RUNH, POST, ↓k_law_number_law_lowest, ↓k_law_number_law_draw, ↓k_law_number_law_power_2]
    refine wf_draw w2 (by omega) (by decide) (by decide) fun x a3 b3 c3 w3 x0 x1 => ?_
    try simp only [↓RUNH, POST, ↓k_law_number_law_lowest, ↓k_law_number_law_draw, ↓k_law_number_law_power_2]
    exact ⟨ms' _ r0 r1, k _ _ _ _ _ (w3.mono (by omega)) (nb_side r0 r1 (nb_small (by omega) (by decide))).2 s1⟩
  try simp only [↓RUNH, POST, ↓k_law_number_law_lowest, ↓k_law_number_law_draw, ↓k_law_number_law_power_2]
  refine IT.dec (fun h => ?_) fun h => ?_
  · try simp only [↓RUNH, POST, ↓k_law_number_law_lowest, ↓k_law_number_law_draw, ↓k_law_number_law_power_2]
    refine wf_draw w2 (by omega) (by decide) (by decide) fun x a3 b3 c3 w3 x0 x1 => ?_
    try simp only [↓RUNH, POST, ↓k_law_number_law_lowest, ↓k_law_number_law_draw, ↓k_law_number_law_power_2]
    refine ⟨ms _ r0 r1, ?_⟩
    refine wf_draw w3 (by omega) (by decide) (by decide) fun y a4 b4 c4 w4 y0 y1 => ?_
    try simp only [↓RUNH, POST, ↓k_law_number_law_lowest, ↓k_law_number_law_draw, ↓k_law_number_law_power_2]
    refine wf_law_lowest (by omega) (nb_side r0 r1 (nb_small (by omega) (by decide))).1 (nb_small (by omega) (by decide)) fun p q hp hq => ?_
    try simp only [↓RUNH, POST, ↓k_law_number_law_lowest, ↓k_law_number_law_draw, ↓k_law_number_law_power_2]
    exact k _ _ _ _ _ (w4.mono (by omega)) hp hq
  try simp only [↓RUNH, POST, ↓k_law_number_law_lowest, ↓k_law_number_law_draw, ↓k_law_number_law_power_2]
  refine IT.dec (fun h => ?_) fun h => ?_
  · try simp only [↓RUNH, POST, ↓k_law_number_law_lowest, ↓k_law_number_law_draw, ↓k_law_number_law_power_2]
    refine wf_law_power_2 hm ?_
    try simp only [↓RUNH, POST, ↓k_law_number_law_lowest, ↓k_law_number_law_draw, ↓k_law_number_law_power_2]
    refine wf_draw w2 (by omega) (by decide) (by decide) fun x a3 b3 c3 w3 x0 x1 => ?_
    try simp only [↓RUNH, POST, ↓k_law_number_law_lowest, ↓k_law_number_law_draw, ↓k_law_number_law_power_2]
    refine ⟨ms _ r0 r1, ?_⟩
    refine wf_draw w3 (by omega) (by decide) (by decide) fun y a4 b4 c4 w4 y0 y1 => ?_
    try simp only [↓RUNH, POST, ↓k_law_number_law_lowest, ↓k_law_number_law_draw, ↓k_law_number_law_power_2]
    generalize hg : (10 ^ m : Nat) = g at *
    refine wf_law_lowest (by omega) (nb_side r0 r1 ?_).1 ?_ fun p q hp hq => ?_
    · unfold Nb; omega
    · unfold Nb; omega
    try simp only [↓RUNH, POST, ↓k_law_number_law_lowest, ↓k_law_number_law_draw, ↓k_law_number_law_power_2]
    exact k _ _ _ _ _ (w4.mono (by omega)) hp hq
  try simp only [↓RUNH, POST, ↓k_law_number_law_lowest, ↓k_law_number_law_draw, ↓k_law_number_law_power_2]
  refine IT.dec (fun h => ?_) fun h => ?_
  · try simp only [↓RUNH, POST, ↓k_law_number_law_lowest, ↓k_law_number_law_draw, ↓k_law_number_law_power_2]
    refine wf_draw w2 (by omega) (by omega) (by omega) fun x a3 b3 c3 w3 x0 x1 => ?_
    obtain ⟨x, rfl⟩ := Int.eq_ofNat_of_zero_le x0
    have g3 : (10 ^ x : Nat) * 10 ≤ 10 ^ 300 := by rw [← Nat.pow_succ]; exact Nat.pow_le_pow_right (by decide) (by omega)
    have g4 := Nat.pow_pos (n := x) (show 0 < 10 by decide)
    try simp only [↓RUNH, POST, ↓k_law_number_law_lowest, ↓k_law_number_law_draw, ↓k_law_number_law_power_2]
    refine wf_law_power_2 (by omega) ?_
    try simp only [↓RUNH, POST, ↓k_law_number_law_lowest, ↓k_law_number_law_draw, ↓k_law_number_law_power_2]
    refine wf_draw w3 (by omega) (by decide) (by decide) fun y a4 b4 c4 w4 y0 y1 => ?_
    try simp only [↓RUNH, POST, ↓k_law_number_law_lowest, ↓k_law_number_law_draw, ↓k_law_number_law_power_2]
    generalize hg : (10 ^ x : Nat) = g at *
    exact ⟨ms _ r0 r1, k _ _ _ _ _ (w4.mono (by omega)) (nb_side r0 r1 (by unfold Nb; omega)).1 s1⟩
  try simp only [↓RUNH, POST, ↓k_law_number_law_lowest, ↓k_law_number_law_draw, ↓k_law_number_law_power_2]
  refine wf_draw w2 (by omega) (by omega) (by omega) fun x a3 b3 c3 w3 x0 x1 => ?_
  obtain ⟨x, rfl⟩ := Int.eq_ofNat_of_zero_le x0
  have g3 : (10 ^ x : Nat) * 10 ≤ 10 ^ 300 := by rw [← Nat.pow_succ]; exact Nat.pow_le_pow_right (by decide) (by omega)
  try simp only [↓RUNH, POST, ↓k_law_number_law_lowest, ↓k_law_number_law_draw, ↓k_law_number_law_power_2]
  refine wf_law_power_2 (by omega) ?_
  try simp only [↓RUNH, POST, ↓k_law_number_law_lowest, ↓k_law_number_law_draw, ↓k_law_number_law_power_2]
  refine wf_law_draw w3 (by omega) p10_pos (p10_B (by omega)) fun y a4 b4 c4 w4 y0 y1 => ?_
  try simp only [↓RUNH, POST, ↓k_law_number_law_lowest, ↓k_law_number_law_draw, ↓k_law_number_law_power_2]
  refine wf_law_power_2 hm ?_
  try simp only [↓RUNH, POST, ↓k_law_number_law_lowest, ↓k_law_number_law_draw, ↓k_law_number_law_power_2]
  refine wf_law_draw w4 (by omega) p10_pos (p10_B (by omega)) fun z a5 b5 c5 w5 z0 z1 => ?_
  try simp only [↓RUNH, POST, ↓k_law_number_law_lowest, ↓k_law_number_law_draw, ↓k_law_number_law_power_2]
  generalize hg : (10 ^ x : Nat) = g at *
  generalize hg : (10 ^ m : Nat) = g' at *
  refine ⟨ms _ r0 r1, ?_⟩
  refine wf_law_lowest (by omega) (nb_side r0 r1 ?_).1 ?_ fun p q hp hq => ?_
  · unfold Nb; omega
  · unfold Nb; omega
  try simp only [↓RUNH, POST, ↓k_law_number_law_lowest, ↓k_law_number_law_draw, ↓k_law_number_law_power_2]
  exact k _ _ _ _ _ (w5.mono (by omega)) hp hq
theorem wf_law_grows_3 {t : Tb} {n : Nat} (h : TB n t) (hn : n ≤ 400000) (k : K (.dat (.bool t.grow)) .emp) : WF F_law_grows_3 [.dat (dT t)] K := by
  rw [b_law_grows_3]
  simp only [↓ir_law_grows_3, ↓RUNH, POST]
  refine ⟨h.a.mulOk h.d (by omega), h.b.mulOk h.c (by omega), ?_⟩
  have e : t.a * t.d - t.b * t.c = t.det := rfl
  have e2 : t.a + t.d = t.tr := rfl
  rw [e, e2]
  have g := t.grow_iff
  have fin : ∀ b : Bool, (b = true ↔ t.grow = true) → K (.dat (.bool b)) .emp := fun b hb => by
    rw [Bool.eq_iff_iff.mpr hb]; exact k
  refine fin _ ?_
  rw [g]
  simp only [Bool.or_eq_true, Bool.and_eq_true, decide_eq_true_eq]
  omega
def tabs51 : List Tb := [⟨2, 0, 0, 2⟩, ⟨1, -1, 1, 1⟩, ⟨0, 2, 1, 0⟩, ⟨-2, 0, 0, 3⟩, ⟨2, 1, 0, 2⟩, ⟨1, 2, -2, 1⟩, ⟨0, -3, 1, 0⟩, ⟨0, 1, -2, 0⟩, ⟨2, -3, 0, -3⟩, ⟨1, 1, -1, 2⟩]
theorem tabs51_ok : ∀ t ∈ tabs51, T32 t := by
  intro t ht
  have : (t.grow = true ∧ TI t ∧ t.det.natAbs ≤ 6) := by
    unfold TI
    revert t; unfold tabs51; decide
  exact ⟨this.1, this.2.1, this.2.2⟩
theorem wf_law_table_3 {n : Nat} {a b c : Int} (hw : We n a b c) (hn : n ≤ 9000000) (k : ∀ t a' b' c', We (n + 20) a' b' c' → T32 t → K (.dat (dT t)) (wl a' b' c')) : WF F_law_table_3 [wl a b c] K := by
  rw [b_law_table_3]
  simp only [↓ir_law_table_3, ↓RUNH, POST, ↓k_law_table_3_law_draw, ↓k_law_table_3_law_grows_3]
  refine ⟨by decide, ?_⟩
  refine rng1 (m := 3) (by decide) ?_
  refine fo_range (fun i ρ => ∃ a b c c2 c3 c4 c5 c6 c7, ρ = [wl a b c, .own (tabs51.map fun t => dT t), c2, c3, c4, c5, c6, c7] ∧ We (n + 4 * i) a b c) ⟨_, _, _, _, _, _, _, _, _, rfl, hw⟩ (fun i ρ hi hI => ?_) fun ρ hI => ?_
  · obtain ⟨a, b, c, c2, c3, c4, c5, c6, c7, rfl, hw⟩ := hI
    simp only [↓RUNH, POST, ↓rng1_4, ↓k_law_table_3_law_draw, ↓k_law_table_3_law_grows_3]
    refine wf_draw hw (by omega) (by decide) (by decide) fun a a3 b3 c3 w3 a0 a1 => ?_
    try simp only [↓RUNH, POST, ↓k_law_table_3_law_draw, ↓k_law_table_3_law_grows_3]
    refine wf_draw w3 (by omega) (by decide) (by decide) fun b a4 b4 c4 w4 b0 b1 => ?_
    try simp only [↓RUNH, POST, ↓k_law_table_3_law_draw, ↓k_law_table_3_law_grows_3]
    refine wf_draw w4 (by omega) (by decide) (by decide) fun c a5 b5 c5 w5 c0 c1 => ?_
    try simp only [↓RUNH, POST, ↓k_law_table_3_law_draw, ↓k_law_table_3_law_grows_3]
    refine wf_draw w5 (by omega) (by decide) (by decide) fun d a6 b6 c6 w6 d0 d1 => ?_
    try simp only [↓RUNH, POST, ↓k_law_table_3_law_draw, ↓k_law_table_3_law_grows_3]
    have ha : -3 ≤ a - 3 ∧ a - 3 ≤ 3 := by omega
    have hb : -3 ≤ b - 3 ∧ b - 3 ≤ 3 := by omega
    have hc : -3 ≤ c - 3 ∧ c - 3 ≤ 3 := by omega
    have hd : -3 ≤ d - 3 ∧ d - 3 ≤ 3 := by omega
    generalize a - 3 = a at *
    generalize b - 3 = b at *
    generalize c - 3 = c at *
    generalize d - 3 = d at *
    have ti : TI ⟨a, b, c, d⟩ := ⟨⟨ha, hb⟩, hc, hd⟩
    have tb := ti.tb
    have nx := w6.mono (show n + 4 * i + 1 + 1 + 1 + 1 ≤ n + 4 * (i + 1) by omega)
    refine wf_law_grows_3 (t := ⟨a, b, c, d⟩) tb (by decide) ?_
    cases hg : Tb.grow ⟨a, b, c, d⟩
    · try simp only [↓RUNH, POST, ↓k_law_table_3_law_draw, ↓k_law_table_3_law_grows_3]
      exact ⟨_, _, _, _, _, _, _, _, _, rfl, nx⟩
    · try simp only [↓RUNH, POST, ↓k_law_table_3_law_draw, ↓k_law_table_3_law_grows_3]
      refine ⟨tb.a.mulOk tb.d (by decide), tb.b.mulOk tb.c (by decide), ?_⟩
      rw [abs_nat]
      refine IT.dec (fun h => ?_) fun h => ?_
      · try simp only [↓RUNH, POST, ↓k_law_table_3_law_draw, ↓k_law_table_3_law_grows_3]
        exact k ⟨a, b, c, d⟩ _ _ _ (w6.mono (by omega)) ⟨hg, ti, by show (a * d - b * c).natAbs ≤ 6; omega⟩
      · try simp only [↓RUNH, POST, ↓k_law_table_3_law_draw, ↓k_law_table_3_law_grows_3]
        exact ⟨_, _, _, _, _, _, _, _, _, rfl, nx⟩
  · obtain ⟨a, b, c, c2, c3, c4, c5, c6, c7, rfl, hw⟩ := hI
    try simp only [↓RUNH, POST, ↓k_law_table_3_law_draw, ↓k_law_table_3_law_grows_3]
    refine wf_draw hw (by omega) (by decide) (by decide) fun r a1 b1 c1 w1 r0 r1 => ?_
    try simp only [↓RUNH, POST, ↓k_law_table_3_law_draw, ↓k_law_table_3_law_grows_3]
    refine ix_tabs (ts := tabs51) r0 (by exact r1) fun t ht => ?_
    try simp only [↓RUNH, POST, ↓k_law_table_3_law_draw, ↓k_law_table_3_law_grows_3]
    exact k t _ _ _ (w1.mono (by omega)) (tabs51_ok t ht)
theorem wf_law_product_2 {s t : Tb} {n m : Nat} (h : TB n s) (h' : TB m t) (hn : n + m ≤ 900000) (k : K (.dat (dT (s.mul t))) .emp) : WF F_law_product_2 [.dat (dT s), .dat (dT t)] K := by
  simp only [b_law_product_2, ↓ir_law_product_2, ↓RUNH, POST, ↓rng1_2]
  exact ⟨h.a.mulOk h'.a hn, h.b.mulOk h'.c hn, h.a.mulOk h'.b hn, h.b.mulOk h'.d hn, by decide, h.c.mulOk h'.a hn, h.d.mulOk h'.c hn, h.c.mulOk h'.b hn, h.d.mulOk h'.d hn, by decide, k⟩
theorem wf_law_copies {n : Nat} {a b c wide st : Int} {m : Nat} (hw : We n a b c) (hn : n ≤ 9000000) (hm : 0 < m ∧ m ≤ 900) (hx : 0 ≤ wide ∧ wide ≤ 999999999) (hs : 0 < st ∧ st ≤ 1000) (k : ∀ cs a' b' c', We (n + 3 * m) a' b' c' → LOk st 900 999999999 cs → K (.dat (dS cs)) (wl a' b' c')) : WF F_law_copies [wl a b c, .dat (.int (m : Int)), .dat (.int wide), .dat (.int st)] K := by
  rw [b_law_copies]
  simp only [↓ir_law_copies, ↓RUNH, POST, ↓k_law_copies_law_draw]
  refine rng1 (by omega) ?_
  refine fo_range (fun i ρ => ∃ (cs : List Cp) (a b c : Int) (c5 c6 : Cell), ρ = [wl a b c, .dat (.int (m : Int)), .dat (.int wide), .dat (.int st), .own (cs.map fun c => dC c), c5, c6] ∧ We (n + 3 * i) a b c ∧ cs.length = i ∧ ∀ c ∈ cs, COk st 999999999 c) ⟨[], _, _, _, _, _, rfl, hw, rfl, by simp⟩ (fun i ρ hi hI => ?_) fun ρ hI => ?_
  · obtain ⟨cs, a, b, c, c5, c6, rfl, hw, hcl, hcs⟩ := hI
    try simp only [↓RUNH, POST, ↓k_law_copies_law_draw]
    refine ⟨mulOk_l (by decide), ?_⟩
    refine wf_draw hw (by omega) (by omega) (by omega) fun u a1 b1 c1 w1 u0 u1 => ?_
    try simp only [↓RUNH, POST, ↓k_law_copies_law_draw]
    refine ⟨mulOk_l (by decide), ?_⟩
    refine wf_draw w1 (by omega) (by omega) (by omega) fun v a1 b1 c1 w2 v0 v1 => ?_
    try simp only [↓RUNH, POST, ↓k_law_copies_law_draw]
    refine wf_draw w2 (by omega) hs.1 (by omega) fun g a1 b1 c1 w3 g0 g1 => ?_
    try simp only [↓RUNH, POST, ↓k_law_copies_law_draw]
    refine ⟨by rw [List.length_map]; omega, cs ++ [⟨u - wide, v - wide, g⟩], _, _, _, _, _, by rw [List.map_append]; rfl, w3.mono (by omega), by simp [hcl], fun c hc => ?_⟩
    rcases List.mem_append.mp hc with z | z
    · exact hcs c z
    · rw [List.mem_singleton] at z
      rw [z]; exact ⟨by show -999999999 ≤ u - wide; omega, by show u - wide ≤ 999999999; omega, by show -999999999 ≤ v - wide; omega, by show v - wide ≤ 999999999; omega, g0, g1⟩
  · obtain ⟨cs, a, b, c, c5, c6, rfl, hw, hcl, hcs⟩ := hI
    try simp only [↓RUNH, POST, ↓k_law_copies_law_draw]
    rw [sset_eq]
    refine ⟨sset_ok (by omega), k _ _ _ _ hw (onC_LOk (fun z => by rw [z] at hcl; exact absurd hcl.symm (by simp; omega)) (by omega) hcs)⟩
/-- the table, and so often itself again -/
def mulN (t : Tb) : Nat → Tb
  | 0 => t
  | n + 1 => t.mul (mulN t n)
theorem mulN_TB {t : Tb} (h : TB 2 t) : ∀ n, TB (2 + 3 * n) (mulN t n)
  | 0 => h
  | n + 1 => (TB.mul h (mulN_TB h n)).mono (by omega)
/-- a drawn kit -/
structure K51 (t : Tb) (n : Nat) (ls : List (List Cp)) : Prop where
  t3 : T32 t
  n4 : n = 0 ∨ n = 1 ∨ n = 3 ∨ n = 8
  ne : ls ≠ []
  len : ls.length ≤ 40
  ok : ∀ l ∈ ls, LOk ls.length 900 999999999 l
def kitB2 : Sms := match ir_law_kit_2 with
  | .cons _ (.cons _ (.cons _ (.cons (.for_ _ _ b) _))) => b
  | _ => .nil
theorem kit_loop2 {n : Nat} {a b c most : Int} {t : Tb} {sz : Nat} {c6 c7 : Cell} {Q : Out → Rho → Prop} (hw : We n a b c) (hn : n ≤ 6000000) (hsz : 0 < sz ∧ sz ≤ 40) (hM : 0 < most ∧ most ≤ 900)
    (k : ∀ (ls : List (List Cp)) (a b c : Int) (c6 c7 : Cell), We (n + 3000 * sz) a b c → ls.length = sz → (∀ l ∈ ls, LOk sz 900 999999999 l) → Q .nx [wl a b c, .dat (.int (sz : Int)), .dat (dT t), .dat (dT t), .dat (.int most), .own (ls.map fun l => dS l), c6, c7]) :
    WP (forL (.n 6) (exs T_law_kit_2 fuel kitB2) (rngL 0 sz) [wl a b c, .dat (.int (sz : Int)), .dat (dT t), .dat (dT t), .dat (.int most), .own [], c6, c7]) Q := by
  refine fo_range (fun i ρ => ∃ (ls : List (List Cp)) (a b c : Int) (c6 c7 : Cell), ρ = [wl a b c, .dat (.int (sz : Int)), .dat (dT t), .dat (dT t), .dat (.int most), .own (ls.map fun l => dS l), c6, c7] ∧ We (n + 3000 * i) a b c ∧ ls.length = i ∧ ∀ l ∈ ls, LOk sz 900 999999999 l) ⟨[], _, _, _, _, _, rfl, hw, rfl, by simp⟩ (fun i ρ hi hI => ?_) fun ρ hI => ?_
  · obtain ⟨ls, a, b, c, c6, c7, rfl, hw, hl, hok⟩ := hI
    have body : ∀ {n2 : Nat} {a b c w : Int}, We n2 a b c → n2 ≤ n + 3000 * i + 5 → 0 ≤ w ∧ w ≤ 999999999 → (K : Cell → Cell → Prop) → (∀ cs a' b' c', We (n + 3000 * (i + 1)) a' b' c' → LOk sz 900 999999999 cs → K (.dat (dS cs)) (wl a' b' c')) → (r : Int) → 0 ≤ r → r < most → WF F_law_copies [wl a b c, .dat (.int (1 + r)), .dat (.int w), .dat (.int (sz : Int))] K := fun {n2 a b c w} h2 hn2 hw' K k r r0 r1 => by
      obtain ⟨m, em, m0, m1⟩ : ∃ m : Nat, 1 + r = (m : Int) ∧ 0 < m ∧ m ≤ 900 := ⟨(1 + r).toNat, by omega, by omega, by omega⟩
      rw [em]
      exact wf_law_copies h2 (by omega) ⟨m0, m1⟩ hw' (by omega) fun cs a' b' c' w' hc => k cs a' b' c' (w'.mono (by omega)) hc
    have lst : ∀ {cs : List Cp}, (ls.map fun l => dS l) ++ [dS cs] = (ls ++ [cs]).map fun l => dS l := fun {cs} => by rw [List.map_append]; rfl
    have okk : ∀ {cs : List Cp}, LOk sz 900 999999999 cs → ∀ l ∈ ls ++ [cs], LOk sz 900 999999999 l := fun {cs} h l hl' => by
      rcases List.mem_append.mp hl' with z | z
      · exact hok l z
      · rw [List.mem_singleton] at z
        rw [z]; exact h
    simp only [kitB2, ir_law_kit_2]
    try simp only [↓RUNH, POST, ↓k_law_kit_2_law_table_3, ↓k_law_kit_2_law_product_2, ↓k_law_kit_2_law_draw, ↓k_law_kit_2_law_copies]
    refine IT.dec (fun h => ?_) fun h => ?_
    · try simp only [↓RUNH, POST, ↓k_law_kit_2_law_table_3, ↓k_law_kit_2_law_product_2, ↓k_law_kit_2_law_draw, ↓k_law_kit_2_law_copies]
      refine wf_draw hw (by omega) (by decide) (by decide) fun r a1 b1 c1 w1 r0 r1 => ?_
      try simp only [↓RUNH, POST, ↓k_law_kit_2_law_table_3, ↓k_law_kit_2_law_product_2, ↓k_law_kit_2_law_draw, ↓k_law_kit_2_law_copies]
      refine ix_mem2 (P := fun d => ∃ s : Int, d = .int s ∧ 0 ≤ s ∧ s ≤ 999999999) r0 (by exact r1) (fun d hd => ?_) fun d hd => ?_
      · simp only [List.mem_cons, List.not_mem_nil, or_false] at hd
        rcases hd with rfl | rfl | rfl | rfl <;> exact ⟨_, rfl, by decide⟩
      obtain ⟨wd, rfl, hwd⟩ := hd
      try simp only [↓RUNH, POST, ↓k_law_kit_2_law_table_3, ↓k_law_kit_2_law_product_2, ↓k_law_kit_2_law_draw, ↓k_law_kit_2_law_copies]
      refine wf_draw w1 (by omega) hM.1 (by omega) fun r a1 b1 c1 w2 r0 r1 => ?_
      try simp only [↓RUNH, POST, ↓k_law_kit_2_law_table_3, ↓k_law_kit_2_law_product_2, ↓k_law_kit_2_law_draw, ↓k_law_kit_2_law_copies]
      refine body w2 (by omega) hwd _ (fun cs a' b' c' w' hc => ?_) r r0 r1
      try simp only [↓RUNH, POST, ↓k_law_kit_2_law_table_3, ↓k_law_kit_2_law_product_2, ↓k_law_kit_2_law_draw, ↓k_law_kit_2_law_copies]
      exact ⟨by rw [List.length_map]; omega, ls ++ [cs], _, _, _, _, _, by rw [lst], w', by simp [hl], okk hc⟩
    · try simp only [↓RUNH, POST, ↓k_law_kit_2_law_table_3, ↓k_law_kit_2_law_product_2, ↓k_law_kit_2_law_draw, ↓k_law_kit_2_law_copies]
      refine wf_draw hw (by omega) hM.1 (by omega) fun r a1 b1 c1 w2 r0 r1 => ?_
      try simp only [↓RUNH, POST, ↓k_law_kit_2_law_table_3, ↓k_law_kit_2_law_product_2, ↓k_law_kit_2_law_draw, ↓k_law_kit_2_law_copies]
      refine body w2 (by omega) (by decide) _ (fun cs a' b' c' w' hc => ?_) r r0 r1
      try simp only [↓RUNH, POST, ↓k_law_kit_2_law_table_3, ↓k_law_kit_2_law_product_2, ↓k_law_kit_2_law_draw, ↓k_law_kit_2_law_copies]
      exact ⟨by rw [List.length_map]; omega, ls ++ [cs], _, _, _, _, _, by rw [lst], w', by simp [hl], okk hc⟩
  · obtain ⟨ls, a, b, c, c6, c7, rfl, hw, hl, hok⟩ := hI
    exact k _ _ _ _ _ _ hw hl hok
def kitB3 : Sms := match ir_law_kit_2 with
  | .cons _ (.cons _ (.cons _ (.cons _ (.cons (.for_ _ _ b) _)))) => b
  | _ => .nil
theorem pow_loop2 {c0 : Cell} {t : Tb} {sz most : Int} {n : Nat} {xs : List D} {c6 c7 : Cell} {Q : Out → Rho → Prop} (ht : TI t) (hn : n ≤ 100)
    (k : ∀ c6, Q .nx [c0, .dat (.int sz), .dat (dT t), .dat (dT (mulN t n)), .dat (.int most), .own xs, c6, c7]) :
    WP (forL (.n 6) (exs T_law_kit_2 fuel kitB3) (rngL 0 n) [c0, .dat (.int sz), .dat (dT t), .dat (dT t), .dat (.int most), .own xs, c6, c7]) Q := by
  refine fo_range (fun i ρ => ∃ c6, ρ = [c0, .dat (.int sz), .dat (dT t), .dat (dT (mulN t i)), .dat (.int most), .own xs, c6, c7]) ⟨_, rfl⟩ (fun i ρ hi hI => ?_) fun ρ hI => ?_
  · obtain ⟨c6, rfl⟩ := hI
    simp only [kitB3, ir_law_kit_2]
    try simp only [↓RUNH, POST, ↓k_law_kit_2_law_table_3, ↓k_law_kit_2_law_product_2, ↓k_law_kit_2_law_draw, ↓k_law_kit_2_law_copies]
    refine wf_law_product_2 ht.tb (mulN_TB ht.tb i) (by omega) ?_
    try simp only [↓RUNH, POST, ↓k_law_kit_2_law_table_3, ↓k_law_kit_2_law_product_2, ↓k_law_kit_2_law_draw, ↓k_law_kit_2_law_copies]
    exact ⟨_, rfl⟩
  · obtain ⟨c6, rfl⟩ := hI
    exact k _
theorem wf_law_kit_2 {n : Nat} {a b c : Int} (hw : We n a b c) (hn : n ≤ 5000000) (k : ∀ t m ls a' b' c', We (n + 130000) a' b' c' → K51 t m ls → K (.dat (dG (mulN t m) ls)) (wl a' b' c')) : WF F_law_kit_2 [wl a b c] K := by
  rw [b_law_kit_2]
  simp only [↓ir_law_kit_2, ↓RUNH, POST, ↓k_law_kit_2_law_table_3, ↓k_law_kit_2_law_product_2, ↓k_law_kit_2_law_draw, ↓k_law_kit_2_law_copies]
  refine wf_draw hw (by omega) (by decide) (by decide) fun r a1 b1 c1 w1 r0 r1 => ?_
  try simp only [↓RUNH, POST, ↓k_law_kit_2_law_table_3, ↓k_law_kit_2_law_product_2, ↓k_law_kit_2_law_draw, ↓k_law_kit_2_law_copies]
  refine ix_mem2 (P := fun d => ∃ s : Nat, d = .int (s : Int) ∧ 0 < s ∧ s ≤ 40) r0 (by exact r1) (fun d hd => ?_) fun d hd => ?_
  · simp only [List.mem_cons, List.not_mem_nil, or_false] at hd
    rcases hd with rfl | rfl | rfl | rfl | rfl | rfl | rfl
    · exact ⟨1, rfl, by decide⟩
    · exact ⟨2, rfl, by decide⟩
    · exact ⟨3, rfl, by decide⟩
    · exact ⟨4, rfl, by decide⟩
    · exact ⟨4, rfl, by decide⟩
    · exact ⟨12, rfl, by decide⟩
    · exact ⟨40, rfl, by decide⟩
  obtain ⟨sz, rfl, hsz⟩ := hd
  try simp only [↓RUNH, POST, ↓k_law_kit_2_law_table_3, ↓k_law_kit_2_law_product_2, ↓k_law_kit_2_law_draw, ↓k_law_kit_2_law_copies]
  refine wf_law_table_3 w1 (by omega) fun t a2 b2 c2 w2 ht => ?_
  try simp only [↓RUNH, POST, ↓k_law_kit_2_law_table_3, ↓k_law_kit_2_law_product_2, ↓k_law_kit_2_law_draw, ↓k_law_kit_2_law_copies]
  refine wf_draw w2 (by omega) (by decide) (by decide) fun r a3 b3 c3 w3 r0 r1 => ?_
  try simp only [↓RUNH, POST, ↓k_law_kit_2_law_table_3, ↓k_law_kit_2_law_product_2, ↓k_law_kit_2_law_draw, ↓k_law_kit_2_law_copies]
  refine ix_mem2 (P := fun d => ∃ s : Int, d = .int s ∧ 0 < s ∧ s ≤ 900) r0 (by exact r1) (fun d hd => ?_) fun d hd => ?_
  · simp only [List.mem_cons, List.not_mem_nil, or_false] at hd
    rcases hd with rfl | rfl | rfl <;> exact ⟨_, rfl, by decide⟩
  obtain ⟨most, rfl, hM⟩ := hd
  try simp only [↓RUNH, POST, ↓k_law_kit_2_law_table_3, ↓k_law_kit_2_law_product_2, ↓k_law_kit_2_law_draw, ↓k_law_kit_2_law_copies]
  refine IT.dec (fun h => ?_) fun h => ?_
  · try simp only [↓RUNH, POST, ↓k_law_kit_2_law_table_3, ↓k_law_kit_2_law_product_2, ↓k_law_kit_2_law_draw, ↓k_law_kit_2_law_copies]
    have s4 : sz = 1 ∨ sz = 2 ∨ sz = 3 ∨ sz = 4 := by omega
    have dk : divOk (sz : Int) = true := by rcases s4 with rfl | rfl | rfl | rfl <;> decide
    refine ⟨dk, ?_⟩
    refine wf_draw w3 (by omega) (by decide) (by decide) fun r a4 b4 c4 w4 r0 r1 => ?_
    try simp only [↓RUNH, POST, ↓k_law_kit_2_law_table_3, ↓k_law_kit_2_law_product_2, ↓k_law_kit_2_law_draw, ↓k_law_kit_2_law_copies]
    have f9 : 0 < Int.fdiv 900 (sz : Int) ∧ Int.fdiv 900 (sz : Int) ≤ 900 := by rcases s4 with rfl | rfl | rfl | rfl <;> decide
    refine ix_mem2 (P := fun d => ∃ s : Int, d = .int s ∧ 0 < s ∧ s ≤ 900) r0 (by exact r1) (fun d hd => ?_) fun d hd => ?_
    · simp only [List.mem_cons, List.not_mem_nil, or_false] at hd
      rcases hd with rfl | rfl | rfl | rfl | rfl | rfl
      · exact ⟨_, rfl, by decide⟩
      · exact ⟨_, rfl, by decide⟩
      · exact ⟨_, rfl, by decide⟩
      · exact ⟨_, rfl, by decide⟩
      · exact ⟨_, rfl, by decide⟩
      · exact ⟨_, rfl, f9⟩
    obtain ⟨most, rfl, hM⟩ := hd
    try simp only [↓RUNH, POST, ↓k_law_kit_2_law_table_3, ↓k_law_kit_2_law_product_2, ↓k_law_kit_2_law_draw, ↓k_law_kit_2_law_copies]
    refine rng1 (by omega) ?_
    refine kit_loop2 (w4) (by omega) hsz hM fun ls a5 b5 c5 c6 c7 w5 hl hok => ?_
    try simp only [↓RUNH, POST, ↓k_law_kit_2_law_table_3, ↓k_law_kit_2_law_product_2, ↓k_law_kit_2_law_draw, ↓k_law_kit_2_law_copies]
    refine wf_draw w5 (by omega) (by decide) (by decide) fun r a6 b6 c6' w6 r0 r1 => ?_
    try simp only [↓RUNH, POST, ↓k_law_kit_2_law_table_3, ↓k_law_kit_2_law_product_2, ↓k_law_kit_2_law_draw, ↓k_law_kit_2_law_copies]
    refine ix_mem2 (P := fun d => ∃ m : Nat, d = .int (m : Int) ∧ (m = 0 ∨ m = 1 ∨ m = 3 ∨ m = 8)) r0 (by exact r1) (fun d hd => ?_) fun d hd => ?_
    · simp only [List.mem_cons, List.not_mem_nil, or_false] at hd
      rcases hd with rfl | rfl | rfl | rfl | rfl | rfl
      · exact ⟨0, rfl, by decide⟩
      · exact ⟨0, rfl, by decide⟩
      · exact ⟨0, rfl, by decide⟩
      · exact ⟨1, rfl, by decide⟩
      · exact ⟨3, rfl, by decide⟩
      · exact ⟨8, rfl, by decide⟩
    obtain ⟨m, rfl, hm⟩ := hd
    try simp only [↓RUNH, POST, ↓k_law_kit_2_law_table_3, ↓k_law_kit_2_law_product_2, ↓k_law_kit_2_law_draw, ↓k_law_kit_2_law_copies]
    refine rng1 (by omega) ?_
    refine pow_loop2 ht.i (by omega) fun c6'' => ?_
    try simp only [↓RUNH, POST, ↓k_law_kit_2_law_table_3, ↓k_law_kit_2_law_product_2, ↓k_law_kit_2_law_draw, ↓k_law_kit_2_law_copies]
    subst hl
    exact k t m ls _ _ _ (w6.mono (by omega)) ⟨ht, hm, (fun z => by rw [z] at hsz; exact absurd hsz.1 (by decide)), by omega, hok⟩
  · try simp only [↓RUNH, POST, ↓k_law_kit_2_law_table_3, ↓k_law_kit_2_law_product_2, ↓k_law_kit_2_law_draw, ↓k_law_kit_2_law_copies]
    refine rng1 (by omega) ?_
    refine kit_loop2 (w3) (by omega) hsz hM fun ls a5 b5 c5 c6 c7 w5 hl hok => ?_
    try simp only [↓RUNH, POST, ↓k_law_kit_2_law_table_3, ↓k_law_kit_2_law_product_2, ↓k_law_kit_2_law_draw, ↓k_law_kit_2_law_copies]
    refine wf_draw w5 (by omega) (by decide) (by decide) fun r a6 b6 c6' w6 r0 r1 => ?_
    try simp only [↓RUNH, POST, ↓k_law_kit_2_law_table_3, ↓k_law_kit_2_law_product_2, ↓k_law_kit_2_law_draw, ↓k_law_kit_2_law_copies]
    refine ix_mem2 (P := fun d => ∃ m : Nat, d = .int (m : Int) ∧ (m = 0 ∨ m = 1 ∨ m = 3 ∨ m = 8)) r0 (by exact r1) (fun d hd => ?_) fun d hd => ?_
    · simp only [List.mem_cons, List.not_mem_nil, or_false] at hd
      rcases hd with rfl | rfl | rfl | rfl | rfl | rfl
      · exact ⟨0, rfl, by decide⟩
      · exact ⟨0, rfl, by decide⟩
      · exact ⟨0, rfl, by decide⟩
      · exact ⟨1, rfl, by decide⟩
      · exact ⟨3, rfl, by decide⟩
      · exact ⟨8, rfl, by decide⟩
    obtain ⟨m, rfl, hm⟩ := hd
    try simp only [↓RUNH, POST, ↓k_law_kit_2_law_table_3, ↓k_law_kit_2_law_product_2, ↓k_law_kit_2_law_draw, ↓k_law_kit_2_law_copies]
    refine rng1 (by omega) ?_
    refine pow_loop2 ht.i (by omega) fun c6'' => ?_
    try simp only [↓RUNH, POST, ↓k_law_kit_2_law_table_3, ↓k_law_kit_2_law_product_2, ↓k_law_kit_2_law_draw, ↓k_law_kit_2_law_copies]
    subst hl
    exact k t m ls _ _ _ (w6.mono (by omega)) ⟨ht, hm, (fun z => by rw [z] at hsz; exact absurd hsz.1 (by decide)), by omega, hok⟩
theorem addr_loop {n m : Nat} {a b c wd : Int} {c1 c3 c4 : Cell} {Q : List D → Rho → Prop} (hw : We n a b c) (hn : n + m ≤ 9000000) (hwd : 0 < wd ∧ wd ≤ 100000000)
    (k : ∀ (ns : List Int) (a b c : Int) (c3 : Cell), We (n + m) a b c → ns.length = m → (∀ i ∈ ns, 0 ≤ i ∧ i < wd) → Q (ns.map .int) [wl a b c, c1, .dat (.int wd), c3, c4]) :
    WP (lcLoop (lcTurn T_law_address (.call 196 (.cons (.var 0) (.cons (.var 2) .nil)) [] .nil) (.n 3) .no) [3] (rngL 0 m) [wl a b c, c1, .dat (.int wd), c3, c4]) Q := by
  refine lc_inv (fun i ys ρ => ∃ (ns : List Int) (a b c : Int) (c3 : Cell), ys = ns.map .int ∧ ρ = [wl a b c, c1, .dat (.int wd), c3, c4] ∧ We (n + i) a b c ∧ ns.length = i ∧ ∀ j ∈ ns, 0 ≤ j ∧ j < wd) ⟨[], _, _, _, _, rfl, rfl, hw, rfl, by simp⟩ (fun i d ys ρ hd hI => ?_) fun ys ρ hI => ?_
  · obtain ⟨ns, a, b, c, c3, rfl, rfl, hw, hl, hns⟩ := hI
    obtain ⟨hi, rfl⟩ := rngL_at hd
    rw [lc_turn]
    try simp only [↓RUNH, POST, ↓k_law_address_law_draw]
    refine wf_draw hw (by omega) hwd.1 (by omega) fun r a1 b1 c1' w1 r0 r1 => ?_
    try simp only [↓RUNH, POST, ↓k_law_address_law_draw]
    refine ⟨ns ++ [r], _, _, _, _, by rw [List.map_append]; rfl, rfl, w1, by simp [hl], fun j hj => ?_⟩
    rcases List.mem_append.mp hj with z | z
    · exact hns j z
    · rw [List.mem_singleton] at z
      rw [z]; exact ⟨r0, r1⟩
  · obtain ⟨ns, a, b, c, c3, rfl, rfl, hw, hl, hns⟩ := hI
    rw [rngL_len] at hw hl
    exact k ns _ _ _ _ hw hl hns
theorem wf_law_address {n : Nat} {a b c : Int} (hw : We n a b c) (hn : n ≤ 5000000) (k : ∀ ah ri a' b' c', We (n + 4000) a' b' c' → Ad ah ri → (∀ i ∈ ah ++ ri, 0 ≤ i ∧ i < 100000000) → K (.dat (dA ah ri)) (wl a' b' c')) : WF F_law_address [wl a b c] K := by
  rw [b_law_address]
  simp only [↓ir_law_address, ↓RUNH, POST, ↓k_law_address_law_draw]
  refine wf_draw hw (by omega) (by decide) (by decide) fun r a1 b1 c1 w1 r0 r1 => ?_
  try simp only [↓RUNH, POST, ↓k_law_address_law_draw]
  refine ix_mem2 (P := fun d => ∃ s : Nat, d = .int (s : Int) ∧ s ≤ 40) r0 (by exact r1) (fun d hd => ?_) fun d hd => ?_
  · simp only [List.mem_cons, List.not_mem_nil, or_false] at hd
    rcases hd with rfl | rfl | rfl | rfl | rfl
    · exact ⟨0, rfl, by decide⟩
    · exact ⟨1, rfl, by decide⟩
    · exact ⟨2, rfl, by decide⟩
    · exact ⟨7, rfl, by decide⟩
    · exact ⟨40, rfl, by decide⟩
  obtain ⟨s1, rfl, hs1⟩ := hd
  try simp only [↓RUNH, POST, ↓k_law_address_law_draw]
  refine wf_draw w1 (by omega) (by decide) (by decide) fun r a1 b1 c1 w2 r0 r1 => ?_
  try simp only [↓RUNH, POST, ↓k_law_address_law_draw]
  refine ix_mem2 (P := fun d => ∃ s : Nat, d = .int (s : Int) ∧ 0 < s ∧ s ≤ 3000) r0 (by exact r1) (fun d hd => ?_) fun d hd => ?_
  · simp only [List.mem_cons, List.not_mem_nil, or_false] at hd
    rcases hd with rfl | rfl | rfl | rfl | rfl | rfl | rfl
    · exact ⟨1, rfl, by decide⟩
    · exact ⟨1, rfl, by decide⟩
    · exact ⟨2, rfl, by decide⟩
    · exact ⟨3, rfl, by decide⟩
    · exact ⟨9, rfl, by decide⟩
    · exact ⟨96, rfl, by decide⟩
    · exact ⟨3000, rfl, by decide⟩
  obtain ⟨s2, rfl, hs2⟩ := hd
  try simp only [↓RUNH, POST, ↓k_law_address_law_draw]
  refine wf_draw w2 (by omega) (by decide) (by decide) fun r a1 b1 c1 w3 r0 r1 => ?_
  try simp only [↓RUNH, POST, ↓k_law_address_law_draw]
  refine ix_mem2 (P := fun d => ∃ s : Int, d = .int s ∧ 0 < s ∧ s ≤ 100000000) r0 (by exact r1) (fun d hd => ?_) fun d hd => ?_
  · simp only [List.mem_cons, List.not_mem_nil, or_false] at hd
    rcases hd with rfl | rfl | rfl | rfl <;> exact ⟨_, rfl, by decide⟩
  obtain ⟨wd, rfl, hwd⟩ := hd
  try simp only [↓RUNH, POST, ↓k_law_address_law_draw]
  refine rng1 (by omega) ?_
  refine addr_loop w3 (by omega) hwd fun ah a4 b4 c4 c3 w4 la ha => ?_
  try simp only [↓RUNH, POST, ↓k_law_address_law_draw]
  refine rng1 (by omega) ?_
  refine addr_loop w4 (by omega) hwd fun ri a5 b5 c5 c3' w5 lr hr => ?_
  try simp only [↓RUNH, POST, ↓k_law_address_law_draw]
  have nb : ∀ i : Int, 0 ≤ i ∧ i < wd → Nb 12 i := fun i hi => Nat.lt_trans (show i.natAbs < 100000000 by omega) (by decide +kernel)
  refine k ah ri _ _ _ (w5.mono (by omega)) ⟨fun i hi => nb i (ha i hi), fun i hi => nb i (hr i hi), by omega, by omega, fun z => by rw [z] at lr; exact absurd lr (by simp; omega)⟩ fun i hi => ?_
  rcases List.mem_append.mp hi with z | z
  · have := ha i z; omega
  · have := hr i z; omega
/-- a thing of a door, its text -/
inductive Th : Int → D → Str → Prop where
  | num {p q : Int} (hp : Nb 300 p) (hq : Nb 300 q) : Th 0 (dP p q) (tN p q)
  | pt {p q r s : Int} (hp : Nb 300 p) (hq : Nb 300 q) (hr : Nb 300 r) (hs : Nb 300 s) : Th 1 (.tuple [dP p q, dP r s]) (tPt p q r s)
  | adr {ah ri : List Int} (h : Ad ah ri) : Th 2 (dA ah ri) (tA ah ri)
  | kit {t : Tb} {ls : List (List Cp)} (h : Kt t ls) : Th 3 (dG t ls) (tK t ls)
  | rows {rs : List Str} (h : ∀ r ∈ rs, r.length ≤ 1000) (hl : rs.length ≤ 1000) : Th 4 (.list (rs.map .str)) (tR rs)
theorem Th.len {d : Int} {x : D} {s : Str} (h : Th d x s) : s.length ≤ 16777216 := by
  cases h with
  | num hp hq => have := tN2_len hp hq; omega
  | pt hp hq hr hs =>
    have := tN2_len hp hq
    have := tN2_len hr hs
    unfold tPt
    rw [Str.length_append, Str.length_append, sp1_len]
    omega
  | adr h => have := tA_len h; omega
  | kit h => have := tK_len h; omega
  | rows h hl => exact Nat.le_trans (jn_len h hl) (by decide)
theorem K51.kt {t : Tb} {n : Nat} {ls : List (List Cp)} (h : K51 t n ls) : Kt (mulN t n) ls := by
  have tb : TB 26 (mulN t n) := (mulN_TB h.t3.i.tb n).mono (by have := h.n4; omega)
  have nb : ∀ {i : Int}, B 26 i → Nb 12 i := fun h => Nat.lt_trans h (by decide +kernel)
  have n9 : ∀ {i : Int}, -999999999 ≤ i ∧ i ≤ 999999999 → Nb 12 i := fun {i} h => Nat.lt_trans (show i.natAbs < 1000000000 by omega) (by decide +kernel)
  have := h.len
  refine ⟨nb tb.a, nb tb.b, nb tb.c, nb tb.d, by omega, fun l hl => ?_⟩
  obtain ⟨_, h2, _, h4⟩ := h.ok l hl
  refine ⟨by omega, fun c hc => ?_⟩
  obtain ⟨q1, q2, q3, q4, q5, q6⟩ := h4 c hc
  exact ⟨n9 ⟨q1, q2⟩, n9 ⟨q3, q4⟩, n9 ⟨by omega, by omega⟩⟩
theorem wf_law_thing {n : Nat} {a b c : Int} {i : Nat} (hw : We n a b c) (hn : n ≤ 4000000) (hi : i < 5) (k : ∀ x s a' b' c', We (n + 140000) a' b' c' → Th (i : Int) x s → K (.dat (.tuple [x, .str s])) (wl a' b' c')) : WF F_law_thing [wl a b c, .dat (.int (i : Int))] K := by
  rw [b_law_thing]
  simp only [↓ir_law_thing, ↓RUNH, POST, ↓k_law_thing_law_draw, ↓k_law_thing_law_number, ↓k_law_thing_law_address, ↓k_law_thing_law_kit_2, ↓k_law_thing_law_said_number, ↓k_law_thing_law_said_address, ↓k_law_thing_law_said_kit]
  refine wf_draw hw (by omega) (by decide) (by decide) fun r a1 b1 c1 w1 r0 r1 => ?_
  try simp only [↓RUNH, POST, ↓k_law_thing_law_draw, ↓k_law_thing_law_number, ↓k_law_thing_law_address, ↓k_law_thing_law_kit_2, ↓k_law_thing_law_said_number, ↓k_law_thing_law_said_address, ↓k_law_thing_law_said_kit]
  refine ix_mem2 (P := fun d => ∃ s : Nat, d = .int (s : Int) ∧ 2 ≤ s ∧ s ≤ 300) r0 (by exact r1) (fun d hd => ?_) fun d hd => ?_
  · simp only [List.mem_cons, List.not_mem_nil, or_false] at hd
    rcases hd with rfl | rfl | rfl | rfl
    · exact ⟨2, rfl, by decide⟩
    · exact ⟨9, rfl, by decide⟩
    · exact ⟨40, rfl, by decide⟩
    · exact ⟨300, rfl, by decide⟩
  obtain ⟨m, rfl, hm⟩ := hd
  have i5 : i = 0 ∨ i = 1 ∨ i = 2 ∨ i = 3 ∨ i = 4 := by omega
  try simp only [↓RUNH, POST, ↓k_law_thing_law_draw, ↓k_law_thing_law_number, ↓k_law_thing_law_address, ↓k_law_thing_law_kit_2, ↓k_law_thing_law_said_number, ↓k_law_thing_law_said_address, ↓k_law_thing_law_said_kit]
  rcases i5 with rfl | rfl | rfl | rfl | rfl
  all_goals
    simp only [show ((0 : Nat) : Int) = 0 from rfl, show ((1 : Nat) : Int) = 1 from rfl, show ((2 : Nat) : Int) = 2 from rfl, show ((3 : Nat) : Int) = 3 from rfl, show ((4 : Nat) : Int) = 4 from rfl, show decide ((0 : Int) = 0) = true from rfl, show decide ((1 : Int) = 0) = false from rfl, show decide ((2 : Int) = 0) = false from rfl, show decide ((3 : Int) = 0) = false from rfl, show decide ((4 : Int) = 0) = false from rfl, show decide ((1 : Int) = 1) = true from rfl, show decide ((2 : Int) = 1) = false from rfl, show decide ((3 : Int) = 1) = false from rfl, show decide ((4 : Int) = 1) = false from rfl, show decide ((2 : Int) = 2) = true from rfl, show decide ((3 : Int) = 2) = false from rfl, show decide ((4 : Int) = 2) = false from rfl, show decide ((3 : Int) = 3) = true from rfl, show decide ((4 : Int) = 3) = false from rfl, ↓RUNH, POST, ↓k_law_thing_law_draw, ↓k_law_thing_law_number, ↓k_law_thing_law_address, ↓k_law_thing_law_kit_2, ↓k_law_thing_law_said_number, ↓k_law_thing_law_said_address, ↓k_law_thing_law_said_kit]
  · refine wf_law_number w1 (by omega) hm.1 hm.2 fun p q a2 b2 c2 w2 hp hq => ?_
    try simp only [↓RUNH, POST, ↓k_law_thing_law_draw, ↓k_law_thing_law_number, ↓k_law_thing_law_address, ↓k_law_thing_law_kit_2, ↓k_law_thing_law_said_number, ↓k_law_thing_law_said_address, ↓k_law_thing_law_said_kit]
    refine wf_law_said_number hp hq ?_
    try simp only [↓RUNH, POST, ↓k_law_thing_law_draw, ↓k_law_thing_law_number, ↓k_law_thing_law_address, ↓k_law_thing_law_kit_2, ↓k_law_thing_law_said_number, ↓k_law_thing_law_said_address, ↓k_law_thing_law_said_kit]
    exact k _ _ _ _ _ (w2.mono (by omega)) (.num hp hq)
  · refine wf_law_number w1 (by omega) hm.1 hm.2 fun p q a2 b2 c2 w2 hp hq => ?_
    try simp only [↓RUNH, POST, ↓k_law_thing_law_draw, ↓k_law_thing_law_number, ↓k_law_thing_law_address, ↓k_law_thing_law_kit_2, ↓k_law_thing_law_said_number, ↓k_law_thing_law_said_address, ↓k_law_thing_law_said_kit]
    refine wf_law_number w2 (by omega) hm.1 hm.2 fun r s a3 b3 c3 w3 hr hs => ?_
    have l1 := tN2_len hp hq
    have l2 := tN2_len hr hs
    try simp only [↓RUNH, POST, ↓k_law_thing_law_draw, ↓k_law_thing_law_number, ↓k_law_thing_law_address, ↓k_law_thing_law_kit_2, ↓k_law_thing_law_said_number, ↓k_law_thing_law_said_address, ↓k_law_thing_law_said_kit]
    refine wf_law_said_number hp hq ?_
    try simp only [↓RUNH, POST, ↓k_law_thing_law_draw, ↓k_law_thing_law_number, ↓k_law_thing_law_address, ↓k_law_thing_law_kit_2, ↓k_law_thing_law_said_number, ↓k_law_thing_law_said_address, ↓k_law_thing_law_said_kit]
    refine ⟨by rw [sp1_len]; omega, ?_⟩
    refine wf_law_said_number hr hs ?_
    try simp only [↓RUNH, POST, ↓k_law_thing_law_draw, ↓k_law_thing_law_number, ↓k_law_thing_law_address, ↓k_law_thing_law_kit_2, ↓k_law_thing_law_said_number, ↓k_law_thing_law_said_address, ↓k_law_thing_law_said_kit]
    exact ⟨by rw [Str.length_append, sp1_len]; omega, k _ _ _ _ _ (w3.mono (by omega)) (.pt hp hq hr hs)⟩
  · refine wf_law_address w1 (by omega) fun ah ri a2 b2 c2 w2 h _ => ?_
    try simp only [↓RUNH, POST, ↓k_law_thing_law_draw, ↓k_law_thing_law_number, ↓k_law_thing_law_address, ↓k_law_thing_law_kit_2, ↓k_law_thing_law_said_number, ↓k_law_thing_law_said_address, ↓k_law_thing_law_said_kit]
    refine wf_law_said_address h ?_
    try simp only [↓RUNH, POST, ↓k_law_thing_law_draw, ↓k_law_thing_law_number, ↓k_law_thing_law_address, ↓k_law_thing_law_kit_2, ↓k_law_thing_law_said_number, ↓k_law_thing_law_said_address, ↓k_law_thing_law_said_kit]
    exact k _ _ _ _ _ (w2.mono (by omega)) (.adr h)
  · refine wf_law_kit_2 w1 (by omega) fun t m ls a2 b2 c2 w2 h => ?_
    try simp only [↓RUNH, POST, ↓k_law_thing_law_draw, ↓k_law_thing_law_number, ↓k_law_thing_law_address, ↓k_law_thing_law_kit_2, ↓k_law_thing_law_said_number, ↓k_law_thing_law_said_address, ↓k_law_thing_law_said_kit]
    refine wf_law_said_kit h.kt ?_
    try simp only [↓RUNH, POST, ↓k_law_thing_law_draw, ↓k_law_thing_law_number, ↓k_law_thing_law_address, ↓k_law_thing_law_kit_2, ↓k_law_thing_law_said_number, ↓k_law_thing_law_said_address, ↓k_law_thing_law_said_kit]
    exact k _ _ _ _ _ (w2.mono (by omega)) (.kit h.kt)
  · have i40 : ∀ {Q : D → Prop} {r : Int}, 0 ≤ r → r < 5 → (∀ s : Nat, s ≤ 40 → Q (.int (s : Int))) → WV (idxD (.list [.int 0, .int 1, .int 2, .int 7, .int 40]) (.int r)) Q := fun {Q r} r0 r1 kq => by
      refine ix_mem2 (P := fun d => ∃ s : Nat, d = .int (s : Int) ∧ s ≤ 40) r0 (by exact r1) (fun d hd => ?_) fun d hd => ?_
      · simp only [List.mem_cons, List.not_mem_nil, or_false] at hd
        rcases hd with rfl | rfl | rfl | rfl | rfl
        · exact ⟨0, rfl, by decide⟩
        · exact ⟨1, rfl, by decide⟩
        · exact ⟨2, rfl, by decide⟩
        · exact ⟨7, rfl, by decide⟩
        · exact ⟨40, rfl, by decide⟩
      · obtain ⟨s, rfl, hs⟩ := hd
        exact kq s hs
    simp only [↓rng1_2, ↓RUNH, POST, ↓k_law_thing_law_draw, ↓k_law_thing_law_number, ↓k_law_thing_law_address, ↓k_law_thing_law_kit_2, ↓k_law_thing_law_said_number, ↓k_law_thing_law_said_address, ↓k_law_thing_law_said_kit]
    refine wf_draw w1 (by omega) (by decide) (by decide) fun r a2 b2 c2 w2 r0 r1 => ?_
    try simp only [↓RUNH, POST, ↓k_law_thing_law_draw, ↓k_law_thing_law_number, ↓k_law_thing_law_address, ↓k_law_thing_law_kit_2, ↓k_law_thing_law_said_number, ↓k_law_thing_law_said_address, ↓k_law_thing_law_said_kit]
    refine i40 r0 r1 fun wide hwide => ?_
    try simp only [↓RUNH, POST, ↓k_law_thing_law_draw, ↓k_law_thing_law_number, ↓k_law_thing_law_address, ↓k_law_thing_law_kit_2, ↓k_law_thing_law_said_number, ↓k_law_thing_law_said_address, ↓k_law_thing_law_said_kit]
    refine wf_draw w2 (by omega) (by decide) (by decide) fun r a3 b3 c3 w3 r0 r1 => ?_
    try simp only [↓RUNH, POST, ↓k_law_thing_law_draw, ↓k_law_thing_law_number, ↓k_law_thing_law_address, ↓k_law_thing_law_kit_2, ↓k_law_thing_law_said_number, ↓k_law_thing_law_said_address, ↓k_law_thing_law_said_kit]
    refine i40 r0 r1 fun high hhigh => ?_
    try simp only [↓RUNH, POST, ↓k_law_thing_law_draw, ↓k_law_thing_law_number, ↓k_law_thing_law_address, ↓k_law_thing_law_kit_2, ↓k_law_thing_law_said_number, ↓k_law_thing_law_said_address, ↓k_law_thing_law_said_kit]
    refine rng1 (by omega) ?_
    refine lc_inv (fun i ys ρ => ∃ (rs : List Str) (a b c : Int) (c7 c8 : Cell), ys = rs.map .str ∧ ρ = [wl a b c, .dat (.int 4), .dat (.int (m : Int)), .emp, .dat (.int (wide : Int)), .dat (.int (high : Int)), .emp, c7, c8] ∧ We (n + 3 + 40 * i) a b c ∧ rs.length = i ∧ ∀ r ∈ rs, r.length ≤ 1000) ⟨[], _, _, _, _, _, rfl, rfl, w3.mono (by omega), rfl, by simp⟩ (fun i d ys ρ hd hI => ?_) fun ys ρ hI => ?_
    · obtain ⟨rs, a, b, c, c7, c8, rfl, rfl, hw, hl, hrs⟩ := hI
      obtain ⟨hi, rfl⟩ := rngL_at hd
      rw [lc_turn]
      try simp only [↓RUNH, POST, ↓k_law_thing_law_draw, ↓k_law_thing_law_number, ↓k_law_thing_law_address, ↓k_law_thing_law_kit_2, ↓k_law_thing_law_said_number, ↓k_law_thing_law_said_address, ↓k_law_thing_law_said_kit]
      refine rng1 (by omega) ?_
      refine lc_inv (fun j zs ρ => ∃ (ss : List Str) (a b c : Int) (c7 : Cell), zs = ss.map .str ∧ ρ = [wl a b c, .dat (.int 4), .dat (.int (m : Int)), .emp, .dat (.int (wide : Int)), .dat (.int (high : Int)), .emp, c7, .dat (.int (0 + (i : Nat)))] ∧ We (n + 3 + 40 * i + j) a b c ∧ ss.length = j ∧ ∀ s ∈ ss, s.length ≤ 1) ⟨[], _, _, _, _, rfl, rfl, hw, rfl, by simp⟩ (fun j d zs ρ hd hJ => ?_) fun zs ρ hJ => ?_
      · obtain ⟨ss, a, b, c, c7, rfl, rfl, hw, hl2, hss⟩ := hJ
        obtain ⟨hj, rfl⟩ := rngL_at hd
        rw [lc_turn]
        try simp only [↓RUNH, POST, ↓k_law_thing_law_draw, ↓k_law_thing_law_number, ↓k_law_thing_law_address, ↓k_law_thing_law_kit_2, ↓k_law_thing_law_said_number, ↓k_law_thing_law_said_address, ↓k_law_thing_law_said_kit]
        refine wf_draw hw (by omega) (by decide) (by decide) fun r a4 b4 c4 w4 r0 r1 => ?_
        try simp only [↓RUNH, POST, ↓k_law_thing_law_draw, ↓k_law_thing_law_number, ↓k_law_thing_law_address, ↓k_law_thing_law_kit_2, ↓k_law_thing_law_said_number, ↓k_law_thing_law_said_address, ↓k_law_thing_law_said_kit]
        obtain ⟨cc, hcc⟩ : ∃ cc, L2.atI (⟨#[46, 35]⟩ : Str).cps.toList r = some cc := by
          have : r = 0 ∨ r = 1 := by omega
          rcases this with rfl | rfl <;> exact ⟨_, rfl⟩
        refine ixS (by decide) hcc ?_
        try simp only [↓RUNH, POST, ↓k_law_thing_law_draw, ↓k_law_thing_law_number, ↓k_law_thing_law_address, ↓k_law_thing_law_kit_2, ↓k_law_thing_law_said_number, ↓k_law_thing_law_said_address, ↓k_law_thing_law_said_kit]
        refine ⟨ss ++ [⟨#[cc]⟩], _, _, _, _, by rw [List.map_append]; rfl, rfl, w4, by simp [hl2], fun s hs => ?_⟩
        rcases List.mem_append.mp hs with z | z
        · exact hss s z
        · rw [List.mem_singleton] at z
          rw [z]; exact Nat.le_refl 1
      · obtain ⟨ss, a, b, c, c7, rfl, rfl, hw, hl2, hss⟩ := hJ
        rw [rngL_len] at hw hl2
        try simp only [↓RUNH, POST, ↓k_law_thing_law_draw, ↓k_law_thing_law_number, ↓k_law_thing_law_address, ↓k_law_thing_law_kit_2, ↓k_law_thing_law_said_number, ↓k_law_thing_law_said_address, ↓k_law_thing_law_said_kit]
        refine m_join 1 40 (ys := ss) rfl hss (by omega) (by decide) ?_
        have lj : (Txt.join ⟨#[]⟩ ss).length ≤ 40 * (1 + 0) := jn_len hss (by omega)
        try simp only [↓RUNH, POST, ↓k_law_thing_law_draw, ↓k_law_thing_law_number, ↓k_law_thing_law_address, ↓k_law_thing_law_kit_2, ↓k_law_thing_law_said_number, ↓k_law_thing_law_said_address, ↓k_law_thing_law_said_kit]
        refine ⟨rs ++ [Txt.join ⟨#[]⟩ ss], _, _, _, _, _, by rw [List.map_append]; rfl, rfl, hw.mono (by omega), by simp [hl], fun r hr => ?_⟩
        rcases List.mem_append.mp hr with z | z
        · exact hrs r z
        · rw [List.mem_singleton] at z
          rw [z]; omega
    · obtain ⟨rs, a, b, c, c7, c8, rfl, rfl, hw, hl, hrs⟩ := hI
      rw [rngL_len] at hw hl
      try simp only [↓RUNH, POST, ↓k_law_thing_law_draw, ↓k_law_thing_law_number, ↓k_law_thing_law_address, ↓k_law_thing_law_kit_2, ↓k_law_thing_law_said_number, ↓k_law_thing_law_said_address, ↓k_law_thing_law_said_kit]
      refine m_join 1000 1000 (ys := rs) rfl hrs (by omega) (by decide) ?_
      try simp only [↓RUNH, POST, ↓k_law_thing_law_draw, ↓k_law_thing_law_number, ↓k_law_thing_law_address, ↓k_law_thing_law_kit_2, ↓k_law_thing_law_said_number, ↓k_law_thing_law_said_address, ↓k_law_thing_law_said_kit]
      exact k _ _ _ _ _ (hw.mono (by omega)) (.rows hrs (by omega))
theorem wf_law_shown {i : Int} {x : D} {s : Str} {b : Bool} (h : Th i x s) (k : K (.dat (.str s)) .emp) : WF F_law_shown [.dat (.int i), .dat x, .dat (.bool b)] K := by
  cases h with
  | num hp hq =>
    rw [b_law_shown]
    simp only [↓ir_law_shown, Int.reduceEq, ↓RUNH, POST, ↓k_law_shown_show_rows, ↓k_law_shown_show_number, ↓k_law_shown_show_point, ↓k_law_shown_show_address, ↓k_law_shown_show_kit]
    cases b
    all_goals
      try simp only [↓RUNH, POST, ↓k_law_shown_show_rows, ↓k_law_shown_show_number, ↓k_law_shown_show_point, ↓k_law_shown_show_address, ↓k_law_shown_show_kit]
      refine wf_show_number hp hq ?_
      try simp only [↓RUNH, POST, ↓k_law_shown_show_rows, ↓k_law_shown_show_number, ↓k_law_shown_show_point, ↓k_law_shown_show_address, ↓k_law_shown_show_kit]
      exact k
  | pt hp hq hr hs =>
    rw [b_law_shown]
    simp only [↓ir_law_shown, Int.reduceEq, ↓RUNH, POST, ↓k_law_shown_show_rows, ↓k_law_shown_show_number, ↓k_law_shown_show_point, ↓k_law_shown_show_address, ↓k_law_shown_show_kit]
    cases b
    all_goals
      try simp only [↓RUNH, POST, ↓k_law_shown_show_rows, ↓k_law_shown_show_number, ↓k_law_shown_show_point, ↓k_law_shown_show_address, ↓k_law_shown_show_kit]
      refine wf_show_point hp hq hr hs ?_
      try simp only [↓RUNH, POST, ↓k_law_shown_show_rows, ↓k_law_shown_show_number, ↓k_law_shown_show_point, ↓k_law_shown_show_address, ↓k_law_shown_show_kit]
      exact k
  | adr h =>
    rw [b_law_shown]
    simp only [↓ir_law_shown, Int.reduceEq, ↓RUNH, POST, ↓k_law_shown_show_rows, ↓k_law_shown_show_number, ↓k_law_shown_show_point, ↓k_law_shown_show_address, ↓k_law_shown_show_kit]
    cases b
    all_goals
      try simp only [↓RUNH, POST, ↓k_law_shown_show_rows, ↓k_law_shown_show_number, ↓k_law_shown_show_point, ↓k_law_shown_show_address, ↓k_law_shown_show_kit]
      refine wf_show_address h ?_
      try simp only [↓RUNH, POST, ↓k_law_shown_show_rows, ↓k_law_shown_show_number, ↓k_law_shown_show_point, ↓k_law_shown_show_address, ↓k_law_shown_show_kit]
      exact k
  | kit h =>
    rw [b_law_shown]
    simp only [↓ir_law_shown, Int.reduceEq, ↓RUNH, POST, ↓k_law_shown_show_rows, ↓k_law_shown_show_number, ↓k_law_shown_show_point, ↓k_law_shown_show_address, ↓k_law_shown_show_kit]
    cases b
    all_goals
      try simp only [↓RUNH, POST, ↓k_law_shown_show_rows, ↓k_law_shown_show_number, ↓k_law_shown_show_point, ↓k_law_shown_show_address, ↓k_law_shown_show_kit]
      refine wf_show_kit h ?_
      try simp only [↓RUNH, POST, ↓k_law_shown_show_rows, ↓k_law_shown_show_number, ↓k_law_shown_show_point, ↓k_law_shown_show_address, ↓k_law_shown_show_kit]
      exact k
  | rows h hl =>
    rw [b_law_shown]
    simp only [↓ir_law_shown, Int.reduceEq, ↓RUNH, POST, ↓k_law_shown_show_rows, ↓k_law_shown_show_number, ↓k_law_shown_show_point, ↓k_law_shown_show_address, ↓k_law_shown_show_kit]
    cases b
    all_goals
      try simp only [↓RUNH, POST, ↓k_law_shown_show_rows, ↓k_law_shown_show_number, ↓k_law_shown_show_point, ↓k_law_shown_show_address, ↓k_law_shown_show_kit]
      refine wf_show_rows h hl ?_
      try simp only [↓RUNH, POST, ↓k_law_shown_show_rows, ↓k_law_shown_show_number, ↓k_law_shown_show_point, ↓k_law_shown_show_address, ↓k_law_shown_show_kit]
      exact k
theorem same3_seq {k n : Nat} {xs : List D} {d : D} (hn : xs.length = n) (hd : d = .list xs ∨ d = .tuple xs) (ih : ∀ x ∈ xs, ∀ {K : Cell → Cell → Prop}, K (.dat (.bool true)) .emp → WF (F_law_same_3 k) [.dat x, .dat x] K) {Q : List D → Rho → Prop} (hQ : ∀ ρ2, List.set ρ2 2 .emp = [.dat d, .dat d, .emp] → Q ((rngL 0 n).map fun _ => .bool true) ρ2) :
    WP (lcLoop (lcTurn (T_law_same_3 (fnr_law_same_3 k)) (.call 197 (.cons (.idx (.var 0) (.var 2)) (.cons (.idx (.var 1) (.var 2)) .nil)) [] .nil) (.n 2) .no) [2] (rngL 0 n) [.dat d, .dat d, .emp]) Q := by
  refine lc_map (fun _ => .bool true) (fun e he => ?_) fun ρ2 hb => hQ ρ2 hb
  obtain ⟨i, hi⟩ := List.getElem?_of_mem he
  obtain ⟨hi, rfl⟩ := rngL_at hi
  have hx : xs[i]? = some xs[i] := List.getElem?_eq_getElem (by omega)
  rw [lc_turn]
  try simp only [↓RUNH, POST, Int.zero_add, ↓k_law_same_3_law_same_3]
  rcases hd with rfl | rfl
  · refine ixLn hx ?_
    try simp only [↓RUNH, POST]
    refine ixLn hx ?_
    try simp only [↓RUNH, POST, ↓k_law_same_3_law_same_3]
    refine ih _ (List.getElem_mem (by omega)) ?_
    try simp only [↓RUNH, POST, ↓k_law_same_3_law_same_3]
  · refine ixTn hx ?_
    try simp only [↓RUNH, POST]
    refine ixTn hx ?_
    try simp only [↓RUNH, POST, ↓k_law_same_3_law_same_3]
    refine ih _ (List.getElem_mem (by omega)) ?_
    try simp only [↓RUNH, POST, ↓k_law_same_3_law_same_3]
theorem same3_one {k : Nat} {d : D} {K : Cell → Cell → Prop} (ih : ∀ xs, (d = .list xs ∨ d = .tuple xs) → xs.length ≤ 1000000 ∧ ∀ x ∈ xs, ∀ {K : Cell → Cell → Prop}, K (.dat (.bool true)) .emp → WF (F_law_same_3 k) [.dat x, .dat x] K) (hn : noDict d = true) (hK : K (.dat (.bool true)) .emp) : WF (F_law_same_3 (k + 1)) [.dat d, .dat d] K := by
  rw [b_law_same_3]
  cases d with
  | dict _ => cases hn
  | list xs =>
    obtain ⟨h1, h2⟩ := ih xs (.inl rfl)
    simp only [↓ir_law_same_3, ↓RUNH, POST, ↓k_law_same_3_law_same_3]
    refine rng1 (by omega) ?_
    refine same3_seq rfl (.inl rfl) h2 fun ρ2 hb => ?_
    refine allT ?_
    try simp only [↓RUNH, POST]
    exact hK
  | tuple xs =>
    obtain ⟨h1, h2⟩ := ih xs (.inr rfl)
    simp only [↓ir_law_same_3, ↓RUNH, POST, ↓k_law_same_3_law_same_3]
    refine rng1 (by omega) ?_
    refine same3_seq rfl (.inr rfl) h2 fun ρ2 hb => ?_
    refine allT ?_
    try simp only [↓RUNH, POST]
    exact hK
  | bool b => cases b <;> simp only [↓ir_law_same_3, ↓RUNH, POST, ↓k_law_same_3_law_same_3] <;> exact hK
  | _ => simp only [↓ir_law_same_3, ↓RUNH, POST, ↓k_law_same_3_law_same_3]; exact hK
theorem wf_law_same_3 : ∀ {k : Nat} {d : D} {K : Cell → Cell → Prop}, smOk k d = true → K (.dat (.bool true)) .emp → WF (F_law_same_3 (k + 1)) [.dat d, .dat d] K := by
  intro k
  induction k with
  | zero =>
    intro d K hd hK
    refine same3_one (fun xs hxs => ?_) (by cases d <;> first | rfl | cases hd) hK
    have h : smOks 0 xs = true ∧ decide (xs.length ≤ 1000000) = true := by
      rcases hxs with rfl | rfl <;> exact Bool.and_eq_true_iff.mp hd
    cases smOks_zero h.1
    exact ⟨by decide, fun x hx => by cases hx⟩
  | succ k ih =>
    intro d K hd hK
    refine same3_one (fun xs hxs => ?_) (by cases d <;> first | rfl | cases hd) hK
    have h : smOks (k + 1) xs = true ∧ decide (xs.length ≤ 1000000) = true := by
      rcases hxs with rfl | rfl <;> exact Bool.and_eq_true_iff.mp hd
    exact ⟨by simpa using h.2, fun x hx {K} hK => ih (smOks_mem h.1 x hx) hK⟩
/-- a row that is kept -/
abbrev row51 (r : Int × D × Str) : D := .tuple [.int r.1, r.2.1, .str r.2.2]
theorem Th.seq {d : Int} {x : D} {s : Str} (h : Th d x s) : ∃ xs, (x = .list xs ∨ x = .tuple xs) ∧ smOk 7 (.list xs) = true := by
  have i2 : ∀ {xs : List D} (k : Nat), (∀ x ∈ xs, ∃ i : Int, x = .int i) → ∀ x ∈ xs, smOk k x = true := fun {xs} k h x hx => by
    obtain ⟨i, rfl⟩ := h x hx
    exact smOk_int
  cases h with
  | num hp hq => exact ⟨_, .inr rfl, rfl⟩
  | pt hp hq hr hs => exact ⟨_, .inr rfl, rfl⟩
  | adr h =>
    have := h.la
    have := h.lr
    exact ⟨_, .inr rfl, smOk_lst (by simp) fun x hx => by
      simp only [List.mem_cons, List.not_mem_nil, or_false] at hx
      rcases hx with rfl | rfl
      · exact smOk_w (by omega)
      · exact smOk_w (by omega)⟩
  | kit h =>
    have := h.len
    refine ⟨_, .inr rfl, smOk_lst (by simp) fun x hx => ?_⟩
    simp only [List.mem_cons, List.not_mem_nil, or_false] at hx
    rcases hx with rfl | rfl
    · rfl
    · refine smOk_tup (by rw [List.length_map]; omega) fun x hx => ?_
      obtain ⟨l, hl, rfl⟩ := List.mem_map.mp hx
      have := (h.cs l hl).1
      refine smOk_tup (by rw [List.length_map]; omega) fun x hx => ?_
      obtain ⟨c, hc, rfl⟩ := List.mem_map.mp hx
      rfl
  | rows h hl =>
    refine ⟨_, .inl rfl, smOk_lst (by rw [List.length_map]; omega) fun x hx => ?_⟩
    obtain ⟨r, hr, rfl⟩ := List.mem_map.mp hx
    rfl
theorem wf_law_10 {ns : List Int} (k : K (.dat (.bool true)) .emp) : WF F_law_10 [.dat (scr ns)] K := by
  rw [b_law_10]
  simp only [↓ir_law_10, ↓RUNH, POST, ↓lenScr, ↓k_law_10_law_well_2, ↓k_law_10_law_thing, ↓k_law_10_law_same_3, ↓k_law_10_law_shown, ↓k_law_10_law_draw]
  obtain ⟨m, hm⟩ : ∃ m : Int, m = (if (if (ns.length : Int) < 8 then (ns.length : Int) else 8) > 1 then if (ns.length : Int) < 8 then (ns.length : Int) else 8 else 1) := ⟨_, rfl⟩
  have hm2 : 1 ≤ m ∧ m ≤ 8 := by rw [hm]; split <;> split <;> omega
  rw [← hm]
  refine rng1' (by omega) (by omega) ?_
  refine fo_range (fun i ρ => ∃ (rs : List (Int × D × Str)) (c2 c3 c4 c5 c6 c7 : Cell), ρ = [.dat (scr ns), .own (rs.map row51), c2, c3, c4, c5, c6, c7] ∧ rs.length = 5 * i ∧ ∀ r ∈ rs, Th r.1 r.2.1 r.2.2) ⟨[], _, _, _, _, _, _, rfl, rfl, by simp⟩ (fun i ρ hi hI => ?_) fun ρ hI => ?_
  · obtain ⟨rs, c2, c3, c4, c5, c6, c7, rfl, hl, hrs⟩ := hI
    simp only [↓RUNH, POST, Int.zero_add, ↓k_law_10_law_well_2, ↓k_law_10_law_thing, ↓k_law_10_law_same_3, ↓k_law_10_law_shown, ↓k_law_10_law_draw]
    refine wf_law_well_2 (by omega) fun a b w0 => ?_
    try simp only [↓RUNH, POST, ↓k_law_10_law_well_2, ↓k_law_10_law_thing, ↓k_law_10_law_same_3, ↓k_law_10_law_shown, ↓k_law_10_law_draw]
    refine rng1 (m := 5) (by decide) ?_
    refine fo_range (fun j ρ => ∃ (rs : List (Int × D × Str)) (a b c : Int) (c4 c5 c6 c7 : Cell), ρ = [.dat (scr ns), .own (rs.map row51), .dat (.int (i : Int)), wl a b c, c4, c5, c6, c7] ∧ We (150000 * j) a b c ∧ rs.length = 5 * i + j ∧ ∀ r ∈ rs, Th r.1 r.2.1 r.2.2) ⟨rs, _, _, _, _, _, _, _, rfl, w0, hl, hrs⟩ (fun j ρ hj hJ => ?_) fun ρ hJ => ?_
    · obtain ⟨rs, a, b, c, c4, c5, c6, c7, rfl, hw, hl, hrs⟩ := hJ
      simp only [↓RUNH, POST, Int.zero_add, ↓k_law_10_law_well_2, ↓k_law_10_law_thing, ↓k_law_10_law_same_3, ↓k_law_10_law_shown, ↓k_law_10_law_draw]
      refine wf_law_thing hw (by omega) hj fun x s a1 b1 c1 w1 hx => ?_
      obtain ⟨xs, hxs, hsm⟩ := hx.seq
      have hx' := hx
      have l1 : (rs.map row51).length < 16777216 := by rw [List.length_map]; omega
      have nx : ∀ {a b c : Int}, We (150000 * j + 140000 + 1) a b c → We (150000 * (j + 1)) a b c := fun w => w.mono (by omega)
      have lst : (rs.map row51) ++ [(.tuple [.int (j : Int), x, .str s] : D)] = (rs ++ [((j : Int), x, s)]).map row51 := by rw [List.map_append]; rfl
      have mem : ∀ r ∈ rs ++ [((j : Int), x, s)], Th r.1 r.2.1 r.2.2 := fun r hr => by
        rcases List.mem_append.mp hr with z | z
        · exact hrs r z
        · rw [List.mem_singleton] at z
          rw [z]; exact hx'
      rcases hxs with rfl | rfl
      all_goals
        simp only [↓RUNH, POST, ↓k_law_10_law_well_2, ↓k_law_10_law_thing, ↓k_law_10_law_same_3, ↓k_law_10_law_shown, ↓k_law_10_law_draw]
        refine wf_draw w1 (by omega) (by decide) (by decide) fun r a2 b2 c2 w2 r0 r1 => ?_
        try simp only [↓RUNH, POST, ↓k_law_10_law_well_2, ↓k_law_10_law_thing, ↓k_law_10_law_same_3, ↓k_law_10_law_shown, ↓k_law_10_law_draw]
        refine wf_law_shown hx ?_
        try simp only [↓RUNH, POST, ↓k_law_10_law_well_2, ↓k_law_10_law_thing, ↓k_law_10_law_same_3, ↓k_law_10_law_shown, ↓k_law_10_law_draw]
        refine wf_law_same_3 (k := 7) rfl ?_
        try simp only [↓RUNH, POST, ↓k_law_10_law_well_2, ↓k_law_10_law_thing, ↓k_law_10_law_same_3, ↓k_law_10_law_shown, ↓k_law_10_law_draw]
        refine wf_law_same_3 (k := 7) hsm ?_
        try simp only [↓RUNH, POST, ↓k_law_10_law_well_2, ↓k_law_10_law_thing, ↓k_law_10_law_same_3, ↓k_law_10_law_shown, ↓k_law_10_law_draw]
        exact ⟨l1, rs ++ [((j : Int), _, s)], _, _, _, _, _, _, _, by rw [lst], nx w2, by simp [hl]; omega, mem⟩
    · obtain ⟨rs, a, b, c, c4, c5, c6, c7, rfl, hw, hl, hrs⟩ := hJ
      try simp only [↓RUNH, POST, ↓k_law_10_law_well_2, ↓k_law_10_law_thing, ↓k_law_10_law_same_3, ↓k_law_10_law_shown, ↓k_law_10_law_draw]
      exact ⟨rs, _, _, _, _, _, _, rfl, by omega, hrs⟩
  · obtain ⟨rs, c2, c3, c4, c5, c6, c7, rfl, hl, hrs⟩ := hI
    try simp only [↓RUNH, POST, ↓k_law_10_law_well_2, ↓k_law_10_law_thing, ↓k_law_10_law_same_3, ↓k_law_10_law_shown, ↓k_law_10_law_draw]
    refine fo_inv (fun i ρ => ∃ (c2 c3 c4 c5 c6 c7 : Cell), ρ = [.dat (scr ns), .own (rs.map row51), c2, c3, c4, c5, c6, c7]) ⟨_, _, _, _, _, _, rfl⟩ (fun i d ρ hd hI => ?_) fun ρ hI => ?_
    · obtain ⟨c2, c3, c4, c5, c6, c7, rfl⟩ := hI
      have hd' := List.mem_of_getElem? hd
      rw [List.mem_reverse] at hd'
      obtain ⟨r, hr, rfl⟩ := List.mem_map.mp hd'
      have hx := hrs r hr
      try simp only [↓RUNH, POST, ↓k_law_10_law_well_2, ↓k_law_10_law_thing, ↓k_law_10_law_same_3, ↓k_law_10_law_shown, ↓k_law_10_law_draw]
      refine ⟨hx.len, ?_⟩
      refine wf_law_shown hx ?_
      try simp only [↓RUNH, POST, ↓k_law_10_law_well_2, ↓k_law_10_law_thing, ↓k_law_10_law_same_3, ↓k_law_10_law_shown, ↓k_law_10_law_draw]
      refine wf_law_same_3 (k := 7) rfl ?_
      try simp only [↓RUNH, POST, ↓k_law_10_law_well_2, ↓k_law_10_law_thing, ↓k_law_10_law_same_3, ↓k_law_10_law_shown, ↓k_law_10_law_draw]
      exact ⟨_, _, _, _, _, _, rfl⟩
    · obtain ⟨c2, c3, c4, c5, c6, c7, rfl⟩ := hI
      try simp only [↓RUNH, POST, ↓k_law_10_law_well_2, ↓k_law_10_law_thing, ↓k_law_10_law_same_3, ↓k_law_10_law_shown, ↓k_law_10_law_draw]
      exact k
end Df
namespace Df
open PySem Lt
theorem law_true (ns : List Int) : fn_law_10.F [.dat (scr ns)] = some (.dat (.bool true), .emp) := by
  have h : WF F_law_10 [.dat (scr ns)] fun c o => c = .dat (.bool true) ∧ o = .emp := wf_law_10 ⟨rfl, rfl⟩
  obtain ⟨c, o, e, rfl, rfl⟩ := h
  exact e
end Df
namespace Ok
open PySem PySem.Spec PyProof.Rows L2 Lt Df
theorem facts {P : Program} {w : World} {K : PySem.W.Frag} {h : Heap} {mg : Str → Option Value} {f : Addr} (X : K.In h) (G : h.Ns mainGlobals mg) (hfa : mg ("law" : Str) = some (.ref f)) (c : SaysX fa fnD xs K) :
    ∃ fd : FuncData, (∀ (s : Shared) (v : Value), BindsTo s fd ⟨[v], []⟩ [("script", v)]) ∧ ∀ base : Heap, K.In base → base.Ns mainGlobals mg → FnPr P w K mg base 10 f fd ["script"] (spF K fn_law_10) := by
  obtain ⟨fd, F⟩ := c.1.def_ 25 (d := d_law_10) rfl
  have e := hfa.symm.trans (He.glo_ok X G (c.1.fact 25 (f := .glo "law") rfl))
  cases e
  have b := FunD.bindsA (ps := ["script"]) F fun _ _ _ _ _ _ us hl => match us, hl with | [_], _ => rfl
  exact ⟨fd, fun s v => b s [v] rfl, fun base hb hn => okl_law_10 (P := P) (w := w) (base := base) X G c F⟩
end Ok
open PySem PySem.W PySem.Calls PyProof.Rows
set_option maxRecDepth 100000 in
set_option maxHeartbeats 8000000 in
theorem PySem.Challenge.cw_wholekits_k51_whole_texts_shown_holds : PySem.Challenge.rw_wholekits_k51_whole_texts_shown.Holds := by
  w_on; o_law
  refine HandSHeadRun.head_any (r := OpenLaw.row PySem.Challenge.rw_wholekits_k51_whole_texts_shown) (q := view (OpenLaw.row PySem.Challenge.rw_wholekits_k51_whole_texts_shown).prog [27]) (H := Ok.hk) (ob := Ok.ob) (M := 6000) (loose := Ok.names) (d := HandSHeadRun.topDef (OpenLaw.row PySem.Challenge.rw_wholekits_k51_whole_texts_shown).prog 27) (kwd := []) Ok.ob_eq
    (by kernel_rfl) (fun s => by kernel_rfl) Ok.run (by kernel_rfl) (by kernel_rfl) (by kernel_rfl) (by rfl) (by first | assumption | decide +kernel) (by decide +kernel) ⟨rfl, rfl, rfl, rfl, rfl, by decide +kernel⟩ ?hw ?hc
  case hw => w_witness2
  case hc =>
    refine Lt.walk_g (l := PySem.Challenge.rw_wholekits_k51_whole_texts_shown) (n := 63) (lv := 10) (x := "script") rfl (by decide) (by kernel_rfl) ⟨rfl, by decide, by decide⟩ ?F
    intro w mg fa h Y G hmg0
    obtain ⟨K, KX, c⟩ := Y
    have hmg : mg ("law" : PySem.Str) = some (.ref fa) := by
      have e : (HandSHeadRun.topDef (OpenLaw.row PySem.Challenge.rw_wholekits_k51_whole_texts_shown).prog 27).name = ("law" : PySem.Str) := by kernel_rfl
      rw [← e]
      exact hmg0
    obtain ⟨fd, hb, hF⟩ := Ok.facts (P := (PySem.Challenge.rw_wholekits_k51_whole_texts_shown).prog) (w := w) KX G hmg c
    exact ⟨K, fd, Lt.spF K Df.fn_law_10, KX, hb, fun H a ns hl _ hS => Lt.spF_law rfl rfl (Df.law_true ns) (by omega) hS, hF⟩
