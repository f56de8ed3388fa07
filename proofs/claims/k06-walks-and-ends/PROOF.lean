import PyProof.Rows.All
import Wide.All
import OpenK.AllK
import Wide.FinOn
import HandS.Base
import HandS.Call
import HandS.List
import HandS.Comp
import HandS.Ends
import HandS.Iter
import HandS.Words
import HandS.WordsList
import HandS.Wide
import HandS.Defaults
import KE.LtData
import KE.SortData
import KE.KDictKeyed
import HandS.TupAny
import HandS.TupMul
import HandS.Dict
import HandS.Deep
import HandS.Gcd
import HandS.Flow
import HandS.IsInst
import KE.DataFind
import KE.KDictCopyH
import KE.KDictList
import HandS.MakeKwOnly
import HandS.Style
import HandS.Zip
import KE.GoesNew
import KE.GoesMore
import HandS.HeadEnd
import HandS.HeadHook1
import HandS.HeadHook2
import HandS.Head0
import HandS.Head1
import HandS.Head2
import HandS.Head3
import PySem.Challenge.RW_wholekits_k06_whole_walks_and_ends
set_option Elab.async false
set_option linter.all false
set_option maxRecDepth 100000
set_option maxHeartbeats 8000000
/-! Lt, part 1: data, cells, the IR, its pure semantics. -/
namespace Lt
open PySem L2

abbrev D := PyData
/-- what a slot holds: nothing; frozen data; a list that nobody else knows; a dict that nobody else knows -/
inductive Cell where
  | emp
  | dat (d : D)
  | own (ds : List D)
  | dic (kvs : List (D × D))
  deriving Inhabited
abbrev Rho := List Cell
/-- an operand: a slot (looked at late), or a value of its own -/
inductive Od where
  | v (i : Nat)
  | t (c : Cell)
inductive Vw where
  | d (d : D)
  | dc (kvs : List (D × D))

inductive Tg where
  | n (i : Nat)
  | t (ts : List Tg)

/-- built-in functions, methods -/
inductive Bf where
  | len | abs | int | max | min | sum | all | any | tuple | list | gcd | sorted
  deriving DecidableEq
inductive Mf where
  | count | index | append | extend | pop | reverse
  deriving DecidableEq
def Mf.nm : Mf → Str
  | .count => "count"
  | .index => "index"
  | .append => "append"
  | .extend => "extend"
  | .pop => "pop"
  | .reverse => "reverse"
mutual
inductive Ex where
  | var (i : Nat)
  | con (d : D)
  | glb (x : Nat)
  | bin (op : Operator) (a b : Ex)
  | neg (a : Ex)
  | not (a : Ex)
  | cmp (op : CmpOp) (a b : Ex)
  | chn (op op' : CmpOp) (a b c : Ex)
  | and (a b : Ex)
  | or (a b : Ex)
  | ifx (c a b : Ex)
  | tup (es : Exs)
  | lst (es : Exs)
  | dnew
  | idx (a b : Ex)
  | slc (a : Ex) (lo hi : Oex)
  | rev (a : Ex)
  | call (f : Nat) (es : Exs) (ix : List Nat) (kes : Exs)
  | blt (f : Bf) (es : Exs)
  | isi (a : Ex) (ts : List String)
  | mth (m : Mf) (a : Ex) (es : Exs)
  | lc (elt : Ex) (tg : Tg) (it : Itr) (c : Oex) (own : List Nat)
  | lc2 (elt : Ex) (tg : Tg) (it : Itr) (c : Oex) (tg2 : Tg) (it2 : Itr) (c2 : Oex) (own own2 : List Nat)
inductive Exs where
  | nil
  | cons (e : Ex) (es : Exs)
inductive Oex where
  | no
  | so (e : Ex)
inductive Itr where
  | seq (e : Ex)
  | rng1 (a : Ex)
  | rng2 (a b : Ex)
  | enm (e : Ex)
  | zip (a b : Ex)
  | rev (e : Ex)
end

/-! ### cells and operands -/
def Cell.vw : Cell → Option Vw
  | .emp => none
  | .dat d => some (.d d)
  | .own ds => some (.d (.list ds))
  | .dic kvs => some (.dc kvs)
def cellAt (ρ : Rho) (i : Nat) : Cell := ρ.getD i .emp
def look (ρ : Rho) : Od → Option Vw
  | .v i => (cellAt ρ i).vw
  | .t c => c.vw
def Vw.asD : Vw → Option D
  | .d x => some x
  | .dc _ => none
def lookD (ρ : Rho) (o : Od) : Option D := (look ρ o).bind Vw.asD
def lookDs (ρ : Rho) : List Od → Option (List D)
  | [] => some []
  | o :: os => (lookD ρ o).bind fun d => (lookDs ρ os).map fun ds => d :: ds
def Cell.fr : Cell → Option D
  | .dat d => some d
  | .own ds => some (.list ds)
  | _ => none
/-- frozen: from now on nobody changes it -/
def frz (ρ : Rho) : Od → Option (D × Rho)
  | .v i => match cellAt ρ i with
    | .dat d => some (d, ρ)
    | .own ds => some (.list ds, ρ.set i (.dat (.list ds)))
    | _ => none
  | .t c => c.fr.map fun d => (d, ρ)
def frzs (ρ : Rho) : List Od → Option (List D × Rho)
  | [] => some ([], ρ)
  | o :: os => (frz ρ o).bind fun r => (frzs r.2 os).map fun q => (r.1 :: q.1, q.2)

/-! ### operators on data -/
def isScal : D → Bool
  | .none | .bool _ | .int _ | .str _ => true
  | _ => false
/-- two scalars that HandS compares at once -/
def scalD : D → D → Bool
  | .none, .none => true | .none, .int _ => true | .int _, .none => true | .none, .bool _ => true | .bool _, .none => true | .none, .str _ => true | .str _, .none => true
  | .int _, .int _ => true | .bool _, .bool _ => true | .str _, .str _ => true
  | .int _, .str _ => true | .str _, .int _ => true | .bool _, .str _ => true | .str _, .bool _ => true
  | _, _ => false
def eqD (x y : D) : Option Bool :=
  if scalD x y then some (PyData.eqv x y) else if SeqAt.shaped x && SeqAt.shaped y then some (PyData.eqv x y) else none
def ltD (x y : D) : Option Bool := match x, y with
  | .int i, .int j => some (decide (i < j))
  | .tuple xs, .tuple ys => if PySem.W.alike (.tuple xs) (.tuple ys) && SeqAt.shaped (.tuple xs) && SeqAt.shaped (.tuple ys) then some (PySem.W.dataLt (.tuple xs) (.tuple ys)) else none
  | _, _ => none
def inD (x : D) : D → Option Bool
  | .list ds => if SeqAt.shaped x && SeqAt.shaped (.list ds) then some (ds.any fun z => PyData.eqv z x) else none
  | _ => none
def cmpD (op : CmpOp) (x y : D) : Option Bool := match op with
  | .Eq => eqD x y
  | .NotEq => (eqD x y).map (!·)
  | .Lt => ltD x y
  | .LtE => match x, y with
    | .int i, .int j => some (decide (i ≤ j))
    | _, _ => none
  | .Gt => match x, y with
    | .int i, .int j => some (decide (j < i))
    | _, _ => none
  | .GtE => match x, y with
    | .int i, .int j => some (decide (j ≤ i))
    | _, _ => none
  | .Is => match y with
    | .none => some (match x with | .none => true | _ => false)
    | _ => none
  | .IsNot => match y with
    | .none => some (match x with | .none => false | _ => true)
    | _ => none
  | .In => inD x y
  | .NotIn => (inD x y).map (!·)
/-- the product of ints that the model takes -/
def mulOk (i j : Int) : Bool := decide (i.natAbs < 2 ^ 64) || decide (j.natAbs < 2 ^ 64) || decide (i.natAbs.log2 + j.natAbs.log2 < 1000000)
def divOk (j : Int) : Bool := decide (j ≠ 0) && decide (j.natAbs.log2 < 9000)
def binD (op : Operator) (x y : D) : Option Cell := match op, x, y with
  | .Add, .int i, .int j => some (.dat (.int (i + j)))
  | .Sub, .int i, .int j => some (.dat (.int (i - j)))
  | .Mult, .int i, .int j => if mulOk i j then some (.dat (.int (i * j))) else none
  | .FloorDiv, .int i, .int j => if divOk j then some (.dat (.int (i.fdiv j))) else none
  | .Mod, .int i, .int j => if j = 0 then none else some (.dat (.int (i.fmod j)))
  | .Pow, .int i, .int j => if 0 ≤ j ∧ j ≤ 1000000 ∧ i.natAbs < 2 ^ 64 then some (.dat (.int (i ^ j.toNat))) else none
  | .Add, .tuple xs, .tuple ys => if xs.length + ys.length ≤ 16777216 then some (.dat (.tuple (xs ++ ys))) else none
  | .Add, .list xs, .list ys => if xs.length + ys.length ≤ 16777216 then some (.own (xs ++ ys)) else none
  | .Mult, .tuple xs, .int k => if k = 1 then some (.dat (.tuple xs)) else if 2 ≤ k ∧ k ≤ 1000 ∧ xs.isEmpty = false ∧ xs.length ≤ 1000 then some (.dat (.tuple (List.replicate k.toNat xs).flatten)) else none
  | .Mult, .list xs, .int k => if 0 ≤ k ∧ xs.length * k.toNat ≤ 16777216 ∧ k < 2 ^ 62 then some (.own (List.replicate k.toNat xs).flatten) else none
  | _, _, _ => none
def idxD (x y : D) : Option D := match x, y with
  | .tuple xs, .int i => atI xs i
  | .list xs, .int i => atI xs i
  | .dict kvs, .int i => (atI kvs i).map (·.1)
  | _, _ => none
def cutD (xs : List D) (lo hi : Option Int) : List D := (xs.drop (HT.sIx xs.length 0 lo)).take (HT.sIx xs.length xs.length hi - HT.sIx xs.length 0 lo)
def slcD (x : D) (lo hi : Option Int) : Option Cell := match x with
  | .tuple xs => some (.dat (.tuple (cutD xs lo hi)))
  | .list xs => some (.own (cutD xs lo hi))
  | _ => none
def revD : D → Option Cell
  | .tuple xs => some (.dat (.tuple xs.reverse))
  | .list xs => some (.own xs.reverse)
  | _ => none
def asInts : List D → Option (List Int)
  | [] => some []
  | .int i :: r => (asInts r).map (i :: ·)
  | _ => none
def asBools : List D → Option (List Bool)
  | [] => some []
  | .bool i :: r => (asBools r).map (i :: ·)
  | _ => none
def seqD : D → Option (List D)
  | .list xs => some xs
  | .tuple xs => some xs
  | _ => none
def maxI : Int → List Int → Int
  | m, [] => m
  | m, x :: r => maxI (if x > m then x else m) r
def minI : Int → List Int → Int
  | m, [] => m
  | m, x :: r => minI (if x < m then x else m) r
/-- data that the model sorts -/
def isT1 : D → Bool
  | .tuple (_ :: _) => true
  | _ => false
def notTN : D → Bool
  | .tuple _ => false
  | .none => false
  | _ => true
def sortOk (ds : List D) : Bool := ds.all (fun a => ds.all fun b => PySem.W.alike a b) && (ds.all (fun d => SeqAt.shaped d && decide (d.depth ≤ 60)) && ((ds.all isT1 || ds.all notTN) && decide (ds.length ≤ 16777216)))
def sortD (ds : List D) : List D := ds.mergeSort fun a b => !PySem.W.dataLt b a
def bltD : Bf → List D → Option Cell
  | .len, [.list xs] => some (.dat (.int xs.length))
  | .len, [.tuple xs] => some (.dat (.int xs.length))
  | .len, [.dict kvs] => some (.dat (.int kvs.length))
  | .abs, [.int i] => some (.dat (.int (if i < 0 then -i else i)))
  | .int, [.int i] => some (.dat (.int i))
  | .max, [.int i, .int j] => some (.dat (.int (if j > i then j else i)))
  | .max, [.list xs] => (match asInts xs with
    | some (m :: r) => some (.dat (.int (maxI m r)))
    | _ => none)
  | .min, [.int i, .int j] => some (.dat (.int (if j < i then j else i)))
  | .min, [.list xs] => (match asInts xs with
    | some (m :: r) => some (.dat (.int (minI m r)))
    | _ => none)
  | .sum, [.list xs] => (asInts xs).map fun ns => .dat (.int ns.sum)
  | .all, [.list xs] => (asBools xs).map fun bs => .dat (.bool (bs.all id))
  | .any, [.list xs] => (asBools xs).map fun bs => .dat (.bool (bs.any id))
  | .tuple, [.list xs] => some (.dat (.tuple xs))
  | .tuple, [.tuple xs] => some (.dat (.tuple xs))
  | .list, [.list xs] => some (.own xs)
  | .list, [.tuple xs] => some (.own xs)
  | .gcd, [.int a, .int b] => some (.dat (.int (Nat.gcd a.natAbs b.natAbs : Nat)))
  | .sorted, [.list xs] => if sortOk xs then some (.own (sortD xs)) else none
  | _, _ => none
/-- a built-in of a dict -/
def bltK : Bf → List (D × D) → Option Cell
  | .sorted, kvs => if sortOk (kvs.map (·.1)) then some (.own (sortD (kvs.map (·.1)))) else none
  | _, _ => none
def dicOf (ρ : Rho) : List Od → Option (List (D × D))
  | [o] => match look ρ o with
    | some (.dc kvs) => some kvs
    | _ => none
  | _ => none
def bltAt (f : Bf) (ρ : Rho) (os : List Od) : Option Cell := match dicOf ρ os with
  | some kvs => bltK f kvs
  | none => (lookDs ρ os).bind (bltD f)
def tyName : D → String
  | .none => "NoneType"
  | .bool _ => "bool"
  | .int _ => "int"
  | .str _ => "str"
  | .list _ => "list"
  | .tuple _ => "tuple"
  | .dict _ => "dict"
def isiT (u t : String) : Bool := u == t || (u == "bool" && t == "int")
def isiOne (d : D) (t : String) : Bool := isiT (tyName d) t
def isiOk (ts : List String) : Bool := ts.all fun t => t == "int" || t == "bool" || t == "str" || t == "list" || t == "tuple"
/-- a method that changes nothing -/
def mthD : Mf → D → List D → Option Cell
  | .count, .tuple xs, [d] => if SeqAt.shaped (.tuple xs) && SeqAt.shaped d then some (.dat (.int (xs.countP fun z => PyData.eqv z d : Nat))) else none
  | .count, .list xs, [d] => if SeqAt.shaped (.list xs) && SeqAt.shaped d then some (.dat (.int (xs.countP fun z => PyData.eqv z d : Nat))) else none
  | .index, .list xs, [d] => if SeqAt.shaped (.list xs) && SeqAt.shaped d then (xs.findIdx? fun z => PyData.eqv z d).map fun j : Nat => .dat (.int (j : Nat)) else none
  | _, _, _ => none
/-- a method that changes an owned list: what it hands back, what the list is then -/
def mthOwn : Mf → List D → List D → Option (Cell × List D)
  | .append, xs, [d] => if xs.length < 16777216 then some (.dat .none, xs ++ [d]) else none
  | .extend, xs, [.list ys] => if xs.length + ys.length ≤ 16777216 then some (.dat .none, xs ++ ys) else none
  | .pop, xs, [] => (xs[xs.length - 1]?).map fun y => (.dat y, xs.dropLast)
  | .reverse, xs, [] => some (.dat .none, xs.reverse)
  | _, _, _ => none
def isMut : Mf → Bool
  | .append | .extend | .pop | .reverse => true
  | _ => false
mutual
/-- a key's datum -/
def kyB : D → Bool
  | .int _ => true
  | .none => true
  | .tuple ds => kysB ds
  | _ => false
def kysB : List D → Bool
  | [] => true
  | d :: ds => kyB d && kysB ds
end
mutual
def ky : D → NestedKey
  | .int i => .num i
  | .tuple ds => .tup (kys ds)
  | _ => .none
def kys : List D → List NestedKey
  | [] => []
  | d :: ds => ky d :: kys ds
end
def isTupD : D → Bool
  | .tuple _ => true
  | _ => false
/-- a key that a dict may have -/
def keyOk (d : D) : Bool := isTupD d && (kyB d && decide ((ky d).depth ≤ 8))
/-- dicts: keys are data -/
def dGet (kvs : List (D × D)) (k : D) : Option D := (kvs.find? fun p => PyData.eqv p.1 k).map (·.2)
def dPut : List (D × D) → D → D → List (D × D)
  | [], k, v => [(k, v)]
  | p :: r, k, v => if PyData.eqv p.1 k then (p.1, v) :: r else p :: dPut r k v

/-! ### functions -/
structure Fn where
  ps : List Str
  /-- the first parameter is handed over as it is (it may be changed) -/
  io : Bool
  lvl : Nat
  F : List Cell → Option (Cell × Cell)
structure Tab where
  fn : Nat → Option Fn
  gl : Nat → Option D

def bindTg : Tg → D → Rho → Option Rho
  | .n i, d, ρ => some (ρ.set i (.dat d))
  | .t ts, .tuple ds, ρ => go ts ds ρ
  | .t _, _, _ => none
where go : List Tg → List D → Rho → Option Rho
  | [], [], ρ => some ρ
  | t :: ts, d :: ds, ρ => (bindTg t d ρ).bind (go ts ds)
  | _, _, _ => none

def wipeR (ρ : Rho) : List Nat → Rho
  | [] => ρ
  | i :: is => (wipeR ρ is).set i .emp
/-- the slots of a comprehension's own names are what they were -/
def backR (ρ ρ' : Rho) : List Nat → Rho
  | [] => ρ'
  | i :: is => (backR ρ ρ' is).set i (cellAt ρ i)

def asBool : Vw → Option Bool
  | .d (.bool b) => some b
  | _ => none
def testOd (ρ : Rho) (o : Od) : Option Bool := (look ρ o).bind asBool

def rng1D : D → Option (List D)
  | .int n => if -(2 ^ 62) ≤ n ∧ n ≤ 16777216 then some ((List.range n.toNat).map fun k : Nat => .int (k : Nat)) else none
  | _ => none
def rng2D : D → D → Option (List D)
  | .int a, .int b => if -(2 ^ 62) ≤ a ∧ a < 2 ^ 62 ∧ -(2 ^ 62) ≤ b ∧ b < 2 ^ 62 ∧ b - a ≤ 16777216 then some ((List.range (b - a).toNat).map fun k : Nat => .int (a + (k : Nat))) else none
  | _, _ => none
def enmD (i : Nat) : List D → List D
  | [] => []
  | d :: ds => .tuple [.int i, d] :: enmD (i + 1) ds
def zipD : List D → List D → List D
  | a :: as, b :: bs => .tuple [a, b] :: zipD as bs
  | _, _ => []

/-- zip of two lists, of two tuples -/
def zipS : D → D → Option (List D)
  | .list xs, .list ys => some (zipD xs ys)
  | .tuple xs, .tuple ys => some (zipD xs ys)
  | _, _ => none
/-- a comprehension's loop: turn gives the new cells and the item, if one is kept -/
def lcLoop (turn : D → Rho → Option (Option D × Rho)) (own : List Nat) : List D → Rho → Option (List D × Rho)
  | [], ρ => some ([], ρ)
  | d :: ds, ρ => (turn d (wipeR ρ own)).bind fun r => (lcLoop turn own ds r.2).map fun q => (match r.1 with | some y => y :: q.1 | none => q.1, q.2)

/-- where a call's result is a scalar, the slots are as they were before its operands were frozen -/
def unfz (c : Cell) (ρ ρ1 : Rho) : Rho := match c with
  | .dat .none => ρ
  | .dat (.bool _) => ρ
  | .dat (.int _) => ρ
  | .dat (.str _) => ρ
  | _ => ρ1
/-- the result of a call: the cell, and what the first argument's slot holds then -/
def callF (fn : Fn) (ods : List Od) (ρ : Rho) : Option (Od × Rho) :=
  if fn.io then match ods with
    | [] => none
    | o :: os => (frzs ρ os).bind fun r => match o with
      | .v i => (match cellAt r.2 i with
        | .dat d => (fn.F (.dat d :: r.1.map .dat)).map fun q => (.t q.1, r.2)
        | .own ds => (fn.F (.own ds :: r.1.map .dat)).map fun q => (.t q.1, r.2.set i q.2)
        | .dic kvs => (fn.F (.dic kvs :: r.1.map .dat)).map fun q => (.t q.1, r.2.set i q.2)
        | .emp => none)
      | .t .emp => none
      | .t c => (fn.F (c :: r.1.map .dat)).map fun q => (.t q.1, r.2)
  else (frzs ρ ods).bind fun r => (fn.F (r.1.map .dat)).map fun q => (.t q.1, unfz q.1 ρ r.2)
/-- positional and keyword arguments in the parameters' order -/
def kwArr {α : Type} (z : α) (ps : List Str) (ks : List Str) (us ws : List α) : List α := us ++ (ps.drop us.length).map fun p => ws.getD (ks.idxOf p) z

variable (T : Tab)
mutual
def ev : Ex → Rho → Option (Od × Rho)
  | .var i, ρ => match cellAt ρ i with
    | .emp => none
    | _ => some (.v i, ρ)
  | .con d, ρ => some (.t (.dat d), ρ)
  | .glb x, ρ => (T.gl x).map fun d => (.t (.dat d), ρ)
  | .bin op a b, ρ => (ev a ρ).bind fun r => (ev b r.2).bind fun q => (lookD q.2 r.1).bind fun x => (lookD q.2 q.1).bind fun y => (binD op x y).map fun c => (.t c, q.2)
  | .neg a, ρ => (ev a ρ).bind fun r => (lookD r.2 r.1).bind fun x => match x with
    | .int i => some (.t (.dat (.int (-i))), r.2)
    | _ => none
  | .not a, ρ => (ev a ρ).bind fun r => (testOd r.2 r.1).map fun b => (.t (.dat (.bool (!b))), r.2)
  | .cmp op a b, ρ => (ev a ρ).bind fun r => (ev b r.2).bind fun q => (lookD q.2 r.1).bind fun x => (look q.2 q.1).bind fun y => match y with
    | .d y => (cmpD op x y).map fun k => (.t (.dat (.bool k)), q.2)
    | .dc kvs => match op with
      | .In => if keyOk x then some (.t (.dat (.bool (dGet kvs x).isSome)), q.2) else none
      | .NotIn => if keyOk x then some (.t (.dat (.bool (!(dGet kvs x).isSome))), q.2) else none
      | _ => none
  | .chn op op' a b c, ρ => (ev a ρ).bind fun r => (ev b r.2).bind fun q => (lookD q.2 r.1).bind fun x => (lookD q.2 q.1).bind fun y => (cmpD op x y).bind fun k =>
      if k then (ev c q.2).bind fun u => (lookD u.2 q.1).bind fun y => (lookD u.2 u.1).bind fun z => (cmpD op' y z).map fun k' => (.t (.dat (.bool k')), u.2)
      else some (.t (.dat (.bool false)), q.2)
  | .and a b, ρ => (ev a ρ).bind fun r => (testOd r.2 r.1).bind fun k => if k then (ev b r.2).bind fun q => (testOd q.2 q.1).map fun k' => (.t (.dat (.bool k')), q.2) else some (.t (.dat (.bool false)), r.2)
  | .or a b, ρ => (ev a ρ).bind fun r => (testOd r.2 r.1).bind fun k => if k then some (.t (.dat (.bool true)), r.2) else (ev b r.2).bind fun q => (testOd q.2 q.1).map fun k' => (.t (.dat (.bool k')), q.2)
  | .ifx c a b, ρ => (ev c ρ).bind fun r => (testOd r.2 r.1).bind fun k => if k then ev a r.2 else ev b r.2
  | .tup es, ρ => (evs es ρ).bind fun r => (frzs r.2 r.1).map fun q => (.t (.dat (.tuple q.1)), q.2)
  | .lst es, ρ => (evs es ρ).bind fun r => (frzs r.2 r.1).map fun q => (.t (.own q.1), q.2)
  | .idx a b, ρ => (ev a ρ).bind fun r => (ev b r.2).bind fun q => (look q.2 r.1).bind fun x => (lookD q.2 q.1).bind fun y => match x with
    | .d x => (idxD x y).map fun d => (.t (.dat d), q.2)
    | .dc kvs => if keyOk y then (dGet kvs y).map fun d => (.t (.dat d), q.2) else none
  | .slc a lo hi, ρ => (ev a ρ).bind fun r => (evo lo r.2).bind fun l => (evo hi l.2).bind fun h => (lookD h.2 r.1).bind fun x => (slcD x l.1 h.1).map fun c => (.t c, h.2)
  | .rev a, ρ => (ev a ρ).bind fun r => (lookD r.2 r.1).bind fun x => (revD x).map fun c => (.t c, r.2)
  | .call f es ix kes, ρ => (evs es ρ).bind fun r => (evs kes r.2).bind fun q => (T.fn f).bind fun fn =>
      if r.1.length + ix.length = fn.ps.length then callF fn (r.1 ++ ix.map fun i => q.1.getD i (.t .emp)) q.2 else none
  | .dnew, ρ => some (.t (.dic []), ρ)
  | .blt f es, ρ => (evs es ρ).bind fun r => (bltAt f r.2 r.1).map fun c => (.t c, r.2)
  | .isi a ts, ρ => if isiOk ts then (ev a ρ).bind fun r => (lookD r.2 r.1).bind fun x => (match x with
      | .dict _ => none
      | x => some (.t (.dat (.bool (ts.any (isiOne x)))), r.2)) else none
  | .mth m a es, ρ => (ev a ρ).bind fun r =>
      if isMut m then match r.1 with
        | .v i => (match cellAt r.2 i with
          | .own _ => (evs es r.2).bind fun q => (frzs q.2 q.1).bind fun u => (match cellAt u.2 i with
            | .own xs => (mthOwn m xs u.1).map fun w => (.t w.1, u.2.set i (.own w.2))
            | _ => none)
          | _ => none)
        | _ => none
      else (lookD r.2 r.1).bind fun x0 => (match x0 with
        | .list _ => (evs es r.2).bind fun q => (lookD q.2 r.1).bind fun x => (match x with
          | .list xs => (lookDs q.2 q.1).bind fun vs => (mthD m (.list xs) vs).map fun c => (.t c, q.2)
          | _ => none)
        | .tuple _ => (evs es r.2).bind fun q => (lookD q.2 r.1).bind fun x => (match x with
          | .tuple xs => (lookDs q.2 q.1).bind fun vs => (mthD m (.tuple xs) vs).map fun c => (.t c, q.2)
          | _ => none)
        | _ => none)
  | .lc elt tg it c own, ρ => (evi it ρ).bind fun r => (lcLoop (fun d ρ => (bindTg tg d ρ).bind fun ρ => (evc c ρ).bind fun k => if k.1 then (ev elt k.2).bind fun y => (frz y.2 y.1).map fun z => (some z.1, z.2) else some (none, k.2)) own r.1 r.2).map fun q => (.t (.own q.1), backR r.2 q.2 own)
  | .lc2 elt tg it c tg2 it2 c2 own own2, ρ => none
def evs : Exs → Rho → Option (List Od × Rho)
  | .nil, ρ => some ([], ρ)
  | .cons e es, ρ => (ev e ρ).bind fun r => (evs es r.2).map fun q => (r.1 :: q.1, q.2)
/-- an optional part of a slice -/
def evo : Oex → Rho → Option (Option Int × Rho)
  | .no, ρ => some (none, ρ)
  | .so e, ρ => (ev e ρ).bind fun r => (lookD r.2 r.1).bind fun x => match x with
    | .int i => some (some i, r.2)
    | _ => none
/-- an optional test -/
def evc : Oex → Rho → Option (Bool × Rho)
  | .no, ρ => some (true, ρ)
  | .so e, ρ => (ev e ρ).bind fun r => (testOd r.2 r.1).map fun b => (b, r.2)
/-- what is walked: the items -/
def evi : Itr → Rho → Option (List D × Rho)
  | .seq e, ρ => (ev e ρ).bind fun r => (frz r.2 r.1).bind fun q => (seqD q.1).map fun ds => (ds, q.2)
  | .rng1 a, ρ => (ev a ρ).bind fun r => (lookD r.2 r.1).bind fun x => (rng1D x).map fun ds => (ds, r.2)
  | .rng2 a b, ρ => (ev a ρ).bind fun r => (ev b r.2).bind fun q => (lookD q.2 r.1).bind fun x => (lookD q.2 q.1).bind fun y => (rng2D x y).map fun ds => (ds, q.2)
  | .enm e, ρ => (ev e ρ).bind fun r => (frz r.2 r.1).bind fun q => (seqD q.1).map fun ds => (enmD 0 ds, q.2)
  | .zip a b, ρ => (ev a ρ).bind fun r => (ev b r.2).bind fun q => (frz q.2 r.1).bind fun u => (frz u.2 q.1).bind fun w => (zipS u.1 w.1).map fun ds => (ds, w.2)
  | .rev e, ρ => (ev e ρ).bind fun r => (frz r.2 r.1).bind fun q => (seqD q.1).map fun ds => (ds.reverse, q.2)
end

/-! ### statements -/
end Lt

/-! Lt, part 2: what the cells stand for on the abstract heap. -/
namespace Lt
open PySem L2 PySem.Spec PyProof.Rows

/-- a frozen tuple, list: tracked at an address of Z, or of the written part -/
def TupZ (K : PySem.W.Frag) (H : Hp) (Z : Addr → Prop) (a : Addr) (vs : List V) : Prop :=
  ((∃ ob, H a = some (.frz ob (.tup vs)) ∧ ob.dict = none) ∧ Z a) ∨
    ∃ (o : Obj) (its : Array Value) (n : Nat), K.lookup a = some o ∧ o.cls = .type "tuple" ∧ o.dict = none ∧ o.data = .seq its n ∧ its.size ≤ sizeLine ∧ Vals vs its.toList
def LstZ (H : Hp) (Z : Addr → Prop) (a : Addr) (vs : List V) : Prop := H a = some (.lst vs) ∧ Z a
/-- a list that stands outside: nobody writes it -/
def LstE (K : PySem.W.Frag) (H : Hp) (Z : Addr → Prop) (a : Addr) (vs : List V) : Prop :=
  (Rd H a (.lst vs) ∧ Z a) ∨ ∃ (o : Obj) (its : Array Value) (n : Nat), K.lookup a = some o ∧ o.cls = .type "list" ∧ o.dict = none ∧ o.data = .seq its n ∧ its.size ≤ sizeLine ∧ Vals vs its.toList
theorem LstE.sq {K H Z a vs} (h : LstE K H Z a vs) : SqL K H a vs := h.elim (fun q => .inl q.1) .inr
/-- the law's own argument: a list of ints that stands outside -/
def scr (ns : List Int) : D := .dict (ns.map fun n => (.int n, .none))
theorem TupZ.sq {K H Z a vs} (h : TupZ K H Z a vs) : SqT K H a vs := by
  rcases h with ⟨⟨ob, h, _⟩, _⟩ | ⟨o, its, n, h1, h2, _, h3, h4, h5⟩
  · exact .inl (.inr ⟨ob, h⟩)
  · exact .inr ⟨o, its, n, h1, h2, h3, h4, h5⟩
theorem LstZ.sq {K H Z a vs} (h : LstZ H Z a vs) : SqL K H a vs := .inl (.inl h.1)
mutual
def Rl (K : PySem.W.Frag) (H : Hp) (Z : Addr → Prop) : D → V → Prop
  | .none, v => v = .non
  | .bool b, v => v = .bl b
  | .int i, v => v = .int i
  | .str x, v => v = .str x
  | .list ds, v => ∃ a vs, v = .ref a ∧ LstZ H Z a vs ∧ ds.length ≤ sizeLine ∧ Rls K H Z ds vs
  | .tuple ds, v => ∃ a vs, v = .ref a ∧ TupZ K H Z a vs ∧ ds.length ≤ sizeLine ∧ Rls K H Z ds vs
  | .dict kvs, v => ∃ (a : Addr) (ns : List Int), v = .ref a ∧ LstE K H Z a (ns.map V.int) ∧ kvs = ns.map (fun n => (.int n, .none)) ∧ ns.length ≤ 1000
def Rls (K : PySem.W.Frag) (H : Hp) (Z : Addr → Prop) : List D → List V → Prop
  | [], vs => vs = []
  | d :: ds, vs => ∃ v r, vs = v :: r ∧ Rl K H Z d v ∧ Rls K H Z ds r
end
/-- frozen things stay -/
structure Keep (H : Hp) (Z : Addr → Prop) (H' : Hp) (Z' : Addr → Prop) : Prop where
  h : ∀ a o, Z a → H a = some o → H' a = some o
  z : ∀ a, Z a → Z' a
theorem Keep.refl {H Z} : Keep H Z H Z := ⟨fun _ _ _ e => e, fun _ e => e⟩
theorem Keep.trans {H Z H1 Z1 H2 Z2} (a : Keep H Z H1 Z1) (b : Keep H1 Z1 H2 Z2) : Keep H Z H2 Z2 :=
  ⟨fun x o z e => b.h x o (a.z x z) (a.h x o z e), fun x z => b.z x (a.z x z)⟩
section
variable {K : PySem.W.Frag} {H H' : Hp} {Z Z' : Addr → Prop}
theorem Rd.keep {a : Addr} {u : HO} (k : Keep H Z H' Z') (z : Z a) (r : Rd H a u) : Rd H' a u := by
  rcases r with r | ⟨o, r⟩
  · exact .inl (k.h a _ z r)
  · exact .inr ⟨o, k.h a _ z r⟩
theorem TupZ.keep {a vs} (k : Keep H Z H' Z') (r : TupZ K H Z a vs) : TupZ K H' Z' a vs := by
  rcases r with ⟨⟨ob, r, d⟩, z⟩ | r
  · exact .inl ⟨⟨ob, k.h a _ z r, d⟩, k.z a z⟩
  · exact .inr r
theorem LstZ.keep {a vs} (k : Keep H Z H' Z') (r : LstZ H Z a vs) : LstZ H' Z' a vs := ⟨k.h a _ r.2 r.1, k.z a r.2⟩
mutual
theorem Rl.keep (k : Keep H Z H' Z') : ∀ (d : D) (v : V), Rl K H Z d v → Rl K H' Z' d v
  | .none, _, r => r
  | .bool _, _, r => r
  | .int _, _, r => r
  | .str _, _, r => r
  | .list ds, _, ⟨a, vs, e, l, n, r⟩ => ⟨a, vs, e, l.keep k, n, Rls.keep k ds vs r⟩
  | .tuple ds, _, ⟨a, vs, e, l, n, r⟩ => ⟨a, vs, e, l.keep k, n, Rls.keep k ds vs r⟩
  | .dict kvs, _, ⟨a, ns, e, h, e2, l⟩ => ⟨a, ns, e, h.elim (fun q => .inl ⟨Rd.keep k q.2 q.1, k.z a q.2⟩) .inr, e2, l⟩
theorem Rls.keep (k : Keep H Z H' Z') : ∀ (ds : List D) (vs : List V), Rls K H Z ds vs → Rls K H' Z' ds vs
  | [], _, r => r
  | d :: ds, _, ⟨v, r, e, h1, h2⟩ => ⟨v, r, e, Rl.keep k d v h1, Rls.keep k ds r h2⟩
end
theorem Rls.length : ∀ {ds : List D} {vs : List V}, Rls K H Z ds vs → vs.length = ds.length
  | [], _, r => by
    have e : _ = [] := r
    rw [e]; rfl
  | d :: ds, _, ⟨v, r, e, _, h2⟩ => by rw [e, List.length_cons, List.length_cons, Rls.length h2]
theorem Rls.nil : Rls K H Z [] [] := rfl
theorem Rls.cons {d ds v vs} (h : Rl K H Z d v) (r : Rls K H Z ds vs) : Rls K H Z (d :: ds) (v :: vs) := ⟨v, vs, rfl, h, r⟩
theorem Rls.append : ∀ {ds es : List D} {vs ws : List V}, Rls K H Z ds vs → Rls K H Z es ws → Rls K H Z (ds ++ es) (vs ++ ws)
  | [], _, _, _, r, q => by
    have e : _ = [] := r
    rw [e]; exact q
  | d :: ds, _, _, _, ⟨v, r, e, h1, h2⟩, q => by
    rw [e]
    exact ⟨v, r ++ _, rfl, h1, Rls.append h2 q⟩
theorem Rls.take : ∀ {ds : List D} {vs : List V} (n : Nat), Rls K H Z ds vs → Rls K H Z (ds.take n) (vs.take n)
  | _, _, 0, _ => rfl
  | [], _, n + 1, r => by
    have e : _ = [] := r
    rw [e]; exact Rls.nil
  | d :: ds, _, n + 1, ⟨v, r, e, h1, h2⟩ => by
    rw [e]
    exact ⟨v, r.take n, rfl, h1, Rls.take n h2⟩
theorem Rls.drop : ∀ {ds : List D} {vs : List V} (n : Nat), Rls K H Z ds vs → Rls K H Z (ds.drop n) (vs.drop n)
  | _, _, 0, r => r
  | [], _, n + 1, r => by
    have e : _ = [] := r
    rw [e]; exact Rls.nil
  | d :: ds, _, n + 1, ⟨v, r, e, h1, h2⟩ => by
    rw [e]
    exact Rls.drop n h2
theorem Rls.get : ∀ {ds : List D} {vs : List V} {i : Nat} {d : D}, Rls K H Z ds vs → ds[i]? = some d → ∃ v, vs[i]? = some v ∧ Rl K H Z d v
  | [], _, i, d, _, h => by simp at h
  | d :: ds, _, 0, d', ⟨v, r, e, h1, h2⟩, h => by
    rw [e]
    have : d = d' := by simpa using h
    subst this
    exact ⟨v, rfl, h1⟩
  | d :: ds, _, i + 1, d', ⟨v, r, e, h1, h2⟩, h => by
    rw [e]
    obtain ⟨u, h3, h4⟩ := Rls.get (i := i) h2 (by simpa using h)
    exact ⟨u, by simpa using h3, h4⟩
theorem Rls.set : ∀ {ds : List D} {vs : List V} (i : Nat) {d : D} {v : V}, Rls K H Z ds vs → Rl K H Z d v → Rls K H Z (ds.set i d) (vs.set i v)
  | [], _, _, _, _, r, _ => by
    have e : _ = [] := r
    rw [e]; exact Rls.nil
  | d :: ds, _, 0, d', _, ⟨v, r, e, h1, h2⟩, h => by
    rw [e]; exact ⟨_, r, rfl, h, h2⟩
  | d :: ds, _, i + 1, d', w, ⟨v, r, e, h1, h2⟩, h => by
    rw [e]; exact ⟨v, r.set i w, rfl, h1, Rls.set i h2 h⟩
theorem Rls.reverse : ∀ {ds : List D} {vs : List V}, Rls K H Z ds vs → Rls K H Z ds.reverse vs.reverse
  | [], _, r => by
    have e : _ = [] := r
    rw [e]; exact Rls.nil
  | d :: ds, _, ⟨v, r, e, h1, h2⟩ => by
    rw [e, List.reverse_cons, List.reverse_cons]
    exact Rls.append (Rls.reverse h2) (Rls.cons h1 Rls.nil)
theorem Rls.dropLast {ds : List D} {vs : List V} (h : Rls K H Z ds vs) : Rls K H Z ds.dropLast vs.dropLast := by
  rw [List.dropLast_eq_take, List.dropLast_eq_take, h.length]
  exact h.take _
theorem Rls.flat {ds : List D} {vs : List V} (h : Rls K H Z ds vs) : ∀ n : Nat, Rls K H Z (List.replicate n ds).flatten (List.replicate n vs).flatten
  | 0 => Rls.nil
  | n + 1 => by
    rw [List.replicate_succ, List.replicate_succ, List.flatten_cons, List.flatten_cons]
    exact Rls.append h (Rls.flat h n)
/- the kit's own relation -/
mutual
theorem Rl.dp : ∀ (d : D) (v : V), d.canLay0 = true → Rl K H Z d v → Dp K H v d
  | .none, _, _, r => by cases (show _ = _ from r); exact .non
  | .bool _, _, _, r => by cases (show _ = _ from r); exact .bl _
  | .int _, _, _, r => by cases (show _ = _ from r); exact .int _
  | .str _, _, _, r => by cases (show _ = _ from r); exact .str _
  | .list ds, _, c, ⟨a, vs, e, l, _, r⟩ => by rw [e]; exact .lst l.sq (Rls.dp ds vs (by simpa [PyData.canLay0] using c) r)
  | .tuple ds, _, c, ⟨a, vs, e, l, _, r⟩ => by rw [e]; exact .tup l.sq (Rls.dp ds vs (by simpa [PyData.canLay0] using c) r)
  | .dict _, _, c, _ => absurd c (by simp [PyData.canLay0])
theorem Rls.dp : ∀ (ds : List D) (vs : List V), PyData.canLayAll0 ds = true → Rls K H Z ds vs → DpAll K H vs ds
  | [], _, _, r => by cases (show _ = _ from r); exact .nil
  | d :: ds, _, c, ⟨v, r, e, h1, h2⟩ => by
    rw [PyData.canLayAll0, Bool.and_eq_true] at c
    rw [e]; exact .cons (Rl.dp d v c.1 h1) (Rls.dp ds r c.2 h2)
end
theorem Rls.ints : ∀ {ds : List D} {vs : List V} {ns : List Int}, Rls K H Z ds vs → asInts ds = some ns → vs = ns.map V.int
  | [], _, ns, r, e => by
    cases (show some [] = some ns from e)
    exact r
  | d :: ds, vs, ns, ⟨v, r, e, h1, h2⟩, h => by
    cases d with
    | int i =>
      have h' : (asInts ds).map (i :: ·) = some ns := h
      cases q : asInts ds with
      | none => rw [q] at h'; cases h'
      | some ms =>
        rw [q] at h'
        cases h'
        rw [e, Rls.ints h2 q]
        cases (show v = V.int i from h1)
        rfl
    | _ => cases (show none = some ns from h)
theorem Rls.bools : ∀ {ds : List D} {vs : List V} {ns : List Bool}, Rls K H Z ds vs → asBools ds = some ns → vs = ns.map V.bl
  | [], _, ns, r, e => by
    cases (show some [] = some ns from e)
    exact r
  | d :: ds, vs, ns, ⟨v, r, e, h1, h2⟩, h => by
    cases d with
    | bool i =>
      have h' : (asBools ds).map (i :: ·) = some ns := h
      cases q : asBools ds with
      | none => rw [q] at h'; cases h'
      | some ms =>
        rw [q] at h'
        cases h'
        rw [e, Rls.bools h2 q]
        cases (show v = V.bl i from h1)
        rfl
    | _ => cases (show none = some ns from h)
end

/-! ### dicts: keys are tuples of ints and None, nested -/
mutual
/-- the hash of a key without texts -/
def nh : NestedKey → Int
  | .none => reduceHash 0xFCA86420
  | .num i => hashInt i
  | .text _ => 0
  | .tup ks => reduceHash (Builtin.Tuple.tupleHashOf (nhs ks))
def nhs : List NestedKey → List Int
  | [] => []
  | k :: ks => nh k :: nhs ks
end
abbrev Row := NestedKey × Addr × V
def entryN (x : NestedKey × Addr × Value) : DictEntry := ⟨nh x.1, .ref x.2.1, x.2.2⟩
/-- the dict at a has these rows -/
def dφ (a : Addr) (rows : List Row) (h : Heap) : Prop := (a == sysModules) = false ∧ ∃ o es ep xs, h.get? a = some o ∧ o.ExactDict ∧ o.data = .dict es ep ∧ es.toList = xs.map entryN ∧
  Paired (fun (r : Row) (x : NestedKey × Addr × Value) => r.1 = x.1 ∧ r.2.1 = x.2.1 ∧ RelV r.2.2 x.2.2) rows xs
/-- the rows are these keys and data -/
def RowsV (K : PySem.W.Frag) (H : Hp) (Z : Addr → Prop) : List (D × D) → List Row → Prop := Paired fun p r => keyOk p.1 = true ∧ r.1 = ky p.1 ∧ Rl K H Z p.1 (.ref r.2.1) ∧ Rl K H Z p.2 r.2.2
def DicV (K : PySem.W.Frag) (H : Hp) (Z : Addr → Prop) (kvs : List (D × D)) (a : Addr) : Prop :=
  ∃ rows, H a = some (.ext (dφ a rows)) ∧ ¬ Z a ∧ kvs.length ≤ 16777215 ∧ RowsV K H Z kvs rows ∧ (rows.map (·.1)).Nodup
section
variable {K : PySem.W.Frag} {H H' : Hp} {Z Z' : Addr → Prop} {kvs : List (D × D)} {a : Addr}
theorem DicV.hd (d : DicV K H Z kvs a) : ∃ o, H a = some o := let ⟨_, h, _⟩ := d; ⟨_, h⟩
theorem DicV.nz (d : DicV K H Z kvs a) : ¬ Z a := let ⟨_, _, h, _⟩ := d; h
theorem DicV.move (d : DicV K H Z kvs a) (k : Keep H Z H' Z') (h : ∀ o, H a = some o → H' a = some o) (z : ¬ Z' a) : DicV K H' Z' kvs a := by
  obtain ⟨rows, h1, _, h3, h4, h5⟩ := d
  exact ⟨rows, h _ h1, z, h3, Paired.mapP h4 fun p r ⟨q0, q1, q2, q3⟩ => ⟨q0, q1, Rl.keep k _ _ q2, Rl.keep k _ _ q3⟩, h5⟩
end
/-! ### slots -/
def isOw : Cell → Bool
  | .own _ => true
  | .dic _ => true
  | _ => false
/-- the address is one that a slot owns -/
def Ow (ρ : Rho) (σ : L2.St) (a : Addr) : Prop := ∃ i, isOw (cellAt ρ i) = true ∧ σ[i]? = some (some (.ref a))
/-- what a cell says of the value v that bears it -/
def CellV (K : PySem.W.Frag) (H : Hp) (Z : Addr → Prop) : Cell → V → Prop
  | .emp, _ => False
  | .dat d, v => Rl K H Z d v
  | .own ds, v => ∃ a vs, v = .ref a ∧ H a = some (.lst vs) ∧ ¬ Z a ∧ ds.length ≤ sizeLine ∧ Rls K H Z ds vs
  | .dic kvs, v => ∃ a, v = .ref a ∧ DicV K H Z kvs a
structure Sta (K : PySem.W.Frag) (H : Hp) (Z : Addr → Prop) (ρ : Rho) (σ : L2.St) : Prop where
  len : ρ.length = σ.length
  at_ : ∀ i, cellAt ρ i ≠ .emp → ∃ v, σ[i]? = some (some v) ∧ CellV K H Z (cellAt ρ i) v
  inj : ∀ i j a, isOw (cellAt ρ i) = true → isOw (cellAt ρ j) = true → σ[i]? = some (some (.ref a)) → σ[j]? = some (some (.ref a)) → i = j
  zd : ∀ a, Z a → ∃ o, H a = some o
/-- from (H, Z), W the addresses that may change, to (H', Z'), W' those that may then -/
structure Stp (W W' : Addr → Prop) (H : Hp) (Z : Addr → Prop) (H' : Hp) (Z' : Addr → Prop) : Prop where
  fr : ∀ a o, H a = some o → ¬ W a → H' a = some o ∧ (Z' a → Z a)
  dom : ∀ a o, H a = some o → ∃ o', H' a = some o'
  z : ∀ a, Z a → Z' a
  w : ∀ a, W' a → W a ∨ H a = none
theorem Stp.refl {W H Z} : Stp W W H Z H Z := ⟨fun _ _ e _ => ⟨e, fun z => z⟩, fun _ _ e => ⟨_, e⟩, fun _ z => z, fun _ z => .inl z⟩
theorem Stp.none_ {W W' H Z H' Z'} (s : Stp W W' H Z H' Z') {a : Addr} (h : H' a = none) : H a = none := by
  cases q : H a with
  | none => rfl
  | some o =>
    obtain ⟨o', e⟩ := s.dom a o q
    rw [h] at e; cases e
theorem Stp.trans {W W1 W2 H Z H1 Z1 H2 Z2} (a : Stp W W1 H Z H1 Z1) (b : Stp W1 W2 H1 Z1 H2 Z2) : Stp W W2 H Z H2 Z2 where
  fr := fun x o e n => by
    obtain ⟨e1, z1⟩ := a.fr x o e n
    obtain ⟨e2, z2⟩ := b.fr x o e1 fun w => (a.w x w).elim n fun q => by rw [e] at q; cases q
    exact ⟨e2, fun z => z1 (z2 z)⟩
  dom := fun x o e => by
    obtain ⟨o1, e1⟩ := a.dom x o e
    exact b.dom x o1 e1
  z := fun x z => b.z x (a.z x z)
  w := fun x w => (b.w x w).elim (a.w x) fun q => .inr (a.none_ q)
section
variable {K : PySem.W.Frag} {H H' : Hp} {Z Z' : Addr → Prop} {ρ ρ' : Rho} {σ : L2.St}
/-- owned addresses are not frozen -/
theorem Sta.nz (s : Sta K H Z ρ σ) {a : Addr} (w : Ow ρ σ a) : ¬ Z a := by
  obtain ⟨i, h1, h2⟩ := w
  obtain ⟨v, e, c⟩ := s.at_ i (by intro q; rw [q] at h1; cases h1)
  rw [h2] at e
  cases e
  cases q : cellAt ρ i with
  | emp => rw [q] at h1; cases h1
  | dat d => rw [q] at h1; cases h1
  | own ds =>
    rw [q] at c
    obtain ⟨b, vs, e1, _, nz, _⟩ := c
    cases e1
    exact nz
  | dic kvs =>
    rw [q] at c
    obtain ⟨b, e1, d⟩ := c
    cases e1
    exact d.nz
theorem Sta.dm (s : Sta K H Z ρ σ) {a : Addr} (w : Ow ρ σ a) : ∃ o, H a = some o := by
  obtain ⟨i, h1, h2⟩ := w
  obtain ⟨v, e, c⟩ := s.at_ i (by intro q; rw [q] at h1; cases h1)
  rw [h2] at e
  cases e
  cases q : cellAt ρ i with
  | emp => rw [q] at h1; cases h1
  | dat d => rw [q] at h1; cases h1
  | own ds =>
    rw [q] at c
    obtain ⟨b, vs, e1, hb, nz, _⟩ := c
    cases e1
    exact ⟨_, hb⟩
  | dic kvs =>
    rw [q] at c
    obtain ⟨b, e1, d⟩ := c
    cases e1
    exact d.hd
theorem Stp.keep {W W'} (s : Stp W W' H Z H' Z') (n : ∀ a, Z a → ¬ W a) : Keep H Z H' Z' :=
  ⟨fun a o z e => (s.fr a o e (n a z)).1, s.z⟩
theorem Sta.keep {W'} (s : Sta K H Z ρ σ) (p : Stp (Ow ρ σ) W' H Z H' Z') : Keep H Z H' Z' := p.keep fun _ z w => s.nz w z
end

/-! ### results -/
/-- a value that is no slot's: its cell; an owned one is nobody's slot -/
def ResV (K : PySem.W.Frag) (H : Hp) (Z : Addr → Prop) (ρ : Rho) (σ : L2.St) (c : Cell) (v : V) : Prop :=
  CellV K H Z c v ∧ ∀ a, isOw c = true → v = .ref a → ¬ Ow ρ σ a
def OdV (K : PySem.W.Frag) (H : Hp) (Z : Addr → Prop) (ρ : Rho) (σ : L2.St) : Od → V → Prop
  | .v i, v => σ[i]? = some (some v)
  | .t c, v => ResV K H Z ρ σ c v
/-- an owned result is new -/
def NewV (H : Hp) : Od → V → Prop
  | .t c, v => ∀ a, isOw c = true → v = .ref a → H a = none
  | .v _, _ => True
section
variable {K : PySem.W.Frag} {H H' : Hp} {Z Z' : Addr → Prop} {ρ ρ' : Rho} {σ : L2.St}
theorem CellV.stp {W W'} {c : Cell} {v : V} (r : CellV K H Z c v) (p : Stp W W' H Z H' Z') (n : ∀ a, Z a → ¬ W a) (hw : ∀ a, isOw c = true → v = .ref a → ¬ W a) : CellV K H' Z' c v := by
  cases c with
  | emp => exact r
  | dat d => exact Rl.keep (p.keep n) d v r
  | own ds =>
    obtain ⟨a, vs, e, h, nz, l, q⟩ := r
    obtain ⟨e1, z1⟩ := p.fr a _ h (hw a rfl e)
    exact ⟨a, vs, e, e1, fun z => nz (z1 z), l, Rls.keep (p.keep n) ds vs q⟩
  | dic kvs =>
    obtain ⟨a, e, d⟩ := r
    exact ⟨a, e, d.move (p.keep n) (fun o h => (p.fr a o h (hw a rfl e)).1) fun z => by
      obtain ⟨o, h⟩ := d.hd
      exact d.nz ((p.fr a o h (hw a rfl e)).2 z)⟩
theorem CellV.dm {c : Cell} {v : V} {a : Addr} (r : CellV K H Z c v) (h : isOw c = true) (e : v = .ref a) : ∃ o, H a = some o := by
  cases c with
  | emp => cases h
  | dat d => cases h
  | own ds =>
    obtain ⟨b, vs, e1, hb, _⟩ := r
    rw [e] at e1; cases e1
    exact ⟨_, hb⟩
  | dic kvs =>
    obtain ⟨b, e1, d⟩ := r
    rw [e] at e1; cases e1
    exact d.hd
theorem OdV.stp {o : Od} {v : V} (r : OdV K H Z ρ σ o v) (s : Sta K H Z ρ σ) (p : Stp (Ow ρ σ) (Ow ρ' σ) H Z H' Z') : OdV K H' Z' ρ' σ o v := by
  cases o with
  | v i => exact r
  | t c =>
    obtain ⟨r1, r2⟩ := r
    refine ⟨r1.stp p (fun a z w => s.nz w z) r2, fun a h e w => ?_⟩
    rcases p.w a w with q | q
    · exact r2 a h e q
    · obtain ⟨o, e'⟩ := r1.dm h e
      rw [e'] at q; cases q
/-- the view of an operand -/
theorem OdV.cell {o : Od} {v : V} (r : OdV K H Z ρ σ o v) (s : Sta K H Z ρ σ) {w : Vw} (l : look ρ o = some w) : ∃ c, c.vw = some w ∧ CellV K H Z c v := by
  cases o with
  | v i =>
    have l' : (cellAt ρ i).vw = some w := l
    obtain ⟨u, e, c⟩ := s.at_ i (by intro q; rw [q] at l'; cases l')
    have r' : σ[i]? = some (some v) := r
    rw [r'] at e; cases e
    exact ⟨_, l', c⟩
  | t c => exact ⟨c, l, r.1⟩
/-- what a view says of the value -/
def VwV (K : PySem.W.Frag) (H : Hp) (Z : Addr → Prop) : D → V → Prop
  | .list ds, v => Rl K H Z (.list ds) v ∨ ∃ a vs, v = .ref a ∧ H a = some (.lst vs) ∧ ds.length ≤ sizeLine ∧ Rls K H Z ds vs
  | d, v => Rl K H Z d v
theorem VwV.of {d : D} {v : V} (r : Rl K H Z d v) : VwV K H Z d v := by
  cases d <;> first | exact r | exact .inl r
theorem OdV.vw {o : Od} {v : V} {d : D} (r : OdV K H Z ρ σ o v) (s : Sta K H Z ρ σ) (l : lookD ρ o = some d) : VwV K H Z d v := by
  unfold lookD at l
  cases q : look ρ o with
  | none => rw [q] at l; cases l
  | some w =>
    rw [q] at l
    obtain ⟨c, e, cv⟩ := r.cell s q
    cases c with
    | emp => exact cv.elim
    | dat d' =>
      cases (show some (Vw.d d') = some w from e)
      cases (show some d' = some d from l)
      exact VwV.of cv
    | own ds =>
      cases (show some (Vw.d (.list ds)) = some w from e)
      cases (show some (PyData.list ds) = some d from l)
      obtain ⟨a, vs, e1, h1, _, h2, h3⟩ := cv
      exact .inr ⟨a, vs, e1, h1, h2, h3⟩
    | dic kvs =>
      cases (show some (Vw.dc kvs) = some w from e)
      cases l
theorem VwV.lst {ds : List D} {v : V} (r : VwV K H Z (.list ds) v) : ∃ a vs, v = .ref a ∧ H a = some (.lst vs) ∧ ds.length ≤ sizeLine ∧ Rls K H Z ds vs := by
  rcases r with ⟨a, vs, e, l, n, q⟩ | ⟨a, vs, e, l, n, q⟩
  · exact ⟨a, vs, e, l.1, n, q⟩
  · exact ⟨a, vs, e, l, n, q⟩
theorem VwV.tup {ds : List D} {v : V} (r : VwV K H Z (.tuple ds) v) : ∃ a vs, v = .ref a ∧ SqT K H a vs ∧ ds.length ≤ sizeLine ∧ Rls K H Z ds vs := by
  obtain ⟨a, vs, e, l, n, q⟩ := r
  exact ⟨a, vs, e, l.sq, n, q⟩
theorem VwV.dp {d : D} {v : V} (r : VwV K H Z d v) (c : SeqAt.shaped d = true) : Dp K H v d := by
  have c0 := SeqAt.canLay_of_shaped c
  cases d with
  | list ds =>
    obtain ⟨a, vs, rfl, l, _, q⟩ := VwV.lst r
    exact .lst (.inl (.inl l)) (Rls.dp ds vs (by simpa [PyData.canLay0] using c0) q)
  | _ => exact Rl.dp (Z := Z) _ _ c0 r
/-- an own temporary of that address -/
def OwT (o : Od) (v : V) (a : Addr) : Prop := ∃ c, o = .t c ∧ isOw c = true ∧ v = .ref a
def OwF (a : Addr) : List Od → List V → Prop
  | o :: os, v :: vs => ¬ OwT o v a ∧ OwF a os vs
  | _, _ => True
/-- operands from the left; H0: the heap ahead of them -/
def OdVs (K : PySem.W.Frag) (H0 H : Hp) (Z : Addr → Prop) (ρ : Rho) (σ : L2.St) : List Od → List V → Prop
  | [], vs => vs = []
  | o :: os, vs => ∃ v r, vs = v :: r ∧ OdV K H Z ρ σ o v ∧ NewV H0 o v ∧ (∀ a, OwT o v a → OwF a os r) ∧ OdVs K H0 H Z ρ σ os r
theorem OdVs.length {H0 : Hp} : ∀ {os : List Od} {vs : List V}, OdVs K H0 H Z ρ σ os vs → vs.length = os.length
  | [], _, r => by cases (show _ = _ from r); rfl
  | o :: os, _, ⟨v, r, e, _, _, _, q⟩ => by rw [e, List.length_cons, List.length_cons, OdVs.length q]
/-- freezing one -/
theorem frz_ok {W0 : Addr → Prop} {H0 : Hp} {Z0 : Addr → Prop} {o : Od} {v : V} {d : D} (p : Stp W0 (Ow ρ σ) H0 Z0 H Z) (s : Sta K H Z ρ σ) (r : OdV K H Z ρ σ o v) (n : NewV H0 o v) (e : frz ρ o = some (d, ρ')) :
    ∃ Z', Stp W0 (Ow ρ' σ) H0 Z0 H Z' ∧ Sta K H Z' ρ' σ ∧ Rl K H Z' d v ∧ (∀ a, Z a → Z' a) ∧ (∀ a, Z' a → Z a ∨ Ow ρ σ a ∨ OwT o v a) ∧ (∀ a, Ow ρ' σ a → Ow ρ σ a) := by
  have same : ∀ {d'}, Rl K H Z d' v → d' = d → ρ = ρ' → ∃ Z', Stp W0 (Ow ρ' σ) H0 Z0 H Z' ∧ Sta K H Z' ρ' σ ∧ Rl K H Z' d v ∧ (∀ a, Z a → Z' a) ∧ (∀ a, Z' a → Z a ∨ Ow ρ σ a ∨ OwT o v a) ∧ (∀ a, Ow ρ' σ a → Ow ρ σ a) := by
    intro d' h e1 e2
    subst e1 e2
    exact ⟨Z, p, s, h, fun _ z => z, fun _ z => .inl z, fun _ w => w⟩
  cases o with
  | v i =>
    have e' : (match cellAt ρ i with
      | .dat d => some (d, ρ)
      | .own ds => some (.list ds, ρ.set i (.dat (.list ds)))
      | _ => none) = some (d, ρ') := e
    have r' : σ[i]? = some (some v) := r
    cases q : cellAt ρ i with
    | emp => rw [q] at e'; cases e'
    | dic kvs => rw [q] at e'; cases e'
    | dat d' =>
      rw [q] at e'
      cases e'
      obtain ⟨u, e1, c⟩ := s.at_ i (by rw [q]; intro z; cases z)
      rw [r'] at e1; cases e1
      rw [q] at c
      exact same c rfl rfl
    | own ds =>
      rw [q] at e'
      cases e'
      obtain ⟨u, e1, c⟩ := s.at_ i (by rw [q]; intro z; cases z)
      rw [r'] at e1; cases e1
      rw [q] at c
      obtain ⟨a, vs, rfl, h, nz, l, rr⟩ := c
      have owi : Ow ρ σ a := ⟨i, by rw [q]; rfl, r'⟩
      have hl : i < ρ.length := by rw [s.len]; exact (List.getElem?_eq_some_iff.mp r').1
      have ca : ∀ j, cellAt (ρ.set i (.dat (.list ds))) j = if j = i then .dat (.list ds) else cellAt ρ j := by
        intro j
        unfold cellAt
        rw [List.getD_eq_getElem?_getD, List.getD_eq_getElem?_getD]
        by_cases hj : j = i
        · subst hj
          rw [if_pos rfl, List.getElem?_set_self hl]; rfl
        · rw [if_neg hj, List.getElem?_set_ne (Ne.symm hj)]
      have ow' : ∀ b, Ow (ρ.set i (.dat (.list ds))) σ b → Ow ρ σ b ∧ b ≠ a := by
        rintro b ⟨j, h1, h2⟩
        rw [ca j] at h1
        by_cases hj : j = i
        · rw [if_pos hj] at h1; cases h1
        · rw [if_neg hj] at h1
          refine ⟨⟨j, h1, h2⟩, fun z => ?_⟩
          subst z
          exact hj (s.inj j i b h1 (by rw [q]; rfl) h2 r')
      have kp : Keep H Z H (fun x => Z x ∨ x = a) := ⟨fun _ _ _ e => e, fun _ z => .inl z⟩
      clear n
      refine ⟨fun x => Z x ∨ x = a, ⟨fun x o e n => ?_, p.dom, fun x z => .inl (p.z x z), fun x w => p.w x (ow' x w).1⟩, ⟨by rw [List.length_set]; exact s.len, fun j hj => ?_, fun j k b h1 h2 h3 h4 => ?_, fun x z => ?_⟩, ?_, fun _ z => .inl z, fun x z => ?_, fun b w => (ow' b w).1⟩
      · obtain ⟨e1, z1⟩ := p.fr x o e n
        refine ⟨e1, fun z => z.elim z1 fun e2 => ?_⟩
        subst e2
        rcases p.w x owi with w | w
        · exact (n w).elim
        · rw [e] at w; cases w
      · rw [ca j] at hj ⊢
        by_cases hji : j = i
        · subst hji
          rw [if_pos rfl]
          exact ⟨.ref a, r', a, vs, rfl, ⟨h, .inr rfl⟩, l, Rls.keep kp ds vs rr⟩
        · rw [if_neg hji] at hj ⊢
          obtain ⟨u, e1, c⟩ := s.at_ j hj
          refine ⟨u, e1, ?_⟩
          cases qj : cellAt ρ j with
          | emp => exact (hj qj).elim
          | dat d' => rw [qj] at c; exact Rl.keep kp d' u c
          | dic kvs =>
            rw [qj] at c
            obtain ⟨b, e2, db⟩ := c
            refine ⟨b, e2, db.move kp (fun _ h => h) fun z => z.elim db.nz fun e3 => ?_⟩
            subst e3 e2
            exact hji (s.inj j i b (by rw [qj]; rfl) (by rw [q]; rfl) e1 r')
          | own es =>
            rw [qj] at c
            obtain ⟨b, ws, e2, hb, nb, lb, rb⟩ := c
            refine ⟨b, ws, e2, hb, fun z => z.elim nb fun e3 => ?_, lb, Rls.keep kp es ws rb⟩
            subst e3 e2
            exact hji (s.inj j i b (by rw [qj]; rfl) (by rw [q]; rfl) e1 r')
      · rw [ca j] at h1
        rw [ca k] at h2
        by_cases hj : j = i
        · rw [if_pos hj] at h1; cases h1
        · by_cases hk : k = i
          · rw [if_pos hk] at h2; cases h2
          · rw [if_neg hj] at h1
            rw [if_neg hk] at h2
            exact s.inj j k b h1 h2 h3 h4
      · rcases z with z | z
        · exact s.zd x z
        · rw [z]; exact ⟨_, h⟩
      · exact ⟨a, vs, rfl, ⟨h, .inr rfl⟩, l, Rls.keep kp ds vs rr⟩
      · rcases z with z | z
        · exact .inl z
        · rw [z]; exact .inr (.inl owi)
  | t c =>
    obtain ⟨r1, r2⟩ := r
    cases c with
    | emp => exact r1.elim
    | dic kvs => cases e
    | dat d' =>
      cases (show some (d', ρ) = some (d, ρ') from e)
      exact same r1 rfl rfl
    | own ds =>
      cases (show some (PyData.list ds, ρ) = some (d, ρ') from e)
      obtain ⟨a, vs, rfl, h, nz, l, rr⟩ := r1
      have na : ¬ Ow ρ σ a := r2 a rfl rfl
      have n0 : H0 a = none := n a rfl rfl
      have kp : Keep H Z H (fun x => Z x ∨ x = a) := ⟨fun _ _ _ e => e, fun _ z => .inl z⟩
      refine ⟨fun x => Z x ∨ x = a, ⟨fun x o e n => ?_, p.dom, fun x z => .inl (p.z x z), p.w⟩, ⟨s.len, fun j hj => ?_, s.inj, fun x z => ?_⟩, ?_, fun _ z => .inl z, fun x z => ?_, fun b w => w⟩
      · obtain ⟨e1, z1⟩ := p.fr x o e n
        refine ⟨e1, fun z => z.elim z1 fun e2 => ?_⟩
        subst e2
        rw [e] at n0; cases n0
      · obtain ⟨u, e1, c⟩ := s.at_ j hj
        refine ⟨u, e1, ?_⟩
        cases qj : cellAt ρ j with
        | emp => exact (hj qj).elim
        | dat d' => rw [qj] at c; exact Rl.keep kp d' u c
        | dic kvs =>
          rw [qj] at c
          obtain ⟨b, e2, db⟩ := c
          refine ⟨b, e2, db.move kp (fun _ h => h) fun z => z.elim db.nz fun e3 => ?_⟩
          subst e3 e2
          exact na ⟨j, by rw [qj]; rfl, e1⟩
        | own es =>
          rw [qj] at c
          obtain ⟨b, ws, e2, hb, nb, lb, rb⟩ := c
          refine ⟨b, ws, e2, hb, fun z => z.elim nb fun e3 => ?_, lb, Rls.keep kp es ws rb⟩
          subst e3 e2
          exact na ⟨j, by rw [qj]; rfl, e1⟩
      · rcases z with z | z
        · exact s.zd x z
        · rw [z]; exact ⟨_, h⟩
      · exact ⟨a, vs, rfl, ⟨h, .inr rfl⟩, l, Rls.keep kp ds vs rr⟩
      · rcases z with z | z
        · exact .inl z
        · rw [z]; exact .inr (.inr ⟨_, rfl, rfl, rfl⟩)
/-- the others stay -/
theorem OdV.frz {ρ' : Rho} {Z' : Addr → Prop} {o o1 : Od} {v v1 : V} (r : OdV K H Z ρ σ o v) (h1 : ∀ a, Z a → Z' a) (h2 : ∀ a, Z' a → Z a ∨ Ow ρ σ a ∨ OwT o1 v1 a) (h3 : ∀ a, Ow ρ' σ a → Ow ρ σ a) (hd : ∀ a, OwT o v a → ¬ OwT o1 v1 a) : OdV K H Z' ρ' σ o v := by
  cases o with
  | v i => exact r
  | t c =>
    obtain ⟨r1, r2⟩ := r
    have kp : Keep H Z H Z' := ⟨fun _ _ _ e => e, h1⟩
    refine ⟨?_, fun a h e w => r2 a h e (h3 a w)⟩
    cases c with
    | emp => exact r1
    | dic kvs =>
      obtain ⟨a, rfl, d⟩ := r1
      refine ⟨a, rfl, d.move kp (fun _ h => h) fun z => ?_⟩
      rcases h2 a z with z | z | z
      · exact d.nz z
      · exact r2 a rfl rfl z
      · exact hd a ⟨_, rfl, rfl, rfl⟩ z
    | dat d => exact Rl.keep kp d v r1
    | own ds =>
      obtain ⟨a, vs, rfl, h, nz, l, rr⟩ := r1
      refine ⟨a, vs, rfl, h, fun z => ?_, l, Rls.keep kp ds vs rr⟩
      rcases h2 a z with z | z | z
      · exact nz z
      · exact r2 a rfl rfl z
      · exact hd a ⟨_, rfl, rfl, rfl⟩ z
theorem OdVs.frz {ρ' : Rho} {H0 : Hp} {Z' : Addr → Prop} {o1 : Od} {v1 : V} (h1 : ∀ a, Z a → Z' a) (h2 : ∀ a, Z' a → Z a ∨ Ow ρ σ a ∨ OwT o1 v1 a) (h3 : ∀ a, Ow ρ' σ a → Ow ρ σ a) : ∀ {os : List Od} {vs : List V}, OdVs K H0 H Z ρ σ os vs → (∀ a, OwT o1 v1 a → OwF a os vs) → OdVs K H0 H Z' ρ' σ os vs
  | [], _, r, _ => r
  | o :: os, _, ⟨v, r, e, hv, hn, hf, q⟩, hd => by
    subst e
    exact ⟨v, r, rfl, hv.frz h1 h2 h3 fun a z z' => (hd a z').1 z, hn, hf, OdVs.frz h1 h2 h3 q fun a z => (hd a z).2⟩
theorem frzs_ok {W0 : Addr → Prop} {H0 : Hp} {Z0 : Addr → Prop} : ∀ {os : List Od} {vs : List V} {ds : List D} {ρ ρ' : Rho} {Z : Addr → Prop}, Stp W0 (Ow ρ σ) H0 Z0 H Z → Sta K H Z ρ σ → OdVs K H0 H Z ρ σ os vs → frzs ρ os = some (ds, ρ') →
    ∃ Z', Stp W0 (Ow ρ' σ) H0 Z0 H Z' ∧ Sta K H Z' ρ' σ ∧ Rls K H Z' ds vs ∧ (∀ a, Z a → Z' a) ∧ (∀ a, Z' a → Z a ∨ Ow ρ σ a ∨ ¬ OwF a os vs) ∧ (∀ a, Ow ρ' σ a → Ow ρ σ a)
  | [], _, _, _, _, Z, p, s, r, e => by
    cases (show _ = _ from r)
    cases (show some ([], _) = some _ from e)
    exact ⟨Z, p, s, rfl, fun _ z => z, fun _ z => .inl z, fun _ w => w⟩
  | o :: os, _, ds, ρ, ρ', Z, p, s, ⟨v, r, e, hv, hn, hf, q⟩, h => by
    subst e
    have h' : ((frz ρ o).bind fun r => (frzs r.2 os).map fun q => (r.1 :: q.1, q.2)) = some (ds, ρ') := h
    cases e1 : frz ρ o with
    | none => rw [e1] at h'; cases h'
    | some x =>
      obtain ⟨d, ρ1⟩ := x
      rw [e1] at h'
      obtain ⟨Z1, p1, s1, r1, a1, a2, a3⟩ := frz_ok p s hv hn e1
      have h2 : ((frzs ρ1 os).map fun q => (d :: q.1, q.2)) = some (ds, ρ') := h'
      cases e2 : frzs ρ1 os with
      | none => rw [e2] at h2; cases h2
      | some y =>
        obtain ⟨es, ρ2⟩ := y
        rw [e2] at h2
        cases h2
        obtain ⟨Z2, p2, s2, r2, b1, b2, b3⟩ := frzs_ok p1 s1 (q.frz a1 a2 a3 hf) e2
        refine ⟨Z2, p2, s2, Rls.cons (Rl.keep ⟨fun _ _ _ e => e, b1⟩ d v r1) r2, fun a z => b1 a (a1 a z), fun a z => ?_, fun a w => a3 a (b3 a w)⟩
        rcases b2 a z with z | z | z
        · rcases a2 a z with z | z | z
          · exact .inl z
          · exact .inr (.inl z)
          · exact .inr (.inr fun w => w.1 z)
        · exact .inr (.inl (a3 a z))
        · exact .inr (.inr fun w => z w.2)
/-- a new object; fz: it is frozen at once -/
theorem alloc {W0 : Addr → Prop} {H0 : Hp} {Z0 : Addr → Prop} (p : Stp W0 (Ow ρ σ) H0 Z0 H Z) (s : Sta K H Z ρ σ) {a : Addr} (ha : H a = none) (ob : HO) (fz : Prop) :
    Stp W0 (Ow ρ σ) H0 Z0 (upd H a ob) (fun x => Z x ∨ (fz ∧ x = a)) ∧ Sta K (upd H a ob) (fun x => Z x ∨ (fz ∧ x = a)) ρ σ ∧ Keep H Z (upd H a ob) (fun x => Z x ∨ (fz ∧ x = a)) ∧ ¬ Ow ρ σ a ∧ ¬ Z a ∧ H0 a = none := by
  have nw : ¬ Ow ρ σ a := fun w => by
    obtain ⟨o, e⟩ := s.dm w
    rw [ha] at e; cases e
  have nz : ¬ Z a := fun z => by
    obtain ⟨o, e⟩ := s.zd a z
    rw [ha] at e; cases e
  have n0 : H0 a = none := p.none_ ha
  have kp : Keep H Z (upd H a ob) (fun x => Z x ∨ (fz ∧ x = a)) := ⟨fun x o z e => by rw [upd_ne (ne_of_none e ha)]; exact e, fun _ z => .inl z⟩
  have p1 : Stp (Ow ρ σ) (Ow ρ σ) H Z (upd H a ob) (fun x => Z x ∨ (fz ∧ x = a)) :=
    ⟨fun x o e n => ⟨by rw [upd_ne (ne_of_none e ha)]; exact e, fun z => z.elim id fun q => by rw [q.2, ha] at e; cases e⟩, fun x o e => ⟨o, by rw [upd_ne (ne_of_none e ha)]; exact e⟩, fun _ z => .inl z, fun _ w => .inl w⟩
  refine ⟨p.trans p1, ⟨s.len, fun j hj => ?_, s.inj, fun x z => ?_⟩, kp, nw, nz, n0⟩
  · obtain ⟨u, e1, c⟩ := s.at_ j hj
    refine ⟨u, e1, ?_⟩
    cases qj : cellAt ρ j with
    | emp => exact (hj qj).elim
    | dat d' => rw [qj] at c; exact Rl.keep kp d' u c
    | dic kvs =>
      rw [qj] at c
      obtain ⟨b, e2, db⟩ := c
      obtain ⟨ob', hb⟩ := db.hd
      exact ⟨b, e2, db.move kp (fun o h => by rw [upd_ne (ne_of_none h ha)]; exact h) fun z => z.elim db.nz fun e3 => (by rw [e3.2, ha] at hb; cases hb)⟩
    | own es =>
      rw [qj] at c
      obtain ⟨b, ws, e2, hb, nb, lb, rb⟩ := c
      exact ⟨b, ws, e2, by rw [upd_ne (ne_of_none hb ha)]; exact hb, fun z => z.elim nb fun e3 => (by rw [e3.2, ha] at hb; cases hb), lb, Rls.keep kp es ws rb⟩
  · by_cases hx : x = a
    · subst hx; exact ⟨ob, upd_same⟩
    · rw [upd_ne hx]
      rcases z with z | z
      · exact s.zd x z
      · exact (hx z.2).elim
end
end Lt

/-! Lt, part 3: operators. -/
namespace Lt
open PySem L2 PySem.Spec PyProof.Rows

/-- what is wanted of a new tuple of xs -/
def NewT (H : Hp) (Q : VK) (xs : List V) : Prop := ∀ (p : Addr) (ob : Obj), H p = none → ob.dict = none → Q (.ref p) (upd H p (.frz ob (.tup xs)))
/-- what is wanted of a result c -/
def Fin_ (K : PySem.W.Frag) (W : Addr → Prop) (H0 : Hp) (Z0 : Addr → Prop) (ρ : Rho) (σ : L2.St) (c : Cell) (Q : VK) : Prop :=
  ∀ u H' Z', Sta K H' Z' ρ σ → Stp W (Ow ρ σ) H0 Z0 H' Z' → ResV K H' Z' ρ σ c u → NewV H0 (.t c) u → Q u H'
section
variable {K : PySem.W.Frag} {W : Addr → Prop} {H0 H : Hp} {Z0 Z : Addr → Prop} {ρ : Rho} {σ : L2.St} {Q : VK}
theorem Fin_.same {d : D} {u : V} (f : Fin_ K W H0 Z0 ρ σ (.dat d) Q) (p : Stp W (Ow ρ σ) H0 Z0 H Z) (s : Sta K H Z ρ σ) (r : Rl K H Z d u) : Q u H :=
  f u H Z s p ⟨r, fun _ h => nomatch h⟩ fun _ h => nomatch h
theorem Fin_.tup {ds : List D} {vs : List V} (f : Fin_ K W H0 Z0 ρ σ (.dat (.tuple ds)) Q) (p : Stp W (Ow ρ σ) H0 Z0 H Z) (s : Sta K H Z ρ σ) (r : Rls K H Z ds vs) (hl : ds.length ≤ sizeLine) : NewT H Q vs := fun a ob ha hd => by
  obtain ⟨p1, s1, k, _, _, _⟩ := alloc p s ha (.frz ob (.tup vs)) True
  exact f _ _ _ s1 p1 ⟨⟨a, vs, rfl, .inl ⟨⟨ob, upd_same, hd⟩, .inr ⟨trivial, rfl⟩⟩, hl, Rls.keep k ds vs r⟩, fun _ h => nomatch h⟩ fun _ h => nomatch h
theorem Fin_.lst {ds : List D} {vs : List V} (f : Fin_ K W H0 Z0 ρ σ (.own ds) Q) (p : Stp W (Ow ρ σ) H0 Z0 H Z) (s : Sta K H Z ρ σ) (r : Rls K H Z ds vs) (hl : ds.length ≤ sizeLine) : ∀ a, H a = none → Q (.ref a) (upd H a (.lst vs)) := fun a ha => by
  obtain ⟨p1, s1, k, nw, nz, n0⟩ := alloc p s ha (.lst vs) False
  exact f _ _ _ s1 p1 ⟨⟨a, vs, rfl, upd_same, fun z => z.elim nz fun q => q.1, hl, Rls.keep k ds vs r⟩, fun b _ e => by cases e; exact nw⟩ fun b _ e => by cases e; exact n0
end
theorem line_eq : (16777216 : Nat) = sizeLine := sizeLine_eq.symm

/-! ### new tuples: their own dict is none, they are never written -/
abbrev tob (its : List Value) : Obj := { cls := .type "tuple", data := .seq its.toArray }
theorem tob_dict (its : List Value) : (tob its).dict = none := rfl
section
variable {X : Cx} {pins : List (Addr × Obj)} {σ : L2.St} {H : Hp} {s : Shared}
theorem laidF (inv : Inv X pins σ H s) {ys : List V} {its : List Value} (rel : Vals ys its) (hz : ys.length ≤ sizeLine) (t' : Nat) :
    Inv X pins σ (upd H s.heap.objs.size (.frz (tob its) (.tup ys))) { s with heap := s.heap.push (tob its), toks := t' } :=
  inv.laid (t' := t') (fun _ _ e => Heap.get?_push_of_some _ e) (Nat.le_refl _) ⟨Heap.get?_push_size _ rfl, hz, its, rel, IsTup.new _ _⟩
end
theorem NewT.use {X : Cx} {pins : List (Addr × Obj)} {σ : L2.St} {H : Hp} {s : Shared} {Q : VK} {ys : List V} {its : List Value} (q : NewT H Q ys) (inv : Inv X pins σ H s) (rel : Vals ys its) (hz : ys.length ≤ sizeLine) (t' : Nat) :
    EP X pins σ Q (.ref s.heap.objs.size) { s with heap := s.heap.push (tob its), toks := t' } :=
  ⟨.ref s.heap.objs.size, _, laidF inv rel hz t', rfl, q _ _ inv.fresh (tob_dict its)⟩
section
variable {X : Cx}
/-- (a, b, ..) -/
def tTupF (t : TA) : TE := fun σ H Q => t σ H fun xs H1 => xs.length ≤ sizeLine ∧ NewT H1 Q xs
theorem pe_tupF {es : List Expr} {t : TA} {k0} {pos : Pos} (h : PA X es t) : PE X (.Tuple es k0 pos) (tTupF t) := by
  constructor
  intro pins s σ H Q inv want
  refine wpAny_Tuple_spliced (thn (h.run pos pins s σ H _ inv want) ?_)
  rintro us s1 ⟨xs, H1, inv1, rel, hz, q⟩
  have hl := rel.length
  exact ⟨by omega, q.use inv1 rel hz s1.toks⟩
/-- t + u -/
def rCatF (K : PySem.W.Frag) : R2 := fun x y H Q => ∃ a b xs ys, x = .ref a ∧ y = .ref b ∧ SqT K H a xs ∧ SqT K H b ys ∧ xs.length + ys.length ≤ sizeLine ∧
  (xs = [] → Q (.ref b) H) ∧ (ys = [] → Q (.ref a) H) ∧ NewT H Q (xs ++ ys)
theorem op_catF : OpR X (binaryOp .Add) (rCatF X.K) := by
  rintro pins s σ H x y vx vy Q inv relx rely ⟨a, b, xs, ys, rfl, rfl, ha, hb, hz, q0, q1, q2⟩
  cases relx
  cases rely
  obtain ⟨i1, rel1, tup1, _⟩ := inv.tuple ha
  obtain ⟨i2, rel2, tup2, _⟩ := inv.tuple hb
  have l1 := rel1.length
  have l2 := rel2.length
  by_cases e1 : xs = []
  · subst e1
    cases rel1
    exact cat_tup0 tup1 tup2 ⟨.ref b, H, inv, rfl, q0 rfl⟩
  · refine HT.cat_tup tup1 tup2 (fun z => e1 (List.eq_nil_of_length_eq_zero (by rw [l1, z]; rfl))) (fun z => ⟨.ref a, H, inv, rfl, q1 (List.eq_nil_of_length_eq_zero (by rw [l2, z]; rfl))⟩) (fun _ => ?_) (by omega)
    exact q2.use inv (rel1.append rel2) (by rw [List.length_append]; omega) s.toks
/-- t[lo:hi] -/
def rSlF (K : PySem.W.Frag) : V → Option Int → Option Int → Hp → VK → Prop := fun x lo hi H Q => ∃ a xs, x = .ref a ∧ SqT K H a xs ∧
  (HT.sIx xs.length 0 lo = 0 ∧ HT.sIx xs.length xs.length hi = xs.length → Q (.ref a) H) ∧ NewT H Q (cutV xs lo hi)
theorem sl_tupF : SlR X (rSlF X.K) := by
  rintro pins s σ H x vx vl vu lo hi sl Q inv relx hs pl pu ⟨a, xs, rfl, hx, q1, q2⟩
  cases relx
  obtain ⟨its, rel, tp, hz⟩ := inv.tuple hx
  have hlen : its.toArray.size = xs.length := List.size_toArray.trans rel.length.symm
  refine ⟨"tuple", _, PyProof.Rows.slot_tuple_getitem.lookup, tp.typeIs, ?_⟩
  by_cases hw : HT.sIx xs.length 0 lo = 0 ∧ HT.sIx xs.length xs.length hi = xs.length
  · exact getItem_tuple_whole tp hs pl pu (hlen ▸ hw) ⟨.ref a, H, inv, rfl, q1 hw⟩
  · refine HT.getItem_tuple_cut tp hs pl pu (hlen ▸ hw) ?_ (hlen ▸ hz)
    rw [hlen]
    have hc := cutV_length xs lo hi
    exact q2.use inv ((rel.drop _).take _) (Nat.le_trans hc hz) s.toks
/-- tuple(x) -/
theorem call_tupleF : CallR X (.type "tuple") (fun xs H Q => ∃ p ys, xs = [.ref p] ∧ ((SqL X.K H p ys ∧ NewT H Q ys) ∨ (SqT X.K H p ys ∧ Q (.ref p) H))) := by
  rintro pins s σ H xs us Q inv rel ⟨p, ys, rfl, h⟩
  obtain ⟨u, rfl, ru⟩ := vals1 rel
  cases ru
  rcases h with ⟨hq, q⟩ | ⟨hq, q⟩
  · obtain ⟨its, r', pl, hz⟩ := inv.list hq
    have hlen := r'.length
    have hsz : its.toArray.size ≤ sizeLine := by rw [List.size_toArray]; omega
    refine call_tuple_list pl.isList (fun h' kp => ?_) hsz
    have inv1 : Inv X pins σ H { s with heap := h' } := inv.kept (t' := s.toks) kp
    exact q.use inv1 r' hz s.toks
  · obtain ⟨its, r', pl, hz⟩ := inv.tuple hq
    exact call_tuple_same pl ⟨.ref p, H, inv, rfl, q⟩
theorem op_fdivA : OpR X (binaryOp .FloorDiv) (rI (fun _ j => j ≠ 0 ∧ j.natAbs.log2 < 9000) fun i j => .int (i.fdiv j)) := opI fun _ _ _ _ _ _ _ hc q => floordiv_int hc.1 q (.inl (PyProof.noPylong_of_log2 hc.2))
end
end Lt

namespace Lt
open PySem L2 PySem.Spec PyProof.Rows
/-! ### tuple * 1 -/
theorem tuple_mul1 (l : Addr) (items : Array Value) (n : Nat) (dd : Option Addr) (sl : Array (Option Value)) (u : Tok) :
    Meets (Builtin.«tuple.__mul__» ⟨[.ref l, .int 1 u], []⟩) (fun _ R s => s.heap.get? l = some { cls := .type "tuple", dict := dd, data := .seq items n, slots := sl } ∧
      R (.ok (.ret (Value.ref l))) s) :=
  .of_wp fun prog w A R s h => by
    obtain ⟨hp, g, d, tk, os⟩ := s
    obtain ⟨hl, h⟩ := h
    have f1 := AutoSeq1.idx_int
    wp_walk using wpAny_loadPart' hl
    repeat (first
      | (refine wpAny_ite_false (decide_eq_false (by decide)) ?_; wp_walk using wpAny_loadPart' hl)
      | (refine wpAny_ite_true (decide_eq_true (by simp)) ?_; wp_walk using wpAny_loadPart' hl))
    exact ⟨_, rfl, h⟩
/-- t * k, k from 2 on -/
def rRepF (K : PySem.W.Frag) : R2 := fun x y H Q => ∃ l k xs, x = .ref l ∧ y = .int k ∧ SqT K H l xs ∧ xs ≠ [] ∧ 2 ≤ k ∧ k ≤ 1000 ∧ xs.length ≤ 1000 ∧ NewT H Q (List.replicate k.toNat xs).flatten
section
variable {X : Cx}
theorem op_repF : OpR X (binaryOp .Mult) (rRepF X.K) := by
  rintro pins s σ H x y vx vy Q inv relx rely ⟨l, k, xs, rfl, rfl, hT, hne, h1, h2, hz, q⟩
  cases relx
  obtain ⟨tk, rfl⟩ := rely
  obtain ⟨its, rel, ⟨ob, ho, hc, n, hd⟩, hs⟩ := inv.tuple hT
  obtain ⟨cls, dd, data, sl⟩ := ob
  simp only at hc hd
  subst hc hd
  have hle := rel.length
  have hpos : 0 < its.length := by
    cases xs with
    | nil => exact absurd rfl hne
    | cons _ _ => rw [← hle]; exact Nat.succ_pos _
  have hemp : its.toArray.isEmpty = false := by
    cases its with
    | nil => cases hpos
    | cons _ _ => rfl
  have hprod : (its.length : Int) * k ≤ 1000000 := by
    have a1 : (its.length : Int) * k ≤ 1000 * k := Int.mul_le_mul_of_nonneg_right (by omega) (by omega)
    omega
  have hflat : (List.replicate k.toNat its).flatten.length ≤ sizeLine := by
    rw [PyProof.Rows.lm_len_rep_flat, sizeLine_eq]
    have a1 : k.toNat * its.length ≤ 1000 * 1000 := Nat.mul_le_mul (by omega) (by omega)
    omega
  have hfold := size_rep its k.toNat
  have g0 : (decide (k < -(2 ^ 63)) || decide (k ≥ 2 ^ 63)) = false := by simp; omega
  have g1 : (its.toArray.isEmpty || k == 1) = false := by rw [hemp]; simp; omega
  have g2 : (decide (k ≤ 0) || its.toArray.isEmpty) = false := by rw [hemp]; simp; omega
  have g3 : ¬ ((its.toArray.size : Nat) : Int) * k > (2 ^ 63 - 1) / 8 := by rw [List.size_toArray]; omega
  have g4 : Builtin.Tuple.tupleTooMany (((its.toArray.size : Nat) : Int) * k) = false := by
    unfold Builtin.Tuple.tupleTooMany
    rw [sizeLine_eq, List.size_toArray]
    simp; omega
  have g5 : (List.foldl (fun x1 x2 => x1 ++ x2) #[] (List.replicate k.toNat its.toArray)).size ≤ sizeLine := by rw [hfold, List.size_toArray]; exact hflat
  have run := call_meets F.slot_tuple_mul (show s.TypeIs (.ref l) "tuple" from ⟨_, ho, rfl⟩) F.entry_tuple_mul (F.args_tuple_mul_2 _ _) (tuple_mulW l its.toArray n dd sl k tk g0 g1 g2 g3 g4 g5) (prog := X.prog) (w := X.w) (A := X.A) (E := X.xe) (Q := EP X pins σ Q) (s := s) ⟨ho, by
    rw [hfold]
    exact q.use inv (rel.rep k.toNat) (by have := (rel.rep k.toNat).length; omega) s.toks⟩
  have rmul := int_rmul_tuple k tk l its.toArray n dd sl
  exact wpAny_binaryOp_repeat_ref (T := "tuple") (U := "int") (by decide) ⟨_, ho, rfl⟩ (fun s' => typeIs_int s' k tk) noFill_tuple_mul F.fills_int_mul F.slot_int_rmul repeat_tuple F.slot_int_index.lookup
    (call_meets F.slot_int_rmul (typeIs_int s k tk) F.entry_int_rmul (F.args_int_rmul_2 _ _) rmul ⟨ho, rfl, ⟨_, ho, rfl⟩, run⟩)
end
def rRepT1 (K : PySem.W.Frag) : R2 := fun x y H Q => ∃ l xs, x = .ref l ∧ y = .int 1 ∧ SqT K H l xs ∧ Q (.ref l) H
section
variable {X : Cx}
theorem op_repT1 : OpR X (binaryOp .Mult) (rRepT1 X.K) := by
  intro pins s σ H x y v u Q I rx ry h
  obtain ⟨l, xs, rfl, rfl, hT, q⟩ := h
  cases rx
  obtain ⟨t, rfl⟩ := ry
  obtain ⟨its, r, ⟨⟨cls, dd, data, sl⟩, ho, hc, n, hd⟩, hs⟩ := I.tuple hT
  simp only at hc hd
  subst hc hd
  refine wpAny_binaryOp_repeat_ref (T := "tuple") (U := "int") (by decide) ⟨_, ho, rfl⟩ (fun s' => typeIs_int s' 1 t) noFill_tuple_mul F.fills_int_mul F.slot_int_rmul repeat_tuple F.slot_int_index.lookup
    (call_meets F.slot_int_rmul (typeIs_int s 1 t) F.entry_int_rmul (F.args_int_rmul_2 _ _) (int_rmul_tuple 1 t l its.toArray n dd sl)
      ⟨ho, rfl, ⟨_, ho, rfl⟩, call_meets F.slot_tuple_mul ⟨_, ho, rfl⟩ F.entry_tuple_mul (F.args_tuple_mul_2 _ _) (tuple_mul1 l its.toArray n dd sl t) ⟨ho, ?_⟩⟩)
  exact ⟨.ref l, _, I, rfl, q⟩
/-- the reading of a binary operator -/
def rBin (K : PySem.W.Frag) : Operator → R2
  | .Add => fun x y H Q => rI0 (fun i j => .int (i + j)) x y H Q ∨ rCatF K x y H Q ∨ rCat x y H Q
  | .Sub => rI0 fun i j => .int (i - j)
  | .Mult => fun x y H Q => rI CMul (fun i j => .int (i * j)) x y H Q ∨ rI CMulW (fun i j => .int (i * j)) x y H Q ∨ rRepF K x y H Q ∨ rRepT1 K x y H Q ∨ rRep x y H Q
  | .FloorDiv => rI (fun _ j => j ≠ 0 ∧ j.natAbs.log2 < 9000) fun i j => .int (i.fdiv j)
  | .Mod => rI (fun _ j => j ≠ 0) fun i j => .int (i.fmod j)
  | .Pow => rI CPow fun i j => .int (i ^ j.toNat)
  | _ => fun _ _ _ _ => False
theorem op_bin : ∀ op, OpR X (binaryOp op) (rBin X.K op)
  | .Add => op_add.or (op_catF.or op_cat)
  | .Sub => op_sub
  | .Mult => op_mul.or (op_mulW.or (op_repF.or (op_repT1.or op_rep)))
  | .FloorDiv => op_fdivA
  | .Mod => op_modN
  | .Pow => op_pow
  | .MatMult | .Div | .LShift | .RShift | .BitOr | .BitXor | .BitAnd => fun _ _ _ _ _ _ _ _ _ _ _ _ h => h.elim
end
section
variable {K : PySem.W.Frag} {W : Addr → Prop} {H0 H : Hp} {Z0 Z : Addr → Prop} {ρ : Rho} {σ : L2.St} {Q : VK}
theorem VwV.int {i : Int} {v : V} (r : VwV K H Z (.int i) v) : v = .int i := r
theorem bin_ok {op : Operator} {x y : D} {c : Cell} {v w : V} (e : binD op x y = some c) (rx : VwV K H Z x v) (ry : VwV K H Z y w) (p : Stp W (Ow ρ σ) H0 Z0 H Z) (s : Sta K H Z ρ σ) (f : Fin_ K W H0 Z0 ρ σ c Q) : rBin K op v w H Q := by
  cases op <;> cases x <;> cases y <;> (try (cases (show none = some c from e))) <;> (try (rename_i i j; cases (VwV.int rx); cases (VwV.int ry)))
  · -- int + int
    cases (show some _ = some c from e)
    exact .inl ⟨i, j, rfl, rfl, f.same p s rfl⟩
  · -- list + list
    rename_i xs ys
    obtain ⟨a, vs, rfl, ha, la, ra⟩ := rx.lst
    obtain ⟨b, ws, rfl, hb, lb, rb⟩ := ry.lst
    have e' : (if xs.length + ys.length ≤ 16777216 then some (Cell.own (xs ++ ys)) else none) = some c := e
    by_cases hl : xs.length + ys.length ≤ 16777216
    · rw [if_pos hl] at e'
      cases e'
      have l1 := ra.length
      have l2 := rb.length
      rw [line_eq] at hl
      exact .inr (.inr ⟨a, b, vs, ws, rfl, rfl, ha, hb, by omega, f.lst p s (ra.append rb) (by rw [List.length_append]; exact hl)⟩)
    · rw [if_neg hl] at e'; cases e'
  · -- tuple + tuple
    rename_i xs ys
    obtain ⟨a, vs, rfl, ha, la, ra⟩ := rx.tup
    obtain ⟨b, ws, rfl, hb, lb, rb⟩ := ry.tup
    have e' : (if xs.length + ys.length ≤ 16777216 then some (Cell.dat (.tuple (xs ++ ys))) else none) = some c := e
    by_cases hl : xs.length + ys.length ≤ 16777216
    · rw [if_pos hl] at e'
      cases e'
      have l1 := ra.length
      have l2 := rb.length
      rw [line_eq] at hl
      refine .inr (.inl ⟨a, b, vs, ws, rfl, rfl, ha, hb, by omega, fun z => ?_, fun z2 => ?_, f.tup p s (ra.append rb) (by rw [List.length_append]; exact hl)⟩)
      · have e0 : xs = [] := List.eq_nil_of_length_eq_zero (by rw [z] at l1; simpa using l1.symm)
        subst e0
        rw [List.nil_append] at f
        exact f.same p s ry
      · have e0 : ys = [] := List.eq_nil_of_length_eq_zero (by rw [z2] at l2; simpa using l2.symm)
        subst e0
        rw [List.append_nil] at f
        exact f.same p s rx
    · rw [if_neg hl] at e'; cases e'
  · cases (show some _ = some c from e)
    exact ⟨i, j, rfl, rfl, f.same p s rfl⟩
  · -- int * int
    have e' : (if mulOk i j then some (Cell.dat (.int (i * j))) else none) = some c := e
    by_cases hm : mulOk i j = true
    · rw [if_pos hm] at e'
      cases e'
      unfold mulOk at hm
      rw [Bool.or_eq_true, Bool.or_eq_true, decide_eq_true_eq, decide_eq_true_eq, decide_eq_true_eq] at hm
      rcases hm with (hm | hm) | hm
      · exact .inl ⟨i, j, rfl, rfl, .inl (by omega), f.same p s rfl⟩
      · exact .inl ⟨i, j, rfl, rfl, .inr (by omega), f.same p s rfl⟩
      · exact .inr (.inl ⟨i, j, rfl, rfl, hm, f.same p s rfl⟩)
    · rw [if_neg hm] at e'; cases e'
  · -- list * int
    rename_i xs k
    cases (VwV.int ry)
    obtain ⟨a, vs, rfl, ha, la, ra⟩ := rx.lst
    have e' : (if 0 ≤ k ∧ xs.length * k.toNat ≤ 16777216 ∧ k < 2 ^ 62 then some (Cell.own (List.replicate k.toNat xs).flatten) else none) = some c := e
    by_cases hl : 0 ≤ k ∧ xs.length * k.toNat ≤ 16777216 ∧ k < 2 ^ 62
    · rw [if_pos hl] at e'
      cases e'
      have l1 := ra.length
      obtain ⟨h1, h2, h3⟩ := hl
      rw [line_eq] at h2
      exact .inr (.inr (.inr (.inr ⟨a, k, vs, rfl, rfl, ha, by omega, by omega, by rw [l1]; exact h2, f.lst p s (ra.flat _) (by rw [PyProof.Rows.lm_len_rep_flat, Nat.mul_comm]; exact h2)⟩)))
    · rw [if_neg hl] at e'; cases e'
  · -- tuple * int
    rename_i xs k
    cases (VwV.int ry)
    obtain ⟨a, vs, rfl, ha, la, ra⟩ := rx.tup
    have e' : (if k = 1 then some (Cell.dat (.tuple xs)) else if 2 ≤ k ∧ k ≤ 1000 ∧ xs.isEmpty = false ∧ xs.length ≤ 1000 then some (Cell.dat (.tuple (List.replicate k.toNat xs).flatten)) else none) = some c := e
    by_cases h1 : k = 1
    · rw [if_pos h1] at e'
      cases e'
      subst h1
      exact .inr (.inr (.inr (.inl ⟨a, vs, rfl, rfl, ha, f.same p s rx⟩)))
    · rw [if_neg h1] at e'
      by_cases hl : 2 ≤ k ∧ k ≤ 1000 ∧ xs.isEmpty = false ∧ xs.length ≤ 1000
      · rw [if_pos hl] at e'
        cases e'
        obtain ⟨h2, h3, h4, h5⟩ := hl
        have l1 := ra.length
        have hne : vs ≠ [] := fun z => by
          subst z
          have e0 : xs = [] := List.eq_nil_of_length_eq_zero (by simpa using l1.symm)
          subst e0
          cases h4
        refine .inr (.inr (.inl ⟨a, k, vs, rfl, rfl, ha, hne, h2, h3, by omega, f.tup p s (ra.flat _) ?_⟩))
        rw [PyProof.Rows.lm_len_rep_flat, sizeLine_eq]
        have a1 : k.toNat * xs.length ≤ 1000 * 1000 := Nat.mul_le_mul (by omega) h5
        omega
      · rw [if_neg hl] at e'; cases e'
  · -- mod
    have e' : (if j = 0 then none else some (Cell.dat (.int (i.fmod j)))) = some c := e
    by_cases hj : j = 0
    · rw [if_pos hj] at e'; cases e'
    · rw [if_neg hj] at e'
      cases e'
      exact ⟨i, j, rfl, rfl, hj, f.same p s rfl⟩
  · -- pow
    have e' : (if 0 ≤ j ∧ j ≤ 1000000 ∧ i.natAbs < 2 ^ 64 then some (Cell.dat (.int (i ^ j.toNat))) else none) = some c := e
    by_cases hj : 0 ≤ j ∧ j ≤ 1000000 ∧ i.natAbs < 2 ^ 64
    · rw [if_pos hj] at e'
      cases e'
      exact ⟨i, j, rfl, rfl, hj, f.same p s rfl⟩
    · rw [if_neg hj] at e'; cases e'
  · -- floor division
    have e' : (if divOk j then some (Cell.dat (.int (i.fdiv j))) else none) = some c := e
    by_cases hj : divOk j = true
    · rw [if_pos hj] at e'
      cases e'
      unfold divOk at hj
      rw [Bool.and_eq_true, decide_eq_true_eq, decide_eq_true_eq] at hj
      exact ⟨i, j, rfl, rfl, hj, f.same p s rfl⟩
    · rw [if_neg hj] at e'; cases e'
end
end Lt

/-! Lt: dicts whose keys are tuples (of ints and None, nested). -/
namespace Lt
open PySem L2 PySem.Spec PyProof.Rows
mutual
theorem nh_eq (w : World) : ∀ d : D, kyB d = true → nh (ky d) = (ky d).hash w
  | .none, _ => rfl
  | .bool _, h => by cases h
  | .int _, _ => rfl
  | .str _, h => by cases h
  | .list _, h => by cases h
  | .dict _, h => by cases h
  | .tuple ds, h => by
    show reduceHash (Builtin.Tuple.tupleHashOf (nhs (kys ds))) = reduceHash (Builtin.Tuple.tupleHashOf (NestedKey.hashes w (kys ds)))
    rw [nhs_eq w ds h]
theorem nhs_eq (w : World) : ∀ ds : List D, kysB ds = true → nhs (kys ds) = NestedKey.hashes w (kys ds)
  | [], _ => rfl
  | d :: ds, h => by
    obtain ⟨h1, h2⟩ := Bool.and_eq_true_iff.mp (show (kyB d && kysB ds) = true from h)
    show nh (ky d) :: nhs (kys ds) = (ky d).hash w :: NestedKey.hashes w (kys ds)
    rw [nh_eq w d h1, nhs_eq w ds h2]
end
mutual
theorem ky_eqv : ∀ a b : D, kyB a = true → kyB b = true → PyData.eqv a b = decide (ky a = ky b)
  | .none, b, _, h => by
    cases b with
    | none => simp [PyData.eqv, ky]
    | int _ => simp [PyData.eqv, ky]
    | tuple _ => simp [PyData.eqv, ky]
    | _ => cases h
  | .int i, b, _, h => by
    cases b with
    | none => simp [PyData.eqv, ky]
    | int j => simp only [PyData.eqv, ky, NestedKey.num.injEq]; exact Bool.beq_eq_decide_eq i j
    | tuple _ => simp [PyData.eqv, ky]
    | _ => cases h
  | .tuple xs, b, h1, h => by
    cases b with
    | tuple ys =>
      have := kys_eqv xs ys h1 h
      simp only [PyData.eqv, ky, NestedKey.tup.injEq, this]
    | none => simp [PyData.eqv, ky]
    | int _ => simp [PyData.eqv, ky]
    | _ => cases h
  | .bool _, _, h, _ => by cases h
  | .str _, _, h, _ => by cases h
  | .list _, _, h, _ => by cases h
  | .dict _, _, h, _ => by cases h
theorem kys_eqv : ∀ as bs : List D, kysB as = true → kysB bs = true → PyData.eqvAll as bs = decide (kys as = kys bs)
  | [], [], _, _ => by simp [PyData.eqvAll, kys]
  | [], _ :: _, _, _ => by simp [PyData.eqvAll, kys]
  | _ :: _, [], _, _ => by simp [PyData.eqvAll, kys]
  | a :: as, b :: bs, h1, h2 => by
    obtain ⟨a1, a2⟩ := Bool.and_eq_true_iff.mp (show (kyB a && kysB as) = true from h1)
    obtain ⟨b1, b2⟩ := Bool.and_eq_true_iff.mp (show (kyB b && kysB bs) = true from h2)
    simp only [PyData.eqvAll, kys, List.cons.injEq, ky_eqv a b a1 b1, kys_eqv as bs a2 b2, Bool.decide_and]
end
section
variable {X : Cx} {pins : List (Addr × Obj)} {σ : L2.St} {H : Hp} {s : Shared} {Z : Addr → Prop}
mutual
theorem nestedIs (I : Inv X pins σ H s) : ∀ (d : D) (v : V) (u : Value), kyB d = true → Rl X.K H Z d v → RelV v u → NestedIs s.heap (ky d) u
  | .none, v, u, _, r, ru => by
    cases (show v = .non from r)
    cases u <;> first | exact .none | cases ru
  | .int i, v, u, _, r, ru => by
    cases (show v = .int i from r)
    obtain ⟨t, rfl⟩ := ru
    exact .int i t
  | .tuple ds, v, u, h, r, ru => by
    obtain ⟨a, vs, rfl, l, _, rr⟩ := (show ∃ a vs, v = .ref a ∧ TupZ X.K H Z a vs ∧ ds.length ≤ sizeLine ∧ Rls X.K H Z ds vs from r)
    obtain rfl : u = Value.ref a := ru
    obtain ⟨its, rv, ⟨o, ho, hc, n, hd⟩, _⟩ := I.tuple l.sq
    exact .tup ho hc hd (by rw [List.toList_toArray]; exact nestedAll I ds vs its h rr rv)
  | .bool _, _, _, h, _, _ => by cases h
  | .str _, _, _, h, _, _ => by cases h
  | .list _, _, _, h, _, _ => by cases h
  | .dict _, _, _, h, _, _ => by cases h
theorem nestedAll (I : Inv X pins σ H s) : ∀ (ds : List D) (vs : List V) (us : List Value), kysB ds = true → Rls X.K H Z ds vs → Vals vs us → NestedAll s.heap (kys ds) us
  | [], vs, us, _, r, rv => by
    cases (show vs = [] from r)
    cases rv
    exact .nil
  | d :: ds, _, us, h, ⟨v, r, e, h1, h2⟩, rv => by
    subst e
    obtain ⟨k1, k2⟩ := Bool.and_eq_true_iff.mp (show (kyB d && kysB ds) = true from h)
    cases rv with
    | cons a b => exact .cons (nestedIs I d v _ k1 h1 a) (nestedAll I ds r _ k2 h2 b)
end
theorem keyOk_d {d : D} (h : keyOk d = true) : isTupD d = true ∧ kyB d = true ∧ (ky d).depth ≤ 8 := by
  unfold keyOk at h
  rw [Bool.and_eq_true, Bool.and_eq_true, decide_eq_true_eq] at h
  exact h
theorem key_is (I : Inv X pins σ H s) {d : D} {b : Addr} (h : keyOk d = true) (r : Rl X.K H Z d (.ref b)) : (nestedKind X.prog X.w).is s.heap (ky d) b := by
  obtain ⟨_, h2, h3⟩ := keyOk_d h
  exact ⟨nestedIs I d (.ref b) (.ref b) h2 r rfl, h3⟩
theorem key_ref {K : PySem.W.Frag} {H : Hp} {d : D} {v : V} (h : keyOk d = true) (r : Rl K H Z d v) : ∃ b, v = .ref b := by
  obtain ⟨h1, _⟩ := keyOk_d h
  cases d <;> first | cases h1 | skip
  obtain ⟨a, vs, rfl, _⟩ := r
  exact ⟨a, rfl⟩
/-- the rows as the kit has them -/
def Row3 (r : Row) (x : NestedKey × Addr × Value) : Prop := r.1 = x.1 ∧ r.2.1 = x.2.1 ∧ RelV r.2.2 x.2.2
theorem paired_mem {α β : Type} {R : α → β → Prop} : ∀ {l₁ : List α} {l₂ : List β}, Paired R l₁ l₂ → ∀ y ∈ l₂, ∃ x ∈ l₁, R x y
  | _, _, .nil, _, h => by cases h
  | _, _, .cons r t, y, h => by
    rcases List.mem_cons.mp h with rfl | h
    · exact ⟨_, List.mem_cons_self .., r⟩
    · obtain ⟨x, h1, h2⟩ := paired_mem t y h
      exact ⟨x, List.mem_cons_of_mem _ h1, h2⟩
theorem paired_memL {α β : Type} {R : α → β → Prop} : ∀ {l₁ : List α} {l₂ : List β}, Paired R l₁ l₂ → ∀ x ∈ l₁, ∃ y ∈ l₂, R x y
  | _, _, .nil, _, h => by cases h
  | _, _, .cons r t, y, h => by
    rcases List.mem_cons.mp h with rfl | h
    · exact ⟨_, List.mem_cons_self .., r⟩
    · obtain ⟨x, h1, h2⟩ := paired_memL t y h
      exact ⟨x, List.mem_cons_of_mem _ h1, h2⟩
theorem row3_keys : ∀ {rows : List Row} {xs : List (NestedKey × Addr × Value)}, Paired Row3 rows xs → xs.map (·.1) = rows.map (·.1)
  | _, _, .nil => rfl
  | _, _, .cons r t => by rw [List.map_cons, List.map_cons, row3_keys t, r.1]
/-- the dict as the kit has it -/
theorem DicV.open_ (I : Inv X pins σ H s) {kvs : List (D × D)} {a : Addr} (d : DicV X.K H Z kvs a) : ∃ rows xs, H a = some (.ext (dφ a rows)) ∧ RowsV X.K H Z kvs rows ∧ Paired Row3 rows xs ∧ (a == sysModules) = false ∧ s.heap.DictOfH (nestedKind X.prog X.w) a xs ∧ kvs.length ≤ 16777215 := by
  obtain ⟨rows, h1, h2, h3, h4, h5⟩ := d
  obtain ⟨⟨hs, o, es, ep, xs, ho, hx, hd, he, hp⟩, _⟩ := I.hok a _ h1
  have hp' : Paired Row3 rows xs := hp
  have kx : ∀ x ∈ xs, ∃ p ∈ kvs, keyOk p.1 = true ∧ x.1 = ky p.1 ∧ Rl X.K H Z p.1 (.ref x.2.1) := fun x hx => by
    obtain ⟨r, hr, q1, q2, _⟩ := paired_mem hp' x hx
    obtain ⟨p, hp, q3, q4, q5, _⟩ := paired_mem h4 r hr
    exact ⟨p, hp, q3, by rw [← q1, q4], by rw [← q2]; exact q5⟩
  refine ⟨rows, xs, h1, h4, hp', hs, ⟨o, es, ep, ho, hx, hd, ?_, fun x hx => ?_, by rw [row3_keys hp']; exact h5⟩, h3⟩
  · rw [he]
    refine List.map_congr_left fun x hx => ?_
    obtain ⟨p, _, q1, q2, _⟩ := kx x hx
    show (⟨nh x.1, .ref x.2.1, x.2.2⟩ : DictEntry) = ⟨x.1.hash X.w, .ref x.2.1, x.2.2⟩
    rw [q2, nh_eq X.w p.1 (keyOk_d q1).2.1]
  · obtain ⟨p, _, q1, q2, q3⟩ := kx x hx
    rw [q2]
    exact key_is I q1 q3
/-- what is found -/
theorem dGet_at {kvs : List (D × D)} {rows : List Row} {K : PySem.W.Frag} {H : Hp} {xs : List (NestedKey × Addr × Value)} {d : D} (hd : kyB d = true) (h1 : RowsV K H Z kvs rows) (h2 : Paired Row3 rows xs) :
    (dGet kvs d = none ∧ atKey xs (ky d) = none) ∨ ∃ y v u c, dGet kvs d = some y ∧ atKey xs (ky d) = some (c, u) ∧ RelV v u ∧ Rl K H Z y v := by
  unfold dGet atKey
  induction h1 generalizing xs with
  | nil =>
    cases h2
    exact .inl ⟨rfl, rfl⟩
  | @cons p r ps rs h t ih =>
    cases h2 with
    | @cons _ x _ xs' q tq =>
      obtain ⟨k1, k2, k3, k4⟩ := h
      obtain ⟨q1, q2, q3⟩ := q
      have e : PyData.eqv p.1 d = decide (x.1 = ky d) := by
        rw [ky_eqv p.1 d (keyOk_d k1).2.1 hd, ← q1, k2]
      rw [List.find?_cons, List.find?_cons, e]
      by_cases c : x.1 = ky d
      · rw [decide_eq_true c]
        exact .inr ⟨p.2, r.2.2, x.2.2, x.2.1, rfl, rfl, q3, k4⟩
      · rw [decide_eq_false c]
        exact ih tq
/-- what is stored -/
theorem dPut_rows {kvs : List (D × D)} {rows : List Row} {K : PySem.W.Frag} {H : Hp} {xs : List (NestedKey × Addr × Value)} {d y : D} {b : Addr} {v : V} {u : Value} (hd : keyOk d = true) (rb : Rl K H Z d (.ref b)) (ry : Rl K H Z y v) (ru : RelV v u) (h1 : RowsV K H Z kvs rows) (h2 : Paired Row3 rows xs) (nd : (xs.map (·.1)).Nodup) :
    ∃ rows', RowsV K H Z (dPut kvs d y) rows' ∧ Paired Row3 rows' (storedH xs (ky d) b u) ∧ (dPut kvs d y).length ≤ kvs.length + 1 := by
  unfold storedH
  suffices g : ∀ (kvs : List (D × D)) (rows : List Row) (xs : List (NestedKey × Addr × Value)), RowsV K H Z kvs rows → Paired Row3 rows xs → (xs.map (·.1)).Nodup →
      ∃ rows', RowsV K H Z (dPut kvs d y) rows' ∧ Paired Row3 rows' (if (atKey xs (ky d)).isSome then xs.map (putAt (ky d) u) else xs ++ [(ky d, b, u)]) ∧ (dPut kvs d y).length ≤ kvs.length + 1 by
    exact g kvs rows xs h1 h2 nd
  intro kvs rows xs h1
  induction h1 generalizing xs with
  | nil =>
    intro h2 _
    cases h2
    exact ⟨[(ky d, b, v)], .cons ⟨hd, rfl, rb, ry⟩ .nil, .cons ⟨rfl, rfl, ru⟩ .nil, Nat.le_refl _⟩
  | @cons p r ps rs h t ih =>
    intro h2 nd
    cases h2 with
    | @cons _ x _ xs' q tq =>
      obtain ⟨k1, k2, k3, k4⟩ := h
      obtain ⟨q1, q2, q3⟩ := q
      rw [List.map_cons, List.nodup_cons] at nd
      have e : PyData.eqv p.1 d = decide (x.1 = ky d) := by
        rw [ky_eqv p.1 d (keyOk_d k1).2.1 (keyOk_d hd).2.1, ← q1, k2]
      by_cases c : x.1 = ky d
      · have a1 : atKey (x :: xs') (ky d) = some x.2 := by
          unfold atKey
          rw [List.find?_cons, decide_eq_true c]; rfl
        have e1 : dPut (p :: ps) d y = (p.1, y) :: ps := by
          show (if PyData.eqv p.1 d = true then (p.1, y) :: ps else p :: dPut ps d y) = _
          rw [e, decide_eq_true c, if_pos rfl]
        rw [a1, e1]
        refine ⟨(r.1, r.2.1, v) :: rs, .cons ⟨k1, k2, k3, ry⟩ t, ?_, by simp⟩
        rw [Option.isSome_some, if_pos rfl, List.map_cons]
        have e2 : xs'.map (putAt (ky d) u) = xs' := by
          refine (List.map_congr_left fun z hz => ?_).trans (List.map_id _)
          show putAt (ky d) u z = z
          unfold putAt
          rw [if_neg fun (ez : z.1 = ky d) => nd.1 (by rw [c, ← ez]; exact List.mem_map.mpr ⟨z, hz, rfl⟩)]
        rw [e2]
        unfold putAt
        rw [if_pos c]
        exact .cons ⟨q1, q2, ru⟩ tq
      · have a1 : atKey (x :: xs') (ky d) = atKey xs' (ky d) := by
          unfold atKey
          rw [List.find?_cons, decide_eq_false c]
        have e1 : dPut (p :: ps) d y = p :: dPut ps d y := by
          show (if PyData.eqv p.1 d = true then (p.1, y) :: ps else p :: dPut ps d y) = _
          rw [e, decide_eq_false c, if_neg Bool.false_ne_true]
        obtain ⟨rows', g1, g2, g3⟩ := ih xs' tq nd.2
        rw [a1, e1]
        refine ⟨r :: rows', .cons ⟨k1, k2, k3, k4⟩ g1, ?_, by simp only [List.length_cons]; omega⟩
        have e2 : (if (atKey xs' (ky d)).isSome = true then (x :: xs').map (putAt (ky d) u) else (x :: xs') ++ [(ky d, b, u)]) = x :: (if (atKey xs' (ky d)).isSome = true then xs'.map (putAt (ky d) u) else xs' ++ [(ky d, b, u)]) := by
          split
          · rw [List.map_cons]
            congr 1
            unfold putAt
            rw [if_neg c]
          · rfl
        rw [e2]
        exact .cons ⟨q1, q2, q3⟩ g2
theorem dφ_stay {a : Addr} {rows : List Row} (h1 h2 : Heap) (p : dφ a rows h1) (k : ∀ o, h1.get? a = some o → h2.get? a = some o) : dφ a rows h2 := by
  obtain ⟨hs, o, es, ep, xs, ho, r⟩ := p
  exact ⟨hs, o, es, ep, xs, k o ho, r⟩
theorem ext_ok {P : Program} {w : World} {H : Hp} {h : Heap} {a : Addr} {rows : List Row} (p : dφ a rows h) : ObjOk P w H h a (.ext (dφ a rows)) :=
  ⟨p, let ⟨_, o, _, _, _, ho, _⟩ := p; ⟨o, ho⟩, dφ_stay⟩
/-! ### the rules -/
theorem d_in2 {A : Around} {E : Value → Shared → Prop} {Q : Value → Shared → Prop} {kvs : List (D × D)} {a b : Addr} {d : D} (hu : A.units + 65 < cLine) (I : Inv X pins σ H s) (g : DicV X.K H Z kvs a) (hd : keyOk d = true) (rb : Rl X.K H Z d (.ref b)) (h : ∀ s', Inv X pins σ H s' → Q (.bool (dGet kvs d).isSome) s') :
    wpAny (model X.prog X.w) A (compareOp .In (.ref b) (.ref a)) Q E s := by
  obtain ⟨rows, xs, h1, h2, h3, h4, h5, _⟩ := g.open_ I
  refine wpAny_in_heap (knd := nestedKind X.prog X.w) (by show A.units + 1 + 8 < cLine; omega) (key_is I hd rb) h4 h5 ?_
  rcases dGet_at (keyOk_d hd).2.1 h2 h3 with ⟨e1, e2⟩ | ⟨y, v, u, c, e1, e2, _⟩
  · rw [e2]; rw [e1] at h; exact h _ (I.tok _)
  · rw [e2]; rw [e1] at h; exact h _ (I.tok _)
theorem d_notIn2 {A : Around} {E : Value → Shared → Prop} {Q : Value → Shared → Prop} {kvs : List (D × D)} {a b : Addr} {d : D} (hu : A.units + 65 < cLine) (I : Inv X pins σ H s) (g : DicV X.K H Z kvs a) (hd : keyOk d = true) (rb : Rl X.K H Z d (.ref b)) (h : ∀ s', Inv X pins σ H s' → Q (.bool (!(dGet kvs d).isSome)) s') :
    wpAny (model X.prog X.w) A (compareOp .NotIn (.ref b) (.ref a)) Q E s := by
  obtain ⟨rows, xs, h1, h2, h3, h4, h5, _⟩ := g.open_ I
  refine wpAny_notIn_heap (knd := nestedKind X.prog X.w) (by show A.units + 1 + 8 < cLine; omega) (key_is I hd rb) h4 h5 ?_
  rcases dGet_at (keyOk_d hd).2.1 h2 h3 with ⟨e1, e2⟩ | ⟨y, v, u, c, e1, e2, _⟩
  · rw [e2]; rw [e1] at h; exact h _ (I.tok _)
  · rw [e2]; rw [e1] at h; exact h _ (I.tok _)
theorem d_getItem2 {A : Around} {E : Value → Shared → Prop} {Q : Value → Shared → Prop} {kvs : List (D × D)} {a b : Addr} {d y : D} (hu : A.units + 65 < cLine) (I : Inv X pins σ H s) (g : DicV X.K H Z kvs a) (hd : keyOk d = true) (rb : Rl X.K H Z d (.ref b)) (e : dGet kvs d = some y) (h : ∀ v u s', Inv X pins σ H s' → RelV v u → Rl X.K H Z y v → Q u s') :
    wpAny (model X.prog X.w) A (getItem (.ref a) (.ref b)) Q E s := by
  obtain ⟨rows, xs, h1, h2, h3, h4, h5, _⟩ := g.open_ I
  rcases dGet_at (keyOk_d hd).2.1 h2 h3 with ⟨e1, e2⟩ | ⟨y', v, u, c, e1, e2, ru, ry⟩
  · rw [e] at e1; cases e1
  · rw [e] at e1; cases e1
    exact wpAny_getItem_heap (knd := nestedKind X.prog X.w) (by show A.units + 1 + 8 < cLine; omega) (key_is I hd rb) h5 e2 (h v u _ (I.tok _) ru ry)
theorem d_setItem2 {A : Around} {E : Value → Shared → Prop} {Q : Unit → Shared → Prop} {kvs : List (D × D)} {a b : Addr} {d y : D} {v : V} {u : Value} (hu : A.units + 65 < cLine) (I : Inv X pins σ H s) (g : DicV X.K H Z kvs a) (hl : kvs.length < 16777215) (hd : keyOk d = true) (rb : Rl X.K H Z d (.ref b)) (ry : Rl X.K H Z y v) (ru : RelV v u)
    (h : ∀ rows' s', Inv X pins σ (upd H a (.ext (dφ a rows'))) s' → RowsV X.K H Z (dPut kvs d y) rows' → (rows'.map (·.1)).Nodup → Q () s') :
    wpAny (model X.prog X.w) A (setItem (.ref a) (.ref b) u) Q E s := by
  obtain ⟨rows, xs, h1, h2, h3, h4, h5, _⟩ := g.open_ I
  have lx : xs.length = kvs.length := by rw [← Paired.length h3, ← Paired.length h2]
  refine wpAny_setItem_heap (knd := nestedKind X.prog X.w) (hsz := by rw [lx, sizeLine_eq]; omega) (by show A.units + 1 + 8 < cLine; omega) (key_is I hd rb) h5 fun h' m hs => ?_
  obtain ⟨o5, es5, ep5, _, _, _, _, _, nd5⟩ := h5
  obtain ⟨rows', g1, g2, g3⟩ := dPut_rows (K := X.K) (H := H) hd rb ry ru h2 h3 nd5
  obtain ⟨o, es, ep, ho, hx, hdt, he, hk, nd⟩ := m
  have hp : dφ a rows' h' := by
    refine ⟨h4, o, es, ep, _, ho, hx, hdt, ?_, g2⟩
    rw [he]
    refine List.map_congr_left fun x hxm => ?_
    obtain ⟨r, hr, q1, q2, _⟩ := paired_mem g2 x hxm
    obtain ⟨p, hp, q3, q4, _⟩ := paired_mem g1 r hr
    show (⟨x.1.hash X.w, .ref x.2.1, x.2.2⟩ : DictEntry) = ⟨nh x.1, .ref x.2.1, x.2.2⟩
    rw [← q1, q4, nh_eq X.w p.1 (keyOk_d q3).2.1]
  exact h rows' _ (d_write I (by rw [h1]; exact True.intro) hs ⟨o, ho⟩ (ext_ok hp)) g1 (by rw [← row3_keys g2]; exact nd)
theorem dφ_new {h : Heap} (hb : sysModules < h.objs.size) : dφ h.objs.size [] (h.push { cls := .type "dict", data := .dict #[] }) :=
  ⟨beq_eq_false_iff_ne.mpr (Ne.symm (Nat.ne_of_lt hb)), _, #[], 0, [], Heap.get?_push_size _ rfl, ⟨rfl, rfl, rfl⟩, rfl, rfl, .nil⟩
end
end Lt

namespace Lt
open PySem L2 PySem.Spec PyProof.Rows
/-! ### comparisons -/
def rLtD (K : PySem.W.Frag) : R2 := fun x y H Q => ∃ d e, Dp K H x d ∧ Dp K H y e ∧ PySem.W.alike d e = true ∧ d ≠ .none ∧ SeqAt.shaped d = true ∧ SeqAt.shaped e = true ∧ Q (.bl (PySem.W.dataLt d e)) H
section
variable {X : Cx}
theorem op_ltD (hu : X.A.units + 64 < cLine) : OpR X (compareOp .Lt) (rLtD X.K) := by
  intro pins s σ H x y vx vy Q inv relx rely ⟨d, e, hd, he, al, nn, sd, se, q⟩
  obtain ⟨as, rdx⟩ := Dp.reads inv d x vx hd relx
  obtain ⟨bs, rdy⟩ := Dp.reads inv e y vy he rely
  exact PySem.W.rcLt_alike d e X.A s vx vy as bs rdx rdy al nn (SeqAt.room_of_shaped sd hu) _ _ _ _ ⟨.bl _, H, inv, rfl, q⟩
/-- in, not in of a dict -/
def rInK (K : PySem.W.Frag) (f : Bool → Bool) : R2 := fun x y H Q => ∃ (Z : Addr → Prop) (kvs : List (D × D)) (d : D) (a b : Addr), x = .ref b ∧ y = .ref a ∧ DicV K H Z kvs a ∧ keyOk d = true ∧ Rl K H Z d (.ref b) ∧ Q (.bl (f (dGet kvs d).isSome)) H
theorem op_inK (hu : X.A.units + 65 < cLine) : OpR X (compareOp .In) (rInK X.K id) := by
  rintro pins s σ H x y vx vy Q inv relx rely ⟨Z, kvs, d, a, b, rfl, rfl, g, hd, rb, q⟩
  cases relx
  cases rely
  exact d_in2 hu inv g hd rb fun s' inv' => ⟨.bl _, H, inv', rfl, q⟩
theorem op_notInK (hu : X.A.units + 65 < cLine) : OpR X (compareOp .NotIn) (rInK X.K not) := by
  rintro pins s σ H x y vx vy Q inv relx rely ⟨Z, kvs, d, a, b, rfl, rfl, g, hd, rb, q⟩
  cases relx
  cases rely
  exact d_notIn2 hu inv g hd rb fun s' inv' => ⟨.bl _, H, inv', rfl, q⟩
theorem op_isNv : OpR X (compareOp .Is) (fun x y H Q => y = .non ∧ Q (.bl (decide (x = .non))) H) := op_isN
def rCmp (K : PySem.W.Frag) : CmpOp → R2
  | .Eq => fun x y H Q => rEq x y H Q ∨ rEqD K x y H Q
  | .NotEq => fun x y H Q => rNe x y H Q ∨ rNeD K x y H Q
  | .Lt => fun x y H Q => rI0 (fun i j => .bl (decide (i < j))) x y H Q ∨ rLtD K x y H Q
  | .LtE => rI0 fun i j => .bl (decide (i ≤ j))
  | .Gt => rI0 fun i j => .bl (decide (j < i))
  | .GtE => rI0 fun i j => .bl (decide (j ≤ i))
  | .Is => fun x y H Q => y = .non ∧ Q (.bl (decide (x = .non))) H
  | .IsNot => fun x y H Q => y = .non ∧ Q (.bl (!decide (x = .non))) H
  | .In => fun x y H Q => rInD K x y H Q ∨ rInK K id x y H Q
  | .NotIn => fun x y H Q => rNotInD K x y H Q ∨ rInK K not x y H Q
theorem op_cmp (hu : X.A.units + 65 < cLine) : ∀ op, OpR X (compareOp op) (rCmp X.K op)
  | .Eq => op_eq.or (op_eqD (by omega))
  | .NotEq => op_ne.or (op_neD (by omega))
  | .Lt => op_lt.or (op_ltD (by omega))
  | .LtE => op_le
  | .Gt => op_gt
  | .GtE => op_ge
  | .Is => op_isN
  | .IsNot => op_notN
  | .In => (op_inD hu).or (op_inK hu)
  | .NotIn => (op_notInD hu).or (op_notInK hu)
end
section
variable {K : PySem.W.Frag} {W : Addr → Prop} {H0 H : Hp} {Z0 Z : Addr → Prop} {ρ : Rho} {σ : L2.St} {Q : VK}
theorem scal_ok {x y : D} {v w : V} (h : scalD x y = true) (rx : VwV K H Z x v) (ry : VwV K H Z y w) : scal v w = true ∧ decide (v = w) = PyData.eqv x y := by
  cases x <;> cases y <;> first
    | (exact absurd h Bool.false_ne_true)
    | (cases (show v = _ from rx); cases (show w = _ from ry); refine ⟨rfl, ?_⟩; first | rfl | (simp only [PyData.eqv, dec_int, dec_bl, dec_str]) | (simp [PyData.eqv]))
theorem cmp_ok {op : CmpOp} {x y : D} {k : Bool} {v w : V} (e : cmpD op x y = some k) (rx : VwV K H Z x v) (ry : VwV K H Z y w) (q : Q (.bl k) H) : rCmp K op v w H Q := by
  have hEq : ∀ {k'}, eqD x y = some k' → (scal v w = true ∧ decide (v = w) = k') ∨ (SeqAt.shaped x = true ∧ SeqAt.shaped y = true ∧ PyData.eqv x y = k') := by
    intro k' e
    unfold eqD at e
    by_cases hs : scalD x y = true
    · rw [if_pos hs] at e
      cases e
      exact .inl (scal_ok hs rx ry)
    · rw [if_neg hs] at e
      by_cases hh : (SeqAt.shaped x && SeqAt.shaped y) = true
      · rw [if_pos hh] at e
        cases e
        rw [Bool.and_eq_true] at hh
        exact .inr ⟨hh.1, hh.2, rfl⟩
      · rw [if_neg hh] at e; cases e
  cases op with
  | Eq =>
    rcases hEq e with ⟨h1, h2⟩ | ⟨h1, h2, h3⟩
    · exact .inl ⟨h1, by rw [h2]; exact q⟩
    · exact .inr ⟨x, y, rx.dp h1, ry.dp h2, h1, h2, by rw [h3]; exact q⟩
  | NotEq =>
    have e' : (eqD x y).map (!·) = some k := e
    cases hq : eqD x y with
    | none => rw [hq] at e'; cases e'
    | some k' =>
      rw [hq] at e'
      cases e'
      rcases hEq hq with ⟨h1, h2⟩ | ⟨h1, h2, h3⟩
      · exact .inl ⟨h1, by rw [h2]; exact q⟩
      · exact .inr ⟨x, y, rx.dp h1, ry.dp h2, h1, h2, by rw [h3]; exact q⟩
  | Lt =>
    have e' : ltD x y = some k := e
    cases x <;> cases y <;> (try (cases (show none = some k from e')))
    · rename_i i j
      cases (show some _ = some k from e')
      cases (VwV.int rx)
      cases (VwV.int ry)
      exact .inl ⟨i, j, rfl, rfl, q⟩
    · rename_i xs ys
      have e2 : (if (PySem.W.alike (.tuple xs) (.tuple ys) && SeqAt.shaped (.tuple xs) && SeqAt.shaped (.tuple ys)) = true then some (PySem.W.dataLt (.tuple xs) (.tuple ys)) else none) = some k := e'
      by_cases hc : (PySem.W.alike (.tuple xs) (.tuple ys) && SeqAt.shaped (.tuple xs) && SeqAt.shaped (.tuple ys)) = true
      · rw [if_pos hc] at e2
        cases e2
        rw [Bool.and_eq_true, Bool.and_eq_true] at hc
        exact .inr ⟨_, _, rx.dp hc.1.2, ry.dp hc.2, hc.1.1, (fun z => nomatch z), hc.1.2, hc.2, q⟩
      · rw [if_neg hc] at e2; cases e2
  | LtE =>
    cases x <;> cases y <;> (try (cases (show none = some k from e)))
    rename_i i j
    cases (show some _ = some k from e)
    cases (VwV.int rx)
    cases (VwV.int ry)
    exact ⟨i, j, rfl, rfl, q⟩
  | Gt =>
    cases x <;> cases y <;> (try (cases (show none = some k from e)))
    rename_i i j
    cases (show some _ = some k from e)
    cases (VwV.int rx)
    cases (VwV.int ry)
    exact ⟨i, j, rfl, rfl, q⟩
  | GtE =>
    cases x <;> cases y <;> (try (cases (show none = some k from e)))
    rename_i i j
    cases (show some _ = some k from e)
    cases (VwV.int rx)
    cases (VwV.int ry)
    exact ⟨i, j, rfl, rfl, q⟩
  | Is =>
    have hy : y = .none := by
      cases y <;> first | rfl | (cases (show none = some k from e))
    subst hy
    cases (show w = V.non from ry)
    refine ⟨rfl, ?_⟩
    have e2 : decide (v = V.non) = k := by
      cases x with
      | list ds =>
        cases (show some false = some k from e)
        obtain ⟨a, vs, rfl, _⟩ := rx.lst
        rfl
      | tuple ds =>
        cases (show some false = some k from e)
        obtain ⟨a, vs, rfl, _⟩ := rx.tup
        rfl
      | dict kvs =>
        cases (show some false = some k from e)
        obtain ⟨a, ns, e0, _⟩ := (show Rl K H Z (.dict kvs) v from rx)
        rw [e0]; rfl
      | none => cases (show some true = some k from e); cases (show v = _ from rx); rfl
      | bool b => cases (show some false = some k from e); cases (show v = _ from rx); rfl
      | int b => cases (show some false = some k from e); cases (show v = _ from rx); rfl
      | str b => cases (show some false = some k from e); cases (show v = _ from rx); rfl
    rw [e2]
    exact q
  | IsNot =>
    have hy : y = .none := by
      cases y <;> first | rfl | (cases (show none = some k from e))
    subst hy
    cases (show w = V.non from ry)
    refine ⟨rfl, ?_⟩
    have e2 : (!decide (v = V.non)) = k := by
      cases x with
      | list ds =>
        cases (show some true = some k from e)
        obtain ⟨a, vs, rfl, _⟩ := rx.lst
        rfl
      | tuple ds =>
        cases (show some true = some k from e)
        obtain ⟨a, vs, rfl, _⟩ := rx.tup
        rfl
      | dict kvs =>
        cases (show some true = some k from e)
        obtain ⟨a, ns, e0, _⟩ := (show Rl K H Z (.dict kvs) v from rx)
        rw [e0]; rfl
      | none => cases (show some false = some k from e); cases (show v = _ from rx); rfl
      | bool b => cases (show some true = some k from e); cases (show v = _ from rx); rfl
      | int b => cases (show some true = some k from e); cases (show v = _ from rx); rfl
      | str b => cases (show some true = some k from e); cases (show v = _ from rx); rfl
    rw [e2]
    exact q
  | In =>
    cases y <;> (try (cases (show none = some k from e)))
    rename_i ds
    have e2 : (if (SeqAt.shaped x && SeqAt.shaped (.list ds)) = true then some (ds.any fun z => PyData.eqv z x) else none) = some k := e
    by_cases hc : (SeqAt.shaped x && SeqAt.shaped (.list ds)) = true
    · rw [if_pos hc] at e2
      cases e2
      rw [Bool.and_eq_true] at hc
      exact .inl ⟨x, ds, rx.dp hc.1, ry.dp hc.2, hc.1, hc.2, q⟩
    · rw [if_neg hc] at e2; cases e2
  | NotIn =>
    cases y <;> (try (cases (show none = some k from e)))
    rename_i ds
    have e2 : ((if (SeqAt.shaped x && SeqAt.shaped (.list ds)) = true then some (ds.any fun z => PyData.eqv z x) else none).map (!·)) = some k := e
    by_cases hc : (SeqAt.shaped x && SeqAt.shaped (.list ds)) = true
    · rw [if_pos hc] at e2
      cases e2
      rw [Bool.and_eq_true] at hc
      exact .inl ⟨x, ds, rx.dp hc.1, ry.dp hc.2, hc.1, hc.2, q⟩
    · rw [if_neg hc] at e2; cases e2
/-- a comparison with a dict -/
def cmpK (op : CmpOp) (kvs : List (D × D)) (x : D) : Option Bool := match op with
  | .In => if keyOk x then some (dGet kvs x).isSome else none
  | .NotIn => if keyOk x then some (!(dGet kvs x).isSome) else none
  | _ => none
theorem VwV.rl {x : D} {v : V} (h : isTupD x = true) (r : VwV K H Z x v) : Rl K H Z x v := by
  cases x <;> first | exact r | cases h
theorem cmpK_ok {op : CmpOp} {kvs : List (D × D)} {x : D} {k : Bool} {v w : V} (e : cmpK op kvs x = some k) (rx : VwV K H Z x v) (ry : CellV K H Z (.dic kvs) w) (q : Q (.bl k) H) : rCmp K op v w H Q := by
  obtain ⟨a, rfl, g⟩ := ry
  have go : keyOk x = true → ∃ b, v = .ref b ∧ Rl K H Z x (.ref b) := fun h => by
    have rx' := VwV.rl (keyOk_d h).1 rx
    obtain ⟨b, rfl⟩ := key_ref h rx'
    exact ⟨b, rfl, rx'⟩
  cases op <;> (try (cases (show none = some k from e)))
  · have e' : (if keyOk x then some (dGet kvs x).isSome else none) = some k := e
    by_cases h : keyOk x = true
    · rw [if_pos h] at e'
      cases e'
      obtain ⟨b, rfl, rb⟩ := go h
      exact .inr ⟨Z, kvs, x, a, b, rfl, rfl, g, h, rb, q⟩
    · rw [if_neg h] at e'; cases e'
  · have e' : (if keyOk x then some (!(dGet kvs x).isSome) else none) = some k := e
    by_cases h : keyOk x = true
    · rw [if_pos h] at e'
      cases e'
      obtain ⟨b, rfl, rb⟩ := go h
      exact .inr ⟨Z, kvs, x, a, b, rfl, rfl, g, h, rb, q⟩
    · rw [if_neg h] at e'; cases e'
theorem cmpK_ev {op : CmpOp} {kvs : List (D × D)} {x : D} {ρ : Rho} {r : Od × Rho} (e : (match op with
      | .In => if keyOk x then some (Od.t (.dat (.bool (dGet kvs x).isSome)), ρ) else none
      | .NotIn => if keyOk x then some (Od.t (.dat (.bool (!(dGet kvs x).isSome))), ρ) else none
      | _ => none) = some r) : ∃ k, cmpK op kvs x = some k ∧ r = (.t (.dat (.bool k)), ρ) := by
  cases op <;> first | cases (show none = some r from e) | skip
  · have e' : (if keyOk x then some (Od.t (.dat (.bool (dGet kvs x).isSome)), ρ) else none) = some r := e
    by_cases h : keyOk x = true
    · rw [if_pos h] at e'; cases e'; exact ⟨_, if_pos h, rfl⟩
    · rw [if_neg h] at e'; cases e'
  · have e' : (if keyOk x then some (Od.t (.dat (.bool (!(dGet kvs x).isSome))), ρ) else none) = some r := e
    by_cases h : keyOk x = true
    · rw [if_pos h] at e'; cases e'; exact ⟨_, if_pos h, rfl⟩
    · rw [if_neg h] at e'; cases e'
end
end Lt

/-! Lt, part 4: expressions. -/
namespace Lt
open PySem L2 PySem.Spec PyProof.Rows

def SO (X : Cx) (e : Expr) (f : Rho → Option (Od × Rho)) : Prop := ∃ t : TE, PE X e t ∧ ∀ (ρ : Rho) (σ : L2.St) (H : Hp) (Z : Addr → Prop) (o : Od) (ρ' : Rho) (Q : VK), Sta X.K H Z ρ σ → f ρ = some (o, ρ') →
  (∀ v H' Z', Sta X.K H' Z' ρ' σ → Stp (Ow ρ σ) (Ow ρ' σ) H Z H' Z' → OdV X.K H' Z' ρ' σ o v → NewV H o v → Q v H') → t σ H Q
def ST (X : Cx) (e : Expr) (f : Rho → Option (Od × Rho)) : Prop := ∃ t : TT, PT X e t ∧ ∀ (ρ : Rho) (σ : L2.St) (H : Hp) (Z : Addr → Prop) (o : Od) (ρ' : Rho) (b : Bool) (Q : Bool → Hp → Prop), Sta X.K H Z ρ σ → f ρ = some (o, ρ') → testOd ρ' o = some b →
  (∀ H' Z', Sta X.K H' Z' ρ' σ → Stp (Ow ρ σ) (Ow ρ' σ) H Z H' Z' → Q b H') → t σ H Q
def SW (X : Cx) (e : Expr) (f : Rho → Option (Od × Rho)) : Prop := ∃ t : TT, PW X e t ∧ ∀ (ρ : Rho) (σ : L2.St) (H : Hp) (Z : Addr → Prop) (o : Od) (ρ' : Rho) (b : Bool) (Q : Bool → Hp → Prop), Sta X.K H Z ρ σ → f ρ = some (o, ρ') → testOd ρ' o = some b →
  (∀ H' Z', Sta X.K H' Z' ρ' σ → Stp (Ow ρ σ) (Ow ρ' σ) H Z H' Z' → Q b H') → t σ H Q
/-- an argument list's promise; of none it is the known one -/
def PAn (X : Cx) (es : List Expr) (t : TA) : Prop := PA X es t ∧ (es = [] → t = tNil)
def SA (X : Cx) (es : List Expr) (f : Rho → Option (List Od × Rho)) : Prop := ∃ t : TA, PAn X es t ∧ ∀ (ρ : Rho) (σ : L2.St) (H : Hp) (Z : Addr → Prop) (os : List Od) (ρ' : Rho) (Q : List V → Hp → Prop), Sta X.K H Z ρ σ → f ρ = some (os, ρ') →
  (∀ vs H' Z', Sta X.K H' Z' ρ' σ → Stp (Ow ρ σ) (Ow ρ' σ) H Z H' Z' → OdVs X.K H H' Z' ρ' σ os vs → Q vs H') → t σ H Q
theorem SW.t {X e f} (h : SW X e f) : ST X e f := by
  obtain ⟨t, p, q⟩ := h
  exact ⟨t, p.pt, q⟩

theorem bnd {α β : Type} {a : Option α} {f : α → Option β} {b : β} (h : a.bind f = some b) : ∃ x, a = some x ∧ f x = some b := by
  cases a with
  | none => cases h
  | some x => exact ⟨x, rfl, h⟩
theorem mpd {α β : Type} {a : Option α} {f : α → β} {b : β} (h : a.map f = some b) : ∃ x, a = some x ∧ f x = b := by
  cases a with
  | none => cases h
  | some x => exact ⟨x, rfl, Option.some.inj h⟩
theorem NewV.back {H H1 : Hp} {o : Od} {v : V} (n : NewV H1 o v) (h : ∀ a, H1 a = none → H a = none) : NewV H o v := by
  cases o with
  | v i => trivial
  | t c => exact fun a h1 h2 => h a (n a h1 h2)

section
variable {X : Cx} {T : Tab} {a b c : Expr} {pos : Pos}
/-! ### names, constants -/
theorem so_var {i : Nat} {x : Str} (hN : X.N[i]? = some x) (hv : Vis X.env.scope x) (hd : (x == ("__debug__" : Str)) = false) (hcd : (x == ("__classdict__" : Str)) = false) : SO X (.Name x pos) (ev T (.var i)) := by
  refine ⟨tVar i, pe_var hN hv hd hcd, fun ρ σ H Z o ρ' Q s e k => ?_⟩
  have e' : (match cellAt ρ i with
    | .emp => none
    | _ => some (Od.v i, ρ)) = some (o, ρ') := e
  have hn : cellAt ρ i ≠ .emp := fun q => by rw [q] at e'; cases e'
  have e2 : (o, ρ') = (Od.v i, ρ) := by
    cases q : cellAt ρ i with
    | emp => exact (hn q).elim
    | _ => rw [q] at e'; exact (Option.some.inj e').symm
  cases e2
  obtain ⟨v, e1, c⟩ := s.at_ i hn
  exact ⟨v, e1, k v H Z s Stp.refl e1 trivial⟩
theorem so_pure {e : Expr} {v : V} {d : D} (p : PE X e (tC v)) (r : ∀ H Z, Rl X.K H Z d v) : SO X e (fun ρ => some (.t (.dat d), ρ)) := by
  refine ⟨tC v, p, fun ρ σ H Z o ρ' Q s e k => ?_⟩
  cases e
  exact k v H Z s Stp.refl ⟨r H Z, fun _ h => nomatch h⟩ fun _ h => nomatch h
theorem so_int {i : Int} {j} : SO X (.Constant (.int i) j pos) (ev T (.con (.int i))) := so_pure pe_int fun _ _ => rfl
theorem so_bool {i : Bool} {j} : SO X (.Constant (.bool i) j pos) (ev T (.con (.bool i))) := so_pure pe_bl fun _ _ => rfl
theorem so_none {j} : SO X (.Constant .none j pos) (ev T (.con .none)) := so_pure pe_non fun _ _ => rfl
theorem so_str {i : Str} {j} : SO X (.Constant (.str i) j pos) (ev T (.con (.str i))) := so_pure pe_str fun _ _ => rfl
theorem so_glb {x : Str} {j : Nat} {d : D} {u : Value} {v : V} (hT : T.gl j = some d) (hg : Gl X x) (hm : X.mg x = some u) (r : RelV v u) (hr : ∀ H Z, Rl X.K H Z d v) (hd : (x == ("__debug__" : Str)) = false) : SO X (.Name x pos) (ev T (.glb j)) := by
  have h := so_pure (pe_glob (pos := pos) hg hm r hd) hr
  obtain ⟨t, p, q⟩ := h
  refine ⟨t, p, fun ρ σ H Z o ρ' Q s e k => q ρ σ H Z o ρ' Q s ?_ k⟩
  have e' : (T.gl j).map (fun d => (Od.t (.dat d), ρ)) = some (o, ρ') := e
  rw [hT] at e'
  exact e'

/-! ### two operands, then f -/
/-- both evaluated, from the left -/
theorem two {fa fb : Rho → Option (Od × Rho)} {ta tb : TE}
    (ha : ∀ (ρ : Rho) (σ : L2.St) (H : Hp) (Z : Addr → Prop) (o : Od) (ρ' : Rho) (Q : VK), Sta X.K H Z ρ σ → fa ρ = some (o, ρ') → (∀ v H' Z', Sta X.K H' Z' ρ' σ → Stp (Ow ρ σ) (Ow ρ' σ) H Z H' Z' → OdV X.K H' Z' ρ' σ o v → NewV H o v → Q v H') → ta σ H Q)
    (hb : ∀ (ρ : Rho) (σ : L2.St) (H : Hp) (Z : Addr → Prop) (o : Od) (ρ' : Rho) (Q : VK), Sta X.K H Z ρ σ → fb ρ = some (o, ρ') → (∀ v H' Z', Sta X.K H' Z' ρ' σ → Stp (Ow ρ σ) (Ow ρ' σ) H Z H' Z' → OdV X.K H' Z' ρ' σ o v → NewV H o v → Q v H') → tb σ H Q)
    {ρ ρ1 ρ2 : Rho} {σ : L2.St} {H : Hp} {Z : Addr → Prop} {x y : Od} {R : V → V → Hp → Prop} (s : Sta X.K H Z ρ σ) (ea : fa ρ = some (x, ρ1)) (eb : fb ρ1 = some (y, ρ2))
    (k : ∀ v w H' Z', Sta X.K H' Z' ρ2 σ → Stp (Ow ρ σ) (Ow ρ2 σ) H Z H' Z' → OdV X.K H' Z' ρ2 σ x v → OdV X.K H' Z' ρ2 σ y w → NewV H x v → NewV H y w → R v w H') : ta σ H fun v H1 => tb σ H1 fun w H2 => R v w H2 := by
  refine ha ρ σ H Z x ρ1 _ s ea fun v H1 Z1 s1 p1 r1 n1 => ?_
  refine hb ρ1 σ H1 Z1 y ρ2 _ s1 eb fun w H2 Z2 s2 p2 r2 n2 => ?_
  exact k v w H2 Z2 s2 (p1.trans p2) (r1.stp s1 p2) r2 n1 (n2.back fun a h => p1.none_ h)
theorem Fin_.of {K : PySem.W.Frag} {W : Addr → Prop} {H0 : Hp} {Z0 : Addr → Prop} {ρ : Rho} {σ : L2.St} {c : Cell} {Q : VK} (k : ∀ v H' Z', Sta K H' Z' ρ σ → Stp W (Ow ρ σ) H0 Z0 H' Z' → OdV K H' Z' ρ σ (.t c) v → NewV H0 (.t c) v → Q v H') : Fin_ K W H0 Z0 ρ σ c Q :=
  fun u H' Z' s p r n => k u H' Z' s p r n
theorem so_bin {op : Operator} {ia ib : Ex} (ha : SO X a (ev T ia)) (hb : SO X b (ev T ib)) : SO X (.BinOp a op b pos) (ev T (.bin op ia ib)) := by
  obtain ⟨ta, pa, qa⟩ := ha
  obtain ⟨tb, pb, qb⟩ := hb
  refine ⟨tOp (rBin X.K op) ta tb, pe_op (op_bin op) pa pb, fun ρ σ H Z o ρ' Q s e k => ?_⟩
  obtain ⟨⟨x, ρ1⟩, e1, e⟩ := bnd (show (ev T ia ρ).bind _ = some _ from e)
  obtain ⟨⟨y, ρ2⟩, e2, e⟩ := bnd e
  obtain ⟨dx, e3, e⟩ := bnd e
  obtain ⟨dy, e4, e⟩ := bnd e
  obtain ⟨c, e5, e⟩ := mpd e
  cases e
  refine two qa qb s e1 e2 fun v w H2 Z2 s2 p2 r1 r2 _ _ => ?_
  exact bin_ok e5 (r1.vw s2 e3) (r2.vw s2 e4) p2 s2 (Fin_.of k)
theorem so_neg {ia : Ex} (ha : SO X a (ev T ia)) : SO X (.UnaryOp .USub a pos) (ev T (.neg ia)) := by
  obtain ⟨ta, pa, qa⟩ := ha
  refine ⟨_, pe_un un_neg pa, fun ρ σ H Z o ρ' Q s e k => ?_⟩
  obtain ⟨⟨x, ρ1⟩, e1, e⟩ := bnd (show (ev T ia ρ).bind _ = some _ from e)
  obtain ⟨dx, e3, e⟩ := bnd e
  refine qa ρ σ H Z x ρ1 _ s e1 fun v H1 Z1 s1 p1 r1 n1 => ?_
  cases dx <;> (try cases (show none = some _ from e))
  rename_i i
  cases (show some _ = some (o, ρ') from e)
  cases (VwV.int (r1.vw s1 e3))
  exact ⟨i, rfl, (Fin_.of k).same p1 s1 rfl⟩
theorem so_cmp (hu : X.A.units + 65 < cLine) {op : CmpOp} {ia ib : Ex} (ha : SO X a (ev T ia)) (hb : SO X b (ev T ib)) (hm : behindInMarks op b = false) : SO X (.Compare a [op] [b] pos) (ev T (.cmp op ia ib)) := by
  obtain ⟨ta, pa, qa⟩ := ha
  obtain ⟨tb, pb, qb⟩ := hb
  refine ⟨tOp (rCmp X.K op) ta tb, pe_cmpR (op_cmp hu op) pa pb hm, fun ρ σ H Z o ρ' Q s e k => ?_⟩
  obtain ⟨⟨x, ρ1⟩, e1, e⟩ := bnd (show (ev T ia ρ).bind _ = some _ from e)
  obtain ⟨⟨y, ρ2⟩, e2, e⟩ := bnd e
  obtain ⟨dx, e3, e⟩ := bnd e
  obtain ⟨wy, e4, e⟩ := bnd e
  refine two qa qb s e1 e2 fun v w H2 Z2 s2 p2 r1 r2 _ _ => ?_
  cases wy with
  | d dy =>
    obtain ⟨kk, e5, e⟩ := mpd e
    cases e
    exact cmp_ok e5 (r1.vw s2 e3) (r2.vw s2 (by unfold lookD; rw [e4]; rfl)) ((Fin_.of k).same p2 s2 rfl)
  | dc kvs =>
    obtain ⟨c, e6, cv⟩ := r2.cell s2 e4
    cases c <;> (try cases e6)
    obtain ⟨kk, e5, e7⟩ := cmpK_ev e
    cases e7
    exact cmpK_ok e5 (r1.vw s2 e3) cv ((Fin_.of k).same p2 s2 rfl)
theorem so_chn (hu : X.A.units + 65 < cLine) {op op' : CmpOp} {ia ib ic : Ex} (ha : SO X a (ev T ia)) (hb : SO X b (ev T ib)) (hc : SO X c (ev T ic)) (hm : lastMarks [op, op'] [b, c] = false) : SO X (.Compare a [op, op'] [b, c] pos) (ev T (.chn op op' ia ib ic)) := by
  obtain ⟨ta, pa, qa⟩ := ha
  obtain ⟨tb, pb, qb⟩ := hb
  obtain ⟨tc, pc, qc⟩ := hc
  refine ⟨_, pe_chain (op_cmp hu op) (op_cmp hu op') pa pb pc hm, fun ρ σ H Z o ρ' Q s e k => ?_⟩
  obtain ⟨⟨x, ρ1⟩, e1, e⟩ := bnd (show (ev T ia ρ).bind _ = some _ from e)
  obtain ⟨⟨y, ρ2⟩, e2, e⟩ := bnd e
  obtain ⟨dx, e3, e⟩ := bnd e
  obtain ⟨dy, e4, e⟩ := bnd e
  obtain ⟨kk, e5, e⟩ := bnd e
  refine two qa qb s e1 e2 fun v w H2 Z2 s2 p2 r1 r2 _ _ => ?_
  refine cmp_ok e5 (r1.vw s2 e3) (r2.vw s2 e4) ⟨kk, rfl, ?_⟩
  cases kk with
  | false =>
    cases e
    exact (Fin_.of k).same p2 s2 rfl
  | true =>
    obtain ⟨⟨z, ρ3⟩, e6, e⟩ := bnd (show (ev T ic ρ2).bind _ = some _ from e)
    obtain ⟨dy', e7, e⟩ := bnd e
    obtain ⟨dz, e8, e⟩ := bnd e
    obtain ⟨k', e9, e⟩ := mpd e
    cases e
    refine qc ρ2 σ H2 Z2 z ρ3 _ s2 e6 fun u H3 Z3 s3 p3 r3 _ => ?_
    exact cmp_ok e9 ((r2.stp s2 p3).vw s3 e7) (r3.vw s3 e8) ((Fin_.of k).same (p2.trans p3) s3 rfl)
end
end Lt

namespace Lt
open PySem L2 PySem.Spec PyProof.Rows
section
variable {X : Cx} {T : Tab} {a b c e : Expr} {es : List Expr} {pos : Pos}
/-! ### truth -/
theorem testOd_v {K : PySem.W.Frag} {H : Hp} {Z : Addr → Prop} {ρ : Rho} {σ : L2.St} {o : Od} {v : V} {k : Bool} (r : OdV K H Z ρ σ o v) (s : Sta K H Z ρ σ) (h : testOd ρ o = some k) : v = .bl k := by
  obtain ⟨w, e1, e2⟩ := bnd h
  obtain ⟨c, e3, cv⟩ := r.cell s e1
  cases w with
  | dc kvs => cases e2
  | d x =>
    cases x <;> (try cases e2)
    cases c <;> (try cases e3)
    exact cv
theorem st_of (h : SO X e (ev T i)) (he : ∀ whole, isTrue e X.env whole = (do let v ← whole; standAt e.pos; holding [v] (truthy v))) : ST X e (ev T i) := by
  obtain ⟨t, p, q⟩ := h
  refine ⟨_, pt_val p he, fun ρ σ H Z o ρ' b Q s e1 e2 k => ?_⟩
  refine q ρ σ H Z o ρ' _ s e1 fun v H1 Z1 s1 p1 r1 _ => ?_
  exact ⟨b, testOd_v r1 s1 e2, k H1 Z1 s1 p1⟩
theorem st_cmp (hu : X.A.units + 65 < cLine) {op : CmpOp} {ia ib : Ex} (ha : SO X a (ev T ia)) (hb : SO X b (ev T ib)) (hm : behindInMarks op b = false) : ST X (.Compare a [op] [b] pos) (ev T (.cmp op ia ib)) := by
  obtain ⟨ta, pa, qa⟩ := ha
  obtain ⟨tb, pb, qb⟩ := hb
  refine ⟨_, pt_cmpR (op_cmp hu op) pa pb hm, fun ρ σ H Z o ρ' k0 Q s e et k => ?_⟩
  obtain ⟨⟨x, ρ1⟩, e1, e⟩ := bnd (show (ev T ia ρ).bind _ = some _ from e)
  obtain ⟨⟨y, ρ2⟩, e2, e⟩ := bnd e
  obtain ⟨dx, e3, e⟩ := bnd e
  obtain ⟨wy, e4, e⟩ := bnd e
  refine two qa qb s e1 e2 fun v w H2 Z2 s2 p2 r1 r2 _ _ => ?_
  cases wy with
  | d dy =>
    obtain ⟨kk, e5, e⟩ := mpd e
    cases e
    cases (show some kk = some k0 from et)
    exact cmp_ok e5 (r1.vw s2 e3) (r2.vw s2 (by unfold lookD; rw [e4]; rfl)) ⟨_, rfl, k _ _ s2 p2⟩
  | dc kvs =>
    obtain ⟨c, e6, cv⟩ := r2.cell s2 e4
    cases c <;> (try cases e6)
    obtain ⟨kk, e5, e7⟩ := cmpK_ev e
    cases e7
    cases (show some kk = some k0 from et)
    exact cmpK_ok e5 (r1.vw s2 e3) cv ⟨_, rfl, k _ _ s2 p2⟩
theorem st_chn (hu : X.A.units + 65 < cLine) {op op' : CmpOp} {ia ib ic : Ex} (ha : SO X a (ev T ia)) (hb : SO X b (ev T ib)) (hc : SO X c (ev T ic)) (hm : lastMarks [op, op'] [b, c] = false) : ST X (.Compare a [op, op'] [b, c] pos) (ev T (.chn op op' ia ib ic)) := by
  obtain ⟨ta, pa, qa⟩ := ha
  obtain ⟨tb, pb, qb⟩ := hb
  obtain ⟨tc, pc, qc⟩ := hc
  refine ⟨_, pt_chain (op_cmp hu op) (op_cmp hu op') pa pb pc hm, fun ρ σ H Z o ρ' k0 Q s e et k => ?_⟩
  obtain ⟨⟨x, ρ1⟩, e1, e⟩ := bnd (show (ev T ia ρ).bind _ = some _ from e)
  obtain ⟨⟨y, ρ2⟩, e2, e⟩ := bnd e
  obtain ⟨dx, e3, e⟩ := bnd e
  obtain ⟨dy, e4, e⟩ := bnd e
  obtain ⟨kk, e5, e⟩ := bnd e
  refine two qa qb s e1 e2 fun v w H2 Z2 s2 p2 r1 r2 _ _ => ?_
  refine cmp_ok e5 (r1.vw s2 e3) (r2.vw s2 e4) ⟨kk, rfl, ?_⟩
  cases kk with
  | false =>
    cases e
    cases (show some false = some k0 from et)
    exact ⟨_, rfl, k _ _ s2 p2⟩
  | true =>
    obtain ⟨⟨z, ρ3⟩, e6, e⟩ := bnd (show (ev T ic ρ2).bind _ = some _ from e)
    obtain ⟨dy', e7, e⟩ := bnd e
    obtain ⟨dz, e8, e⟩ := bnd e
    obtain ⟨k', e9, e⟩ := mpd e
    cases e
    cases (show some k' = some k0 from et)
    refine qc ρ2 σ H2 Z2 z ρ3 _ s2 e6 fun u H3 Z3 s3 p3 r3 _ => ?_
    exact cmp_ok e9 ((r2.stp s2 p3).vw s3 e7) (r3.vw s3 e8) ⟨_, rfl, k _ _ s3 (p2.trans p3)⟩
theorem st_not {ia : Ex} (ha : ST X a (ev T ia)) : ST X (.UnaryOp .Not a pos) (ev T (.not ia)) := by
  obtain ⟨ta, pa, qa⟩ := ha
  refine ⟨_, pt_not pa, fun ρ σ H Z o ρ' k0 Q s e et k => ?_⟩
  obtain ⟨⟨x, ρ1⟩, e1, e⟩ := bnd (show (ev T ia ρ).bind _ = some _ from e)
  obtain ⟨kk, e2, e⟩ := mpd e
  cases e
  cases (show some (!kk) = some k0 from et)
  exact qa ρ σ H Z x ρ1 kk _ s e1 e2 k
/-- and, or of two or more: by the list -/
def andL : Ex → List Ex → Ex
  | i, [] => i
  | i, j :: r => .and i (andL j r)
def orL : Ex → List Ex → Ex
  | i, [] => i
  | i, j :: r => .or i (orL j r)
theorem sw_and1 {ia : Ex} (ha : ST X a (ev T ia)) : SW X (.BoolOp .And [a] pos) (ev T ia) := by
  obtain ⟨ta, pa, qa⟩ := ha
  exact ⟨ta, pw_and1 pa, qa⟩
theorem sw_or1 {ia : Ex} (ha : ST X a (ev T ia)) : SW X (.BoolOp .Or [a] pos) (ev T ia) := by
  obtain ⟨ta, pa, qa⟩ := ha
  exact ⟨ta, pw_or1 pa, qa⟩
theorem sw_and {ia ib : Ex} (ha : ST X a (ev T ia)) (hb : SW X (.BoolOp .And (b :: es) pos) (ev T ib)) : SW X (.BoolOp .And (a :: b :: es) pos) (ev T (.and ia ib)) := by
  obtain ⟨ta, pa, qa⟩ := ha
  obtain ⟨tb, pb, qb⟩ := hb
  refine ⟨_, pw_and pa pb, fun ρ σ H Z o ρ' k0 Q s e et k => ?_⟩
  obtain ⟨⟨x, ρ1⟩, e1, e⟩ := bnd (show (ev T ia ρ).bind _ = some _ from e)
  obtain ⟨kk, e2, e⟩ := bnd e
  refine qa ρ σ H Z x ρ1 kk _ s e1 e2 fun H1 Z1 s1 p1 => ?_
  cases kk with
  | false =>
    cases e
    cases (show some false = some k0 from et)
    exact k _ _ s1 p1
  | true =>
    obtain ⟨⟨y, ρ2⟩, e3, e⟩ := bnd (show (ev T ib ρ1).bind _ = some _ from e)
    obtain ⟨k', e4, e⟩ := mpd e
    cases e
    cases (show some k' = some k0 from et)
    exact qb ρ1 σ H1 Z1 y ρ2 _ _ s1 e3 e4 fun H2 Z2 s2 p2 => k _ _ s2 (p1.trans p2)
theorem sw_or {ia ib : Ex} (ha : ST X a (ev T ia)) (hb : SW X (.BoolOp .Or (b :: es) pos) (ev T ib)) : SW X (.BoolOp .Or (a :: b :: es) pos) (ev T (.or ia ib)) := by
  obtain ⟨ta, pa, qa⟩ := ha
  obtain ⟨tb, pb, qb⟩ := hb
  refine ⟨_, pw_or pa pb, fun ρ σ H Z o ρ' k0 Q s e et k => ?_⟩
  obtain ⟨⟨x, ρ1⟩, e1, e⟩ := bnd (show (ev T ia ρ).bind _ = some _ from e)
  obtain ⟨kk, e2, e⟩ := bnd e
  refine qa ρ σ H Z x ρ1 kk _ s e1 e2 fun H1 Z1 s1 p1 => ?_
  cases kk with
  | true =>
    cases e
    cases (show some true = some k0 from et)
    exact k _ _ s1 p1
  | false =>
    obtain ⟨⟨y, ρ2⟩, e3, e⟩ := bnd (show (ev T ib ρ1).bind _ = some _ from e)
    obtain ⟨k', e4, e⟩ := mpd e
    cases e
    cases (show some k' = some k0 from et)
    exact qb ρ1 σ H1 Z1 y ρ2 _ _ s1 e3 e4 fun H2 Z2 s2 p2 => k _ _ s2 (p1.trans p2)
/-- the same as values; the right one of both must be True or False, too -/
theorem so_not {ia : Ex} (ha : SO X a (ev T ia)) : SO X (.UnaryOp .Not a pos) (ev T (.not ia)) := by
  obtain ⟨ta, pa, qa⟩ := ha
  refine ⟨_, pe_not pa, fun ρ σ H Z o ρ' Q s e k => ?_⟩
  obtain ⟨⟨x, ρ1⟩, e1, e⟩ := bnd (show (ev T ia ρ).bind _ = some _ from e)
  obtain ⟨kk, e2, e⟩ := mpd e
  cases e
  refine qa ρ σ H Z x ρ1 _ s e1 fun v H1 Z1 s1 p1 r1 _ => ?_
  exact ⟨kk, testOd_v r1 s1 e2, (Fin_.of k).same p1 s1 rfl⟩
/-- an operand that is a bool, as the whole value -/
def SB (X : Cx) (e : Expr) (f : Rho → Option (Od × Rho)) : Prop := ∃ t : TE, PE X e t ∧ ∀ (ρ : Rho) (σ : L2.St) (H : Hp) (Z : Addr → Prop) (o : Od) (ρ' : Rho) (b : Bool) (Q : VK), Sta X.K H Z ρ σ → f ρ = some (o, ρ') → testOd ρ' o = some b →
  (∀ H' Z', Sta X.K H' Z' ρ' σ → Stp (Ow ρ σ) (Ow ρ' σ) H Z H' Z' → Q (.bl b) H') → t σ H Q
theorem SO.sb {f} (h : SO X e f) : SB X e f := by
  obtain ⟨t, p, q⟩ := h
  refine ⟨t, p, fun ρ σ H Z o ρ' b Q s e1 e2 k => q ρ σ H Z o ρ' Q s e1 fun v H1 Z1 s1 p1 r1 _ => ?_⟩
  rw [testOd_v r1 s1 e2]
  exact k H1 Z1 s1 p1
theorem sb_one {op} {ia : Ex} (h : SB X a (ev T ia)) : SB X (.BoolOp op [a] pos) (ev T ia) := by
  obtain ⟨t, p, q⟩ := h
  exact ⟨t, pe_one p, q⟩
theorem sb_and {ia ib : Ex} (ha : SB X a (ev T ia)) (hb : SB X (.BoolOp .And (b :: es) pos) (ev T ib)) : SB X (.BoolOp .And (a :: b :: es) pos) (ev T (.and ia ib)) := by
  obtain ⟨ta, pa, qa⟩ := ha
  obtain ⟨tb, pb, qb⟩ := hb
  refine ⟨_, pe_and pa pb, fun ρ σ H Z o ρ' k0 Q s e et k => ?_⟩
  obtain ⟨⟨x, ρ1⟩, e1, e⟩ := bnd (show (ev T ia ρ).bind _ = some _ from e)
  obtain ⟨kk, e2, e⟩ := bnd e
  refine qa ρ σ H Z x ρ1 kk _ s e1 e2 fun H1 Z1 s1 p1 => ⟨kk, rfl, ?_⟩
  cases kk with
  | false =>
    cases e
    cases (show some false = some k0 from et)
    exact k _ _ s1 p1
  | true =>
    obtain ⟨⟨y, ρ2⟩, e3, e⟩ := bnd (show (ev T ib ρ1).bind _ = some _ from e)
    obtain ⟨k', e4, e⟩ := mpd e
    cases e
    cases (show some k' = some k0 from et)
    exact qb ρ1 σ H1 Z1 y ρ2 _ _ s1 e3 e4 fun H2 Z2 s2 p2 => k _ _ s2 (p1.trans p2)
theorem sb_or {ia ib : Ex} (ha : SB X a (ev T ia)) (hb : SB X (.BoolOp .Or (b :: es) pos) (ev T ib)) : SB X (.BoolOp .Or (a :: b :: es) pos) (ev T (.or ia ib)) := by
  obtain ⟨ta, pa, qa⟩ := ha
  obtain ⟨tb, pb, qb⟩ := hb
  refine ⟨_, pe_or pa pb, fun ρ σ H Z o ρ' k0 Q s e et k => ?_⟩
  obtain ⟨⟨x, ρ1⟩, e1, e⟩ := bnd (show (ev T ia ρ).bind _ = some _ from e)
  obtain ⟨kk, e2, e⟩ := bnd e
  refine qa ρ σ H Z x ρ1 kk _ s e1 e2 fun H1 Z1 s1 p1 => ⟨kk, rfl, ?_⟩
  cases kk with
  | true =>
    cases e
    cases (show some true = some k0 from et)
    exact k _ _ s1 p1
  | false =>
    obtain ⟨⟨y, ρ2⟩, e3, e⟩ := bnd (show (ev T ib ρ1).bind _ = some _ from e)
    obtain ⟨k', e4, e⟩ := mpd e
    cases e
    cases (show some k' = some k0 from et)
    exact qb ρ1 σ H1 Z1 y ρ2 _ _ s1 e3 e4 fun H2 Z2 s2 p2 => k _ _ s2 (p1.trans p2)
/-- of such an and | or the value is a bool -/
theorem so_sb {i : Ex} (h : SB X e (ev T i)) (hb : ∀ ρ o ρ', ev T i ρ = some (o, ρ') → ∃ k, o = .t (.dat (.bool k))) : SO X e (ev T i) := by
  obtain ⟨t, p, q⟩ := h
  refine ⟨t, p, fun ρ σ H Z o ρ' Q s e1 k => ?_⟩
  obtain ⟨kk, rfl⟩ := hb ρ o ρ' e1
  exact q ρ σ H Z _ ρ' kk Q s e1 rfl fun H1 Z1 s1 p1 => (Fin_.of k).same p1 s1 rfl
theorem and_bool {ia ib : Ex} : ∀ ρ o ρ', ev T (.and ia ib) ρ = some (o, ρ') → ∃ k, o = .t (.dat (.bool k)) := fun ρ o ρ' e => by
  obtain ⟨⟨x, ρ1⟩, e1, e⟩ := bnd (show (ev T ia ρ).bind _ = some _ from e)
  obtain ⟨kk, e2, e⟩ := bnd e
  cases kk with
  | false => cases e; exact ⟨_, rfl⟩
  | true =>
    obtain ⟨⟨y, ρ2⟩, e3, e⟩ := bnd (show (ev T ib ρ1).bind _ = some _ from e)
    obtain ⟨k', e4, e⟩ := mpd e
    cases e
    exact ⟨_, rfl⟩
theorem or_bool {ia ib : Ex} : ∀ ρ o ρ', ev T (.or ia ib) ρ = some (o, ρ') → ∃ k, o = .t (.dat (.bool k)) := fun ρ o ρ' e => by
  obtain ⟨⟨x, ρ1⟩, e1, e⟩ := bnd (show (ev T ia ρ).bind _ = some _ from e)
  obtain ⟨kk, e2, e⟩ := bnd e
  cases kk with
  | true => cases e; exact ⟨_, rfl⟩
  | false =>
    obtain ⟨⟨y, ρ2⟩, e3, e⟩ := bnd (show (ev T ib ρ1).bind _ = some _ from e)
    obtain ⟨k', e4, e⟩ := mpd e
    cases e
    exact ⟨_, rfl⟩
theorem so_ifx {ic ia ib : Ex} (hc : ST X c (ev T ic)) (ha : SO X a (ev T ia)) (hb : SO X b (ev T ib)) : SO X (.IfExp c a b pos) (ev T (.ifx ic ia ib)) := by
  obtain ⟨tc, pc, qc⟩ := hc
  obtain ⟨ta, pa, qa⟩ := ha
  obtain ⟨tb, pb, qb⟩ := hb
  refine ⟨_, pe_ifExp pc pa pb, fun ρ σ H Z o ρ' Q s e k => ?_⟩
  obtain ⟨⟨x, ρ1⟩, e1, e⟩ := bnd (show (ev T ic ρ).bind _ = some _ from e)
  obtain ⟨kk, e2, e⟩ := bnd e
  refine qc ρ σ H Z x ρ1 kk _ s e1 e2 fun H1 Z1 s1 p1 => ?_
  cases kk with
  | true => exact qa ρ1 σ H1 Z1 o ρ' Q s1 e fun v H2 Z2 s2 p2 r2 n2 => k v H2 Z2 s2 (p1.trans p2) r2 (n2.back fun a h => p1.none_ h)
  | false => exact qb ρ1 σ H1 Z1 o ρ' Q s1 e fun v H2 Z2 s2 p2 r2 n2 => k v H2 Z2 s2 (p1.trans p2) r2 (n2.back fun a h => p1.none_ h)

/-! ### argument lists, displays -/
theorem sa_nil : SA X [] (evs T .nil) := by
  refine ⟨tNil, ⟨pa_nil, fun _ => rfl⟩, fun ρ σ H Z os ρ' Q s e k => ?_⟩
  cases (show some ([], ρ) = some (os, ρ') from e)
  exact k [] H Z s Stp.refl rfl
theorem OdVs.stp {K : PySem.W.Frag} {H0 H H' : Hp} {Z Z' : Addr → Prop} {ρ ρ' : Rho} {σ : L2.St} (s : Sta K H Z ρ σ) (p : Stp (Ow ρ σ) (Ow ρ' σ) H Z H' Z') : ∀ {os : List Od} {vs : List V}, OdVs K H0 H Z ρ σ os vs → OdVs K H0 H' Z' ρ' σ os vs
  | [], _, r => r
  | o :: os, _, ⟨v, r, e, hv, hn, hf, q⟩ => ⟨v, r, e, hv.stp s p, hn, hf, OdVs.stp s p q⟩
theorem OdVs.back {K : PySem.W.Frag} {H0 H1 H : Hp} {Z : Addr → Prop} {ρ : Rho} {σ : L2.St} (h : ∀ a, H1 a = none → H0 a = none) : ∀ {os : List Od} {vs : List V}, OdVs K H1 H Z ρ σ os vs → OdVs K H0 H Z ρ σ os vs
  | [], _, r => r
  | o :: os, _, ⟨v, r, e, hv, hn, hf, q⟩ => ⟨v, r, e, hv, hn.back h, hf, OdVs.back h q⟩
/-- what was there ahead is none of the new ones -/
theorem OdVs.old {K : PySem.W.Frag} {H1 H : Hp} {Z : Addr → Prop} {ρ : Rho} {σ : L2.St} {a : Addr} {ob : HO} (h : H1 a = some ob) : ∀ {os : List Od} {vs : List V}, OdVs K H1 H Z ρ σ os vs → OwF a os vs
  | [], _, _ => trivial
  | o :: os, _, ⟨v, r, e, hv, hn, hf, q⟩ => by
    rw [e]
    refine ⟨?_, OdVs.old h q⟩
    rintro ⟨c, e1, e2, e3⟩
    subst e1
    have := hn a e2 e3
    rw [h] at this
    cases this
theorem sa_cons {i : Ex} {is : Exs} (ha : SO X a (ev T i)) (hr : SA X es (evs T is)) (hs : starEach (a :: es) X.env = (false, eval a X.env) :: starEach es X.env) : SA X (a :: es) (evs T (.cons i is)) := by
  obtain ⟨ta, pa, qa⟩ := ha
  obtain ⟨tr, pr, qr⟩ := hr
  refine ⟨tCons ta tr, ⟨pa_cons pa pr.1 hs, fun h => nomatch h⟩, fun ρ σ H Z os ρ' Q s e k => ?_⟩
  obtain ⟨⟨o, ρ1⟩, e1, e⟩ := bnd (show (ev T i ρ).bind _ = some _ from e)
  obtain ⟨⟨os', ρ2⟩, e2, e⟩ := mpd e
  cases e
  refine qa ρ σ H Z o ρ1 _ s e1 fun v H1 Z1 s1 p1 r1 n1 => ?_
  refine qr ρ1 σ H1 Z1 os' ρ2 _ s1 e2 fun vs H2 Z2 s2 p2 r2 => ?_
  refine k (v :: vs) H2 Z2 s2 (p1.trans p2) ⟨v, vs, rfl, r1.stp s1 p2, n1, fun a w => ?_, r2.back fun a h => p1.none_ h⟩
  obtain ⟨c, e3, e4, e5⟩ := w
  subst e3
  obtain ⟨ob, h⟩ := r1.1.dm e4 e5
  exact r2.old h
def Exs.len : Exs → Nat
  | .nil => 0
  | .cons _ es => es.len + 1
theorem evs_len : ∀ {is : Exs} {ρ ρ' : Rho} {os : List Od}, evs T is ρ = some (os, ρ') → os.length = is.len
  | .nil, _, _, _, e => by cases (show some _ = some _ from e); rfl
  | .cons i is, ρ, ρ', os, e => by
    obtain ⟨⟨o, ρ1⟩, e1, e⟩ := bnd (show (ev T i ρ).bind _ = some _ from e)
    obtain ⟨⟨os', ρ2⟩, e2, e⟩ := mpd e
    cases e
    rw [List.length_cons, evs_len e2]; rfl
theorem frzs_len : ∀ {os : List Od} {ρ ρ' : Rho} {ds : List D}, frzs ρ os = some (ds, ρ') → ds.length = os.length
  | [], _, _, _, e => by cases (show some _ = some _ from e); rfl
  | o :: os, ρ, ρ', ds, e => by
    obtain ⟨⟨d, ρ1⟩, e1, e⟩ := bnd (show (frz ρ o).bind _ = some _ from e)
    obtain ⟨⟨ds', ρ2⟩, e2, e⟩ := mpd e
    cases e
    rw [List.length_cons, List.length_cons, frzs_len e2]
theorem so_tup {is : Exs} {k0} (h : SA X es (evs T is)) (hl : is.len ≤ 1000) : SO X (.Tuple es k0 pos) (ev T (.tup is)) := by
  obtain ⟨t, p, q⟩ := h
  refine ⟨_, pe_tupF p.1, fun ρ σ H Z o ρ' Q s e k => ?_⟩
  obtain ⟨⟨os, ρ1⟩, e1, e⟩ := bnd (show (evs T is ρ).bind _ = some _ from e)
  obtain ⟨⟨ds, ρ2⟩, e2, e⟩ := mpd e
  cases e
  refine q ρ σ H Z os ρ1 _ s e1 fun vs H1 Z1 s1 p1 r1 => ?_
  obtain ⟨Z2, p2, s2, r2, _⟩ := frzs_ok p1 s1 r1 e2
  have l1 : os.length = is.len := evs_len e1
  have l2 : ds.length = os.length := frzs_len e2
  have l3 := r1.length
  have hz : (1000 : Nat) ≤ sizeLine := by rw [sizeLine_eq]; decide
  exact ⟨by omega, (Fin_.of k).tup p2 s2 r2 (show ds.length ≤ sizeLine by omega)⟩
theorem so_lst {is : Exs} (h : SA X es (evs T is)) (hl : is.len ≤ 1000) : SO X (.List es pos) (ev T (.lst is)) := by
  obtain ⟨t, p, q⟩ := h
  refine ⟨_, pe_lst p.1, fun ρ σ H Z o ρ' Q s e k => ?_⟩
  obtain ⟨⟨os, ρ1⟩, e1, e⟩ := bnd (show (evs T is ρ).bind _ = some _ from e)
  obtain ⟨⟨ds, ρ2⟩, e2, e⟩ := mpd e
  cases e
  refine q ρ σ H Z os ρ1 _ s e1 fun vs H1 Z1 s1 p1 r1 => ?_
  obtain ⟨Z2, p2, s2, r2, _⟩ := frzs_ok p1 s1 r1 e2
  have l1 : os.length = is.len := evs_len e1
  have l2 : ds.length = os.length := frzs_len e2
  have l3 := r1.length
  have hz : (1000 : Nat) ≤ sizeLine := by rw [sizeLine_eq]; decide
  exact ⟨by omega, (Fin_.of k).lst p2 s2 r2 (show ds.length ≤ sizeLine by omega)⟩
end
end Lt

namespace Lt
open PySem L2 PySem.Spec PyProof.Rows
section
variable {K : PySem.W.Frag} {H : Hp} {Z : Addr → Prop}
theorem atI_rl {ds : List D} {vs : List V} {i : Int} {d : D} (h : atI ds i = some d) (r : Rls K H Z ds vs) : ∃ v, atI vs i = some v ∧ Rl K H Z d v := by
  unfold atI at h ⊢
  rw [r.length]
  obtain ⟨j, e1, e2⟩ := bnd h
  obtain ⟨v, e3, e4⟩ := r.get e2
  rw [e1]
  exact ⟨v, e3, e4⟩
theorem Rls.cut {ds : List D} {vs : List V} (lo hi : Option Int) (r : Rls K H Z ds vs) : Rls K H Z (cutD ds lo hi) (cutV vs lo hi) := by
  unfold cutD cutV
  rw [r.length]
  exact (r.drop _).take _
/-- views of several -/
def VwVs (K : PySem.W.Frag) (H : Hp) (Z : Addr → Prop) : List D → List V → Prop
  | [], vs => vs = []
  | d :: ds, vs => ∃ v r, vs = v :: r ∧ VwV K H Z d v ∧ VwVs K H Z ds r
theorem OdVs.vws {H0 : Hp} {ρ : Rho} {σ : L2.St} (s : Sta K H Z ρ σ) : ∀ {os : List Od} {vs : List V} {ds : List D}, OdVs K H0 H Z ρ σ os vs → lookDs ρ os = some ds → VwVs K H Z ds vs
  | [], _, _, r, e => by cases (show some [] = some _ from e); exact r
  | o :: os, _, _, ⟨v, r, e, hv, _, _, q⟩, h => by
    obtain ⟨d, e1, h⟩ := bnd (show (lookD ρ o).bind _ = some _ from h)
    obtain ⟨ds, e2, h⟩ := mpd h
    cases h
    exact ⟨v, r, e, hv.vw s e1, OdVs.vws s q e2⟩
end
section
variable {X : Cx} {T : Tab} {a b c e : Expr} {es : List Expr} {pos : Pos}
/-! ### subscripts, slices -/
/-- d[k] -/
def rIxK (K : PySem.W.Frag) : R2 := fun x y H Q => ∃ (Z : Addr → Prop) (kvs : List (D × D)) (d e : D) (a b : Addr), x = .ref a ∧ y = .ref b ∧ DicV K H Z kvs a ∧ keyOk d = true ∧ Rl K H Z d (.ref b) ∧ dGet kvs d = some e ∧ ∀ u, Rl K H Z e u → Q u H
theorem ix_dic (hu : X.A.units + 65 < cLine) : IxR X (rIxK X.K) := by
  intro value slice pins s σ H x y v u Q I rx ry h hs
  obtain ⟨Z, kvs, d, e, a, b, rfl, rfl, g, hd, rb, he, q⟩ := h
  obtain rfl : v = Value.ref a := rx
  obtain rfl : u = Value.ref b := ry
  obtain ⟨_, _, _, _, _, _, hh, _⟩ := g.open_ I
  exact tail_any hh.typeIs slot_dict_getitem.lookup (d_getItem2 hu I g hd rb he fun v u s' inv' ru ry => ⟨v, H, inv', ru, q v ry⟩) hs
theorem so_idx (hu : X.A.units + 65 < cLine) {ia ib : Ex} (ha : SO X a (ev T ia)) (hb : SO X b (ev T ib)) (hp : PlainIx b) : SO X (.Subscript a b pos) (ev T (.idx ia ib)) := by
  obtain ⟨ta, pa, qa⟩ := ha
  obtain ⟨tb, pb, qb⟩ := hb
  refine ⟨_, pe_ix (ix_list.or (ix_tup.or (ix_dic hu))) pa pb hp, fun ρ σ H Z o ρ' Q s e k => ?_⟩
  obtain ⟨⟨x, ρ1⟩, e1, e⟩ := bnd (show (ev T ia ρ).bind _ = some _ from e)
  obtain ⟨⟨y, ρ2⟩, e2, e⟩ := bnd e
  obtain ⟨wx, e3, e⟩ := bnd e
  obtain ⟨dy, e4, e⟩ := bnd e
  refine two qa qb s e1 e2 fun v w H2 Z2 s2 p2 r1 r2 _ _ => ?_
  cases wx with
  | dc kvs =>
    obtain ⟨c, e6, cv⟩ := r1.cell s2 e3
    cases c <;> (try cases e6)
    have e' : (if keyOk dy then (dGet kvs dy).map (fun d => (Od.t (.dat d), ρ2)) else none) = some (o, ρ') := e
    clear e
    by_cases h : keyOk dy = true
    · rw [if_pos h] at e'
      obtain ⟨d, e5, e⟩ := mpd e'
      cases e
      obtain ⟨a0, rfl, g⟩ := cv
      have ry := VwV.rl (keyOk_d h).1 (r2.vw s2 e4)
      obtain ⟨b0, rfl⟩ := key_ref h ry
      exact .inr (.inr ⟨Z2, kvs, dy, d, a0, b0, rfl, rfl, g, h, ry, e5, fun u ru => (Fin_.of k).same p2 s2 ru⟩)
    · rw [if_neg h] at e'; cases e'
  | d dx =>
    have e' : (idxD dx dy).map (fun d => (Od.t (.dat d), ρ2)) = some (o, ρ') := e
    clear e
    obtain ⟨d, e5, e⟩ := mpd e'
    cases e
    have rx : VwV X.K H2 Z2 dx v := r1.vw s2 (by unfold lookD; rw [e3]; rfl)
    have ry := r2.vw s2 e4
    cases dx <;> cases dy <;> (try (cases (show none = some d from e5)))
    · rename_i xs i
      cases (VwV.int ry)
      obtain ⟨p, vs, rfl, h, _, rr⟩ := rx.lst
      obtain ⟨u, e6, e7⟩ := atI_rl (show atI xs i = some d from e5) rr
      exact .inl ⟨p, vs, i, u, rfl, rfl, .inl (.inl h), e6, (Fin_.of k).same p2 s2 e7⟩
    · rename_i xs i
      cases (VwV.int ry)
      obtain ⟨p, vs, rfl, h, _, rr⟩ := rx.tup
      obtain ⟨u, e6, e7⟩ := atI_rl (show atI xs i = some d from e5) rr
      exact .inr (.inl ⟨p, vs, i, u, rfl, rfl, h, e6, (Fin_.of k).same p2 s2 e7⟩)
    · rename_i kvs i
      cases (VwV.int ry)
      obtain ⟨p, ns, e0, h, rfl, _⟩ := (show Rl X.K H2 Z2 (.dict kvs) v from rx)
      obtain ⟨kv, e6, e7⟩ := mpd (show (atI (ns.map fun n => ((.int n, .none) : D × D)) i).map (·.1) = some d from e5)
      unfold atI at e6
      obtain ⟨j, e8, e9⟩ := bnd e6
      rw [List.length_map] at e8
      rw [List.getElem?_map] at e9
      obtain ⟨n, e10, e11⟩ := mpd e9
      subst e11
      subst e7
      refine .inl ⟨p, ns.map V.int, i, .int n, e0, rfl, h.sq, ?_, (Fin_.of k).same p2 s2 rfl⟩
      unfold atI
      rw [List.length_map, e8]
      show (ns.map V.int)[j]? = some (V.int n)
      rw [List.getElem?_map, e10]
      rfl
def SP_ (X : Cx) (e : Option Expr) (f : Rho → Option (Option Int × Rho)) : Prop := ∃ t : TO, PO X e t ∧ ∀ (ρ : Rho) (σ : L2.St) (H : Hp) (Z : Addr → Prop) (o : Option Int) (ρ' : Rho) (Q : Option Int → Hp → Prop), Sta X.K H Z ρ σ → f ρ = some (o, ρ') →
  (∀ H' Z', Sta X.K H' Z' ρ' σ → Stp (Ow ρ σ) (Ow ρ' σ) H Z H' Z' → Q o H') → t σ H Q
theorem sp_no : SP_ X none (evo T .no) := by
  refine ⟨_, po_none, fun ρ σ H Z o ρ' Q s e k => ?_⟩
  cases (show some (none, ρ) = some (o, ρ') from e)
  exact k H Z s Stp.refl
theorem sp_so {ia : Ex} (ha : SO X a (ev T ia)) : SP_ X (some a) (evo T (.so ia)) := by
  obtain ⟨ta, pa, qa⟩ := ha
  refine ⟨_, po_some pa, fun ρ σ H Z o ρ' Q s e k => ?_⟩
  obtain ⟨⟨x, ρ1⟩, e1, e⟩ := bnd (show (ev T ia ρ).bind _ = some _ from e)
  obtain ⟨dx, e3, e⟩ := bnd e
  refine qa ρ σ H Z x ρ1 _ s e1 fun v H1 Z1 s1 p1 r1 _ => ?_
  cases dx <;> (try cases (show none = some _ from e))
  rename_i i
  cases (show some _ = some (o, ρ') from e)
  exact ⟨i, VwV.int (r1.vw s1 e3), k H1 Z1 s1 p1⟩
theorem so_slc {ia : Ex} {lo hi : Option Expr} {il ih : Oex} {p2 : Pos} (ha : SO X a (ev T ia)) (hl : SP_ X lo (evo T il)) (hh : SP_ X hi (evo T ih)) : SO X (.Subscript a (.Slice lo hi none p2) pos) (ev T (.slc ia il ih)) := by
  obtain ⟨ta, pa, qa⟩ := ha
  obtain ⟨tl, pl, ql⟩ := hl
  obtain ⟨th, ph, qh⟩ := hh
  refine ⟨_, pe_slice (sl_list.or sl_tupF) pa pl ph, fun ρ σ H Z o ρ' Q s e k => ?_⟩
  obtain ⟨⟨x, ρ1⟩, e1, e⟩ := bnd (show (ev T ia ρ).bind _ = some _ from e)
  obtain ⟨⟨l, ρ2⟩, e2, e⟩ := bnd e
  obtain ⟨⟨h, ρ3⟩, e3, e⟩ := bnd e
  obtain ⟨dx, e4, e⟩ := bnd e
  obtain ⟨c, e5, e⟩ := mpd e
  cases e
  refine qa ρ σ H Z x ρ1 _ s e1 fun v H1 Z1 s1 p1 r1 _ => ?_
  refine ql ρ1 σ H1 Z1 l ρ2 _ s1 e2 fun H2 Z2 s2 p2 => ?_
  refine qh ρ2 σ H2 Z2 h ρ3 _ s2 e3 fun H3 Z3 s3 p3 => ?_
  have rx := ((r1.stp s1 p2).stp s2 p3).vw s3 e4
  have pp := (p1.trans p2).trans p3
  have hc : ∀ {α : Type} (xs : List α) (q : Option Int → Nat → Nat), True := fun _ _ => trivial
  cases dx <;> (try (cases (show none = some c from e5)))
  · rename_i xs
    cases (show some _ = some c from e5)
    obtain ⟨p, vs, rfl, hp, hlen, rr⟩ := rx.lst
    refine .inl ⟨p, vs, rfl, .inl (.inl hp), (Fin_.of k).lst pp s3 (rr.cut l h) ?_⟩
    have h1 := cutV_length vs l h
    have h2 := (rr.cut l h).length
    have h3 := rr.length
    show (cutD xs l h).length ≤ sizeLine
    omega
  · rename_i xs
    cases (show some _ = some c from e5)
    obtain ⟨p, vs, rfl, hp, hlen, rr⟩ := rx.tup
    have h1 := cutV_length vs l h
    have h2 := (rr.cut l h).length
    have h3 := rr.length
    refine .inr ⟨p, vs, rfl, hp, fun hw => ?_, (Fin_.of k).tup pp s3 (rr.cut l h) (show (cutD xs l h).length ≤ sizeLine by omega)⟩
    have hx : cutD xs l h = xs := by
      unfold cutD
      rw [h3] at hw
      rw [hw.1, hw.2, List.drop_zero]
      exact List.take_of_length_le (by omega)
    have kk := Fin_.of k
    rw [hx] at kk
    exact kk.same pp s3 rx

/-! ### built-in functions by their names -/
theorem maxI_spec : ∀ (r : List Int) (m x : Int), x ∈ m :: r → (∀ y ∈ m :: r, y ≤ x) → maxI m r = x
  | [], m, x, h, _ => (List.mem_singleton.mp h).symm
  | y :: r, m, x, h, hle => by
    unfold maxI
    have h1 := hle m (by simp)
    have h2 := hle y (by simp)
    refine maxI_spec r _ x ?_ fun z hz => ?_
    · rcases List.mem_cons.mp h with e | h
      · subst e
        by_cases c : y > x
        · omega
        · rw [if_neg c]; simp
      · rcases List.mem_cons.mp h with e | h
        · subst e
          by_cases c : x > m
          · rw [if_pos c]; simp
          · rw [if_neg c]
            have : m = x := by omega
            subst this; simp
        · exact List.mem_cons_of_mem _ h
    · rcases List.mem_cons.mp hz with e | hz
      · subst e; split <;> omega
      · exact hle z (by simp [hz])
theorem minI_spec : ∀ (r : List Int) (m x : Int), x ∈ m :: r → (∀ y ∈ m :: r, x ≤ y) → minI m r = x
  | [], m, x, h, _ => (List.mem_singleton.mp h).symm
  | y :: r, m, x, h, hle => by
    unfold minI
    have h1 := hle m (by simp)
    have h2 := hle y (by simp)
    refine minI_spec r _ x ?_ fun z hz => ?_
    · rcases List.mem_cons.mp h with e | h
      · subst e
        by_cases c : y < x
        · omega
        · rw [if_neg c]; simp
      · rcases List.mem_cons.mp h with e | h
        · subst e
          by_cases c : x < m
          · rw [if_pos c]; simp
          · rw [if_neg c]
            have : m = x := by omega
            subst this; simp
        · exact List.mem_cons_of_mem _ h
    · rcases List.mem_cons.mp hz with e | hz
      · subst e; split <;> omega
      · exact hle z (by simp [hz])
/-- a built-in's rule r does what bltD says -/
def BltOk (K : PySem.W.Frag) (f : Bf) (r : List V → Hp → VK → Prop) : Prop := ∀ {W : Addr → Prop} {H0 H : Hp} {Z0 Z : Addr → Prop} {ρ : Rho} {σ : L2.St} {Q : VK} {ds : List D} {vs : List V} {c : Cell},
  bltD f ds = some c → VwVs K H Z ds vs → Stp W (Ow ρ σ) H0 Z0 H Z → Sta K H Z ρ σ → Fin_ K W H0 Z0 ρ σ c Q → r vs H Q
/-- the same of a dict -/
def BltKOk (K : PySem.W.Frag) (f : Bf) (r : List V → Hp → VK → Prop) : Prop := ∀ {W : Addr → Prop} {H0 H : Hp} {Z0 Z : Addr → Prop} {ρ : Rho} {σ : L2.St} {Q : VK} {kvs : List (D × D)} {v : V} {c : Cell},
  bltK f kvs = some c → CellV K H Z (.dic kvs) v → Stp W (Ow ρ σ) H0 Z0 H Z → Sta K H Z ρ σ → Fin_ K W H0 Z0 ρ σ c Q → r [v] H Q
theorem bltK_no {K : PySem.W.Frag} {f : Bf} {r : List V → Hp → VK → Prop} (hf : f ≠ .sorted) : BltKOk K f r := by
  intro W H0 H Z0 Z ρ σ Q kvs v c e
  cases f <;> first | exact (hf rfl).elim | (cases (show none = some c from e))
theorem bltAt_is {f : Bf} {ρ : Rho} {os : List Od} {c : Cell} (e : bltAt f ρ os = some c) : (∃ o kvs, os = [o] ∧ look ρ o = some (.dc kvs) ∧ bltK f kvs = some c) ∨ ∃ ds, lookDs ρ os = some ds ∧ bltD f ds = some c := by
  unfold bltAt at e
  cases h : dicOf ρ os with
  | none =>
    rw [h] at e
    exact .inr (bnd e)
  | some kvs =>
    rw [h] at e
    left
    match os, h with
    | [o], h =>
      have h' : (match look ρ o with
        | some (.dc kvs) => some kvs
        | _ => none) = some kvs := h
      split at h'
      · rename_i k' e'
        cases h'
        exact ⟨o, kvs, rfl, e', e⟩
      · cases h'
theorem so_blt {f : Bf} {x : Str} {p : Pos} {r : List V → Hp → VK → Prop} {is : Exs} (ok : BltOk X.K f r) (okK : BltKOk X.K f r) (pc : ∀ {t : TA}, PAn X es t → PE X (.Call (.Name x p) es [] pos) (tCB r t)) (h : SA X es (evs T is)) : SO X (.Call (.Name x p) es [] pos) (ev T (.blt f is)) := by
  obtain ⟨t, pt, qt⟩ := h
  refine ⟨_, pc pt, fun ρ σ H Z o ρ' Q s e k => ?_⟩
  obtain ⟨⟨os, ρ1⟩, e1, e⟩ := bnd (show (evs T is ρ).bind _ = some _ from e)
  obtain ⟨c, e3, e⟩ := mpd e
  cases e
  refine qt ρ σ H Z os ρ1 _ s e1 fun vs H1 Z1 s1 p1 r1 => ?_
  rcases bltAt_is e3 with ⟨o, kvs, rfl, e4, e5⟩ | ⟨ds, e2, e4⟩
  · obtain ⟨v, r, rfl, hv, _, _, hr⟩ := r1
    cases (show r = [] from hr)
    obtain ⟨c', e6, cv⟩ := hv.cell s1 e4
    cases c' <;> (try cases e6)
    exact okK e5 cv p1 s1 (Fin_.of k)
  · exact ok e4 (r1.vws s1 e2) p1 s1 (Fin_.of k)
theorem vw1 {K : PySem.W.Frag} {H : Hp} {Z : Addr → Prop} {d : D} {vs : List V} (h : VwVs K H Z [d] vs) : ∃ v, vs = [v] ∧ VwV K H Z d v := by
  obtain ⟨v, r, rfl, h1, h2⟩ := h
  cases (show r = [] from h2)
  exact ⟨v, rfl, h1⟩
theorem vw2 {K : PySem.W.Frag} {H : Hp} {Z : Addr → Prop} {d d' : D} {vs : List V} (h : VwVs K H Z [d, d'] vs) : ∃ v w, vs = [v, w] ∧ VwV K H Z d v ∧ VwV K H Z d' w := by
  obtain ⟨v, r, rfl, h1, h2⟩ := h
  obtain ⟨w, rfl, h3⟩ := vw1 h2
  exact ⟨v, w, rfl, h1, h3⟩
end
section
variable {K : PySem.W.Frag}
theorem blt_len : BltOk K .len (fun xs H Q => ∃ x n, xs = [x] ∧ LenV K x H n ∧ Q (.int n) H) := by
  intro W H0 H Z0 Z ρ σ Q ds vs c e r p s f
  match ds, e, r with
  | [.list xs], e, r =>
    cases (show some _ = some c from e)
    obtain ⟨v, rfl, rv⟩ := vw1 r
    obtain ⟨a, ws, rfl, h, _, rr⟩ := rv.lst
    exact ⟨_, xs.length, rfl, .inl ⟨ws, .inl (.inl h), rr.length.symm⟩, f.same p s rfl⟩
  | [.tuple xs], e, r =>
    cases (show some _ = some c from e)
    obtain ⟨v, rfl, rv⟩ := vw1 r
    obtain ⟨a, ws, rfl, h, _, rr⟩ := rv.tup
    exact ⟨_, xs.length, rfl, .inr ⟨ws, h, rr.length.symm⟩, f.same p s rfl⟩
  | [.dict kvs], e, r =>
    cases (show some _ = some c from e)
    obtain ⟨v, rfl, rv⟩ := vw1 r
    obtain ⟨a, ns, rfl, h, rfl, _⟩ := (show Rl K H Z (.dict kvs) v from rv)
    exact ⟨_, _, rfl, .inl ⟨ns.map V.int, h.sq, by simp⟩, f.same p s rfl⟩
  | [.none], e, _ | [.bool _], e, _ | [.int _], e, _ | [.str _], e, _ | [], e, _ => cases (show none = some c from e)
  | _ :: _ :: _, e, _ => exact absurd e (by simp [bltD])
theorem blt_abs : BltOk K .abs (fun xs H Q => ∃ i, xs = [.int i] ∧ Q (.int (if i < 0 then -i else i)) H) := by
  intro W H0 H Z0 Z ρ σ Q ds vs c e r p s f
  match ds, e, r with
  | [.int i], e, r =>
    cases (show some _ = some c from e)
    obtain ⟨v, rfl, rv⟩ := vw1 r
    cases (VwV.int rv)
    exact ⟨i, rfl, f.same p s rfl⟩
  | [.none], e, _ | [.bool _], e, _ | [.list _], e, _ | [.tuple _], e, _ | [.dict _], e, _ | [.str _], e, _ | [], e, _ => cases (show none = some c from e)
  | _ :: _ :: _, e, _ => exact absurd e (by simp [bltD])
theorem blt_int : BltOk K .int (fun xs H Q => (∃ i, xs = [.int i] ∧ Q (.int i) H) ∨ ∃ k, xs = [.bl k] ∧ Q (.int (if k then 1 else 0)) H) := by
  intro W H0 H Z0 Z ρ σ Q ds vs c e r p s f
  match ds, e, r with
  | [.int i], e, r =>
    cases (show some _ = some c from e)
    obtain ⟨v, rfl, rv⟩ := vw1 r
    cases (VwV.int rv)
    exact .inl ⟨i, rfl, f.same p s rfl⟩
  | [.none], e, _ | [.bool _], e, _ | [.list _], e, _ | [.tuple _], e, _ | [.dict _], e, _ | [.str _], e, _ | [], e, _ => cases (show none = some c from e)
  | _ :: _ :: _, e, _ => exact absurd e (by simp [bltD])
def rMax2 (K : PySem.W.Frag) : List V → Hp → VK → Prop := fun xs H Q => (∃ i j, xs = [.int i, .int j] ∧ Q (.int (if j > i then j else i)) H) ∨ rMax K xs H Q
def rMin2 (K : PySem.W.Frag) : List V → Hp → VK → Prop := fun xs H Q => (∃ i j, xs = [.int i, .int j] ∧ Q (.int (if j < i then j else i)) H) ∨ rMin K xs H Q
theorem blt_max : BltOk K .max (rMax2 K) := by
  intro W H0 H Z0 Z ρ σ Q ds vs c e r p s f
  match ds, e, r with
  | [.int i, .int j], e, r =>
    cases (show some _ = some c from e)
    obtain ⟨v, w, rfl, rv, rw'⟩ := vw2 r
    cases (VwV.int rv)
    cases (VwV.int rw')
    exact .inl ⟨i, j, rfl, f.same p s rfl⟩
  | [.list xs], e, r =>
    obtain ⟨v, rfl, rv⟩ := vw1 r
    obtain ⟨a, ws, rfl, h, _, rr⟩ := rv.lst
    have e' : (match asInts xs with
      | some (m :: r) => some (Cell.dat (.int (maxI m r)))
      | _ => none) = some c := e
    cases q : asInts xs with
    | none => rw [q] at e'; cases e'
    | some ns =>
      rw [q] at e'
      cases ns with
      | nil => cases e'
      | cons m r =>
        cases e'
        refine .inr ⟨a, m :: r, rfl, .inl (.inl ?_), Nat.succ_pos _, fun x hx hle => ?_⟩
        · rw [h, rr.ints q]
        · have e2 := maxI_spec r m x hx hle
          rw [e2] at f
          exact f.same p s rfl
  | [], e, _ | [.none], e, _ | [.bool _], e, _ | [.int _], e, _ | [.str _], e, _ | [.tuple _], e, _ | [.dict _], e, _ => exact absurd e (by simp [bltD])
  | .none :: _ :: _, e, _ | .bool _ :: _ :: _, e, _ | .str _ :: _ :: _, e, _ | .list _ :: _ :: _, e, _ | .tuple _ :: _ :: _, e, _ | .dict _ :: _ :: _, e, _ => exact absurd e (by simp [bltD])
  | .int _ :: .none :: _, e, _ | .int _ :: .bool _ :: _, e, _ | .int _ :: .str _ :: _, e, _ | .int _ :: .list _ :: _, e, _ | .int _ :: .tuple _ :: _, e, _ | .int _ :: .dict _ :: _, e, _ => exact absurd e (by simp [bltD])
  | .int _ :: .int _ :: _ :: _, e, _ => exact absurd e (by simp [bltD])
theorem blt_min : BltOk K .min (rMin2 K) := by
  intro W H0 H Z0 Z ρ σ Q ds vs c e r p s f
  match ds, e, r with
  | [.int i, .int j], e, r =>
    cases (show some _ = some c from e)
    obtain ⟨v, w, rfl, rv, rw'⟩ := vw2 r
    cases (VwV.int rv)
    cases (VwV.int rw')
    exact .inl ⟨i, j, rfl, f.same p s rfl⟩
  | [.list xs], e, r =>
    obtain ⟨v, rfl, rv⟩ := vw1 r
    obtain ⟨a, ws, rfl, h, _, rr⟩ := rv.lst
    have e' : (match asInts xs with
      | some (m :: r) => some (Cell.dat (.int (minI m r)))
      | _ => none) = some c := e
    cases q : asInts xs with
    | none => rw [q] at e'; cases e'
    | some ns =>
      rw [q] at e'
      cases ns with
      | nil => cases e'
      | cons m r =>
        cases e'
        refine .inr ⟨a, m :: r, rfl, .inl (.inl ?_), Nat.succ_pos _, fun x hx hle => ?_⟩
        · rw [h, rr.ints q]
        · have e2 := minI_spec r m x hx hle
          rw [e2] at f
          exact f.same p s rfl
  | [], e, _ | [.none], e, _ | [.bool _], e, _ | [.int _], e, _ | [.str _], e, _ | [.tuple _], e, _ | [.dict _], e, _ => exact absurd e (by simp [bltD])
  | .none :: _ :: _, e, _ | .bool _ :: _ :: _, e, _ | .str _ :: _ :: _, e, _ | .list _ :: _ :: _, e, _ | .tuple _ :: _ :: _, e, _ | .dict _ :: _ :: _, e, _ => exact absurd e (by simp [bltD])
  | .int _ :: .none :: _, e, _ | .int _ :: .bool _ :: _, e, _ | .int _ :: .str _ :: _, e, _ | .int _ :: .list _ :: _, e, _ | .int _ :: .tuple _ :: _, e, _ | .int _ :: .dict _ :: _, e, _ => exact absurd e (by simp [bltD])
  | .int _ :: .int _ :: _ :: _, e, _ => exact absurd e (by simp [bltD])
theorem blt_sum : BltOk K .sum (rSum K) := by
  intro W H0 H Z0 Z ρ σ Q ds vs c e r p s f
  match ds, e, r with
  | [.list xs], e, r =>
    obtain ⟨v, rfl, rv⟩ := vw1 r
    obtain ⟨a, ws, rfl, h, _, rr⟩ := rv.lst
    obtain ⟨ns, e1, e2⟩ := mpd (show (asInts xs).map _ = some c from e)
    subst e2
    exact ⟨a, ns, rfl, .inl (.inl (by rw [h, rr.ints e1])), f.same p s rfl⟩
  | [], e, _ | [.none], e, _ | [.bool _], e, _ | [.int _], e, _ | [.str _], e, _ | [.tuple _], e, _ | [.dict _], e, _ => exact absurd e (by simp [bltD])
  | _ :: _ :: _, e, _ => exact absurd e (by simp [bltD])
theorem blt_all : BltOk K .all (rAll K) := by
  intro W H0 H Z0 Z ρ σ Q ds vs c e r p s f
  match ds, e, r with
  | [.list xs], e, r =>
    obtain ⟨v, rfl, rv⟩ := vw1 r
    obtain ⟨a, ws, rfl, h, _, rr⟩ := rv.lst
    obtain ⟨ns, e1, e2⟩ := mpd (show (asBools xs).map _ = some c from e)
    subst e2
    exact ⟨a, ns, rfl, .inl (.inl (by rw [h, rr.bools e1])), f.same p s rfl⟩
  | [], e, _ | [.none], e, _ | [.bool _], e, _ | [.int _], e, _ | [.str _], e, _ | [.tuple _], e, _ | [.dict _], e, _ => exact absurd e (by simp [bltD])
  | _ :: _ :: _, e, _ => exact absurd e (by simp [bltD])
theorem blt_any : BltOk K .any (rAny K) := by
  intro W H0 H Z0 Z ρ σ Q ds vs c e r p s f
  match ds, e, r with
  | [.list xs], e, r =>
    obtain ⟨v, rfl, rv⟩ := vw1 r
    obtain ⟨a, ws, rfl, h, _, rr⟩ := rv.lst
    obtain ⟨ns, e1, e2⟩ := mpd (show (asBools xs).map _ = some c from e)
    subst e2
    exact ⟨a, ns, rfl, .inl (.inl (by rw [h, rr.bools e1])), f.same p s rfl⟩
  | [], e, _ | [.none], e, _ | [.bool _], e, _ | [.int _], e, _ | [.str _], e, _ | [.tuple _], e, _ | [.dict _], e, _ => exact absurd e (by simp [bltD])
  | _ :: _ :: _, e, _ => exact absurd e (by simp [bltD])
theorem blt_tuple : BltOk K .tuple (fun xs H Q => ∃ p ys, xs = [.ref p] ∧ ((SqL K H p ys ∧ NewT H Q ys) ∨ (SqT K H p ys ∧ Q (.ref p) H))) := by
  intro W H0 H Z0 Z ρ σ Q ds vs c e r p s f
  match ds, e, r with
  | [.list xs], e, r =>
    cases (show some _ = some c from e)
    obtain ⟨v, rfl, rv⟩ := vw1 r
    obtain ⟨a, ws, rfl, h, hl, rr⟩ := rv.lst
    exact ⟨a, ws, rfl, .inl ⟨.inl (.inl h), f.tup p s rr hl⟩⟩
  | [.tuple xs], e, r =>
    cases (show some _ = some c from e)
    obtain ⟨v, rfl, rv⟩ := vw1 r
    obtain ⟨a, ws, e0, h, hl, rr⟩ := rv.tup
    subst e0
    exact ⟨a, ws, rfl, .inr ⟨h, f.same p s rv⟩⟩
  | [], e, _ | [.none], e, _ | [.bool _], e, _ | [.int _], e, _ | [.str _], e, _ | [.dict _], e, _ => exact absurd e (by simp [bltD])
  | _ :: _ :: _, e, _ => exact absurd e (by simp [bltD])
theorem blt_list : BltOk K .list (fun xs H Q => ∃ p ys, xs = [.ref p] ∧ (SqL K H p ys ∨ SqT K H p ys) ∧ ∀ l, H l = none → Q (.ref l) (upd H l (.lst ys))) := by
  intro W H0 H Z0 Z ρ σ Q ds vs c e r p s f
  match ds, e, r with
  | [.list xs], e, r =>
    cases (show some _ = some c from e)
    obtain ⟨v, rfl, rv⟩ := vw1 r
    obtain ⟨a, ws, rfl, h, hl, rr⟩ := rv.lst
    exact ⟨a, ws, rfl, .inl (.inl (.inl h)), f.lst p s rr hl⟩
  | [.tuple xs], e, r =>
    cases (show some _ = some c from e)
    obtain ⟨v, rfl, rv⟩ := vw1 r
    obtain ⟨a, ws, e0, h, hl, rr⟩ := rv.tup
    subst e0
    exact ⟨a, ws, rfl, .inr h, f.lst p s rr hl⟩
  | [], e, _ | [.none], e, _ | [.bool _], e, _ | [.int _], e, _ | [.str _], e, _ | [.dict _], e, _ => exact absurd e (by simp [bltD])
  | _ :: _ :: _, e, _ => exact absurd e (by simp [bltD])
theorem blt_gcd : BltOk K .gcd rGcd := by
  intro W H0 H Z0 Z ρ σ Q ds vs c e r p s f
  match ds, e, r with
  | [.int i, .int j], e, r =>
    cases (show some _ = some c from e)
    obtain ⟨v, w, rfl, rv, rw'⟩ := vw2 r
    cases (VwV.int rv)
    cases (VwV.int rw')
    exact ⟨i, j, rfl, f.same p s rfl⟩
  | [], e, _ | [_], e, _ => exact absurd e (by simp [bltD])
  | .none :: _ :: _, e, _ | .bool _ :: _ :: _, e, _ | .str _ :: _ :: _, e, _ | .list _ :: _ :: _, e, _ | .tuple _ :: _ :: _, e, _ | .dict _ :: _ :: _, e, _ => exact absurd e (by simp [bltD])
  | .int _ :: .none :: _, e, _ | .int _ :: .bool _ :: _, e, _ | .int _ :: .str _ :: _, e, _ | .int _ :: .list _ :: _, e, _ | .int _ :: .tuple _ :: _, e, _ | .int _ :: .dict _ :: _, e, _ => exact absurd e (by simp [bltD])
  | .int _ :: .int _ :: _ :: _, e, _ => exact absurd e (by simp [bltD])
end
end Lt

namespace Lt
open PySem L2 PySem.Spec PyProof.Rows
theorem cellAt_set {ρ : Rho} {i : Nat} {c : Cell} (h : i < ρ.length) (j : Nat) : cellAt (ρ.set i c) j = if j = i then c else cellAt ρ j := by
  unfold cellAt
  rw [List.getD_eq_getElem?_getD, List.getD_eq_getElem?_getD]
  by_cases hj : j = i
  · subst hj
    rw [if_pos rfl, List.getElem?_set_self h]; rfl
  · rw [if_neg hj, List.getElem?_set_ne (Ne.symm hj)]
section
variable {K : PySem.W.Frag} {H : Hp} {Z : Addr → Prop} {ρ : Rho} {σ : L2.St}
/-- the list of slot i is written -/
theorem wr_okG {W0 : Addr → Prop} {H0 : Hp} {Z0 : Addr → Prop} (p : Stp W0 (Ow ρ σ) H0 Z0 H Z) (s : Sta K H Z ρ σ) {i : Nat} {c0 c' : Cell} {ob : HO} {a : Addr} (hi : cellAt ρ i = c0) (o0 : isOw c0 = true) (o1 : isOw c' = true) (hv : σ[i]? = some (some (.ref a)))
    (cv : Keep H Z (upd H a ob) Z → ¬ Z a → CellV K (upd H a ob) Z c' (.ref a)) :
    Stp W0 (Ow (ρ.set i c') σ) H0 Z0 (upd H a ob) Z ∧ Sta K (upd H a ob) Z (ρ.set i c') σ ∧ Keep H Z (upd H a ob) Z ∧ (∀ b, Ow (ρ.set i c') σ b ↔ Ow ρ σ b) := by
  have hlt : i < ρ.length := by rw [s.len]; exact (List.getElem?_eq_some_iff.mp hv).1
  have ca := cellAt_set (c := c') hlt
  have oa : Ow ρ σ a := ⟨i, by rw [hi]; exact o0, hv⟩
  have nz : ¬ Z a := s.nz oa
  obtain ⟨oo, ho⟩ := s.dm oa
  have isq : ∀ j, isOw (cellAt (ρ.set i c') j) = isOw (cellAt ρ j) := fun j => by
    rw [ca j]
    by_cases hj : j = i
    · rw [if_pos hj, hj, hi, o0, o1]
    · rw [if_neg hj]
  have oq : ∀ b, Ow (ρ.set i c') σ b ↔ Ow ρ σ b := fun b => ⟨fun ⟨j, h1, h2⟩ => ⟨j, by rw [← isq j]; exact h1, h2⟩, fun ⟨j, h1, h2⟩ => ⟨j, by rw [isq j]; exact h1, h2⟩⟩
  have kp : Keep H Z (upd H a ob) Z := ⟨fun b o z e => by rw [upd_ne (show b ≠ a from fun q => nz (by rw [← q]; exact z))]; exact e, fun _ z => z⟩
  have p1 : Stp (Ow ρ σ) (Ow (ρ.set i c') σ) H Z (upd H a ob) Z :=
    ⟨fun b o e n => ⟨by rw [upd_ne (show b ≠ a from fun q => n (by rw [q]; exact oa))]; exact e, fun z => z⟩, fun b o e => by
      by_cases hb : b = a
      · subst hb; exact ⟨_, upd_same⟩
      · rw [upd_ne hb]; exact ⟨o, e⟩, fun _ z => z, fun b w => .inl ((oq b).mp w)⟩
  refine ⟨p.trans p1, ⟨by rw [List.length_set]; exact s.len, fun j hj => ?_, fun j k b h1 h2 h3 h4 => s.inj j k b (by rw [← isq j]; exact h1) (by rw [← isq k]; exact h2) h3 h4, fun b z => ?_⟩, kp, oq⟩
  · rw [ca j] at hj ⊢
    by_cases hji : j = i
    · subst hji
      rw [if_pos rfl]
      exact ⟨.ref a, hv, cv kp nz⟩
    · rw [if_neg hji] at hj ⊢
      obtain ⟨u, e1, c⟩ := s.at_ j hj
      refine ⟨u, e1, ?_⟩
      cases qj : cellAt ρ j with
      | emp => exact (hj qj).elim
      | dat d' => rw [qj] at c; exact Rl.keep kp d' u c
      | dic kvs =>
        rw [qj] at c
        obtain ⟨b, e2, db⟩ := c
        have nba : b ≠ a := fun q => hji (s.inj j i a (by rw [qj]; rfl) (by rw [hi]; exact o0) (by rw [e1, e2, q]) hv)
        exact ⟨b, e2, db.move kp (fun o h => by rw [upd_ne nba]; exact h) db.nz⟩
      | own es =>
        rw [qj] at c
        obtain ⟨b, ws, e2, hb, nb, lb, rb⟩ := c
        have nba : b ≠ a := fun q => hji (s.inj j i a (by rw [qj]; rfl) (by rw [hi]; exact o0) (by rw [e1, e2, q]) hv)
        exact ⟨b, ws, e2, by rw [upd_ne nba]; exact hb, nb, lb, Rls.keep kp es ws rb⟩
  · obtain ⟨o, e⟩ := s.zd b z
    by_cases hb : b = a
    · exact absurd (show Z a by rw [← hb]; exact z) nz
    · rw [upd_ne hb]; exact ⟨o, e⟩
theorem wr_ok {W0 : Addr → Prop} {H0 : Hp} {Z0 : Addr → Prop} (p : Stp W0 (Ow ρ σ) H0 Z0 H Z) (s : Sta K H Z ρ σ) {i : Nat} {ds ds' : List D} {a : Addr} {vs' : List V} (hi : cellAt ρ i = .own ds) (hv : σ[i]? = some (some (.ref a)))
    (r : Rls K H Z ds' vs') (hl : ds'.length ≤ sizeLine) :
    Stp W0 (Ow (ρ.set i (.own ds')) σ) H0 Z0 (upd H a (.lst vs')) Z ∧ Sta K (upd H a (.lst vs')) Z (ρ.set i (.own ds')) σ ∧ Keep H Z (upd H a (.lst vs')) Z ∧ (∀ b, Ow (ρ.set i (.own ds')) σ b ↔ Ow ρ σ b) :=
  wr_okG p s hi rfl rfl hv fun kp nz => ⟨a, vs', rfl, upd_same, nz, hl, Rls.keep kp ds' vs' r⟩
end

/-! ### methods of lists and tuples -/
/-- of which built-in type the value is, as a method's call asks -/
def tyG (K : PySem.W.Frag) (T : String) (x : V) (H : Hp) : Prop := match x with
  | .ref p => (T = "list" ∧ ∃ xs, SqL K H p xs) ∨ (T = "tuple" ∧ ((∃ ob vs, H p = some (.frz ob (.tup vs)) ∧ ob.dict = none) ∨ ∃ o, K.lookup p = some o ∧ o.cls = .type "tuple" ∧ o.dict = none))
  | _ => False
theorem tyG_is {X : Cx} {pins : List (Addr × Obj)} {σ : L2.St} {H : Hp} {s : Shared} {T : String} {x : V} {v : Value} (inv : Inv X pins σ H s) (r : RelV x v) (ty : tyG X.K T x H) :
    s.TypeIs v T ∧ ∀ a, v = .ref a → ∃ ob, s.heap.get? a = some ob ∧ ob.dict = none := by
  cases x with
  | ref p =>
    cases r
    rcases ty with ⟨rfl, xs, hq⟩ | ⟨rfl, ⟨ob, vs, h, hd⟩ | ⟨o, h, hc, hd⟩⟩
    · exact tyV_is inv (x := .ref p) rfl (.inl ⟨rfl, xs, hq⟩)
    · obtain ⟨e, z, its, rel, o', e', hc, _⟩ := inv.hok p _ h
      rw [e] at e'
      cases e'
      exact ⟨⟨ob, e, hc⟩, fun a q => by cases q; exact ⟨ob, e, hd⟩⟩
    · exact ⟨⟨o, inv.kIn p o h, hc⟩, fun a q => by cases q; exact ⟨o, inv.kIn p o h, hd⟩⟩
  | _ => exact ty.elim
def MtAlt (X : Cx) (name : Str) (T id : String) (r : V → List V → Hp → VK → Prop) : Prop := PlainAttrs T ∧ Slot T name id ∧ typeOf (.builtin id) = pure (.type "method_descriptor") ∧ MtR X id r
def tMG (X : Cx) (name : Str) (to : TE) (t : TA) : TE := fun σ H Q => to σ H fun x H1 => ∃ T id r, MtAlt X name T id r ∧ tyG X.K T x H1 ∧ t σ H1 fun xs H2 => r x xs H2 Q
section
variable {X : Cx} {T : Tab} {a b c e o : Expr} {es : List Expr} {pos apos cpos : Pos} {name : Str} {to : TE} {t : TA}
theorem pe_mg0 (ho : PE X o to) (hbase : attributeBase o name X.env (eval o X.env) = eval o X.env) (hline : (apos.endLine == cpos.line) = true) : PE X (.Call (.Attribute o name apos) [] [] cpos) (tMG X name to tNil) := by
  constructor
  intro pins s σ H Q inv want
  refine wpAny_Call_method0_late hbase hline (thn (ho.run pins s σ H _ inv want) ?_)
  rintro v s1 ⟨x, H1, inv1, rel, T, id, r, ⟨pa, sl, ty, mt⟩, tg, q⟩
  obtain ⟨h1, h2⟩ := tyG_is inv1 rel tg
  exact ⟨T, id, pa, sl, ty, h1, h2, Calls.callWith_builtin rfl (PySem.evalArgs_none (mt pins s1 σ H1 x [] v [] Q inv1 rel .nil q))⟩
theorem pe_mg1 (ho : PE X o to) (ha : PA X [e] t) (hs : starEach [e] X.env = [(false, eval e X.env)]) (hbase : attributeBase o name X.env (eval o X.env) = eval o X.env) (hline : (apos.endLine == cpos.line) = true) : PE X (.Call (.Attribute o name apos) [e] [] cpos) (tMG X name to t) := by
  constructor
  intro pins s σ H Q inv want
  have htrees : backTo cpos (starEach [e] X.env) = [(false, eval e X.env)] := by rw [hs]; rfl
  refine wpAny_Call_method1_late hbase hline htrees (thn (ho.run pins s σ H _ inv want) ?_)
  rintro v s1 ⟨x, H1, inv1, rel, T, id, r, ⟨pa, sl, ty, mt⟩, tg, q⟩
  obtain ⟨h1, h2⟩ := tyG_is inv1 rel tg
  have hA := ha.run cpos pins s1 σ H1 _ inv1 q
  rw [htrees] at hA
  refine ⟨T, id, pa, sl, ty, h1, h2, Calls.callWith_builtin rfl (Calls.evalArgs_plain (thn hA ?_))⟩
  rintro us s2 ⟨vs, H2, inv2, rel2, q2⟩
  exact mt pins s2 σ H2 x vs v us Q inv2 rel rel2 q2
end
end Lt

namespace Lt
open PySem L2 PySem.Spec PyProof.Rows
/-! ### methods that change a list of one's own -/
/-- a method's rule r does what mthOwn says of the list at a -/
def OwnOk (m : Mf) (r : V → List V → Hp → VK → Prop) : Prop := ∀ {K : PySem.W.Frag} {H : Hp} {Z : Addr → Prop} {Q : VK} {xs xs' ds : List D} {c : Cell} {a : Addr} {ws vs : List V},
  mthOwn m xs ds = some (c, xs') → H a = some (.lst ws) → Rls K H Z xs ws → xs.length ≤ sizeLine → Rls K H Z ds vs →
  (∀ u ws', Rls K H Z xs' ws' → xs'.length ≤ sizeLine → (∃ d, c = .dat d ∧ Rl K H Z d u) → Q u (upd H a (.lst ws'))) → r (.ref a) vs H Q
theorem own_append : OwnOk .append rAppend := by
  intro K H Z Q xs xs' ds c a ws vs e h r hl rd k
  match ds, e, rd with
  | [d], e, rd =>
    obtain ⟨v, t, rfl, h1, h2⟩ := rd
    cases (show t = [] from h2)
    have e' : (if xs.length < 16777216 then some (Cell.dat .none, xs ++ [d]) else none) = some (c, xs') := e
    by_cases hz : xs.length < 16777216
    · rw [if_pos hz] at e'
      cases e'
      have hz' : xs.length < sizeLine := by rw [sizeLine_eq]; exact hz
      exact ⟨a, ws, v, rfl, rfl, h, by rw [r.length]; exact hz', k _ _ (r.append (Rls.cons h1 Rls.nil)) (by rw [List.length_append, List.length_singleton]; omega) ⟨_, rfl, rfl⟩⟩
    · rw [if_neg hz] at e'; cases e'
  | [], e, _ => cases (show none = some (c, xs') from e)
  | _ :: _ :: _, e, _ => cases (show none = some (c, xs') from e)
theorem own_extend : OwnOk .extend rExtend := by
  intro K H Z Q xs xs' ds c a ws vs e h r hl rd k
  match ds, e, rd with
  | [.list ys], e, rd =>
    obtain ⟨v, t, rfl, h1, h2⟩ := rd
    cases (show t = [] from h2)
    obtain ⟨b, us, rfl, hb, lb, rb⟩ := h1
    have e' : (if xs.length + ys.length ≤ 16777216 then some (Cell.dat .none, xs ++ ys) else none) = some (c, xs') := e
    by_cases hz : xs.length + ys.length ≤ 16777216
    · rw [if_pos hz] at e'
      cases e'
      have hz' : xs.length + ys.length ≤ sizeLine := by rw [sizeLine_eq]; exact hz
      have l1 := r.length
      have l2 := rb.length
      exact ⟨a, b, ws, us, rfl, rfl, h, hb.1, by omega, k _ _ (r.append rb) (by rw [List.length_append]; exact hz') ⟨_, rfl, rfl⟩⟩
    · rw [if_neg hz] at e'; cases e'
  | [], e, _ | [.none], e, _ | [.bool _], e, _ | [.int _], e, _ | [.str _], e, _ | [.tuple _], e, _ | [.dict _], e, _ => cases (show none = some (c, xs') from e)
  | _ :: _ :: _, e, _ => exact absurd e (by simp [mthOwn])
theorem own_pop : OwnOk .pop rPop := by
  intro K H Z Q xs xs' ds c a ws vs e h r hl rd k
  match ds, e, rd with
  | [], e, rd =>
    cases (show vs = [] from rd)
    obtain ⟨y, e1, e2⟩ := mpd (show (xs[xs.length - 1]?).map _ = some (c, xs') from e)
    cases e2
    obtain ⟨v, h1, h2⟩ := r.get e1
    refine ⟨a, ws, v, rfl, rfl, h, by rw [r.length]; exact h1, k _ _ r.dropLast (by rw [List.length_dropLast]; omega) ⟨_, rfl, h2⟩⟩
  | _ :: _, e, _ => cases (show none = some (c, xs') from e)
theorem own_reverse : OwnOk .reverse rReverse := by
  intro K H Z Q xs xs' ds c a ws vs e h r hl rd k
  match ds, e, rd with
  | [], e, rd =>
    cases (show vs = [] from rd)
    cases (show some _ = some (c, xs') from e)
    exact ⟨a, ws, rfl, rfl, h, k _ _ r.reverse (by rw [List.length_reverse]; omega) ⟨_, rfl, rfl⟩⟩
  | _ :: _, e, _ => cases (show none = some (c, xs') from e)
section
variable {X : Cx}
theorem own_alt : ∀ {m : Mf}, isMut m = true → ∃ id r, MtAlt X m.nm "list" id r ∧ OwnOk m r
  | .append, _ => ⟨_, _, ⟨F.plainAttrs_list, F.slot_list_append, F.type_list_append, mt_append⟩, own_append⟩
  | .extend, _ => ⟨_, _, ⟨F.plainAttrs_list, F.slot_list_extend, F.type_list_extend, mt_extend⟩, own_extend⟩
  | .pop, _ => ⟨_, _, ⟨F.plainAttrs_list, F.slot_list_pop, F.type_list_pop, mt_pop⟩, own_pop⟩
  | .reverse, _ => ⟨_, _, ⟨F.plainAttrs_list, F.slot_list_reverse, F.type_list_reverse, mt_reverse⟩, own_reverse⟩
  | .count, h => absurd h Bool.false_ne_true
  | .index, h => absurd h Bool.false_ne_true
variable {T : Tab} {a b c e o : Expr} {es : List Expr} {pos apos cpos : Pos} {name : Str}
theorem so_mut {m : Mf} (hm : isMut m = true) {ia : Ex} {is : Exs} (ho : SO X o (ev T ia)) (hs : SA X es (evs T is)) (pc : ∀ {to : TE} {t : TA}, PE X o to → PAn X es t → PE X (.Call (.Attribute o m.nm apos) es [] cpos) (tMG X m.nm to t)) :
    SO X (.Call (.Attribute o m.nm apos) es [] cpos) (ev T (.mth m ia is)) := by
  obtain ⟨to, po, qo⟩ := ho
  obtain ⟨t, pt, qt⟩ := hs
  obtain ⟨id, r, alt, ok⟩ := own_alt (X := X) hm
  refine ⟨_, pc po pt, fun ρ σ H Z od ρ' Q s e k => ?_⟩
  obtain ⟨⟨x, ρ1⟩, e1, e⟩ := bnd (show (ev T ia ρ).bind _ = some _ from e)
  rw [if_pos hm] at e
  cases x with
  | t c => cases e
  | v i =>
    have e' : (match cellAt ρ1 i with
          | .own _ => (evs T is ρ1).bind fun q => (frzs q.2 q.1).bind fun u => (match cellAt u.2 i with
            | .own xs => (mthOwn m xs u.1).map fun w => (Od.t w.1, u.2.set i (.own w.2))
            | _ => none)
          | _ => none) = some (od, ρ') := e
    clear e
    cases q1 : cellAt ρ1 i with
    | emp => rw [q1] at e'; cases e'
    | dat d => rw [q1] at e'; cases e'
    | dic kvs => rw [q1] at e'; cases e'
    | own xs1 =>
      rw [q1] at e'
      obtain ⟨⟨os, ρ2⟩, e2, e'⟩ := bnd e'
      obtain ⟨⟨ds, ρ3⟩, e3, e'⟩ := bnd e'
      refine qo ρ σ H Z (.v i) ρ1 _ s e1 fun v H1 Z1 s1 p1 r1 _ => ?_
      have hv : σ[i]? = some (some v) := r1
      obtain ⟨u, e4, cv⟩ := s1.at_ i (by rw [q1]; intro z; cases z)
      rw [hv] at e4
      cases e4
      rw [q1] at cv
      obtain ⟨a, ws1, rfl, h1, _, _, _⟩ := cv
      refine ⟨"list", id, r, alt, .inl ⟨rfl, ws1, .inl (.inl h1)⟩, ?_⟩
      refine qt ρ1 σ H1 Z1 os ρ2 _ s1 e2 fun vs H2 Z2 s2 p2 r2 => ?_
      obtain ⟨Z3, p3, s3, r3, z3, _, _⟩ := frzs_ok (p1.trans p2) s2 (r2.back fun a h => p1.none_ h) e3
      have e5 : (match cellAt ρ3 i with
            | .own xs => (mthOwn m xs ds).map fun w => (Od.t w.1, ρ3.set i (.own w.2))
            | _ => none) = some (od, ρ') := e'
      cases q3 : cellAt ρ3 i with
      | emp => rw [q3] at e5; cases e5
      | dat d => rw [q3] at e5; cases e5
      | dic kvs => rw [q3] at e5; cases e5
      | own xs =>
        rw [q3] at e5
        obtain ⟨⟨c, xs'⟩, e6, e7⟩ := mpd e5
        cases e7
        obtain ⟨u, e8, cv3⟩ := s3.at_ i (by rw [q3]; intro z; cases z)
        rw [hv] at e8
        cases e8
        rw [q3] at cv3
        obtain ⟨a', ws, ea, ha, nz, hl, rr⟩ := cv3
        cases ea
        refine ok e6 ha rr hl r3 fun u ws' rw' hl' ⟨d, ec, rd⟩ => ?_
        subst ec
        obtain ⟨p4, s4, kp, oq⟩ := wr_ok p3 s3 q3 hv rw' hl'
        exact k u _ Z3 s4 p4 ⟨Rl.keep kp d u rd, fun _ h => nomatch h⟩ fun _ h => nomatch h
end
end Lt

namespace Lt
open PySem L2 PySem.Spec PyProof.Rows
/-! ### count, index -/
def rCountD (K : PySem.W.Frag) (tp : Bool) : V → List V → Hp → VK → Prop := fun x xs H Q => ∃ (a : Addr) (y : V) (d : D) (ds : List D), x = .ref a ∧ xs = [y] ∧ Dp K H (.ref a) (if tp then .tuple ds else .list ds) ∧ Dp K H y d ∧
  PyData.plainAll ds = true ∧ d.plain = true ∧ PyData.depthAll ds ≤ 64 ∧ Q (.int (ds.countP fun z => PyData.eqv z d : Nat)) H
section
variable {X : Cx}
theorem mt_countD (hu : X.A.units + 65 < cLine) (tp : Bool) : MtR X (if tp then "tuple.count" else "list.count") (rCountD X.K tp) := by
  rintro pins s σ H x xs vx us Q inv relx rels ⟨a, y, d, ds, rfl, rfl, hl, hy, pl, pd, dp, q⟩
  cases relx
  obtain ⟨u, rfl, ru⟩ := rels.one
  obtain ⟨bs, ry⟩ := Dp.reads inv d y u hy ru
  have room : X.A.units + 1 + min (PyData.depthAll ds) d.depth < cLine := by
    have : min (PyData.depthAll ds) d.depth ≤ PyData.depthAll ds := Nat.min_le_left _ _
    omega
  cases tp with
  | true =>
    cases hl with
    | tup hs ha =>
      obtain ⟨its, rv, tpl, hlen⟩ := inv.tuple hs
      obtain ⟨as, rs⟩ := Dp.readsAll inv ds _ its ha rv
      exact SeqAt.count_tuple_data tpl rs ry pl pd room ⟨.int _, H, inv.tok _, ⟨_, rfl⟩, q⟩
  | false =>
    cases hl with
    | lst hs ha =>
      obtain ⟨its, rv, lst, hlen⟩ := inv.list hs
      obtain ⟨as, rs⟩ := Dp.readsAll inv ds _ its ha rv
      exact SeqAt.count_list_data lst.isList rs ry pl pd room ⟨.int _, H, inv.tok _, ⟨_, rfl⟩, q⟩
end
section
variable {K : PySem.W.Frag} {H : Hp} {Z : Addr → Prop}
theorem VwV.tyT {ds : List D} {v : V} (r : VwV K H Z (.tuple ds) v) : tyG K "tuple" v H := by
  obtain ⟨a, vs, rfl, l, _, _⟩ := (show Rl K H Z (.tuple ds) v from r)
  rcases l with ⟨⟨ob, h, hd⟩, _⟩ | ⟨o, its, n, h1, h2, h3, _⟩
  · exact .inr ⟨rfl, .inl ⟨ob, vs, h, hd⟩⟩
  · exact .inr ⟨rfl, .inr ⟨o, h1, h2, h3⟩⟩
theorem VwV.tyL {ds : List D} {v : V} (r : VwV K H Z (.list ds) v) : tyG K "list" v H := by
  obtain ⟨a, vs, rfl, l, _, _⟩ := r.lst
  exact .inl ⟨rfl, vs, .inl (.inl l)⟩
theorem plain_of_shaped {d : D} (h : SeqAt.shaped d = true) : d.plain = true := PyData.plain_of_canLay0 d (SeqAt.canLay_of_shaped h)
end
/-- a rule of a method that changes nothing: of a list, of a tuple -/
def MthOk (K : PySem.W.Frag) (m : Mf) (f : List D → D) (r : V → List V → Hp → VK → Prop) : Prop := ∀ {W : Addr → Prop} {H0 H : Hp} {Z0 Z : Addr → Prop} {ρ : Rho} {σ : L2.St} {Q : VK} {xs ds : List D} {v : V} {vs : List V} {c : Cell},
  mthD m (f xs) ds = some c → VwV K H Z (f xs) v → VwVs K H Z ds vs → Stp W (Ow ρ σ) H0 Z0 H Z → Sta K H Z ρ σ → Fin_ K W H0 Z0 ρ σ c Q → r v vs H Q
section
variable {X : Cx} {T : Tab} {a b c e o : Expr} {es : List Expr} {pos apos cpos : Pos} {name : Str}
theorem so_mth {m : Mf} (hm : isMut m = false) {idL idT : String} {rL rT : V → List V → Hp → VK → Prop} (aL : MtAlt X m.nm "list" idL rL) (okL : MthOk X.K m .list rL) (aT : ∀ xs ds c, mthD m (.tuple xs) ds = some c → MtAlt X m.nm "tuple" idT rT) (okT : MthOk X.K m .tuple rT)
    {ia : Ex} {is : Exs} (ho : SO X o (ev T ia)) (hs : SA X es (evs T is)) (pc : ∀ {to : TE} {t : TA}, PE X o to → PAn X es t → PE X (.Call (.Attribute o m.nm apos) es [] cpos) (tMG X m.nm to t)) :
    SO X (.Call (.Attribute o m.nm apos) es [] cpos) (ev T (.mth m ia is)) := by
  obtain ⟨to, po, qo⟩ := ho
  obtain ⟨t, pt, qt⟩ := hs
  refine ⟨_, pc po pt, fun ρ σ H Z od ρ' Q s e k => ?_⟩
  obtain ⟨⟨x, ρ1⟩, e1, e⟩ := bnd (show (ev T ia ρ).bind _ = some _ from e)
  rw [if_neg (by rw [hm]; exact Bool.false_ne_true)] at e
  obtain ⟨x0, e2, e⟩ := bnd e
  refine qo ρ σ H Z x ρ1 _ s e1 fun v H1 Z1 s1 p1 r1 _ => ?_
  have r10 := r1.vw s1 e2
  cases x0 <;> (try cases e)
  · rename_i xs0
    have e' : ((evs T is ρ1).bind fun q => (lookD q.2 x).bind fun x => (match x with
          | .list xs => (lookDs q.2 q.1).bind fun vs => (mthD m (.list xs) vs).map fun c => (Od.t c, q.2)
          | _ => none)) = some (od, ρ') := e
    clear e
    obtain ⟨⟨os, ρ2⟩, e3, e⟩ := bnd e'
    clear e'
    obtain ⟨x1, e4, e⟩ := bnd e
    cases x1 <;> (try cases e)
    rename_i xs
    obtain ⟨ds, e5, e⟩ := bnd (show (lookDs _ os).bind _ = some _ from e)
    obtain ⟨c, e6, e⟩ := mpd e
    cases e
    refine ⟨"list", idL, rL, aL, r10.tyL, ?_⟩
    refine qt ρ1 σ H1 Z1 os ρ2 _ s1 e3 fun vs H2 Z2 s2 p2 r2 => ?_
    exact okL e6 ((r1.stp s1 p2).vw s2 e4) (r2.vws s2 e5) (p1.trans p2) s2 (Fin_.of k)
  · rename_i xs0
    have e' : ((evs T is ρ1).bind fun q => (lookD q.2 x).bind fun x => (match x with
          | .tuple xs => (lookDs q.2 q.1).bind fun vs => (mthD m (.tuple xs) vs).map fun c => (Od.t c, q.2)
          | _ => none)) = some (od, ρ') := e
    clear e
    obtain ⟨⟨os, ρ2⟩, e3, e⟩ := bnd e'
    clear e'
    obtain ⟨x1, e4, e⟩ := bnd e
    cases x1 <;> (try cases e)
    rename_i xs
    obtain ⟨ds, e5, e⟩ := bnd (show (lookDs _ os).bind _ = some _ from e)
    obtain ⟨c, e6, e⟩ := mpd e
    cases e
    refine ⟨"tuple", idT, rT, aT _ _ _ e6, r10.tyT, ?_⟩
    refine qt ρ1 σ H1 Z1 os ρ2 _ s1 e3 fun vs H2 Z2 s2 p2 r2 => ?_
    exact okT e6 ((r1.stp s1 p2).vw s2 e4) (r2.vws s2 e5) (p1.trans p2) s2 (Fin_.of k)
theorem cntL {K : PySem.W.Frag} : MthOk K .count .list (rCountD K false) := by
  intro W H0 H Z0 Z ρ σ Q xs ds v vs c e rx rd p s f
  match ds, e, rd with
  | [d], e, rd =>
    obtain ⟨w, rfl, rw'⟩ := vw1 rd
    have e7 : (if (SeqAt.shaped (.list xs) && SeqAt.shaped d) = true then some (Cell.dat (.int (xs.countP fun z => PyData.eqv z d : Nat))) else none) = some c := e
    by_cases hc : (SeqAt.shaped (.list xs) && SeqAt.shaped d) = true
    · rw [if_pos hc] at e7
      cases e7
      rw [Bool.and_eq_true] at hc
      have hp := plain_of_shaped hc.1
      have hd := SeqAt.depth_of_shaped hc.1
      obtain ⟨a, ws, rfl, _⟩ := rx.lst
      exact ⟨a, w, d, xs, rfl, rfl, rx.dp hc.1, rw'.dp hc.2, by simpa [PyData.plain] using hp, plain_of_shaped hc.2, by simp only [PyData.depth] at hd; omega, f.same p s rfl⟩
    · rw [if_neg hc] at e7; cases e7
  | [], e, _ => cases (show none = some c from e)
  | _ :: _ :: _, e, _ => cases (show none = some c from e)
theorem cntT {K : PySem.W.Frag} : MthOk K .count .tuple (rCountD K true) := by
  intro W H0 H Z0 Z ρ σ Q xs ds v vs c e rx rd p s f
  match ds, e, rd with
  | [d], e, rd =>
    obtain ⟨w, rfl, rw'⟩ := vw1 rd
    have e7 : (if (SeqAt.shaped (.tuple xs) && SeqAt.shaped d) = true then some (Cell.dat (.int (xs.countP fun z => PyData.eqv z d : Nat))) else none) = some c := e
    by_cases hc : (SeqAt.shaped (.tuple xs) && SeqAt.shaped d) = true
    · rw [if_pos hc] at e7
      cases e7
      rw [Bool.and_eq_true] at hc
      have hp := plain_of_shaped hc.1
      have hd := SeqAt.depth_of_shaped hc.1
      obtain ⟨a, ws, e0, _⟩ := rx.tup
      subst e0
      exact ⟨a, w, d, xs, rfl, rfl, rx.dp hc.1, rw'.dp hc.2, by simpa [PyData.plain] using hp, plain_of_shaped hc.2, by simp only [PyData.depth] at hd; omega, f.same p s rfl⟩
    · rw [if_neg hc] at e7; cases e7
  | [], e, _ => cases (show none = some c from e)
  | _ :: _ :: _, e, _ => cases (show none = some c from e)
theorem ixL {K : PySem.W.Frag} : MthOk K .index .list (rIndexD K) := by
  intro W H0 H Z0 Z ρ σ Q xs ds v vs c e rx rd p s f
  match ds, e, rd with
  | [d], e, rd =>
    obtain ⟨w, rfl, rw'⟩ := vw1 rd
    have e7 : (if (SeqAt.shaped (.list xs) && SeqAt.shaped d) = true then (xs.findIdx? fun z => PyData.eqv z d).map fun j : Nat => Cell.dat (.int (j : Nat)) else none) = some c := e
    by_cases hc : (SeqAt.shaped (.list xs) && SeqAt.shaped d) = true
    · rw [if_pos hc] at e7
      obtain ⟨j, e8, e9⟩ := mpd e7
      subst e9
      rw [Bool.and_eq_true] at hc
      obtain ⟨a, ws, e0, _⟩ := rx.lst
      subst e0
      obtain ⟨h1, h2, h3⟩ := List.findIdx?_eq_some_iff_getElem.mp e8
      refine ⟨a, w, d, xs, j, xs[j], rfl, rfl, rx.dp hc.1, rw'.dp hc.2, hc.1, hc.2, List.getElem?_eq_getElem h1, h2, fun m z' hm hz => ?_, f.same p s rfl⟩
      obtain ⟨h4, h5⟩ := List.getElem?_eq_some_iff.mp hz
      rw [← h5]
      simpa using h3 m hm
    · rw [if_neg hc] at e7; cases e7
  | [], e, _ => cases (show none = some c from e)
  | _ :: _ :: _, e, _ => cases (show none = some c from e)
theorem so_cnt (hu : X.A.units + 65 < cLine) {ia : Ex} {is : Exs} (ho : SO X o (ev T ia)) (hs : SA X es (evs T is)) (pc : ∀ {to : TE} {t : TA}, PE X o to → PAn X es t → PE X (.Call (.Attribute o Mf.count.nm apos) es [] cpos) (tMG X Mf.count.nm to t)) :
    SO X (.Call (.Attribute o Mf.count.nm apos) es [] cpos) (ev T (.mth .count ia is)) :=
  so_mth (m := .count) rfl ⟨F.plainAttrs_list, F.slot_list_count, F.type_list_count, mt_countD hu false⟩ cntL (fun _ _ _ _ => ⟨F.plainAttrs_tuple, F.slot_tuple_count, F.type_tuple_count, mt_countD hu true⟩) cntT ho hs pc
theorem so_ind (hu : X.A.units + 65 < cLine) {ia : Ex} {is : Exs} (ho : SO X o (ev T ia)) (hs : SA X es (evs T is)) (pc : ∀ {to : TE} {t : TA}, PE X o to → PAn X es t → PE X (.Call (.Attribute o Mf.index.nm apos) es [] cpos) (tMG X Mf.index.nm to t)) :
    SO X (.Call (.Attribute o Mf.index.nm apos) es [] cpos) (ev T (.mth .index ia is)) :=
  so_mth (m := .index) (idT := "") (rT := fun _ _ _ _ => False) rfl ⟨F.plainAttrs_list, F.slot_list_index, F.type_list_index, mt_indexD hu⟩ ixL (fun xs ds c e => by
    match ds, e with
    | [], e | [_], e | _ :: _ :: _, e => cases (show none = some c from e)) (fun {W H0 H Z0 Z ρ σ Q xs ds v vs c} e => by
    match ds, e with
    | [], e | [_], e | _ :: _ :: _, e => cases (show none = some c from e)) ho hs pc

/-! ### isinstance -/
theorem kitT (u t : String) (hu : u ∈ ["NoneType", "bool", "int", "str", "list", "tuple"]) (ht : t = "int" ∨ t = "bool" ∨ t = "str" ∨ t = "list" ∨ t = "tuple") : kitB u t = some (isiT u t) := by
  simp only [List.mem_cons, List.not_mem_nil, or_false] at hu
  rcases hu with h | h | h | h | h | h <;> subst h <;> (rcases ht with h | h | h | h | h <;> subst h <;> decide +kernel)
theorem isiOne_ok (d : D) (t : String) (ht : (t == "int" || t == "bool" || t == "str" || t == "list" || t == "tuple") = true) {K : PySem.W.Frag} {H : Hp} {Z : Addr → Prop} {v : V} (r : VwV K H Z d v) (hd : ∀ kvs, d ≠ .dict kvs) :
    ∃ u, TyX K H v (.type u) ∧ PySem.W.kitOne K (.type u) (.type t) = some (isiOne d t) := by
  have ht' : t = "int" ∨ t = "bool" ∨ t = "str" ∨ t = "list" ∨ t = "tuple" := by
    simp only [Bool.or_eq_true, beq_iff_eq] at ht
    rcases ht with (((h | h) | h) | h) | h
    · exact .inl h
    · exact .inr (.inl h)
    · exact .inr (.inr (.inl h))
    · exact .inr (.inr (.inr (.inl h)))
    · exact .inr (.inr (.inr (.inr h)))
  cases d with
  | none =>
    cases (show v = _ from r)
    exact ⟨_, .base .non, kit_ty (kitT _ t (by simp) ht')⟩
  | bool b =>
    cases (show v = _ from r)
    exact ⟨_, .base (.bl b), kit_ty (kitT _ t (by simp) ht')⟩
  | int i =>
    cases (show v = _ from r)
    exact ⟨_, .base (.int i), kit_ty (kitT _ t (by simp) ht')⟩
  | str x =>
    cases (show v = _ from r)
    exact ⟨_, .base (.str x), kit_ty (kitT _ t (by simp) ht')⟩
  | list ds =>
    obtain ⟨a, vs, rfl, h, _⟩ := r.lst
    exact ⟨_, .base (.lst h), kit_ty (kitT _ t (by simp) ht')⟩
  | tuple ds =>
    obtain ⟨a, vs, rfl, l, _, _⟩ := (show Rl K H Z (.tuple ds) v from r)
    rcases l with ⟨⟨ob, h, _⟩, _⟩ | ⟨o, its, n, h1, h2, _⟩
    · exact ⟨_, .fTuple h, kit_ty (kitT _ t (by simp) ht')⟩
    · exact ⟨_, .kTuple h1 h2, kit_ty (kitT _ t (by simp) ht')⟩
  | dict kvs => exact absurd rfl (hd kvs)
end
end Lt

namespace Lt
open PySem L2 PySem.Spec PyProof.Rows
section
variable {X : Cx} {T : Tab} {a b c e o : Expr} {es : List Expr} {pos apos cpos : Pos} {name : Str}
/-- one name of a built-in type -/
structure TyNm (X : Cx) (x : Str) (t : String) : Prop where
  gl : Gl X x
  mg : X.mg x = none
  bt : bootBuiltins x = some (.type t)
  ok : (t == "int" || t == "bool" || t == "str" || t == "list" || t == "tuple") = true
  nn : x ≠ "__name__"
  nd : (x == ("__debug__" : Str)) = false
theorem TyNm.pe {x : Str} {t : String} (h : TyNm X x t) : PE X (.Name x pos) (tC (.ty t)) := pe_bltn h.gl h.mg h.bt rfl h.nn h.nd
theorem star_cons {e : Expr} {es : List Expr} {env : Env} (h : ∀ v p, e ≠ .Starred v p) : starEach (e :: es) env = (false, eval e env) :: starEach es env := by
  cases e <;> first | rfl | exact absurd rfl (h _ _)
theorem isi_kit {K : PySem.W.Frag} {u : String} {d : D} : ∀ {ts : List String}, (∀ t ∈ ts, PySem.W.kitOne K (.type u) (.type t) = some (isiOne d t)) → PySem.W.kitAny K (.type u) (ts.map Value.type) = some (ts.any (isiOne d))
  | [], _ => kitAny_nil
  | t :: ts, h => by
    have h1 := h t (by simp)
    have h2 := isi_kit (ts := ts) fun t' ht => h t' (by simp [ht])
    refine kitAny_cons h1 (fun hb => ?_) fun hb => ?_
    · rw [h2, List.any_cons, hb, Bool.false_or]
    · rw [List.any_cons, hb, Bool.true_or]
theorem notD {f : D → Bool} {d : D} {od : Od} {ρ1 ρ' : Rho} (e : (match d with
      | .dict _ => none
      | x => some (Od.t (.dat (.bool (f x))), ρ1)) = some (od, ρ')) : (∀ kvs, d ≠ .dict kvs) ∧ od = .t (.dat (.bool (f d))) ∧ ρ' = ρ1 := by
  cases d <;> (try (cases e)) <;> exact ⟨fun _ z => (nomatch z), rfl, rfl⟩
theorem so_isi1 {x : Str} {t : String} {p q : Pos} {ia : Ex} (ht : TyNm X x t) (hg : Gl X "isinstance") (hm : X.mg "isinstance" = none) (ha : SO X a (ev T ia)) (hs : ∀ v p, a ≠ .Starred v p) :
    SO X (.Call (.Name "isinstance" p) [a, .Name x q] [] pos) (ev T (.isi ia [t])) := by
  obtain ⟨ta, pa, qa⟩ := ha
  have s1 : starEach [a, .Name x q] X.env = (false, eval a X.env) :: starEach [.Name x q] X.env := star_cons hs
  have args : PA X [a, .Name x q] (tCons ta (tCons (tC (.ty t)) tNil)) := pa_cons pa (pa_cons ht.pe pa_nil rfl) s1
  refine ⟨_, pe_callB call_isi hg hm PyProof.Rows.boot_isinstance args (by decide) (by decide) s1 (by rfl), fun ρ σ H Z od ρ' Q s e k => ?_⟩
  have hok : isiOk [t] = true := by
    unfold isiOk
    rw [List.all_cons, List.all_nil, Bool.and_true]
    exact ht.ok
  have e0 : (if isiOk [t] = true then _ else none) = some (od, ρ') := e
  rw [if_pos hok] at e0
  obtain ⟨⟨y, ρ1⟩, e1, e⟩ := bnd e0
  obtain ⟨d, e2, e⟩ := bnd e
  obtain ⟨hd, rfl, rfl⟩ := notD (f := fun x => [t].any (isiOne x)) e
  refine qa ρ σ H Z y _ _ s e1 fun v H1 Z1 s1 p1 r1 _ => ?_
  obtain ⟨u, ty, kt⟩ := isiOne_ok d t ht.ok (r1.vw s1 e2) hd
  refine ⟨v, .ty t, .type u, .type t, isiOne d t, rfl, .ty t, ty, kt, ?_⟩
  have f := (Fin_.of k).same p1 s1 (u := .bl (isiOne d t)) (show Rl X.K H1 Z1 (.bool ([t].any (isiOne d))) _ from by rw [List.any_cons, List.any_nil, Bool.or_false]; rfl)
  exact f
theorem pa_types : ∀ {xs : List (Str × Pos × String)}, (∀ q ∈ xs, TyNm X q.1 q.2.2) → ∃ t, PA X (xs.map fun q => .Name q.1 q.2.1) t ∧ ∀ σ H Q, Q (xs.map fun q => V.ty q.2.2) H → t σ H Q
  | [], _ => ⟨tNil, pa_nil, fun _ _ _ q => q⟩
  | (x, p, t) :: xs, h => by
    obtain ⟨tr, pr, qr⟩ := pa_types (xs := xs) fun q hq => h q (by simp [hq])
    exact ⟨_, pa_cons (h _ (by simp)).pe pr rfl, fun σ H Q q => qr σ H _ q⟩
theorem clsV_all : ∀ ts : List String, Paired ClsV (ts.map V.ty) (ts.map Value.type)
  | [] => .nil
  | t :: ts => .cons (.ty t) (clsV_all ts)
theorem so_isiN {xs : List (Str × Pos × String)} {p : Pos} {k0 pt} {ia : Ex} (ht : ∀ q ∈ xs, TyNm X q.1 q.2.2) (hl : xs.length ≤ 10) (hg : Gl X "isinstance") (hm : X.mg "isinstance" = none) (ha : SO X a (ev T ia)) (hs : ∀ v p, a ≠ .Starred v p) :
    SO X (.Call (.Name "isinstance" p) [a, .Tuple (xs.map fun q => .Name q.1 q.2.1) k0 pt] [] pos) (ev T (.isi ia (xs.map (·.2.2)))) := by
  obtain ⟨ta, pa, qa⟩ := ha
  obtain ⟨tt, pt', qt⟩ := pa_types ht
  have s1 : starEach [a, .Tuple (xs.map fun q => .Name q.1 q.2.1) k0 pt] X.env = (false, eval a X.env) :: starEach [.Tuple (xs.map fun q => .Name q.1 q.2.1) k0 pt] X.env := star_cons hs
  have args := pa_cons pa (pa_cons (pe_tup (pos := pt) (x1 := k0) pt') pa_nil rfl) s1
  refine ⟨_, pe_callB call_isiT hg hm PyProof.Rows.boot_isinstance args (by decide) (by decide) s1 (by rfl), fun ρ σ H Z od ρ' Q s e k => ?_⟩
  have hok : isiOk (xs.map (·.2.2)) = true := by
    unfold isiOk
    rw [List.all_map, List.all_eq_true]
    exact fun q hq => (ht q hq).ok
  have e0 : (if isiOk (xs.map (·.2.2)) = true then _ else none) = some (od, ρ') := e
  rw [if_pos hok] at e0
  obtain ⟨⟨y, ρ1⟩, e1, e⟩ := bnd e0
  obtain ⟨d, e2, e⟩ := bnd e
  obtain ⟨hd, rfl, rfl⟩ := notD (f := fun x => (xs.map (·.2.2)).any (isiOne x)) e
  refine qa ρ σ H Z y _ _ s e1 fun v H1 Z1 s1 p1 r1 _ => ?_
  refine qt σ H1 _ ?_
  have hsz : (10 : Nat) ≤ sizeLine := by rw [sizeLine_eq]; decide
  refine ⟨by rw [List.length_map]; omega, fun tp hn => ?_⟩
  have rd := r1.vw s1 e2
  obtain ⟨p2, s2, kp, _⟩ := alloc p1 s1 hn (.tup (xs.map fun q => V.ty q.2.2)) False
  have fin : Q (.bl ((xs.map (·.2.2)).any (isiOne d))) (upd H1 tp (.tup (xs.map fun q => V.ty q.2.2))) := (Fin_.of k).same p2 s2 rfl
  -- the view of the value stays
  have rd2 : VwV X.K (upd H1 tp (.tup (xs.map fun q => V.ty q.2.2))) (fun x => Z1 x ∨ (False ∧ x = tp)) d v := by
    cases d with
    | list ds =>
      rcases rd with rd | ⟨a', vs, e3, h3, h4, h5⟩
      · exact .inl (Rl.keep kp _ v rd)
      · exact .inr ⟨a', vs, e3, by rw [upd_ne (ne_of_none h3 hn)]; exact h3, h4, Rls.keep kp ds vs h5⟩
    | _ => exact Rl.keep kp _ v rd
  have hex : ∃ u, TyX X.K (upd H1 tp (.tup (xs.map fun q => V.ty q.2.2))) v (.type u) ∧ ∀ t ∈ xs.map (·.2.2), PySem.W.kitOne X.K (.type u) (.type t) = some (isiOne d t) := by
    obtain ⟨u0, ty0, _⟩ := isiOne_ok d "int" (by decide) rd2 hd
    refine ⟨tyName d, ?_, fun t htm => ?_⟩
    · have : ∀ u1, TyX X.K (upd H1 tp (.tup (xs.map fun q => V.ty q.2.2))) v (.type u1) → u1 = tyName d → TyX X.K (upd H1 tp (.tup (xs.map fun q => V.ty q.2.2))) v (.type (tyName d)) := fun u1 h q => q ▸ h
      cases d with
      | none => cases (show v = _ from rd2); exact .base .non
      | bool b => cases (show v = _ from rd2); exact .base (.bl b)
      | int i => cases (show v = _ from rd2); exact .base (.int i)
      | str x => cases (show v = _ from rd2); exact .base (.str x)
      | list ds => obtain ⟨a', vs, rfl, h', _⟩ := rd2.lst; exact .base (.lst h')
      | tuple ds =>
        obtain ⟨a', vs, rfl, l, _, _⟩ := (show Rl X.K _ _ (.tuple ds) v from rd2)
        rcases l with ⟨⟨ob, h', _⟩, _⟩ | ⟨o', its, n, h1, h2, _⟩
        · exact .fTuple h'
        · exact .kTuple h1 h2
      | dict kvs => exact absurd rfl (hd kvs)
    · obtain ⟨q, hq, rfl⟩ := List.mem_map.mp htm
      have ok := (ht q hq).ok
      have ht5 : q.2.2 = "int" ∨ q.2.2 = "bool" ∨ q.2.2 = "str" ∨ q.2.2 = "list" ∨ q.2.2 = "tuple" := by
        simp only [Bool.or_eq_true, beq_iff_eq] at ok
        rcases ok with (((h | h) | h) | h) | h
        · exact .inl h
        · exact .inr (.inl h)
        · exact .inr (.inr (.inl h))
        · exact .inr (.inr (.inr (.inl h)))
        · exact .inr (.inr (.inr (.inr h)))
      exact kit_ty (kitT _ _ (by cases d <;> first | exact absurd rfl (hd _) | simp [tyName]) ht5)
  obtain ⟨u, ty, kt⟩ := hex
  refine ⟨v, tp, _, .type u, (xs.map (·.2.2)).map Value.type, _, rfl, upd_same, ?_, ty, isi_kit kt, fin⟩
  have := clsV_all (xs.map (·.2.2))
  rw [List.map_map] at this
  exact this
end
end Lt

/-! Lt: sorted of a list of data. -/
namespace Lt
open PySem L2 PySem.Spec PyProof.Rows
/-- values with the data that they stand for -/
abbrev PV := V × D
def leP : PV → PV → Bool := fun a b => !PySem.W.dataLt b.2 a.2
def rSortedD (K : PySem.W.Frag) : List V → Hp → VK → Prop := fun xs H Q => ∃ (a : Addr) (ps : List PV), xs = [.ref a] ∧ SqL K H a (ps.map (·.1)) ∧ (∀ p ∈ ps, Dp K H p.1 p.2) ∧ sortOk (ps.map (·.2)) = true ∧
  ∀ l, H l = none → Q (.ref l) (upd H l (.lst ((ps.mergeSort leP).map (·.1))))
section
variable {X : Cx}
theorem each_of {α β : Type} {R : α → β → Prop} : ∀ {as : List α} {bs : List β}, as.length = bs.length → (∀ (i : Nat) (a : α) (b : β), as[i]? = some a → bs[i]? = some b → R a b) → PySem.W.EachIs R as bs
  | [], [], _, _ => .nil
  | [], _ :: _, h, _ => by cases h
  | _ :: _, [], h, _ => by cases h
  | a :: as, b :: bs, h, k => .cons (k 0 a b rfl rfl) (each_of (by simpa using h) fun i x y hx hy => k (i + 1) x y hx hy)
theorem vals_of_each : ∀ {us : List Value} {ps : List PV}, PySem.W.EachIs (fun u p => RelV p.1 u) us ps → Vals (ps.map (·.1)) us
  | _, _, .nil => .nil
  | _, _, .cons h r => .cons h (vals_of_each r)
theorem cr_sortedD (hu : X.A.units + 65 < cLine) : CallR X (.builtin "sorted") (rSortedD X.K) := by
  intro pins s σ H vs us Q I r h
  obtain ⟨a, ps, rfl, hs, hd, hok, q⟩ := h
  obtain ⟨its, rv, hl, hz⟩ := I.list hs
  obtain ⟨u, rfl, ru⟩ := vals1 r
  obtain rfl : u = Value.ref a := ru
  have hlen : its.length = ps.length := by
    have := rv.length
    rw [List.length_map] at this
    omega
  have at_ : ∀ (i : Nat) (u : Value) (p : PV), its[i]? = some u → ps[i]? = some p → RelV p.1 u := fun i u p h1 h2 => by
    obtain ⟨u', h3, h4⟩ := rv.get (i := i) (x := p.1) (by rw [List.getElem?_map, h2]; rfl)
    rw [h1] at h3
    cases h3
    exact h4
  unfold sortOk at hok
  simp only [Bool.and_eq_true, List.all_eq_true, decide_eq_true_eq, Bool.or_eq_true] at hok
  obtain ⟨h1, h2, h3, h4⟩ := hok
  refine PySem.W.sorted_data (R := fun u p => RelV p.1 u) (enc := fun p : PV => p.2) (vs := its) (bs := ps) hl.isList (each_of hlen at_) (each_of hlen fun i u p h5 h6 => ?_) (fun d hd' d' hd'' => h1 d hd' d' hd'') ?_ (by rw [List.length_map] at h4; rw [sizeLine_eq]; exact h4) (fun p hp => ?_) fun out hol hout => ?_
  · have hp := List.mem_of_getElem? h6
    exact Dp.reads I p.2 p.1 u (hd p hp) (at_ i u p h5 h6)
  · rcases h3 with h3 | h3
    · refine .inl fun d hd' => ?_
      have := h3 d hd'
      unfold isT1 at this
      split at this
      · exact ⟨_, _, rfl⟩
      · cases this
    · refine .inr fun d hd' => ?_
      have := h3 d hd'
      refine ⟨fun z => ?_, fun xs z => ?_⟩ <;> rw [z] at this <;> cases this
  · have := (h2 p.2 (List.mem_map.mpr ⟨p, hp, rfl⟩)).2
    have : p.2.depth ≤ 60 := this
    show X.A.units + 2 + p.2.depth < cLine
    omega
  · obtain ⟨e, he⟩ := sortedAll_at s.heap its out.toArray
    have hp : (ps.mergeSort leP).length = ps.length := List.length_mergeSort ps
    have fr : H (s.heap.objs.size + 1) = none := I.hok.fresh (Nat.le_succ _)
    refine ⟨.ref (s.heap.objs.size + 1), upd H (s.heap.objs.size + 1) (.lst ((ps.mergeSort leP).map (·.1))), I.laid (t' := s.toks) (fun b o q => sortedAll_old q) (Nat.le_succ _) ⟨?_, out, e, vals_of_each hout, he⟩, rfl, q _ fr⟩
    rw [List.length_map, hp]
    rw [List.length_map] at h4
    rw [sizeLine_eq]; exact h4
end
theorem zip_fst : ∀ {vs : List V} {ds : List D}, vs.length = ds.length → (vs.zip ds).map (·.1) = vs
  | [], [], _ => rfl
  | [], _ :: _, h => by cases h
  | _ :: _, [], h => by cases h
  | v :: vs, d :: ds, h => by rw [List.zip_cons_cons, List.map_cons, zip_fst (by simpa using h)]
theorem zip_snd : ∀ {vs : List V} {ds : List D}, vs.length = ds.length → (vs.zip ds).map (·.2) = ds
  | [], [], _ => rfl
  | [], _ :: _, h => by cases h
  | _ :: _, [], h => by cases h
  | v :: vs, d :: ds, h => by rw [List.zip_cons_cons, List.map_cons, zip_snd (by simpa using h)]
section
variable {K : PySem.W.Frag} {H : Hp} {Z : Addr → Prop}
theorem Rls.zip : ∀ {ds : List D} {vs : List V}, Rls K H Z ds vs → ∀ p ∈ vs.zip ds, Rl K H Z p.2 p.1
  | [], _, r, p, hp => by
    cases (show _ = [] from r)
    cases hp
  | d :: ds, _, ⟨v, r, e, h1, h2⟩, p, hp => by
    subst e
    rw [List.zip_cons_cons] at hp
    rcases List.mem_cons.mp hp with rfl | hp
    · exact h1
    · exact Rls.zip h2 p hp
theorem Rls.pairs : ∀ {ps : List PV}, (∀ p ∈ ps, Rl K H Z p.2 p.1) → Rls K H Z (ps.map (·.2)) (ps.map (·.1))
  | [], _ => Rls.nil
  | p :: ps, h => Rls.cons (h p (by simp)) (Rls.pairs fun q hq => h q (by simp [hq]))
theorem sortD_pairs {ps : List PV} : (ps.mergeSort leP).map (·.2) = sortD (ps.map (·.2)) := by
  unfold sortD
  exact List.map_mergeSort fun a _ b _ => rfl
theorem blt_sorted : BltOk K .sorted (rSortedD K) := by
  intro W H0 H Z0 Z ρ σ Q ds vs c e r p s f
  match ds, e, r with
  | [.list xs], e, r =>
    have e' : (if sortOk xs = true then some (Cell.own (sortD xs)) else none) = some c := e
    by_cases hk : sortOk xs = true
    · rw [if_pos hk] at e'
      cases e'
      obtain ⟨v, rfl, rv⟩ := vw1 r
      obtain ⟨a, ws, rfl, h, hl, rr⟩ := rv.lst
      have hlen := rr.length
      refine ⟨a, ws.zip xs, rfl, .inl (.inl (by rw [zip_fst hlen]; exact h)), fun p hp => ?_, by rw [zip_snd hlen]; exact hk, ?_⟩
      · refine Rl.dp p.2 p.1 ?_ (rr.zip p hp)
        unfold sortOk at hk
        simp only [Bool.and_eq_true, List.all_eq_true] at hk
        have hm : p.2 ∈ xs := by
          rw [← zip_snd hlen]
          exact List.mem_map.mpr ⟨p, hp, rfl⟩
        exact SeqAt.canLay_of_shaped (hk.2.1 p.2 hm).1
      · have rs := Rls.pairs (K := K) (H := H) (Z := Z) (ps := (ws.zip xs).mergeSort leP) fun p hp => rr.zip p ((List.mergeSort_perm _ _).mem_iff.mp hp)
        rw [sortD_pairs, zip_snd hlen] at rs
        exact f.lst p s rs (by unfold sortD; rw [List.length_mergeSort]; exact hl)
    · rw [if_neg hk] at e'; cases e'
  | [.tuple _], e, _ | [.dict _], e, _ | [.none], e, _ | [.bool _], e, _ | [.int _], e, _ | [.str _], e, _ | [], e, _ => cases (show none = some c from e)
  | _ :: _ :: _, e, _ => exact absurd e (by simp [bltD])
end
end Lt

/-! Lt: sorted, list, len of a dict. -/
namespace Lt
open PySem L2 PySem.Spec PyProof.Rows
section
variable {prog : Program} {w : World} {A : Around} {E : Value → Shared → Prop} {s : Shared} {T : String} {r d : Addr} {n : Nat} {P : Nat → Value → Prop} {OK : Heap → Prop}
/-- what collect does with its list -/
def collR (prog : Program) (w : World) (A : Around) (Q : List Value → Shared → Prop) (E : Value → Shared → Prop) : Result → Shared → Prop := fun r s' => match r with
  | .ok (.ret v) => wpAny (model prog w) A (match v with
    | .ref a => do
      match (← load a).data with
      | .seq xs _ => pure xs.toList
      | _ => unsupported "internal:collect"
    | _ => unsupported "internal:collect") Q E s'
  | .ok _ => False
  | .error e => E e s'
theorem collect_kdl {Q : List Value → Shared → Prop} (K : PySem.W.KdlSrc prog w T r d n P OK) (hh : A.handled = none) (hok : OK s.heap) (hn : n ≤ sizeLine)
    (hQ : ∀ h' tk vs, s.heap.objs.size ≤ h'.objs.size → (∀ b o, s.heap.get? b = some o → h'.get? b = some o) → ItemsOf P vs.toArray n → Q vs { s with heap := h', toks := tk }) :
    wpAny (model prog w) A (collect (.ref r)) Q E s := by
  have hlt := K.there _ hok
  have hS : (s.heap.push (seqObj "list" #[] 0)).get? s.heap.objs.size = some (seqObj "list" #[] 0) := Heap.get?_push_size _ rfl
  have hok1 : OK (s.heap.push (seqObj "list" #[] 0)) := K.keep _ _ hok fun b _ o e => Heap.get?_push_of_some _ e
  unfold collect
  refine wpAny_bind (wpAny_runValue (codeAny_builtin PySem.F.entry_proto_collect ?_))
  rw [Around.under_plainId PySem.F.plain_proto_collect _]
  show wpAny _ A.in1 (newList [] >>= fun l => again (.builtin "list.__iadd__" ⟨[l, .ref r], []⟩)) _ _ s
  refine wpAny_bind (wpAny_newObj_type ?_)
  refine wpAny_pure ⟨plainId_quiet PySem.F.plain_list_iadd _, codeAny_builtin PySem.F.entry_list_iadd ?_⟩
  rw [Around.under_plainId PySem.F.plain_list_iadd _]
  show wpAny _ A.in1 (Builtin.List.listExtendWith (.ref s.heap.objs.size) (.ref r) (.ref s.heap.objs.size)) _ _ { s with heap := s.heap.push (seqObj "list" #[] 0) }
  refine PySem.W.kdl_extend (R := collR prog w A Q E) (s := { s with heap := s.heap.push (seqObj "list" #[] 0) }) K hh hok1 s.heap.objs.size (Nat.ne_of_gt hlt.1) (Nat.ne_of_gt hlt.2) (.ref s.heap.objs.size) 0 hS (fun h' tk acc' c' hk hS' hacc => ?_) hn
  show wpAny (model prog w) A (do
      let o ← load s.heap.objs.size
      match o.data with
      | .seq xs _ => pure xs.toList
      | _ => unsupported "internal:collect") Q E { s with heap := h', toks := tk }
  refine wpAny_bind (wpAny_load hS' ?_)
  show wpAny _ _ (pure acc'.toList) Q E _
  exact wpAny_pure (hQ h' tk acc'.toList (Nat.le_of_lt (Heap.lt_size hS')) (fun b o q => hk b o (Nat.ne_of_lt (Heap.lt_size q)) (Heap.get?_push_of_some _ q)) (by simpa using hacc))
theorem sorted_kdl {Q : Value → Shared → Prop} {bs : List PV} {R : Value → PV → Prop} (K : PySem.W.KdlSrc prog w T r d n P OK) (hh : A.handled = none) (hok : OK s.heap) (hn : n ≤ sizeLine) (hb : bs.length = n)
    (er : ∀ vs : List Value, ItemsOf P vs.toArray n → PySem.W.EachIs R vs bs ∧ PySem.W.EachIs (fun v b => ∃ as, Reads s.heap v b.2 as) vs bs) (hal : PySem.W.AllAlike (bs.map (·.2))) (hk : PySem.W.Sortable (bs.map (·.2))) (hu : ∀ b, b ∈ bs → A.units + 2 + b.2.depth < cLine)
    (h : ∀ (h1 h2 : Heap) (tk : Nat) (a : Addr) (out : List Value) (e : Nat), s.heap.objs.size ≤ h1.objs.size → (∀ b o, s.heap.get? b = some o → h1.get? b = some o) → (∀ b o, h1.get? b = some o → h2.get? b = some o) → h1.objs.size ≤ a → h2.get? a = some (seqObj "list" (List.toArray out) e) → PySem.W.EachIs R out (bs.mergeSort leP) → Q (.ref a) { s with heap := h2, toks := tk }) :
    wpAny (model prog w) A (call (.builtin "sorted") [.ref r]) Q E s := by
  refine Calls.call_function_entry kind_sorted plain_sorted entry_sorted (args_sorted1 _) ?_
  unfold Builtin.«sorted»
  refine wpAny_bind (m := checkCount "sorted" 1 1 _) (wpAny_pure ?_)
  refine wpAny_bind (collect_kdl K hh hok hn fun h' tk vs hle kp hi => ?_)
  obtain ⟨e1, e2⟩ := er vs hi
  have hv : vs.length = n := by simpa using hi.1
  refine wpAny_bind (wpAny_newList ?_ (by omega))
  have ho : (h'.push (seqObj "list" vs.toArray 0)).get? h'.objs.size = some (seqObj "list" vs.toArray 0) := Heap.get?_push_size _ rfl
  have old : ∀ b o, s.heap.get? b = some o → (PySem.W.sortingHeap (h'.push (seqObj "list" vs.toArray 0)) h'.objs.size vs).get? b = some o := fun b o q =>
    PySem.W.sortingHeap_old (Nat.ne_of_lt (Heap.lt_size (kp b o q))) (Heap.get?_push_of_some _ (kp b o q))
  have er' : PySem.W.EachIs (fun v (b : PV) => ∃ as, Reads (PySem.W.sortingHeap (h'.push (seqObj "list" vs.toArray 0)) h'.objs.size vs) v b.2 as) vs bs := e2.mono fun _ _ ⟨as, q⟩ => ⟨as, PyProof.Rows.Reads.keeps old q⟩
  have hvl : vs.length ≤ sizeLine := by omega
  refine wpAny_bind (wpAny_holding (wpAny_call_entry slot_list_sort ⟨_, ho, rfl⟩ entry_list_sort (PySem.W.list_sort_vals (κ := PySem.W.dataKind (PySem.W.sortingHeap (h'.push (seqObj "list" vs.toArray 0)) h'.objs.size vs) (bs.map (·.2))) (s := { s with heap := h'.push (seqObj "list" vs.toArray 0), toks := tk }) ho (PySem.W.SortsAt.data (s := { s with heap := PySem.W.sortingHeap (h'.push (seqObj "list" vs.toArray 0)) h'.objs.size vs, toks := tk }) (PySem.W.each_map (R := fun v d => ∃ as, Reads (PySem.W.sortingHeap (h'.push (seqObj "list" vs.toArray 0)) h'.objs.size vs) v d as) (fun b : PV => b.2) er') hal hk (PySem.W.bound_map (fun b hb => ?_))) hvl ⟨.none, rfl, ?_⟩) (args_list_sort _)))
  · have := hu b hb
    show A.units + 1 + 1 + b.2.depth < cLine
    omega
  · obtain ⟨e, he⟩ := sortedHeap_at (out := (PySem.W.sortVals (PySem.W.dataKind (PySem.W.sortingHeap (h'.push (seqObj "list" vs.toArray 0)) h'.objs.size vs) (bs.map (·.2))) false vs vs).toArray) ho
    refine wpAny_pure ⟨_, rfl, h h' _ tk h'.objs.size _ e hle kp (fun b o q => ?_) (Nat.le_refl _) he (PySem.W.sortVals_data false e1 er' hal)⟩
    have hlt := Heap.lt_size q
    show (sortedHeap (h'.push (seqObj "list" vs.toArray 0)) h'.objs.size vs _).get? b = some o
    rw [sortedHeap_old (Nat.ne_of_lt hlt) (by rw [size_push']; exact Nat.lt_succ_of_lt hlt)]
    exact Heap.get?_push_of_some _ q
end
/-- sorted(d): the keys -/
def rSortedK (K : PySem.W.Frag) : List V → Hp → VK → Prop := fun xs H Q => ∃ (Z : Addr → Prop) (kvs : List (D × D)) (a : Addr), xs = [.ref a] ∧ DicV K H Z kvs a ∧ sortOk (kvs.map (·.1)) = true ∧
  ∀ l vs, H l = none → Rls K H Z (sortD (kvs.map (·.1))) vs → Q (.ref l) (upd H l (.lst vs))
theorem rows_len {K : PySem.W.Frag} {H : Hp} {Z : Addr → Prop} {kvs : List (D × D)} {rows : List Row} (h : RowsV K H Z kvs rows) : rows.length = kvs.length := (Paired.length h).symm
/-- the keys with their values -/
def kPV (kvs : List (D × D)) (rows : List Row) : List PV := (rows.map fun r => V.ref r.2.1).zip (kvs.map (·.1))
theorem kPV_at {kvs : List (D × D)} {rows : List Row} {K : PySem.W.Frag} {H : Hp} {Z : Addr → Prop} (h : RowsV K H Z kvs rows) {i : Nat} {p : PV} (e : (kPV kvs rows)[i]? = some p) : ∃ r kv, rows[i]? = some r ∧ kvs[i]? = some kv ∧ p = (.ref r.2.1, kv.1) := by
  unfold kPV at e
  rw [List.getElem?_zip_eq_some] at e
  obtain ⟨e1, e2⟩ := e
  rw [List.getElem?_map] at e1 e2
  obtain ⟨r, e3, e4⟩ := mpd e1
  obtain ⟨kv, e5, e6⟩ := mpd e2
  exact ⟨r, kv, e3, e5, by rw [e4, e6]⟩
theorem paired_at {α β : Type} {R : α → β → Prop} : ∀ {l₁ : List α} {l₂ : List β}, Paired R l₁ l₂ → ∀ {i : Nat} {x : α} {y : β}, l₁[i]? = some x → l₂[i]? = some y → R x y
  | _, _, .nil, _, _, _, h, _ => by simp at h
  | _, _, .cons r t, 0, _, _, h1, h2 => by
    simp at h1 h2
    subst h1 h2
    exact r
  | _, _, .cons r t, i + 1, _, _, h1, h2 => paired_at t (by simpa using h1) (by simpa using h2)
section
variable {X : Cx}
theorem cr_sortedK (hc : X.calm = true) (hu : X.A.units + 65 < cLine) : CallR X (.builtin "sorted") (rSortedK X.K) := by
  intro pins s σ H vs us Q I r h
  obtain ⟨Z, kvs, a, rfl, g, hok, q⟩ := h
  obtain ⟨u, rfl, ru⟩ := vals1 r
  obtain rfl : u = Value.ref a := ru
  obtain ⟨rows, xs, h1, h2, h3, h4, h5, h6⟩ := g.open_ I
  obtain ⟨o, es, ep, ho, hx, hd, he, hk, nd⟩ := h5
  have lr : rows.length = kvs.length := rows_len h2
  have lx : xs.length = rows.length := (Paired.length h3).symm
  have le : es.size = xs.length := by rw [← Array.length_toList, he, List.length_map]
  have lb : (kPV kvs rows).length = kvs.length := by unfold kPV; rw [List.length_zip, List.length_map, List.length_map, lr, Nat.min_self]
  have snd : (kPV kvs rows).map (·.2) = kvs.map (·.1) := zip_snd (by rw [List.length_map, List.length_map, lr])
  have at_ : ∀ (ws : List Value), ItemsOf (fun i v => ∃ hi : i < es.size, v = es[i].key) ws.toArray es.size → ∀ (i : Nat) (w : Value) (p : PV), ws[i]? = some w → (kPV kvs rows)[i]? = some p → RelV p.1 w ∧ Rl X.K H Z p.2 p.1 ∧ p.2 ∈ kvs.map (·.1) := by
    intro ws hi i w p e1 e2
    obtain ⟨r, kv, e3, e4, rfl⟩ := kPV_at h2 e2
    obtain ⟨hlt, e5⟩ := hi.2 i w (by simpa using e1)
    obtain ⟨_, _, k3, _⟩ := paired_at h2 e4 e3
    have hxi : i < xs.length := by omega
    obtain ⟨_, q2, _⟩ := paired_at h3 e3 (List.getElem?_eq_getElem hxi)
    have e6 : es[i].key = .ref xs[i].2.1 := by
      have : es.toList[i]? = (xs.map (entryOfKey (nestedKind X.prog X.w)))[i]? := by rw [he]
      rw [List.getElem?_map, List.getElem?_eq_getElem hxi, Array.getElem?_toList, Array.getElem?_eq_getElem hlt] at this
      have := Option.some.inj this
      rw [this]
      rfl
    refine ⟨?_, k3, List.mem_map.mpr ⟨kv, List.mem_of_getElem? e4, rfl⟩⟩
    show w = .ref r.2.1
    rw [e5, e6, q2]
  have hok' := hok
  unfold sortOk at hok'
  simp only [Bool.and_eq_true, List.all_eq_true, decide_eq_true_eq, Bool.or_eq_true] at hok'
  obtain ⟨k1, k2, k3, k4⟩ := hok'
  refine sorted_kdl (R := fun u p => RelV p.1 u) (bs := kPV kvs rows) (KdlSrc.rawDict (es := es) (ep := ep) h4) (I.ok.hd hc) ⟨o, ho, hx, hd⟩ (by rw [sizeLine_eq]; omega) (by omega) (fun ws hi => ?_) ?_ ?_ (fun p hp => ?_) fun h1' h2' tk l out e hle kp1 kp2 hl hg hout => ?_
  · have hw : ws.length = (kPV kvs rows).length := by
      have := hi.1
      simp at this
      omega
    refine ⟨each_of hw fun i w p e1 e2 => (at_ ws hi i w p e1 e2).1, each_of hw fun i w p e1 e2 => ?_⟩
    obtain ⟨a1, a2, a3⟩ := at_ ws hi i w p e1 e2
    exact Dp.reads I p.2 p.1 w (Rl.dp _ _ (SeqAt.canLay_of_shaped (k2 p.2 a3).1) a2) a1
  · rw [snd]
    exact fun d hd' d' hd'' => k1 d hd' d' hd''
  · rw [snd]
    rcases k3 with k3 | k3
    · refine .inl fun d hd' => ?_
      have := k3 d hd'
      unfold isT1 at this
      split at this
      · exact ⟨_, _, rfl⟩
      · cases this
    · refine .inr fun d hd' => ?_
      have := k3 d hd'
      refine ⟨fun z => ?_, fun xs z => ?_⟩ <;> rw [z] at this <;> cases this
  · have hm : p.2 ∈ kvs.map (·.1) := by rw [← snd]; exact List.mem_map.mpr ⟨p, hp, rfl⟩
    have := (k2 p.2 hm).2
    have : p.2.depth ≤ 60 := this
    show X.A.units + 2 + p.2.depth < cLine
    omega
  · have hs : s.heap.objs.size ≤ l := by omega
    have fr : H l = none := I.hok.fresh hs
    have hp : ((kPV kvs rows).mergeSort leP).length = kvs.length := by rw [List.length_mergeSort, lb]
    have ms : ∀ p ∈ (kPV kvs rows).mergeSort leP, Rl X.K H Z p.2 p.1 := fun p hp => by
      have hp' := (List.mergeSort_perm _ _).mem_iff.mp hp
      obtain ⟨i, hi⟩ := List.mem_iff_getElem?.mp hp'
      obtain ⟨r, kv, e3, e4, rfl⟩ := kPV_at h2 hi
      exact (paired_at h2 e4 e3).2.2.1
    have rs := Rls.pairs ms
    rw [sortD_pairs, snd] at rs
    refine ⟨.ref l, upd H l (.lst (((kPV kvs rows).mergeSort leP).map (·.1))), I.laid (t' := tk) (fun b o q => kp2 b o (kp1 b o q)) hs ⟨?_, out, e, vals_of_each hout, hg⟩, rfl, q l _ fr rs⟩
    rw [List.length_map, hp, sizeLine_eq]
    omega
end
section
variable {K : PySem.W.Frag}
theorem bltK_sorted : BltKOk K .sorted (rSortedK K) := by
  intro W H0 H Z0 Z ρ σ Q kvs v c e cv p s f
  have e' : (if sortOk (kvs.map (·.1)) then some (Cell.own (sortD (kvs.map (·.1)))) else none) = some c := e
  by_cases h : sortOk (kvs.map (·.1)) = true
  · rw [if_pos h] at e'
    cases e'
    obtain ⟨a, rfl, g⟩ := cv
    refine ⟨Z, kvs, a, rfl, g, h, fun l vs hl rs => f.lst p s rs ?_ l hl⟩
    obtain ⟨_, _, _, h3, _⟩ := g
    unfold sortD
    rw [List.length_mergeSort, List.length_map, sizeLine_eq]
    omega
  · rw [if_neg h] at e'; cases e'
theorem BltOk.or_l {f : Bf} {r r' : List V → Hp → VK → Prop} (h : BltOk K f r) : BltOk K f (fun xs H Q => r xs H Q ∨ r' xs H Q) := fun e r p s f => .inl (h e r p s f)
theorem BltKOk.or_r {f : Bf} {r r' : List V → Hp → VK → Prop} (h : BltKOk K f r') : BltKOk K f (fun xs H Q => r xs H Q ∨ r' xs H Q) := fun e r p s f => .inr (h e r p s f)
end
end Lt

/-! Lt, part 5: calls of the program's own defs. -/
namespace Lt
open PySem L2 PySem.Spec PyProof.Rows
abbrev E0_ : XK := fun _ _ _ => False
abbrev CX0_ : CXT := fun _ _ _ _ _ _ => False
theorem pass0_ {X : Cx} {E : XK} : Passes CX0_ X E := fun _ _ _ _ _ _ _ h => h.elim
/-- the arguments as slots -/
abbrev argSt (vs : List V) : L2.St := vs.map some
/-- a def's promise by its function F -/
def spF (K : PySem.W.Frag) (fn : Fn) : Sp := fun vs H Q _ => ∃ (Z : Addr → Prop) (cs : List Cell) (c out : Cell), Sta K H Z cs (argSt vs) ∧ cs.length = fn.ps.length ∧ (∀ i, isOw (cellAt cs i) = true → fn.io = true ∧ i = 0) ∧ fn.F cs = some (c, out) ∧
  ∀ v H' Z', Stp (Ow cs (argSt vs)) (fun a => isOw out = true ∧ Ow cs (argSt vs) a) H Z H' Z' → CellV K H' Z' c v → (∀ a, isOw c = true → v = .ref a → H a = none) → (∀ v0, isOw (cellAt cs 0) = true → vs[0]? = some v0 → CellV K H' Z' out v0) → (∀ a, Z' a → ∃ o, H' a = some o) → Q v H'
theorem spF_len {K fn} : ∀ vs H Q E, spF K fn vs H Q E → vs.length = fn.ps.length := fun vs H Q E ⟨Z, cs, c, out, s, h, _⟩ => by
  have := s.len
  rw [List.length_map] at this
  omega

section
variable {K : PySem.W.Frag} {H H' : Hp} {Z Z' : Addr → Prop} {ρ : Rho} {σ : L2.St}
/-- all arguments frozen: no slot owns -/
theorem dats_cell : ∀ {ds : List D} {i : Nat}, cellAt (ds.map Cell.dat) i = match ds[i]? with | some d => .dat d | none => .emp := fun {ds i} => by
  unfold cellAt
  rw [List.getD_eq_getElem?_getD, List.getElem?_map]
  cases ds[i]? <;> rfl
theorem dats_ow {ds : List D} {i : Nat} : isOw (cellAt (ds.map Cell.dat) i) = false := by
  rw [dats_cell]
  cases ds[i]? <;> rfl
theorem dats_sta {ds : List D} {vs : List V} (r : Rls K H Z ds vs) (zd : ∀ a, Z a → ∃ o, H a = some o) : Sta K H Z (ds.map Cell.dat) (argSt vs) where
  len := by rw [List.length_map, List.length_map, r.length]
  at_ := fun i hi => by
    rw [dats_cell] at hi ⊢
    cases q : ds[i]? with
    | none => rw [q] at hi; exact (hi rfl).elim
    | some d =>
      obtain ⟨v, h1, h2⟩ := r.get q
      exact ⟨v, by rw [List.getElem?_map, h1]; rfl, h2⟩
  inj := fun i j a h _ _ _ => by rw [dats_ow] at h; cases h
  zd := zd
theorem cons_cell {c : Cell} {cs : List Cell} {i : Nat} : cellAt (c :: cs) (i + 1) = cellAt cs i := rfl
/-- the first argument as it is, the others frozen -/
theorem cons_sta {c : Cell} {v0 : V} {ds : List D} {vs : List V} (h : CellV K H Z c v0) (r : Rls K H Z ds vs) (zd : ∀ a, Z a → ∃ o, H a = some o) : Sta K H Z (c :: ds.map Cell.dat) (argSt (v0 :: vs)) where
  len := by rw [List.length_cons, List.length_map, List.length_map, List.length_cons, r.length]
  at_ := fun i hi => by
    cases i with
    | zero => exact ⟨v0, rfl, h⟩
    | succ i => exact (dats_sta r zd).at_ i hi
  inj := fun i j a h1 h2 _ _ => by
    cases i with
    | zero =>
      cases j with
      | zero => rfl
      | succ j =>
        have h2' : isOw (cellAt (ds.map Cell.dat) j) = true := h2
        rw [dats_ow] at h2'; cases h2'
    | succ i =>
      have h1' : isOw (cellAt (ds.map Cell.dat) i) = true := h1
      rw [dats_ow] at h1'; cases h1'
  zd := zd
theorem cons_ow {c : Cell} {v0 : V} {ds : List D} {vs : List V} {a : Addr} : Ow (c :: ds.map Cell.dat) (argSt (v0 :: vs)) a ↔ isOw c = true ∧ v0 = .ref a := by
  constructor
  · rintro ⟨i, h1, h2⟩
    cases i with
    | zero => exact ⟨h1, Option.some.inj (Option.some.inj h2)⟩
    | succ i =>
      have h1' : isOw (cellAt (ds.map Cell.dat) i) = true := h1
      rw [dats_ow] at h1'; cases h1'
  · rintro ⟨h1, rfl⟩
    exact ⟨0, h1, rfl⟩
/-- what a callee that may change W leaves of a caller's slots -/
theorem Sta.after {Wc Wo : Addr → Prop} (s : Sta K H Z ρ σ) (p : Stp Wc Wo H Z H' Z') (hw : ∀ a, Wc a → Ow ρ σ a ∨ ¬ Z a) (hn : ∀ i, isOw (cellAt ρ i) = true → ∀ a, σ[i]? = some (some (.ref a)) → ¬ Wc a) (zd : ∀ a, Z' a → ∃ o, H' a = some o) : Sta K H' Z' ρ σ := by
  have nz : ∀ a, Z a → ¬ Wc a := fun a z w => (hw a w).elim (fun o => s.nz o z) fun n => n z
  refine ⟨s.len, fun i hi => ?_, s.inj, zd⟩
  obtain ⟨v, e, c⟩ := s.at_ i hi
  exact ⟨v, e, c.stp p nz fun a ho ev => hn i ho a (by rw [e, ev])⟩
theorem Stp.call {W0 Wc Wo W' : Addr → Prop} {H0 : Hp} {Z0 : Addr → Prop} (p : Stp W0 (Ow ρ σ) H0 Z0 H Z) (q : Stp Wc Wo H Z H' Z') (hw : ∀ a, Wc a → Ow ρ σ a ∨ H0 a = none) (h' : ∀ a, W' a → Ow ρ σ a) : Stp W0 W' H0 Z0 H' Z' where
  fr := fun a o e n => by
    obtain ⟨e1, z1⟩ := p.fr a o e n
    have nc : ¬ Wc a := fun w => by
      rcases hw a w with h | h
      · rcases p.w a h with h | h
        · exact n h
        · rw [e] at h; cases h
      · rw [e] at h; cases h
    obtain ⟨e2, z2⟩ := q.fr a o e1 nc
    exact ⟨e2, fun z => z1 (z2 z)⟩
  dom := fun a o e => by
    obtain ⟨o1, e1⟩ := p.dom a o e
    exact q.dom a o1 e1
  z := fun a z => q.z a (p.z a z)
  w := fun a w => p.w a (h' a w)
/-- an operand stays where others are frozen -/
theorem OdV.frzs {ρ' : Rho} {o : Od} {v : V} {os : List Od} {vs : List V} (r : OdV K H Z ρ σ o v) (h1 : ∀ a, Z a → Z' a) (h2 : ∀ a, Z' a → Z a ∨ Ow ρ σ a ∨ ¬ OwF a os vs) (h3 : ∀ a, Ow ρ' σ a → Ow ρ σ a) (hd : ∀ a, OwT o v a → OwF a os vs) : OdV K H Z' ρ' σ o v := by
  cases o with
  | v i => exact r
  | t c =>
    obtain ⟨r1, r2⟩ := r
    have kp : Keep H Z H Z' := ⟨fun _ _ _ e => e, h1⟩
    refine ⟨?_, fun a h e w => r2 a h e (h3 a w)⟩
    cases c with
    | emp => exact r1
    | dic kvs =>
      obtain ⟨a, rfl, d⟩ := r1
      refine ⟨a, rfl, d.move kp (fun _ h => h) fun z => ?_⟩
      rcases h2 a z with z | z | z
      · exact d.nz z
      · exact r2 a rfl rfl z
      · exact z (hd a ⟨_, rfl, rfl, rfl⟩)
    | dat d => exact Rl.keep kp d v r1
    | own ds =>
      obtain ⟨a, ws, rfl, h, nz, l, rr⟩ := r1
      refine ⟨a, ws, rfl, h, fun z => ?_, l, Rls.keep kp ds ws rr⟩
      rcases h2 a z with z | z | z
      · exact nz z
      · exact r2 a rfl rfl z
      · exact z (hd a ⟨_, rfl, rfl, rfl⟩)
theorem unfz_or (c : Cell) (ρ ρ1 : Rho) : unfz c ρ ρ1 = ρ1 ∨ unfz c ρ ρ1 = ρ ∧ ∀ (H : Hp) (Z Z' : Addr → Prop) v, CellV K H Z c v → CellV K H Z' c v ∧ isOw c = false := by
  cases c with
  | dat d => cases d <;> first | exact .inl rfl | exact .inr ⟨rfl, fun _ _ _ _ h => ⟨h, rfl⟩⟩
  | _ => exact .inl rfl
/-- the function's answer, with the slots and operands as they are: what its promise wants -/
theorem callF_ok {W0 : Addr → Prop} {H0 : Hp} {Z0 : Addr → Prop} {fn : Fn} {os : List Od} {vs : List V} {o : Od} {ρ' : Rho} {Q : VK} {E : XK} (p : Stp W0 (Ow ρ σ) H0 Z0 H Z) (s : Sta K H Z ρ σ) (r : OdVs K H0 H Z ρ σ os vs) (hl : os.length = fn.ps.length) (e : callF fn os ρ = some (o, ρ'))
    (k : ∀ v H' Z', Sta K H' Z' ρ' σ → Stp W0 (Ow ρ' σ) H0 Z0 H' Z' → OdV K H' Z' ρ' σ o v → NewV H0 o v → Q v H') : spF K fn vs H Q E := by
  unfold callF at e
  cases hio : fn.io with
  | false =>
    rw [hio, if_neg Bool.false_ne_true] at e
    obtain ⟨⟨ds, ρ1⟩, e1, e⟩ := bnd e
    obtain ⟨⟨c, out⟩, e2, e⟩ := mpd e
    cases e
    obtain ⟨Z1, p1, s1, r1, _, _, _⟩ := frzs_ok p s r e1
    have hno : ∀ a, ¬ Ow (ds.map Cell.dat) (argSt vs) a := fun a ⟨i, h, _⟩ => by rw [dats_ow] at h; cases h
    refine ⟨Z1, ds.map .dat, c, out, dats_sta r1 s1.zd, ?_, (fun i h => by rw [dats_ow] at h; cases h), e2, fun v H' Z' q cv nw _ zd => ?_⟩
    · rw [List.length_map, frzs_len e1]; exact hl
    · rcases unfz_or c ρ ρ1 with hu | ⟨hu, hs⟩
      · rw [hu] at k
        refine k v H' Z' (s1.after q (fun a w => (hno a w).elim) (fun _ _ a _ w => hno a w) zd) (p1.call q (fun a w => (hno a w).elim) fun _ w => w) ⟨cv, fun a h ev w => ?_⟩ fun a h ev => p1.none_ (nw a h ev)
        obtain ⟨ob, eo⟩ := s1.dm w
        rw [nw a h ev] at eo; cases eo
      · rw [hu] at k
        have q0 : Stp (fun _ => False) (fun _ => False) H Z H' Z := ⟨fun a o e _ => ⟨(q.fr a o e (hno a)).1, fun z => z⟩, q.dom, fun _ z => z, fun _ w => w.elim⟩
        obtain ⟨h1, h2⟩ := hs H' Z' Z v cv
        exact k v H' Z (s.after q0 (fun a w => w.elim) (fun _ _ a _ w => w) fun a z => let ⟨o, e⟩ := s.zd a z; q.dom a o e) (p.call q0 (fun a w => w.elim) fun _ w => w) ⟨h1, fun a h _ _ => by rw [h2] at h; cases h⟩ fun a h ev => by rw [h2] at h; cases h
  | true =>
    rw [hio, if_pos rfl] at e
    cases os with
    | nil => cases e
    | cons o0 os =>
      obtain ⟨v0, vs', ev, hv, hn, hf, hr⟩ := r
      subst ev
      have e' : ((frzs ρ os).bind fun r => match o0 with
        | .v i => (match cellAt r.2 i with
          | .dat d => (fn.F (.dat d :: r.1.map .dat)).map fun q => (Od.t q.1, r.2)
          | .own ds => (fn.F (.own ds :: r.1.map .dat)).map fun q => (.t q.1, r.2.set i q.2)
          | .dic kvs => (fn.F (.dic kvs :: r.1.map .dat)).map fun q => (.t q.1, r.2.set i q.2)
          | .emp => none)
        | .t .emp => none
        | .t c => (fn.F (c :: r.1.map .dat)).map fun q => (.t q.1, r.2)) = some (o, ρ') := e
      clear e
      obtain ⟨⟨ds, ρ1⟩, e1, e⟩ := bnd e'
      clear e'
      obtain ⟨Z1, p1, s1, r1, z1, z2, z3⟩ := frzs_ok p s hr e1
      have hv1 : OdV K H Z1 ρ1 σ o0 v0 := hv.frzs z1 z2 z3 hf
      have hlen : (ds.map Cell.dat).length + 1 = fn.ps.length := by
        rw [List.length_map, frzs_len e1]; exact hl
      have hfirst : ∀ {c : Cell} {i : Nat}, isOw (cellAt (c :: ds.map Cell.dat) i) = true → fn.io = true ∧ i = 0 := fun {c i} h => by
        cases i with
        | zero => exact ⟨hio, rfl⟩
        | succ i =>
          have h' : isOw (cellAt (ds.map Cell.dat) i) = true := h
          rw [dats_ow] at h'; cases h'
      cases o0 with
      | v i =>
        have hvi : σ[i]? = some (some v0) := hv1
        have e2 : (match cellAt ρ1 i with
          | .dat d => (fn.F (.dat d :: ds.map .dat)).map fun q => (Od.t q.1, ρ1)
          | .own ds0 => (fn.F (.own ds0 :: ds.map .dat)).map fun q => (.t q.1, ρ1.set i q.2)
          | .dic kvs => (fn.F (.dic kvs :: ds.map .dat)).map fun q => (.t q.1, ρ1.set i q.2)
          | .emp => none) = some (o, ρ') := e
        clear e
        cases q1 : cellAt ρ1 i with
        | emp => rw [q1] at e2; cases e2
        | dat d =>
          rw [q1] at e2
          obtain ⟨⟨c, out⟩, e3, e4⟩ := mpd e2
          cases e4
          obtain ⟨u, e5, cv0⟩ := s1.at_ i (by rw [q1]; intro z; cases z)
          rw [hvi] at e5; cases e5
          rw [q1] at cv0
          have hno : ∀ a, ¬ Ow (Cell.dat d :: ds.map Cell.dat) (argSt (v0 :: vs')) a := fun a w => by cases (cons_ow.mp w).1
          refine ⟨Z1, .dat d :: ds.map .dat, c, out, cons_sta cv0 r1 s1.zd, hlen, fun i h => hfirst h, e3, fun v H' Z' q cv nw _ zd => ?_⟩
          refine k v H' Z' (s1.after q (fun a w => (hno a w).elim) (fun _ _ a _ w => hno a w) zd) (p1.call q (fun a w => (hno a w).elim) fun _ w => w) ⟨cv, fun a h ev w => ?_⟩ fun a h ev => p1.none_ (nw a h ev)
          obtain ⟨ob, eo⟩ := s1.dm w
          rw [nw a h ev] at eo; cases eo
        | own ds0 =>
          rw [q1] at e2
          obtain ⟨⟨c, out⟩, e3, e4⟩ := mpd e2
          cases e4
          obtain ⟨u, e5, cv0⟩ := s1.at_ i (by rw [q1]; intro z; cases z)
          rw [hvi] at e5; cases e5
          rw [q1] at cv0
          obtain ⟨a0, ws0, ea0, ha0, nz0, hl0, rr0⟩ := id cv0
          have hlt : i < ρ1.length := by rw [s1.len]; exact (List.getElem?_eq_some_iff.mp hvi).1
          have oa0 : Ow ρ1 σ a0 := ⟨i, by rw [q1]; rfl, by rw [hvi, ea0]⟩
          have hW : ∀ a, Ow (Cell.own ds0 :: ds.map Cell.dat) (argSt (v0 :: vs')) a → a = a0 := fun a w => by
            have := (cons_ow.mp w).2
            rw [ea0] at this
            exact (V.ref.inj this).symm
          refine ⟨Z1, .own ds0 :: ds.map .dat, c, out, cons_sta cv0 r1 s1.zd, hlen, fun i h => hfirst h, e3, fun v H' Z' q cv nw co zd => ?_⟩
          have co' : CellV K H' Z' out v0 := co v0 rfl rfl
          have ca := cellAt_set (c := out) hlt
          have sub : ∀ a, Ow (ρ1.set i out) σ a → Ow ρ1 σ a := fun a ⟨j, h1, h2⟩ => by
            rw [ca j] at h1
            by_cases hj : j = i
            · subst hj
              rw [hvi, ea0] at h2
              cases h2
              exact oa0
            · rw [if_neg hj] at h1
              exact ⟨j, h1, h2⟩
          have kp : Keep H Z1 H' Z' := q.keep fun a z w => nz0 (hW a w ▸ z)
          refine k v H' Z' ⟨by rw [List.length_set]; exact s1.len, fun j hj => ?_, fun j l b h1 h2 h3 h4 => ?_, zd⟩ (p1.call q (fun a w => .inl (hW a w ▸ oa0)) sub) ⟨cv, fun a h ev w => ?_⟩ fun a h ev => p1.none_ (nw a h ev)
          · rw [ca j] at hj ⊢
            by_cases hji : j = i
            · subst hji
              rw [if_pos rfl]
              exact ⟨v0, hvi, co'⟩
            · rw [if_neg hji] at hj ⊢
              obtain ⟨u, e6, c6⟩ := s1.at_ j hj
              refine ⟨u, e6, c6.stp q (fun a z w => nz0 (hW a w ▸ z)) fun a ho eu w => ?_⟩
              have ea := hW a w
              subst ea
              exact hji (s1.inj j i a ho (by rw [q1]; rfl) (by rw [e6, eu]) (by rw [hvi, ea0]))
          · have up : ∀ m, isOw (cellAt (ρ1.set i out) m) = true → isOw (cellAt ρ1 m) = true := fun m h => by
              rw [ca m] at h
              by_cases hm : m = i
              · rw [hm, q1]; rfl
              · rw [if_neg hm] at h; exact h
            exact s1.inj j l b (up j h1) (up l h2) h3 h4
          · obtain ⟨ob, eo⟩ := s1.dm (sub a w)
            rw [nw a h ev] at eo; cases eo
        | dic kvs =>
          rw [q1] at e2
          obtain ⟨⟨c, out⟩, e3, e4⟩ := mpd e2
          cases e4
          obtain ⟨u, e5, cv0⟩ := s1.at_ i (by rw [q1]; intro z; cases z)
          rw [hvi] at e5; cases e5
          rw [q1] at cv0
          obtain ⟨a0, ea0, g0⟩ := id cv0
          have nz0 := g0.nz
          have hlt : i < ρ1.length := by rw [s1.len]; exact (List.getElem?_eq_some_iff.mp hvi).1
          have oa0 : Ow ρ1 σ a0 := ⟨i, by rw [q1]; rfl, by rw [hvi, ea0]⟩
          have hW : ∀ a, Ow (Cell.dic kvs :: ds.map Cell.dat) (argSt (v0 :: vs')) a → a = a0 := fun a w => by
            have := (cons_ow.mp w).2
            rw [ea0] at this
            exact (V.ref.inj this).symm
          refine ⟨Z1, .dic kvs :: ds.map .dat, c, out, cons_sta cv0 r1 s1.zd, hlen, fun i h => hfirst h, e3, fun v H' Z' q cv nw co zd => ?_⟩
          have co' : CellV K H' Z' out v0 := co v0 rfl rfl
          have ca := cellAt_set (c := out) hlt
          have sub : ∀ a, Ow (ρ1.set i out) σ a → Ow ρ1 σ a := fun a ⟨j, h1, h2⟩ => by
            rw [ca j] at h1
            by_cases hj : j = i
            · subst hj
              rw [hvi, ea0] at h2
              cases h2
              exact oa0
            · rw [if_neg hj] at h1
              exact ⟨j, h1, h2⟩
          have kp : Keep H Z1 H' Z' := q.keep fun a z w => nz0 (hW a w ▸ z)
          refine k v H' Z' ⟨by rw [List.length_set]; exact s1.len, fun j hj => ?_, fun j l b h1 h2 h3 h4 => ?_, zd⟩ (p1.call q (fun a w => .inl (hW a w ▸ oa0)) sub) ⟨cv, fun a h ev w => ?_⟩ fun a h ev => p1.none_ (nw a h ev)
          · rw [ca j] at hj ⊢
            by_cases hji : j = i
            · subst hji
              rw [if_pos rfl]
              exact ⟨v0, hvi, co'⟩
            · rw [if_neg hji] at hj ⊢
              obtain ⟨u, e6, c6⟩ := s1.at_ j hj
              refine ⟨u, e6, c6.stp q (fun a z w => nz0 (hW a w ▸ z)) fun a ho eu w => ?_⟩
              have ea := hW a w
              subst ea
              exact hji (s1.inj j i a ho (by rw [q1]; rfl) (by rw [e6, eu]) (by rw [hvi, ea0]))
          · have up : ∀ m, isOw (cellAt (ρ1.set i out) m) = true → isOw (cellAt ρ1 m) = true := fun m h => by
              rw [ca m] at h
              by_cases hm : m = i
              · rw [hm, q1]; rfl
              · rw [if_neg hm] at h; exact h
            exact s1.inj j l b (up j h1) (up l h2) h3 h4
          · obtain ⟨ob, eo⟩ := s1.dm (sub a w)
            rw [nw a h ev] at eo; cases eo
      | t c0 =>
        have nemp : c0 ≠ .emp := fun z => by subst z; exact hv1.1
        have e2 : (fn.F (c0 :: ds.map .dat)).map (fun q => (Od.t q.1, ρ1)) = some (o, ρ') := by
          cases c0 with
          | emp => exact (nemp rfl).elim
          | _ => exact e
        clear e
        obtain ⟨⟨c, out⟩, e3, e4⟩ := mpd e2
        cases e4
        obtain ⟨cv0, no0⟩ := hv1
        have hW : ∀ a, Ow (c0 :: ds.map Cell.dat) (argSt (v0 :: vs')) a → isOw c0 = true ∧ v0 = .ref a := fun a w => cons_ow.mp w
        have hnz : ∀ a, isOw c0 = true → v0 = .ref a → ¬ Z1 a := fun a h ev => by
          cases c0 with
          | own ds0 =>
            obtain ⟨b, ws, eb, _, nz, _⟩ := cv0
            rw [ev] at eb; cases eb
            exact nz
          | dic kvs =>
            obtain ⟨b, eb, d⟩ := cv0
            rw [ev] at eb; cases eb
            exact d.nz
          | emp => cases h
          | dat d => cases h
        refine ⟨Z1, c0 :: ds.map .dat, c, out, cons_sta cv0 r1 s1.zd, hlen, fun i h => hfirst h, e3, fun v H' Z' q cv nw _ zd => ?_⟩
        refine k v H' Z' (s1.after q (fun a w => .inr (hnz a (hW a w).1 (hW a w).2)) (fun i ho a ea w => no0 a (hW a w).1 (hW a w).2 ⟨i, ho, ea⟩) zd) (p1.call q (fun a w => .inr (hn a (hW a w).1 (hW a w).2)) fun _ w => w) ⟨cv, fun a h ev w => ?_⟩ fun a h ev => p1.none_ (nw a h ev)
        obtain ⟨ob, eo⟩ := s1.dm w
        rw [nw a h ev] at eo; cases eo
end
section
variable {X : Cx} {T : Tab} {es : List Expr} {pos p : Pos} {x : Str}
/-- a def of the program, as the module's name x gives it -/
structure FnAt (X : Cx) (x : Str) (fn : Fn) (f : Addr) (fd : FuncData) : Prop where
  ok : FnOk X.prog X.w X.K X.mg X.base CX0_ fn.lvl f fd fn.ps (spF X.K fn)
  room : Room fn.lvl X.A
  gl : Gl X x
  mg : X.mg x = some (.ref f)
  kp : PySem.W.keepIn X.K (.ref f) = true
  bd : Binds X.K fd fn.ps []
  nd : (x == ("__debug__" : Str)) = false
theorem so_call {fn : Fn} {j : Nat} {f : Addr} {fd : FuncData} {is : Exs} (hT : T.fn j = some fn) (F : FnAt X x fn f fd) (h : SA X es (evs T is)) (pc : ∀ {t : TA}, PAn X es t → PE X (.Call (.Name x p) es [] pos) (tCall (spF X.K fn) [] E0_ t)) :
    SO X (.Call (.Name x p) es [] pos) (ev T (.call j is [] .nil)) := by
  obtain ⟨t, pt, qt⟩ := h
  refine ⟨_, pc pt, fun ρ σ H Z o ρ' Q s e k => ?_⟩
  obtain ⟨⟨os, ρ1⟩, e1, e⟩ := bnd (show (evs T is ρ).bind _ = some _ from e)
  have e' : ((T.fn j).bind fun fn => if os.length + 0 = fn.ps.length then callF fn (os ++ []) ρ1 else none) = some (o, ρ') := e
  rw [hT, List.append_nil] at e'
  have e2 : (if os.length + 0 = fn.ps.length then callF fn os ρ1 else none) = some (o, ρ') := e'
  by_cases hl : os.length + 0 = fn.ps.length
  · rw [if_pos hl] at e2
    refine qt ρ σ H Z os ρ1 _ s e1 fun vs H1 Z1 s1 p1 r1 => ?_
    show spF X.K fn (vs ++ []) H1 Q E0_
    rw [List.append_nil]
    exact callF_ok p1 s1 r1 hl e2 k
  · rw [if_neg hl] at e2; cases e2
end
end Lt

/-! Lt, part 6: calls with keywords. -/
namespace Lt
open PySem L2 PySem.Spec PyProof.Rows
section
variable {K : PySem.W.Frag} {H0 H H' : Hp} {Z Z' : Addr → Prop} {ρ : Rho} {σ : L2.St}
theorem OwF_iff {a : Addr} : ∀ {os : List Od} {vs : List V}, OwF a os vs ↔ ∀ (i : Nat) (o : Od) (v : V), os[i]? = some o → vs[i]? = some v → ¬ OwT o v a
  | [], vs => ⟨fun _ i o v h _ => by simp at h, fun _ => by cases vs <;> trivial⟩
  | o :: os, [] => ⟨fun _ i o v _ h => by simp at h, fun _ => trivial⟩
  | o :: os, v :: vs => by
    constructor
    · rintro ⟨h1, h2⟩ i o' v' e1 e2
      cases i with
      | zero =>
        cases (show some o = some o' from e1)
        cases (show some v = some v' from e2)
        exact h1
      | succ i => exact OwF_iff.mp h2 i o' v' (by simpa using e1) (by simpa using e2)
    · intro h
      exact ⟨h 0 o v rfl rfl, OwF_iff.mpr fun i o' v' e1 e2 => h (i + 1) o' v' (by simpa using e1) (by simpa using e2)⟩
structure OdI (K : PySem.W.Frag) (H0 H : Hp) (Z : Addr → Prop) (ρ : Rho) (σ : L2.St) (os : List Od) (vs : List V) : Prop where
  len : os.length = vs.length
  at_ : ∀ (i : Nat) (o : Od) (v : V), os[i]? = some o → vs[i]? = some v → OdV K H Z ρ σ o v ∧ NewV H0 o v
  dist : ∀ (i j : Nat) (o : Od) (v : V) (o' : Od) (v' : V) (a : Addr), i ≠ j → os[i]? = some o → vs[i]? = some v → os[j]? = some o' → vs[j]? = some v' → OwT o v a → ¬ OwT o' v' a
theorem OdI.of : ∀ {os : List Od} {vs : List V}, OdVs K H0 H Z ρ σ os vs → OdI K H0 H Z ρ σ os vs
  | [], _, r => by
    cases (show _ = _ from r)
    exact ⟨rfl, fun i o v h => by simp at h, fun i j o v o' v' a _ h => by simp at h⟩
  | o :: os, _, ⟨v, r, e, hv, hn, hf, q⟩ => by
    subst e
    have q' := OdI.of q
    have hf' : ∀ a, OwT o v a → ∀ i o' v', os[i]? = some o' → r[i]? = some v' → ¬ OwT o' v' a := fun a w => OwF_iff.mp (hf a w)
    refine ⟨by rw [List.length_cons, List.length_cons, q'.len], fun i o' v' e1 e2 => ?_, fun i j o1 v1 o2 v2 a hij e1 e2 e3 e4 w1 w2 => ?_⟩
    · cases i with
      | zero =>
        cases (show some o = some o' from e1)
        cases (show some v = some v' from e2)
        exact ⟨hv, hn⟩
      | succ i => exact q'.at_ i o' v' (by simpa using e1) (by simpa using e2)
    · cases i with
      | zero =>
        cases (show some o = some o1 from e1)
        cases (show some v = some v1 from e2)
        cases j with
        | zero => exact hij rfl
        | succ j => exact hf' a w1 j o2 v2 (by simpa using e3) (by simpa using e4) w2
      | succ i =>
        cases j with
        | zero =>
          cases (show some o = some o2 from e3)
          cases (show some v = some v2 from e4)
          exact hf' a w2 i o1 v1 (by simpa using e1) (by simpa using e2) w1
        | succ j => exact q'.dist i j o1 v1 o2 v2 a (by omega) (by simpa using e1) (by simpa using e2) (by simpa using e3) (by simpa using e4) w1 w2
theorem OdI.to : ∀ {os : List Od} {vs : List V}, OdI K H0 H Z ρ σ os vs → OdVs K H0 H Z ρ σ os vs
  | [], vs, h => by
    have := h.len
    exact List.eq_nil_of_length_eq_zero (by simpa using this.symm)
  | o :: os, [], h => by have := h.len; simp at this
  | o :: os, v :: vs, h => by
    refine ⟨v, vs, rfl, (h.at_ 0 o v rfl rfl).1, (h.at_ 0 o v rfl rfl).2, fun a w => ?_, OdI.to ⟨by have := h.len; simpa using this, fun i o' v' e1 e2 => h.at_ (i + 1) o' v' (by simpa using e1) (by simpa using e2), fun i j o1 v1 o2 v2 a hij e1 e2 e3 e4 => h.dist (i + 1) (j + 1) o1 v1 o2 v2 a (by omega) (by simpa using e1) (by simpa using e2) (by simpa using e3) (by simpa using e4)⟩⟩
    exact OwF_iff.mpr fun i o' v' e1 e2 w' => h.dist 0 (i + 1) o v o' v' a (by omega) rfl rfl (by simpa using e1) (by simpa using e2) w w'
/-- one row of operands behind the other -/
theorem OdI.append {os1 os2 : List Od} {vs1 vs2 : List V} (h1 : OdI K H0 H Z ρ σ os1 vs1) (h2 : OdI K H0 H Z ρ σ os2 vs2) (hd : ∀ (i j : Nat) (o : Od) (v : V) (o' : Od) (v' : V) (a : Addr), os1[i]? = some o → vs1[i]? = some v → os2[j]? = some o' → vs2[j]? = some v' → OwT o v a → ¬ OwT o' v' a) :
    OdI K H0 H Z ρ σ (os1 ++ os2) (vs1 ++ vs2) := by
  have hl := h1.len
  have sp : ∀ (i : Nat) (o : Od) (v : V), (os1 ++ os2)[i]? = some o → (vs1 ++ vs2)[i]? = some v → (i < os1.length ∧ os1[i]? = some o ∧ vs1[i]? = some v) ∨ (os1.length ≤ i ∧ os2[i - os1.length]? = some o ∧ vs2[i - os1.length]? = some v) := by
    intro i o v e1 e2
    by_cases hi : i < os1.length
    · rw [List.getElem?_append_left hi] at e1
      rw [List.getElem?_append_left (by omega)] at e2
      exact .inl ⟨hi, e1, e2⟩
    · rw [List.getElem?_append_right (by omega)] at e1
      rw [List.getElem?_append_right (by omega), ← hl] at e2
      exact .inr ⟨by omega, e1, e2⟩
  refine ⟨by rw [List.length_append, List.length_append, hl, h2.len], fun i o v e1 e2 => ?_, fun i j o v o' v' a hij e1 e2 e3 e4 w w' => ?_⟩
  · rcases sp i o v e1 e2 with ⟨_, a, b⟩ | ⟨_, a, b⟩
    · exact h1.at_ _ _ _ a b
    · exact h2.at_ _ _ _ a b
  · rcases sp i o v e1 e2 with ⟨l1, a1, b1⟩ | ⟨l1, a1, b1⟩ <;> rcases sp j o' v' e3 e4 with ⟨l2, a2, b2⟩ | ⟨l2, a2, b2⟩
    · exact h1.dist i j o v o' v' a hij a1 b1 a2 b2 w w'
    · exact hd _ _ _ _ _ _ a a1 b1 a2 b2 w w'
    · exact hd _ _ _ _ _ _ a a2 b2 a1 b1 w' w
    · exact h2.dist (i - os1.length) (j - os1.length) o v o' v' a (by omega) a1 b1 a2 b2 w w'
/-- chosen by places, each once -/
theorem OdI.pick {os : List Od} {vs : List V} (h : OdI K H0 H Z ρ σ os vs) {ix : List Nat} (hi : ∀ i ∈ ix, i < os.length) (nd : ix.Nodup) : OdI K H0 H Z ρ σ (ix.map fun i => os.getD i (.t .emp)) (vs := ix.map fun i => vs.getD i .non) := by
  have ga : ∀ {α : Type} (l : List α) (d : α) (i : Nat) (x : α), (ix.map fun i => l.getD i d)[i]? = some x → ∃ m, ix[i]? = some m ∧ l.getD m d = x := by
    intro α l d i x e
    rw [List.getElem?_map] at e
    exact mpd e
  have go : ∀ (i : Nat) (o : Od), (ix.map fun i => os.getD i (Od.t .emp))[i]? = some o → ∃ m, ix[i]? = some m ∧ os[m]? = some o := by
    intro i o e
    obtain ⟨m, e1, e2⟩ := ga os _ i o e
    have hm := hi m (List.mem_of_getElem? e1)
    refine ⟨m, e1, ?_⟩
    rw [List.getD_eq_getElem?_getD, List.getElem?_eq_getElem hm] at e2
    rw [List.getElem?_eq_getElem hm, ← e2]; rfl
  have gv : ∀ (i : Nat) (v : V), (ix.map fun i => vs.getD i V.non)[i]? = some v → ∃ m, ix[i]? = some m ∧ vs[m]? = some v := by
    intro i v e
    obtain ⟨m, e1, e2⟩ := ga vs _ i v e
    have hm := hi m (List.mem_of_getElem? e1)
    rw [h.len] at hm
    refine ⟨m, e1, ?_⟩
    rw [List.getD_eq_getElem?_getD, List.getElem?_eq_getElem hm] at e2
    rw [List.getElem?_eq_getElem hm, ← e2]; rfl
  refine ⟨by rw [List.length_map, List.length_map], fun i o v e1 e2 => ?_, fun i j o v o' v' a hij e1 e2 e3 e4 w w' => ?_⟩
  · obtain ⟨m, a1, a2⟩ := go i o e1
    obtain ⟨m', b1, b2⟩ := gv i v e2
    rw [a1] at b1; cases b1
    exact h.at_ m o v a2 b2
  · obtain ⟨m, a1, a2⟩ := go i o e1
    obtain ⟨m', b1, b2⟩ := gv i v e2
    rw [a1] at b1; cases b1
    obtain ⟨l, c1, c2⟩ := go j o' e3
    obtain ⟨l', d1, d2⟩ := gv j v' e4
    rw [c1] at d1; cases d1
    refine h.dist m l o v o' v' a (fun q => ?_) a2 b2 c2 d2 w w'
    subst q
    obtain ⟨hi1, x1⟩ := List.getElem?_eq_some_iff.mp a1
    obtain ⟨hj1, x2⟩ := List.getElem?_eq_some_iff.mp c1
    exact hij ((List.getElem_inj nd).mp (x1.trans x2.symm))
end
section
variable {X : Cx} {T : Tab} {es : List Expr} {kws : List Keyword} {pos p : Pos} {x : Str}
def SK (X : Cx) (kws : List Keyword) (f : Rho → Option (List Od × Rho)) : Prop := ∃ t : TA, PK X kws t ∧ ∀ (ρ : Rho) (σ : L2.St) (H : Hp) (Z : Addr → Prop) (os : List Od) (ρ' : Rho) (Q : List V → Hp → Prop), Sta X.K H Z ρ σ → f ρ = some (os, ρ') →
  (∀ vs H' Z', Sta X.K H' Z' ρ' σ → Stp (Ow ρ σ) (Ow ρ' σ) H Z H' Z' → OdVs X.K H H' Z' ρ' σ os vs → Q vs H') → t σ H Q
theorem sk_nil : SK X [] (evs T .nil) := by
  obtain ⟨t, _, q⟩ := sa_nil (X := X) (T := T)
  refine ⟨tNil, pk_nil, fun ρ σ H Z os ρ' Q s e k => ?_⟩
  cases (show some ([], ρ) = some (os, ρ') from e)
  exact k [] H Z s Stp.refl rfl
theorem sk_cons {nm : Option Str} {a : Expr} {kp : Pos} {i : Ex} {is : Exs} (ha : SO X a (ev T i)) (hr : SK X kws (evs T is)) : SK X (⟨nm, a, kp⟩ :: kws) (evs T (.cons i is)) := by
  obtain ⟨ta, pa, qa⟩ := ha
  obtain ⟨tr, pr, qr⟩ := hr
  refine ⟨tCons ta tr, pk_cons pa pr, fun ρ σ H Z os ρ' Q s e k => ?_⟩
  obtain ⟨⟨o, ρ1⟩, e1, e⟩ := bnd (show (ev T i ρ).bind _ = some _ from e)
  obtain ⟨⟨os', ρ2⟩, e2, e⟩ := mpd e
  cases e
  refine qa ρ σ H Z o ρ1 _ s e1 fun v H1 Z1 s1 p1 r1 n1 => ?_
  refine qr ρ1 σ H1 Z1 os' ρ2 _ s1 e2 fun vs H2 Z2 s2 p2 r2 => ?_
  refine k (v :: vs) H2 Z2 s2 (p1.trans p2) ⟨v, vs, rfl, r1.stp s1 p2, n1, fun a w => ?_, r2.back fun a h => p1.none_ h⟩
  obtain ⟨c, e3, e4, e5⟩ := w
  subst e3
  obtain ⟨ob, h⟩ := r1.1.dm e4 e5
  exact r2.old h
/-- such a call, no positional argument -/
theorem pe_callN0 {CX : CXT} {k : Nat} {f : Addr} {fd : FuncData} {ps ks : List Str} {sp : Sp} {E : XK} {tk : TA} {g : List Value → List Value → List Value} {gV : List V → List V → List V} (F : FnOk X.prog X.w X.K X.mg X.base CX k f fd ps sp) (room : Room k X.A) (hg : Gl X x) (hm : X.mg x = some (.ref f)) (hk : PySem.W.keepIn X.K (.ref f) = true) (hb : KBn X.K fd ps 0 ks g gV) (hx : Passes CX X E) (hkw : PK X kws tk)
    (hall : (backToKw pos (keywordEach kws X.env)).all (·.1.isSome) = true) (hks : (backToKw pos (keywordEach kws X.env)).filterMap (·.1) = ks) (hdb : (x == ("__debug__" : Str)) = false)
    (hpl : ((backTo pos (starEach [] X.env)).any (·.1) || (backToKw pos (keywordEach kws X.env)).any (·.1.isNone)) = false) :
    PE X (.Call (.Name x p) [] kws pos) (tCallN 0 ks.length sp gV E tNil tk) := by
  constructor
  intro pins s σ H Q inv want
  refine wpAny_Call_Name_kw (ld_glob inv hg hm ?_ hdb)
  refine PySem.W.callWith_KW0 (h₀ := X.base) inv.ok.mod.kin hk hall (thn (hkw.run pos pins s σ H _ inv want) ?_) hpl
  rintro ws s2 ⟨zs, H2, inv2, rz, l1, l2, q2⟩
  refine ⟨inv2.kIn, ?_⟩
  rw [hks]
  exact run_fnN (us := []) (vs := []) F room hb hx inv2 .nil rz l1 l2 q2
theorem kwArr_map {α : Type} (z : α) (ps ks : List Str) (us ws : List α) : kwArr z ps ks us ws = us ++ ((ps.drop us.length).map fun p => ks.idxOf p).map fun i => ws.getD i z := by
  unfold kwArr
  rw [List.map_map]; rfl
theorem idx_nodup {ks : List Str} : ∀ {qs : List Str}, (∀ p ∈ qs, p ∈ ks) → qs.Nodup → (qs.map fun p => ks.idxOf p).Nodup
  | [], _, _ => List.nodup_nil
  | q :: qs, h, nd => by
    rw [List.map_cons, List.nodup_cons]
    rw [List.nodup_cons] at nd
    refine ⟨fun hm => ?_, idx_nodup (fun p hp => h p (by simp [hp])) nd.2⟩
    obtain ⟨p, hp, e⟩ := List.mem_map.mp hm
    have h1 := List.idxOf_lt_length_of_mem (h q (by simp))
    have h2 := List.idxOf_lt_length_of_mem (h p (by simp [hp]))
    have e1 : ks[ks.idxOf q] = q := by simp
    have e2 : ks[ks.idxOf p] = p := by simp
    have : p = q := by
      rw [← e2, ← e1]
      congr 1
    exact nd.1 (this ▸ hp)
theorem so_callk {fn : Fn} {j : Nat} {f : Addr} {fd : FuncData} {ks : List Str} {is iks : Exs} (hT : T.fn j = some fn) (F : FnAt X x fn f fd) (hb : KBn X.K fd fn.ps is.len ks (kwArr .none fn.ps ks) (kwArr .non fn.ps ks)) (hin : ∀ q ∈ fn.ps.drop is.len, q ∈ ks) (hnd : fn.ps.Nodup) (hkl : iks.len = ks.length)
    (h : SA X es (evs T is)) (hk : SK X kws (evs T iks)) (pc : ∀ {t tk : TA}, PAn X es t → PK X kws tk → PE X (.Call (.Name x p) es kws pos) (tCallN is.len ks.length (spF X.K fn) (kwArr .non fn.ps ks) E0_ t tk)) :
    SO X (.Call (.Name x p) es kws pos) (ev T (.call j is ((fn.ps.drop is.len).map fun q => ks.idxOf q) iks)) := by
  obtain ⟨t, pt, qt⟩ := h
  obtain ⟨tk, pk, qk⟩ := hk
  refine ⟨_, pc pt pk, fun ρ σ H Z o ρ' Q s e k => ?_⟩
  obtain ⟨⟨os, ρ1⟩, e1, e⟩ := bnd (show (evs T is ρ).bind _ = some _ from e)
  obtain ⟨⟨oks, ρ2⟩, e2, e⟩ := bnd e
  have l1 : os.length = is.len := evs_len e1
  have l2 : oks.length = iks.len := evs_len e2
  have e' : ((T.fn j).bind fun fn' => if os.length + ((fn.ps.drop is.len).map fun q => ks.idxOf q).length = fn'.ps.length then callF fn' (os ++ ((fn.ps.drop is.len).map fun q => ks.idxOf q).map fun i => oks.getD i (Od.t .emp)) ρ2 else none) = some (o, ρ') := e
  rw [hT] at e'
  have e3 : (if os.length + ((fn.ps.drop is.len).map fun q => ks.idxOf q).length = fn.ps.length then callF fn (os ++ ((fn.ps.drop is.len).map fun q => ks.idxOf q).map fun i => oks.getD i (Od.t .emp)) ρ2 else none) = some (o, ρ') := e'
  by_cases hc : os.length + ((fn.ps.drop is.len).map fun q => ks.idxOf q).length = fn.ps.length
  · rw [if_pos hc] at e3
    refine qt ρ σ H Z os ρ1 _ s e1 fun vs H1 Z1 s1 p1 r1 => ?_
    refine qk ρ1 σ H1 Z1 oks ρ2 _ s1 e2 fun zs H2 Z2 s2 p2 r2 => ?_
    have l3 := r1.length
    have l4 := r2.length
    refine ⟨l3.trans l1, l4.trans (l2.trans hkl), ?_⟩
    have i1 := OdI.of (r1.stp s1 p2)
    have i2 := OdI.of (r2.back fun a h => p1.none_ h)
    have i3 := i2.pick (ix := (fn.ps.drop os.length).map fun q => ks.idxOf q) (fun i hi => by
      obtain ⟨q, hq, e⟩ := List.mem_map.mp hi
      rw [l1] at hq
      have := List.idxOf_lt_length_of_mem (hin q hq)
      omega) (idx_nodup (fun q hq => hin q (by rw [← l1]; exact hq)) (hnd.sublist (List.drop_sublist _ _)))
    have i4 := i1.append i3 (fun i j o1 v1 o2 v2 a a1 a2 a3 a4 w1 w2 => by
      -- the keywords' values are newer than the positional ones
      obtain ⟨c, ec, hc1, hv1⟩ := w1
      obtain ⟨c2, ec2, hc2, hv2⟩ := w2
      subst ec ec2
      have old : ∃ ob, H1 a = some ob := ((OdI.of r1).at_ i _ _ a1 a2).1.1.dm hc1 hv1
      have i2' := (OdI.of r2).pick (ix := (fn.ps.drop os.length).map fun q => ks.idxOf q) (fun i hi => by
        obtain ⟨q, hq, e⟩ := List.mem_map.mp hi
        rw [l1] at hq
        have := List.idxOf_lt_length_of_mem (hin q hq)
        omega) (idx_nodup (fun q hq => hin q (by rw [← l1]; exact hq)) (hnd.sublist (List.drop_sublist _ _)))
      have nw := (i2'.at_ j _ _ a3 a4).2 a hc2 hv2
      obtain ⟨ob, h⟩ := old
      rw [h] at nw; cases nw)
    rw [l1] at i4
    have ev' : vs ++ ((fn.ps.drop is.len).map fun q => ks.idxOf q).map (fun i => zs.getD i V.non) = kwArr .non fn.ps ks vs zs := by rw [kwArr_map, l3, l1]
    rw [ev'] at i4
    exact callF_ok (p1.trans p2) s2 i4.to (by rw [List.length_append, List.length_map]; exact hc) e3 k
  · rw [if_neg hc] at e3; cases e3
end
end Lt

/-! Lt, part 7: targets, what is walked, comprehensions. -/
namespace Lt
open PySem L2 PySem.Spec PyProof.Rows
section
variable {K : PySem.W.Frag} {H0 H H' : Hp} {Z Z' : Addr → Prop} {ρ : Rho} {σ : L2.St}
/-- a slot is stored -/
theorem set_ok (s : Sta K H Z ρ σ) {i : Nat} {c : Cell} {v : V} (cv : CellV K H Z c v) (no : ∀ a, isOw c = true → v = .ref a → ¬ Ow ρ σ a) :
    Sta K H Z (ρ.set i c) (σ.set i (some v)) ∧ ∀ a, Ow (ρ.set i c) (σ.set i (some v)) a → Ow ρ σ a ∨ (isOw c = true ∧ v = .ref a) := by
  by_cases hi : i < ρ.length
  · have hi' : i < σ.length := by rw [← s.len]; exact hi
    have ca := cellAt_set (c := c) hi
    have sa : ∀ j, (σ.set i (some v))[j]? = if j = i then some (some v) else σ[j]? := fun j => by
      by_cases hj : j = i
      · subst hj; rw [if_pos rfl, List.getElem?_set_self hi']
      · rw [if_neg hj, List.getElem?_set_ne (Ne.symm hj)]
    have ow : ∀ a, Ow (ρ.set i c) (σ.set i (some v)) a → Ow ρ σ a ∨ (isOw c = true ∧ v = .ref a) := fun a ⟨j, h1, h2⟩ => by
      rw [ca j] at h1
      rw [sa j] at h2
      by_cases hj : j = i
      · rw [if_pos hj] at h1 h2
        exact .inr ⟨h1, Option.some.inj (Option.some.inj h2)⟩
      · rw [if_neg hj] at h1 h2
        exact .inl ⟨j, h1, h2⟩
    refine ⟨⟨by rw [List.length_set, List.length_set, s.len], fun j hj => ?_, fun j k a h1 h2 h3 h4 => ?_, s.zd⟩, ow⟩
    · rw [ca j] at hj ⊢
      rw [sa j]
      by_cases hji : j = i
      · rw [if_pos hji, if_pos hji]; exact ⟨v, rfl, cv⟩
      · rw [if_neg hji] at hj ⊢
        rw [if_neg hji]; exact s.at_ j hj
    · rw [ca j] at h1
      rw [ca k] at h2
      rw [sa j] at h3
      rw [sa k] at h4
      by_cases hj : j = i <;> by_cases hk : k = i
      · rw [hj, hk]
      · rw [if_pos hj] at h1 h3
        rw [if_neg hk] at h2 h4
        exact (no a h1 (Option.some.inj (Option.some.inj h3)) ⟨k, h2, h4⟩).elim
      · rw [if_neg hj] at h1 h3
        rw [if_pos hk] at h2 h4
        exact (no a h2 (Option.some.inj (Option.some.inj h4)) ⟨j, h1, h3⟩).elim
      · rw [if_neg hj] at h1 h3
        rw [if_neg hk] at h2 h4
        exact s.inj j k a h1 h2 h3 h4
  · have e1 : ρ.set i c = ρ := List.set_eq_of_length_le (by omega)
    have e2 : σ.set i (some v) = σ := List.set_eq_of_length_le (by rw [← s.len]; omega)
    rw [e1, e2]
    exact ⟨s, fun a w => .inl w⟩
end
/-! ### targets -/
def isT : Tg → Prop
  | .t _ => True
  | _ => False
/-- an item of a walk: frozen data, or a pair that was just made -/
def ItemV (K : PySem.W.Frag) (tg : Tg) (H : Hp) (Z : Addr → Prop) (H' : Hp) (d : D) (x : V) : Prop :=
  (H' = H ∧ Rl K H Z d x) ∨ (isT tg ∧ ∃ T x1 x2 d1 d2, x = .ref T ∧ H T = none ∧ H' = upd H T (.tup [x1, x2]) ∧ d = .tuple [d1, d2] ∧ Rl K H Z d1 x1 ∧ Rl K H Z d2 x2)
mutual
def Tg.slots : Tg → List Nat
  | .n i => [i]
  | .t l => Tg.slotsL l
def Tg.slotsL : List Tg → List Nat
  | [] => []
  | g :: gs => g.slots ++ Tg.slotsL gs
end
def SG (X : Cx) (tg : Expr) (it : Tg) : Prop := ∃ g : TG, PG X tg g ∧ ∀ (ρ : Rho) (σ : L2.St) (H : Hp) (Z : Addr → Prop) (H' : Hp) (d : D) (x : V) (ρ' : Rho) (Q : L2.St → Hp → Prop), Sta X.K H Z ρ σ → ItemV X.K it H Z H' d x → bindTg it d ρ = some ρ' →
  (∀ σ' Z', Sta X.K H' Z' ρ' σ' → Stp (Ow ρ σ) (Ow ρ' σ') H Z H' Z' → (∀ j, j ∉ it.slots → σ'[j]? = σ[j]?) → (∀ a, Z a → Z' a) → Q σ' H') → g x σ H' Q
def SGs (X : Cx) (tgs : List Expr) (its : List Tg) : Prop := ∃ g : TGs, PGs X tgs g ∧ ∀ (ρ : Rho) (σ : L2.St) (H : Hp) (Z : Addr → Prop) (ds : List D) (xs : List V) (ρ' : Rho) (Q : L2.St → Hp → Prop), Sta X.K H Z ρ σ → Rls X.K H Z ds xs → bindTg.go its ds ρ = some ρ' →
  (∀ σ', Sta X.K H Z ρ' σ' → (∀ a, Ow ρ' σ' a → Ow ρ σ a) → (∀ j, j ∉ Tg.slotsL its → σ'[j]? = σ[j]?) → Q σ' H) → g xs σ H Q
section
variable {X : Cx} {T : Tab} {pos : Pos}
theorem Stp.sub {W W1 W2 : Addr → Prop} {H : Hp} {Z : Addr → Prop} {H' : Hp} {Z' : Addr → Prop} (p : Stp W W1 H Z H' Z') (h : ∀ a, W2 a → W1 a) : Stp W W2 H Z H' Z' := ⟨p.fr, p.dom, p.z, fun a w => p.w a (h a w)⟩
/-- a name takes frozen data; nothing else changes -/
def SGn (X : Cx) (tg : Expr) (it : Tg) : Prop := ∃ g : TG, PG X tg g ∧ ∀ (ρ : Rho) (σ : L2.St) (H : Hp) (Z : Addr → Prop) (d : D) (x : V) (ρ' : Rho) (Q : L2.St → Hp → Prop), Sta X.K H Z ρ σ → Rl X.K H Z d x → bindTg it d ρ = some ρ' →
  (∀ σ', Sta X.K H Z ρ' σ' → (∀ a, Ow ρ' σ' a → Ow ρ σ a) → (∀ j, j ∉ it.slots → σ'[j]? = σ[j]?) → Q σ' H) → g x σ H Q
theorem sgn_name {i : Nat} {x : Str} (hN : X.N.Nodup) (hi : X.N[i]? = some x) (hx : Loc X.env.scope x) (hf : X.fn x = true ∨ X.env.scope.names.lookup x = some .local) : SGn X (.Name x pos) (.n i) := by
  refine ⟨gName i, pg_name hN hi hx hf, fun ρ σ H Z d x ρ' Q s r e k => ?_⟩
  cases (show some (ρ.set i (.dat d)) = some ρ' from e)
  obtain ⟨s', ow⟩ := set_ok s (i := i) (c := .dat d) r (fun _ h => nomatch h)
  refine k _ s' (fun a w => (ow a w).elim id fun z => nomatch z.1) fun j hj => ?_
  have : j ≠ i := fun q => hj (by rw [q]; simp [Tg.slots])
  rw [List.getElem?_set_ne (Ne.symm this)]
theorem sgs_nil : SGs X [] [] := by
  refine ⟨gNil, pgs_nil, fun ρ σ H Z ds xs ρ' Q s r e k => ?_⟩
  cases ds with
  | nil =>
    cases (show some ρ = some ρ' from e)
    exact ⟨r, k σ s (fun _ w => w) fun _ _ => rfl⟩
  | cons d ds => cases e
theorem sgs_cons {e : Expr} {es : List Expr} {t : Tg} {ts : List Tg} (h1 : SGn X e t) (h2 : SGs X es ts) (hs : (assignEach (e :: es) X.env).map (·.2) = assign e X.env :: (assignEach es X.env).map (·.2)) : SGs X (e :: es) (t :: ts) := by
  obtain ⟨g1, p1, q1⟩ := h1
  obtain ⟨g2, p2, q2⟩ := h2
  refine ⟨_, pgs_cons p1 p2 hs, fun ρ σ H Z ds xs ρ' Q s r e k => ?_⟩
  cases ds with
  | nil => cases e
  | cons d ds =>
    obtain ⟨v, vs, rfl, r1, r2⟩ := r
    obtain ⟨ρ1, e1, e2⟩ := bnd (show (bindTg t d ρ).bind (bindTg.go ts ds) = some ρ' from e)
    refine ⟨v, vs, rfl, q1 ρ σ H Z d v ρ1 _ s r1 e1 fun σ1 s1 o1 l1 => ?_⟩
    refine q2 ρ1 σ1 H Z ds vs ρ' _ s1 r2 e2 fun σ2 s2 o2 l2 => ?_
    refine k σ2 s2 (fun a w => o1 a (o2 a w)) fun j hj => ?_
    rw [Tg.slotsL, List.mem_append, not_or] at hj
    rw [l2 j hj.2, l1 j hj.1]
theorem sgn_tup {es : List Expr} {k0 : Nat} {ts : List Tg} (hc : X.calm = true) (h : SGs X es ts) (hn : (assignEach es X.env).length = ts.length) (hst : (assignEach es X.env).findIdx? (·.1) = none) : SGn X (.Tuple es k0 pos) (.t ts) := by
  obtain ⟨g, p, q⟩ := h
  refine ⟨_, pg_tup hc p hn hst, fun ρ σ H Z d x ρ' Q s r e k => ?_⟩
  cases d <;> (try (cases (show none = some ρ' from e)))
  rename_i ds
  have e' : bindTg.go ts ds ρ = some ρ' := e
  obtain ⟨a, vs, rfl, l, _, rr⟩ := (show Rl X.K H Z (.tuple ds) x from r)
  have hlen : ∀ {ts : List Tg} {ds : List D} {ρ ρ' : Rho}, bindTg.go ts ds ρ = some ρ' → ds.length = ts.length := by
    intro ts
    induction ts with
    | nil =>
      intro ds ρ ρ' e
      cases ds with
      | nil => rfl
      | cons d ds => cases e
    | cons t ts ih =>
      intro ds ρ ρ' e
      cases ds with
      | nil => cases e
      | cons d ds =>
        obtain ⟨ρ1, e1, e2⟩ := bnd (show (bindTg t d ρ).bind (bindTg.go ts ds) = some ρ' from e)
        rw [List.length_cons, List.length_cons, ih e2]
  exact ⟨a, vs, rfl, l.sq, by rw [rr.length, hlen e'], q ρ σ H Z ds vs ρ' Q s rr e' fun σ' s' o' l' => k σ' s' o' l'⟩
theorem SGn.g {tg : Expr} {it : Tg} (h : SGn X tg it) (hn : ¬ isT it) : SG X tg it := by
  obtain ⟨g, p, q⟩ := h
  refine ⟨g, p, fun ρ σ H Z H' d x ρ' Q s iv e k => ?_⟩
  rcases iv with ⟨rfl, r⟩ | ⟨ht, _⟩
  · exact q ρ σ H' Z d x ρ' Q s r e fun σ' s' o l => k σ' Z s' (Stp.refl.sub fun a w => o a w) l fun _ z => z
  · exact (hn ht).elim
theorem sg_tup {es : List Expr} {k0 : Nat} {ts : List Tg} (hc : X.calm = true) (h : SGs X es ts) (hn : (assignEach es X.env).length = ts.length) (hst : (assignEach es X.env).findIdx? (·.1) = none) : SG X (.Tuple es k0 pos) (.t ts) := by
  obtain ⟨g0, p0, q0⟩ := h
  refine ⟨_, pg_tup hc p0 hn hst, fun ρ σ H Z H' d x ρ' Q s iv e k => ?_⟩
  have hlen : ∀ {ts : List Tg} {ds : List D} {ρ ρ' : Rho}, bindTg.go ts ds ρ = some ρ' → ds.length = ts.length := by
    intro ts
    induction ts with
    | nil =>
      intro ds ρ ρ' e
      cases ds with
      | nil => rfl
      | cons d ds => cases e
    | cons t ts ih =>
      intro ds ρ ρ' e
      cases ds with
      | nil => cases e
      | cons d ds =>
        obtain ⟨ρ1, e1, e2⟩ := bnd (show (bindTg t d ρ).bind (bindTg.go ts ds) = some ρ' from e)
        rw [List.length_cons, List.length_cons, ih e2]
  rcases iv with ⟨rfl, r⟩ | ⟨_, T, x1, x2, d1, d2, rfl, hT, rfl, rfl, r1, r2⟩
  · cases d <;> (try (cases (show none = some ρ' from e)))
    rename_i ds
    have e' : bindTg.go ts ds ρ = some ρ' := e
    obtain ⟨a, vs, rfl, l, _, rr⟩ := (show Rl X.K H' Z (.tuple ds) x from r)
    exact ⟨a, vs, rfl, l.sq, by rw [rr.length, hlen e'], q0 ρ σ H' Z ds vs ρ' Q s rr e' fun σ' s' o' l' => k σ' Z s' (Stp.refl.sub fun a w => o' a w) l' fun _ z => z⟩
  · have e' : bindTg.go ts [d1, d2] ρ = some ρ' := e
    obtain ⟨p1, s1, kp, _⟩ := alloc (W0 := Ow ρ σ) (H0 := H) (Z0 := Z) Stp.refl s hT (.tup [x1, x2]) False
    have rr : Rls X.K (upd H T (.tup [x1, x2])) (fun x => Z x ∨ (False ∧ x = T)) [d1, d2] [x1, x2] := Rls.cons (Rl.keep kp _ _ r1) (Rls.cons (Rl.keep kp _ _ r2) Rls.nil)
    exact ⟨T, [x1, x2], rfl, .inl (.inl upd_same), by have := hlen e'; simpa using this, q0 ρ σ _ _ [d1, d2] [x1, x2] ρ' Q s1 rr e' fun σ' s' o' l' => k σ' _ s' (p1.sub fun a w => o' a w) l' fun _ z => .inl z⟩

/-! ### what is walked -/
def ItOk (K : PySem.W.Frag) (tg : Tg) (J : It) (ds : List D) (H : Hp) (Z : Addr → Prop) : Prop := ∀ i H' Z', Keep H Z H' Z' → (i < ds.length → J.go i H') ∧ (i = ds.length → J.stop i H') ∧ ∀ x H'' d, ds[i]? = some d → J.yld i H' x H'' → ItemV K tg H' Z' H'' d x
def SI (X : Cx) (tg it : Expr) (itg : Tg) (f : Rho → Option (List D × Rho)) : Prop := ∃ wi : TI, PI X tg it wi ∧ ∀ (ρ : Rho) (σ : L2.St) (H : Hp) (Z : Addr → Prop) (ds : List D) (ρ' : Rho) (R : It → Hp → Prop), Sta X.K H Z ρ σ → f ρ = some (ds, ρ') →
  (∀ J H' Z', Sta X.K H' Z' ρ' σ → Stp (Ow ρ σ) (Ow ρ' σ) H Z H' Z' → ItOk X.K itg J ds H' Z' → ds.length ≤ sizeLine → R J H') → wi σ H R
theorem pi_or {tg it : Expr} {w1 w2 : TI} (h1 : PI X tg it w1) (h2 : PI X tg it w2) : PI X tg it (fun σ H R => w1 σ H R ∨ w2 σ H R) := by
  constructor
  rintro pins s σ H R inv (w | w)
  · exact h1.run pins s σ H R inv w
  · exact h2.run pins s σ H R inv w
theorem seqD_some {d : D} {ds : List D} (h : seqD d = some ds) : d = .list ds ∨ d = .tuple ds := by
  cases d with
  | list xs => cases (show some xs = some ds from h); exact .inl rfl
  | tuple xs => cases (show some xs = some ds from h); exact .inr rfl
  | _ => cases h
theorem si_seq {tg e : Expr} {itg : Tg} {i : Ex} (h : SO X e (ev T i)) : SI X tg e itg (evi T (.seq i)) := by
  obtain ⟨t, p, q⟩ := h
  refine ⟨_, pi_or (pi_list p) (pi_tup p), fun ρ σ H Z ds ρ' R s e k => ?_⟩
  obtain ⟨⟨o, ρ1⟩, e1, e⟩ := bnd (show (ev T i ρ).bind _ = some _ from e)
  obtain ⟨⟨d, ρ2⟩, e2, e⟩ := bnd e
  obtain ⟨ds', e3, e⟩ := mpd e
  cases e
  rcases seqD_some e3 with rfl | rfl
  · obtain ⟨xs, rfl⟩ : ∃ xs, xs = ds := ⟨ds, rfl⟩
    refine .inl (q ρ σ H Z o ρ1 _ s e1 fun v H1 Z1 s1 p1 r1 n1 => ?_)
    obtain ⟨Z2, p2, s2, r2, _⟩ := frz_ok p1 s1 r1 n1 e2
    obtain ⟨a, vs, rfl, l, hl, rr⟩ := (show Rl X.K H1 Z2 (.list xs) v from r2)
    refine ⟨a, rfl, ⟨vs, l.sq⟩, k _ _ Z2 s2 p2 (fun i H' Z' kp => ?_) hl⟩
    have l' := l.keep kp
    have rr' := Rls.keep kp xs vs rr
    have hlen := rr.length
    refine ⟨fun hi => ?_, fun hi => ⟨vs, l'.sq, by omega⟩, fun x H'' d hd hy => ?_⟩
    · exact ⟨vs, vs[i]'(by omega), l'.sq, List.getElem?_eq_getElem _⟩
    · obtain ⟨e5, e6⟩ := hy
      obtain ⟨u, h3, h4⟩ := rr'.get hd
      have := e6 vs l'.sq
      rw [h3] at this
      cases this
      exact .inl ⟨e5, h4⟩
  · obtain ⟨xs, rfl⟩ : ∃ xs, xs = ds := ⟨ds, rfl⟩
    refine .inr (q ρ σ H Z o ρ1 _ s e1 fun v H1 Z1 s1 p1 r1 n1 => ?_)
    obtain ⟨Z2, p2, s2, r2, _⟩ := frz_ok p1 s1 r1 n1 e2
    obtain ⟨a, vs, rfl, l, hl, rr⟩ := (show Rl X.K H1 Z2 (.tuple xs) v from r2)
    refine ⟨a, rfl, ⟨vs, l.sq⟩, k _ _ Z2 s2 p2 (fun i H' Z' kp => ?_) hl⟩
    have l' := l.keep kp
    have rr' := Rls.keep kp xs vs rr
    have hlen := rr.length
    refine ⟨fun hi => ?_, fun hi => ⟨vs, l'.sq, by omega⟩, fun x H'' d hd hy => ?_⟩
    · exact ⟨vs, vs[i]'(by omega), l'.sq, List.getElem?_eq_getElem _⟩
    · obtain ⟨e5, e6⟩ := hy
      obtain ⟨u, h3, h4⟩ := rr'.get hd
      have := e6 vs l'.sq
      rw [h3] at this
      cases this
      exact .inl ⟨e5, h4⟩
theorem itr_ok {K : PySem.W.Frag} {itg : Tg} {lo : Int} {n : Nat} {H : Hp} {Z : Addr → Prop} : ItOk K itg (L2.Itr lo n) ((List.range n).map fun k : Nat => (.int (lo + (k : Nat)) : D)) H Z := by
  intro i H' Z' kp
  rw [List.length_map, List.length_range]
  refine ⟨fun hi => hi, fun hi => by rw [hi]; exact Nat.le_refl n, fun x H'' d hd hy => ?_⟩
  obtain ⟨rfl, rfl⟩ := hy
  rw [List.getElem?_map] at hd
  obtain ⟨m, e1, e2⟩ := mpd hd
  have hi : i < n := by
    have := (List.getElem?_eq_some_iff.mp e1).1
    simpa using this
  rw [List.getElem?_range hi] at e1
  cases e1
  subst e2
  exact .inl ⟨rfl, rfl⟩
theorem si_rng1 {tg a : Expr} {itg : Tg} {i : Ex} {p pos : Pos} (hg : Gl X "range") (hm : X.mg "range" = none) (ha : SO X a (ev T i)) (hs : starEach [a] X.env = [(false, eval a X.env)]) : SI X tg (.Call (.Name "range" p) [a] [] pos) itg (evi T (.rng1 i)) := by
  obtain ⟨t, pt, qt⟩ := ha
  refine ⟨_, pi_range1 hg hm (pa_cons pt pa_nil hs) hs, fun ρ σ H Z ds ρ' R s e k => ?_⟩
  obtain ⟨⟨o, ρ1⟩, e1, e⟩ := bnd (show (ev T i ρ).bind _ = some _ from e)
  obtain ⟨d, e2, e⟩ := bnd e
  obtain ⟨ds', e3, e⟩ := mpd e
  cases e
  refine qt ρ σ H Z o ρ1 _ s e1 fun v H1 Z1 s1 p1 r1 _ => ?_
  have rv := r1.vw s1 e2
  clear e
  cases d <;> (try (cases (show none = some ds from e3)))
  rename_i n
  cases (VwV.int rv)
  have e4 : (if -(2 ^ 62) ≤ n ∧ n ≤ 16777216 then some ((List.range n.toNat).map fun k : Nat => (.int (k : Nat) : D)) else none) = some ds := e3
  by_cases hn : -(2 ^ 62) ≤ n ∧ n ≤ 16777216
  · rw [if_pos hn] at e4
    cases e4
    refine ⟨n, rfl, hn.1, by omega, k _ _ Z1 s1 p1 ?_ (by rw [List.length_map, List.length_range, sizeLine_eq]; omega)⟩
    have := itr_ok (K := X.K) (itg := itg) (lo := 0) (n := n.toNat) (H := H1) (Z := Z1)
    simpa using this
  · rw [if_neg hn] at e4; cases e4
theorem si_rng2 {tg a b : Expr} {itg : Tg} {i j : Ex} {p pos : Pos} (hg : Gl X "range") (hm : X.mg "range" = none) (ha : SO X a (ev T i)) (hb : SO X b (ev T j)) (hs : starEach [a, b] X.env = [(false, eval a X.env), (false, eval b X.env)]) (hs2 : starEach [b] X.env = [(false, eval b X.env)]) : SI X tg (.Call (.Name "range" p) [a, b] [] pos) itg (evi T (.rng2 i j)) := by
  obtain ⟨ta, pa, qa⟩ := ha
  obtain ⟨tb, pb, qb⟩ := hb
  refine ⟨_, pi_range2 hg hm (pa_cons pa (pa_cons pb pa_nil hs2) (by rw [hs, hs2])) hs hs2, fun ρ σ H Z ds ρ' R s e k => ?_⟩
  obtain ⟨⟨o, ρ1⟩, e1, e⟩ := bnd (show (ev T i ρ).bind _ = some _ from e)
  obtain ⟨⟨o2, ρ2⟩, e2, e⟩ := bnd e
  obtain ⟨x, e3, e⟩ := bnd e
  obtain ⟨y, e4, e⟩ := bnd e
  obtain ⟨ds', e5, e⟩ := mpd e
  cases e
  refine two qa qb s e1 e2 fun v w H2 Z2 s2 p2 r1 r2 _ _ => ?_
  have rv := r1.vw s2 e3
  have rw' := r2.vw s2 e4
  clear e
  cases x <;> cases y <;> (try (cases (show none = some ds from e5)))
  rename_i m n
  cases (VwV.int rv)
  cases (VwV.int rw')
  have e6 : (if -(2 ^ 62) ≤ m ∧ m < 2 ^ 62 ∧ -(2 ^ 62) ≤ n ∧ n < 2 ^ 62 ∧ n - m ≤ 16777216 then some ((List.range (n - m).toNat).map fun k : Nat => (.int (m + (k : Nat)) : D)) else none) = some ds := e5
  by_cases hn : -(2 ^ 62) ≤ m ∧ m < 2 ^ 62 ∧ -(2 ^ 62) ≤ n ∧ n < 2 ^ 62 ∧ n - m ≤ 16777216
  · rw [if_pos hn] at e6
    cases e6
    exact ⟨m, n, rfl, ⟨hn.1, hn.2.1, hn.2.2.1, hn.2.2.2.1⟩, k _ _ Z2 s2 p2 itr_ok (by rw [List.length_map, List.length_range, sizeLine_eq]; omega)⟩
  · rw [if_neg hn] at e6; cases e6
end
end Lt

/-! Lt, part 8: list comprehensions. -/
namespace Lt
open PySem L2 PySem.Spec PyProof.Rows
/-! ### slots forgotten, slots put back -/
theorem wipe_at (σ : L2.St) : ∀ (vs : List Nat) (j : Nat), (wipe σ vs)[j]? = if j ∈ vs then (if j < σ.length then some none else none) else σ[j]?
  | [], j => by simp [wipe]
  | v :: vs, j => by
    unfold wipe
    by_cases h : j = v
    · subst h
      rw [if_pos (by simp)]
      by_cases hl : j < σ.length
      · rw [if_pos hl, List.getElem?_set_self (by rw [wipe_length]; exact hl)]
      · rw [if_neg hl, List.getElem?_eq_none (by rw [List.length_set, wipe_length]; omega)]
    · rw [List.getElem?_set_ne (Ne.symm h), wipe_at σ vs j]
      have : (j ∈ v :: vs) ↔ j ∈ vs := by simp [h]
      simp only [this]
theorem wipeR_len (ρ : Rho) : ∀ vs : List Nat, (wipeR ρ vs).length = ρ.length
  | [] => rfl
  | v :: vs => by unfold wipeR; rw [List.length_set, wipeR_len ρ vs]
theorem cellAt_out {ρ : Rho} {j : Nat} (h : ρ.length ≤ j) : cellAt ρ j = .emp := by
  unfold cellAt
  rw [List.getD_eq_getElem?_getD, List.getElem?_eq_none h]; rfl
theorem cellAt_setE (ρ : Rho) (i j : Nat) : cellAt (ρ.set i .emp) j = if j = i then .emp else cellAt ρ j := by
  by_cases h : i < ρ.length
  · exact cellAt_set h j
  · by_cases hj : j = i
    · rw [if_pos hj]; exact cellAt_out (by rw [List.length_set]; omega)
    · rw [if_neg hj, List.set_eq_of_length_le (by omega)]
theorem wipeR_at (ρ : Rho) : ∀ (vs : List Nat) (j : Nat), cellAt (wipeR ρ vs) j = if j ∈ vs then .emp else cellAt ρ j
  | [], j => by simp [wipeR]
  | v :: vs, j => by
    unfold wipeR
    rw [cellAt_setE, wipeR_at ρ vs j]
    by_cases h : j = v
    · simp [h]
    · have : (j ∈ v :: vs) ↔ j ∈ vs := by simp [h]
      simp only [this, if_neg h]
theorem backR_len (ρ ρ' : Rho) : ∀ vs : List Nat, (backR ρ ρ' vs).length = ρ'.length
  | [] => rfl
  | v :: vs => by unfold backR; rw [List.length_set, backR_len ρ ρ' vs]
theorem backR_at {ρ ρ' : Rho} (hl : ρ'.length = ρ.length) : ∀ (vs : List Nat) (j : Nat), cellAt (backR ρ ρ' vs) j = if j ∈ vs then cellAt ρ j else cellAt ρ' j
  | [], j => by simp [backR]
  | v :: vs, j => by
    unfold backR
    by_cases h : v < ρ.length
    · rw [cellAt_set (by rw [backR_len, hl]; exact h), backR_at hl vs j]
      by_cases hj : j = v
      · simp [hj]
      · have : (j ∈ v :: vs) ↔ j ∈ vs := by simp [hj]
        simp only [this, if_neg hj]
    · rw [List.set_eq_of_length_le (by rw [backR_len]; omega), backR_at hl vs j]
      by_cases hj : j = v
      · subst hj
        rw [if_pos (List.mem_cons_self ..)]
        have e1 : cellAt ρ j = .emp := cellAt_out (by omega)
        have e2 : cellAt ρ' j = .emp := cellAt_out (by omega)
        rw [e1, e2]; split <;> rfl
      · have : (j ∈ v :: vs) ↔ j ∈ vs := by simp [hj]
        simp only [this]
section
variable {K : PySem.W.Frag} {H H' : Hp} {Z Z' : Addr → Prop} {ρ ρ2 : Rho} {σ : L2.St} {vs : List Nat}
theorem wipe_ow {a : Addr} (w : Ow (wipeR ρ vs) (wipe σ vs) a) : ∃ j, j ∉ vs ∧ isOw (cellAt ρ j) = true ∧ σ[j]? = some (some (.ref a)) := by
  obtain ⟨j, h1, h2⟩ := w
  rw [wipeR_at] at h1
  rw [wipe_at] at h2
  by_cases hj : j ∈ vs
  · rw [if_pos hj] at h1; cases h1
  · rw [if_neg hj] at h1 h2
    exact ⟨j, hj, h1, h2⟩
theorem wipe_sub {a : Addr} (w : Ow (wipeR ρ vs) (wipe σ vs) a) : Ow ρ σ a := by
  obtain ⟨j, _, h⟩ := wipe_ow w
  exact ⟨j, h⟩
theorem Sta.wipe (s : Sta K H Z ρ σ) (vs : List Nat) : Sta K H Z (wipeR ρ vs) (wipe σ vs) := by
  refine ⟨by rw [wipeR_len, wipe_length, s.len], fun j hj => ?_, fun i j a h1 h2 h3 h4 => ?_, s.zd⟩
  · rw [wipeR_at] at hj ⊢
    by_cases h : j ∈ vs
    · rw [if_pos h] at hj; exact (hj rfl).elim
    · rw [if_neg h] at hj ⊢
      obtain ⟨v, e, c⟩ := s.at_ j hj
      exact ⟨v, by rw [wipe_at, if_neg h]; exact e, c⟩
  · rw [wipeR_at] at h1 h2
    rw [wipe_at] at h3 h4
    by_cases hi : i ∈ vs
    · rw [if_pos hi] at h1; cases h1
    · by_cases hj : j ∈ vs
      · rw [if_pos hj] at h2; cases h2
      · rw [if_neg hi] at h1 h3
        rw [if_neg hj] at h2 h4
        exact s.inj i j a h1 h2 h3 h4
theorem Sta.back (s : Sta K H Z ρ σ) (s2 : Sta K H' Z' (wipeR ρ2 vs) (L2.wipe σ vs)) (p : Stp (Ow (wipeR ρ vs) (L2.wipe σ vs)) (Ow (wipeR ρ2 vs) (L2.wipe σ vs)) H Z H' Z') :
    Sta K H' Z' (backR ρ ρ2 vs) σ ∧ Stp (Ow ρ σ) (Ow (backR ρ ρ2 vs) σ) H Z H' Z' ∧ ∀ a, Ow (backR ρ ρ2 vs) σ a → Ow ρ σ a ∨ Ow (wipeR ρ2 vs) (L2.wipe σ vs) a := by
  have hl2 : ρ2.length = σ.length := by
    have := s2.len
    rwa [wipeR_len, wipe_length] at this
  have hl : ρ2.length = ρ.length := by rw [hl2, s.len]
  have ca := backR_at hl vs
  have o2 : ∀ {j a}, j ∉ vs → isOw (cellAt ρ2 j) = true → σ[j]? = some (some (.ref a)) → Ow (wipeR ρ2 vs) (L2.wipe σ vs) a := fun {j a} hj h1 h2 => ⟨j, by rw [wipeR_at, if_neg hj]; exact h1, by rw [wipe_at, if_neg hj]; exact h2⟩
  have nw : ∀ {j a}, j ∈ vs → isOw (cellAt ρ j) = true → σ[j]? = some (some (.ref a)) → ¬ Ow (wipeR ρ vs) (L2.wipe σ vs) a := fun {j a} hj h1 h2 w => by
    obtain ⟨k, hk, h3, h4⟩ := wipe_ow w
    exact hk (by rw [s.inj k j a h3 h1 h4 h2]; exact hj)
  have os : ∀ a, Ow (backR ρ ρ2 vs) σ a → Ow ρ σ a ∨ Ow (wipeR ρ2 vs) (L2.wipe σ vs) a := fun a ⟨j, h1, h2⟩ => by
    rw [ca j] at h1
    by_cases hj : j ∈ vs
    · rw [if_pos hj] at h1; exact .inl ⟨j, h1, h2⟩
    · rw [if_neg hj] at h1; exact .inr (o2 hj h1 h2)
  refine ⟨⟨by rw [backR_len]; exact hl2, fun j hj => ?_, fun i j a h1 h2 h3 h4 => ?_, s2.zd⟩, ⟨fun a o e n => p.fr a o e fun w => n (wipe_sub w), p.dom, p.z, fun a w => ?_⟩, os⟩
  · rw [ca j] at hj ⊢
    by_cases h : j ∈ vs
    · rw [if_pos h] at hj ⊢
      obtain ⟨v, e, c⟩ := s.at_ j hj
      exact ⟨v, e, c.stp p (fun a z w => s.nz (wipe_sub w) z) fun a h1 h2 => nw h h1 (by rw [e, h2])⟩
    · rw [if_neg h] at hj ⊢
      obtain ⟨v, e, c⟩ := s2.at_ j (by rw [wipeR_at, if_neg h]; exact hj)
      rw [wipe_at, if_neg h] at e
      rw [wipeR_at, if_neg h] at c
      exact ⟨v, e, c⟩
  · have mix : ∀ {i j}, i ∈ vs → j ∉ vs → isOw (cellAt ρ i) = true → isOw (cellAt ρ2 j) = true → σ[i]? = some (some (.ref a)) → σ[j]? = some (some (.ref a)) → False := fun {i j} hi hj h1 h2 h3 h4 => by
      rcases p.w a (o2 hj h2 h4) with w | w
      · exact nw hi h1 h3 w
      · obtain ⟨o, e⟩ := s.dm ⟨i, h1, h3⟩
        rw [w] at e; cases e
    rw [ca i] at h1
    rw [ca j] at h2
    by_cases hi : i ∈ vs <;> by_cases hj : j ∈ vs
    · rw [if_pos hi] at h1; rw [if_pos hj] at h2
      exact s.inj i j a h1 h2 h3 h4
    · rw [if_pos hi] at h1; rw [if_neg hj] at h2
      exact (mix hi hj h1 h2 h3 h4).elim
    · rw [if_neg hi] at h1; rw [if_pos hj] at h2
      exact (mix hj hi h2 h1 h4 h3).elim
    · rw [if_neg hi] at h1; rw [if_neg hj] at h2
      exact s2.inj i j a (by rw [wipeR_at, if_neg hi]; exact h1) (by rw [wipeR_at, if_neg hj]; exact h2) (by rw [wipe_at, if_neg hi]; exact h3) (by rw [wipe_at, if_neg hj]; exact h4)
  · rcases os a w with w | w
    · exact .inl w
    · rcases p.w a w with w | w
      · exact .inl (wipe_sub w)
      · exact .inr w
/-- an object that nobody knows is written -/
theorem Stp.upd {W W' : Addr → Prop} (p : Stp W W' H Z H' Z') {a : Addr} (h : H a = none) (o : HO) : Stp W W' H Z (upd H' a o) Z' := by
  refine ⟨fun x o' e n => ?_, fun x o' e => ?_, p.z, p.w⟩
  · rw [upd_ne (ne_of_none e h)]; exact p.fr x o' e n
  · rw [upd_ne (ne_of_none e h)]; exact p.dom x o' e
theorem Sta.upd (s : Sta K H Z ρ σ) {a : Addr} (hw : ¬ Ow ρ σ a) (hz : ¬ Z a) (o : HO) : Sta K (upd H a o) Z ρ σ := by
  have kp : Keep H Z (L2.upd H a o) Z := ⟨fun x o' z e => by rw [upd_ne (show x ≠ a from fun q => hz (by rw [← q]; exact z))]; exact e, fun _ z => z⟩
  refine ⟨s.len, fun j hj => ?_, s.inj, fun x z => ?_⟩
  · obtain ⟨u, e1, c⟩ := s.at_ j hj
    refine ⟨u, e1, ?_⟩
    cases qj : cellAt ρ j with
    | emp => exact (hj qj).elim
    | dat d' => rw [qj] at c; exact Rl.keep kp d' u c
    | dic kvs =>
      rw [qj] at c
      obtain ⟨b, e2, db⟩ := c
      exact ⟨b, e2, db.move kp (fun o h => by rw [upd_ne (show b ≠ a from fun q => hw ⟨j, by rw [qj]; rfl, by rw [e1, e2, q]⟩)]; exact h) db.nz⟩
    | own es =>
      rw [qj] at c
      obtain ⟨b, ws, e2, hb, nb, lb, rb⟩ := c
      exact ⟨b, ws, e2, by rw [upd_ne (show b ≠ a from fun q => hw ⟨j, by rw [qj]; rfl, by rw [e1, e2, q]⟩)]; exact hb, nb, lb, Rls.keep kp es ws rb⟩
  · obtain ⟨o', e⟩ := s.zd x z
    rw [upd_ne (show x ≠ a from fun q => hz (by rw [← q]; exact z))]; exact ⟨o', e⟩
end
/-! ### targets keep the length -/
mutual
theorem bindTg_len : ∀ (t : Tg) (d : D) (ρ ρ' : Rho), bindTg t d ρ = some ρ' → ρ'.length = ρ.length
  | .n i, d, ρ, ρ', e => by
    cases (show some (ρ.set i (.dat d)) = some ρ' from e)
    exact List.length_set ..
  | .t ts, d, ρ, ρ', e => by
    cases d <;> (try (cases (show none = some ρ' from e)))
    rename_i ds
    exact bindGo_len ts ds ρ ρ' e
theorem bindGo_len : ∀ (ts : List Tg) (ds : List D) (ρ ρ' : Rho), bindTg.go ts ds ρ = some ρ' → ρ'.length = ρ.length
  | [], [], ρ, ρ', e => by cases (show some ρ = some ρ' from e); rfl
  | [], d :: ds, ρ, ρ', e => by cases e
  | t :: ts, [], ρ, ρ', e => by cases e
  | t :: ts, d :: ds, ρ, ρ', e => by
    obtain ⟨ρ1, e1, e2⟩ := bnd (show (bindTg t d ρ).bind (bindTg.go ts ds) = some ρ' from e)
    rw [bindGo_len ts ds ρ1 ρ' e2, bindTg_len t d ρ ρ1 e1]
end
/-! ### one promise for all the blocks -/
/-- what a block starts with -/
abbrev BkI := Shared × Hp × Addr × List (Str × Addr) × List Addr
abbrev Bk (X : Cx) (scope : Scope) (c : BkI) : Cx := X.blk c.1 c.2.1 scope (compEnvC scope c.2.2.2.1 c.2.2.1 X.env) c.2.2.2.2
def LawE (K : PySem.W.Frag) (t : TE) (f : Rho → Option (Od × Rho)) : Prop := ∀ (ρ : Rho) (σ : L2.St) (H : Hp) (Z : Addr → Prop) (o : Od) (ρ' : Rho) (Q : VK), Sta K H Z ρ σ → f ρ = some (o, ρ') →
  (∀ v H' Z', Sta K H' Z' ρ' σ → Stp (Ow ρ σ) (Ow ρ' σ) H Z H' Z' → OdV K H' Z' ρ' σ o v → NewV H o v → Q v H') → t σ H Q
def LawC (K : PySem.W.Frag) (t : TT) (f : Rho → Option (Bool × Rho)) : Prop := ∀ (ρ : Rho) (σ : L2.St) (H : Hp) (Z : Addr → Prop) (b : Bool) (ρ' : Rho) (Q : Bool → Hp → Prop), Sta K H Z ρ σ → f ρ = some (b, ρ') →
  (∀ H' Z', Sta K H' Z' ρ' σ → Stp (Ow ρ σ) (Ow ρ' σ) H Z H' Z' → Q b H') → t σ H Q
def LawG (K : PySem.W.Frag) (g : TG) (it : Tg) : Prop := ∀ (ρ : Rho) (σ : L2.St) (H : Hp) (Z : Addr → Prop) (H' : Hp) (d : D) (x : V) (ρ' : Rho) (Q : L2.St → Hp → Prop), Sta K H Z ρ σ → ItemV K it H Z H' d x → bindTg it d ρ = some ρ' →
  (∀ σ' Z', Sta K H' Z' ρ' σ' → Stp (Ow ρ σ) (Ow ρ' σ') H Z H' Z' → (∀ j, j ∉ it.slots → σ'[j]? = σ[j]?) → (∀ a, Z a → Z' a) → Q σ' H') → g x σ H' Q
/-- the tests of a comprehension -/
def SC (X : Cx) (ifs : List Expr) (f : Rho → Option (Bool × Rho)) : Prop := ∃ t : TT, PTs X ifs t ∧ LawC X.K t f
section
variable {X : Cx} {T : Tab} {scope : Scope}
theorem sc_nil : SC X [] (evc T .no) := by
  refine ⟨tYes, pts_nil, fun ρ σ H Z b ρ' Q s e k => ?_⟩
  cases (show some (true, ρ) = some (b, ρ') from e)
  exact k H Z s Stp.refl
theorem sc_one {c : Expr} {i : Ex} (h : ST X c (ev T i)) : SC X [c] (evc T (.so i)) := by
  obtain ⟨t, p, q⟩ := h
  refine ⟨t, pts_one p, fun ρ σ H Z b ρ' Q s e k => ?_⟩
  obtain ⟨⟨o, ρ1⟩, e1, e⟩ := bnd (show (ev T i ρ).bind _ = some _ from e)
  obtain ⟨b', e2, e⟩ := mpd e
  cases e
  exact q ρ σ H Z o ρ1 _ Q s e1 e2 k
theorem so_all {e : Expr} {f : Rho → Option (Od × Rho)} (h : ∀ c, SO (Bk X scope c) e f) : ∃ t, (∀ c, PE (Bk X scope c) e t) ∧ LawE X.K t f :=
  ⟨fun σ H Q => ∀ c, (h c).choose σ H Q, fun c => ⟨fun pins s σ H Q I q => (h c).choose_spec.1.run pins s σ H Q I (q c)⟩, fun ρ σ H Z o ρ' Q s e k c => (h c).choose_spec.2 ρ σ H Z o ρ' Q s e k⟩
theorem sc_all {es : List Expr} {f : Rho → Option (Bool × Rho)} (h : ∀ c, SC (Bk X scope c) es f) : ∃ t, (∀ c, PTs (Bk X scope c) es t) ∧ LawC X.K t f :=
  ⟨fun σ H Q => ∀ c, (h c).choose σ H Q, fun c => ⟨fun pins s σ H Q I q => (h c).choose_spec.1.run pins s σ H Q I (q c)⟩, fun ρ σ H Z o ρ' Q s e k c => (h c).choose_spec.2 ρ σ H Z o ρ' Q s e k⟩
theorem sg_all {tg : Expr} {it : Tg} (h : ∀ c, SG (Bk X scope c) tg it) : ∃ t, (∀ c, PG (Bk X scope c) tg t) ∧ LawG X.K t it :=
  ⟨fun v σ H Q => ∀ c, (h c).choose v σ H Q, fun c => ⟨fun pins s σ H v u Q I r q => (h c).choose_spec.1.run pins s σ H v u Q I r (q c)⟩, fun ρ σ H Z H' d x ρ' Q s iv e k c => (h c).choose_spec.2 ρ σ H Z H' d x ρ' Q s iv e k⟩
end
def lcTurn (T : Tab) (elt : Ex) (tg : Tg) (c : Oex) (d : D) (ρ : Rho) : Option (Option D × Rho) :=
  (bindTg tg d ρ).bind fun ρ => (evc T c ρ).bind fun k => if k.1 then (ev T elt k.2).bind fun y => (frz y.2 y.1).map fun z => (some z.1, z.2) else some (none, k.2)
theorem lc_loop {K : PySem.W.Frag} {T : Tab} {elt : Ex} {itg : Tg} {ic : Oex} {g : TG} {tt : TT} {te : TE} (lg : LawG K g itg) (lt : LawC K tt (evc T ic)) (le : LawE K te (ev T elt)) {vs : List Nat} (hsub : ∀ i ∈ itg.slots, i ∈ vs)
    {J : It} {ds : List D} {ρ1 ρ2 : Rho} {σ : L2.St} {H1 : Hp} {Z1 : Addr → Prop} {out : List D} {Q : VK} (s : Sta K H1 Z1 ρ1 σ) (hJ : ItOk K itg J ds H1 Z1) (hl : ds.length ≤ sizeLine) (e : lcLoop (lcTurn T elt itg ic) vs ds ρ1 = some (out, ρ2))
    {A : Addr} (hA : H1 A = none) (k : ∀ H' Z', Sta K H' Z' (backR ρ1 ρ2 vs) σ → Stp (Ow ρ1 σ) (Ow (backR ρ1 ρ2 vs) σ) H1 Z1 H' Z' → ResV K H' Z' (backR ρ1 ρ2 vs) σ (.own out) (.ref A) → Q (.ref A) H') :
    ∃ W : Nat → Nat → Hp → Prop, (∃ m, W 0 m (upd H1 A (.lst []))) ∧ ∀ i m H, W i m H →
  (J.stop i H ∧ Q (.ref A) H) ∨ (J.go i H ∧ ∃ Nx : Hp → Prop, (∀ H', Nx H' → ∃ m', m' < m ∧ W (i + 1) m' H') ∧ ∀ x H', J.yld i H x H' → g x (wipe σ vs) H' fun σ2 H2 => wipe σ2 vs = wipe σ vs ∧ tt σ2 H2 fun b H3 =>
    if b = true then te σ2 H3 fun y H4 => ∃ acc, H4 A = some (.lst acc) ∧ acc.length < sizeLine ∧ Nx (upd H4 A (.lst (acc ++ [y]))) else Nx H3) := by
  have W0 : (∀ a, Z1 a → ¬ Ow (wipeR ρ1 vs) (wipe σ vs) a) := fun a z w => s.nz (wipe_sub w) z
  refine ⟨fun i m H => m = ds.length - i ∧ i ≤ ds.length ∧ ∃ (ρi : Rho) (Z : Addr → Prop) (acc : List V) (ad rest : List D), Sta K H Z (wipeR ρi vs) (wipe σ vs) ∧ Stp (Ow (wipeR ρ1 vs) (wipe σ vs)) (Ow (wipeR ρi vs) (wipe σ vs)) H1 Z1 H Z ∧
    H A = some (.lst acc) ∧ ¬ Z A ∧ ¬ Ow (wipeR ρi vs) (wipe σ vs) A ∧ Rls K H Z ad acc ∧ ad.length ≤ i ∧ lcLoop (lcTurn T elt itg ic) vs (ds.drop i) ρi = some (rest, ρ2) ∧ ad ++ rest = out, ⟨ds.length, ?_⟩, ?_⟩
  · have nw : ¬ Ow ρ1 σ A := fun w => by
      obtain ⟨o, e⟩ := s.dm w
      rw [hA] at e; cases e
    have nz : ¬ Z1 A := fun z => by
      obtain ⟨o, e⟩ := s.zd A z
      rw [hA] at e; cases e
    exact ⟨by simp, Nat.zero_le _, ρ1, Z1, [], [], out, (s.wipe vs).upd (fun w => nw (wipe_sub w)) nz _, Stp.refl.upd hA _, upd_same, nz, fun w => nw (wipe_sub w), Rls.nil, Nat.le_refl _, e, rfl⟩
  rintro i m H ⟨rfl, hi, ρi, Z, acc, ad, rest, sw, pw, hAc, nz, nw, rr, hal, el, hout⟩
  have kp : Keep H1 Z1 H Z := pw.keep W0
  obtain ⟨j1, j2, j3⟩ := hJ i H Z kp
  by_cases hlt : i < ds.length
  · refine .inr ⟨j1 hlt, fun H' => ∃ (ρi : Rho) (Z : Addr → Prop) (acc : List V) (ad rest : List D), Sta K H' Z (wipeR ρi vs) (wipe σ vs) ∧ Stp (Ow (wipeR ρ1 vs) (wipe σ vs)) (Ow (wipeR ρi vs) (wipe σ vs)) H1 Z1 H' Z ∧
      H' A = some (.lst acc) ∧ ¬ Z A ∧ ¬ Ow (wipeR ρi vs) (wipe σ vs) A ∧ Rls K H' Z ad acc ∧ ad.length ≤ i + 1 ∧ lcLoop (lcTurn T elt itg ic) vs (ds.drop (i + 1)) ρi = some (rest, ρ2) ∧ ad ++ rest = out, fun H' h => ⟨ds.length - (i + 1), by omega, rfl, hlt, h⟩, fun x H' hy => ?_⟩
    have hdi : ds[i]? = some ds[i] := List.getElem?_eq_getElem hlt
    have iv := j3 x H' _ hdi hy
    rw [List.drop_eq_getElem_cons hlt] at el
    obtain ⟨⟨oy, ρ3⟩, et, el⟩ := bnd (show (lcTurn T elt itg ic ds[i] (wipeR ρi vs)).bind _ = some _ from el)
    obtain ⟨⟨rest', ρ4⟩, el2, eq⟩ := mpd el
    obtain ⟨ρa, ea, et⟩ := bnd (show (bindTg itg ds[i] (wipeR ρi vs)).bind _ = some _ from et)
    obtain ⟨⟨b, ρb⟩, eb, et⟩ := bnd et
    have e4 : ρ4 = ρ2 := (Prod.mk.inj eq).2
    have e5 : oy.elim rest' (· :: rest') = rest := by
      rw [← (Prod.mk.inj eq).1]; cases oy <;> rfl
    clear eq
    subst e4
    refine lg _ _ H Z H' ds[i] x ρa _ sw iv ea fun σa Za sa pa la _ => ?_
    have hwa : wipe σa vs = wipe σ vs := by
      have hlen : σa.length = σ.length := by
        rw [← sa.len, bindTg_len _ _ _ _ ea, sw.len, wipe_length]
      apply List.ext_getElem?
      intro j
      rw [wipe_at, wipe_at, hlen]
      by_cases hj : j ∈ vs
      · rw [if_pos hj, if_pos hj]
      · rw [if_neg hj, if_neg hj, la j fun q => hj (hsub j q), wipe_at, if_neg hj]
    refine ⟨hwa, lt ρa σa H' Za b ρb _ sa eb fun Hb Zb sb pb => ?_⟩
    have pab := pa.trans pb
    cases b with
    | false =>
      rw [if_neg (by intro q; cases q)]
      cases (show some (none, ρb) = some (oy, ρ3) from et)
      have e5 : rest' = rest := e5
      subst e5
      obtain ⟨hA', hz'⟩ := pab.fr A _ hAc nw
      have sw' := sb.wipe vs
      rw [hwa] at sw'
      refine ⟨ρ3, Zb, acc, ad, rest', sw', pw.trans (pab.sub fun a w => ?_), hA', fun z => nz (hz' z), fun w => ?_, Rls.keep (pab.keep fun a z w => sw.nz w z) _ _ rr, by omega, el2, hout⟩
      · rw [← hwa] at w; exact wipe_sub w
      · rw [← hwa] at w
        rcases pab.w A (wipe_sub w) with w | w
        · exact nw w
        · rw [hAc] at w; cases w
    | true =>
      rw [if_pos rfl]
      obtain ⟨⟨oc, ρc⟩, ec, et⟩ := bnd (show (ev T elt ρb).bind _ = some _ from et)
      obtain ⟨⟨dc, ρd⟩, ed, et⟩ := mpd et
      cases et
      have e5 : dc :: rest' = rest := e5
      subst e5
      refine le ρb σa Hb Zb oc ρc _ sb ec fun v Hc Zc sc pc rc nc => ?_
      obtain ⟨Zd, pd, sd, rd, _⟩ := frz_ok (pab.trans pc) sc rc (nc.back fun a h => pab.none_ h) ed
      obtain ⟨hA', hz'⟩ := pd.fr A _ hAc nw
      have nzd : ¬ Zd A := fun z => nz (hz' z)
      have nwd : ¬ Ow ρd σa A := fun w => by
        rcases pd.w A w with w | w
        · exact nw w
        · rw [hAc] at w; cases w
      have hal' : acc.length = ad.length := rr.length
      refine ⟨acc, hA', by omega, ρd, Zd, acc ++ [v], ad ++ [dc], rest', ?_, ?_, upd_same, nzd, fun w => ?_, ?_, ?_, el2, by rw [List.append_assoc]; exact hout⟩
      · have := (sd.upd (a := A) nwd nzd (.lst (acc ++ [v]))).wipe vs
        rwa [hwa] at this
      · refine (pw.trans (pd.sub fun a w => ?_)).upd hA _
        rw [← hwa] at w; exact wipe_sub w
      · rw [← hwa] at w; exact nwd (wipe_sub w)
      · have kq : Keep Hc Zd (upd Hc A (.lst (acc ++ [v]))) Zd := ⟨fun x o z e => by rw [upd_ne (show x ≠ A from fun q => nzd (by rw [← q]; exact z))]; exact e, fun _ z => z⟩
        exact Rls.keep kq _ _ (Rls.append (Rls.keep (pd.keep fun a z w => sw.nz w z) _ _ rr) (Rls.cons rd Rls.nil))
      · rw [List.length_append]
        have : [dc].length = 1 := rfl
        omega
  · have hie : i = ds.length := by omega
    refine .inl ⟨j2 hie, ?_⟩
    rw [List.drop_eq_nil_of_le (by omega)] at el
    cases (show some ([], ρi) = some (rest, ρ2) from el)
    rw [List.append_nil] at hout
    subst hout
    obtain ⟨s3, p3, o3⟩ := s.back sw pw
    refine k H Z s3 p3 ⟨⟨A, acc, rfl, hAc, nz, by omega, rr⟩, fun a _ e w => ?_⟩
    cases e
    rcases o3 A w with w | w
    · obtain ⟨o, e⟩ := s.dm w
      rw [hA] at e; cases e
    · exact nw w
section
variable {X : Cx} {T : Tab}
theorem tLc_ok {elt tg iter : Expr} {ifs : List Expr} {itg : Tg} {iit : Itr} {ie : Ex} {ic : Oex} {g : TG} {tt : TT} {te : TE} {vs : List Nat} {wi : TI} (lg : LawG X.K g itg) (lt : LawC X.K tt (evc T ic)) (le : LawE X.K te (ev T ie)) (hsub : ∀ i ∈ itg.slots, i ∈ vs)
    (qi : ∀ (ρ : Rho) (σ : L2.St) (H : Hp) (Z : Addr → Prop) (ds : List D) (ρ' : Rho) (R : It → Hp → Prop), Sta X.K H Z ρ σ → evi T iit ρ = some (ds, ρ') → (∀ J H' Z', Sta X.K H' Z' ρ' σ → Stp (Ow ρ σ) (Ow ρ' σ) H Z H' Z' → ItOk X.K itg J ds H' Z' → ds.length ≤ sizeLine → R J H') → wi σ H R)
    : LawE X.K (tLc wi g tt te vs) (ev T (.lc ie itg iit ic vs)) := by
  intro ρ σ H Z o ρ' Q s e k
  obtain ⟨⟨ds, ρ1⟩, e1, e⟩ := bnd (show (evi T iit ρ).bind _ = some _ from e)
  obtain ⟨⟨out, ρ2⟩, e2, e⟩ := mpd e
  cases e
  refine qi ρ σ H Z ds ρ1 _ s e1 fun J H1 Z1 s1 p1 jo hl A hA => ?_
  exact lc_loop lg lt le hsub s1 jo hl e2 hA fun H' Z' s' p' r' => k _ H' Z' s' (p1.trans p') r' fun a _ q => by cases q; exact p1.none_ hA
theorem so_lc {elt tg iter : Expr} {ifs : List Expr} {scope : Scope} {own : List (Str × Nat)} {pos : Pos} {itg : Tg} {iit : Itr} {ie : Ex} {ic : Oex} (hc : X.calm = true) (hN : X.N.Nodup) (hi : SI X tg iter itg (evi T iit)) (ok : BlkOk X.N X.env.scope scope own)
    (hg : ∀ c, SG (Bk X scope c) tg itg) (ht : ∀ c, SC (Bk X scope c) ifs (evc T ic)) (he : ∀ c, SO (Bk X scope c) elt (ev T ie)) (hsub : ∀ i ∈ itg.slots, i ∈ own.map (·.2)) (hs : ∀ x, foldedSetIterable iter X.env x = pure x) :
    SO X (.ListComp elt [⟨tg, iter, ifs, 0⟩] scope pos) (ev T (.lc ie itg iit ic (own.map (·.2)))) := by
  obtain ⟨g, pg, lg⟩ := sg_all hg
  obtain ⟨tt, pt, lt⟩ := sc_all ht
  obtain ⟨te, pe, le⟩ := so_all he
  obtain ⟨wi, pi, qi⟩ := hi
  exact ⟨_, pe_lc hc hN pi ok (fun s H C cl fp => pg (s, H, C, cl, fp)) (fun s H C cl fp => pt (s, H, C, cl, fp)) (fun s H C cl fp => pe (s, H, C, cl, fp)) hs, tLc_ok (elt := elt) (tg := tg) (iter := iter) (ifs := ifs) lg lt le hsub qi⟩
end
end Lt

/-! Lt, part 9: statements. -/
namespace Lt
open PySem L2 PySem.Spec PyProof.Rows
mutual
inductive Sm where
  | set (i : Nat) (e : Ex)
  | asg (tg : Tg) (e : Ex)
  | par (is : List Nat) (es : Exs)
  | put (i : Nat) (k e : Ex)
  | exp (e : Ex)
  | ret (e : Ex)
  | retN
  | ite (c : Ex) (a b : Sms)
  | whl (c : Ex) (b : Sms)
  | for_ (tg : Tg) (it : Itr) (b : Sms)
  | brk
  | cnt
  | pas
  | nev
inductive Sms where
  | nil
  | cons (s : Sm) (r : Sms)
end
inductive Out where
  | nx
  | bk
  | ct
  | rt (o : Od)
/-- an operand that is to be stored: another name's value is frozen -/
def celOd (ρ : Rho) : Od → Option (Cell × Rho)
  | .v i => (frz ρ (.v i)).map fun q => (.dat q.1, q.2)
  | .t c => some (c, ρ)
def celOds (ρ : Rho) : List Od → Option (List Cell × Rho)
  | [] => some ([], ρ)
  | o :: os => (celOd ρ o).bind fun r => (celOds r.2 os).map fun q => (r.1 :: q.1, q.2)
def setAll : List Nat → List Cell → Rho → Rho
  | i :: is, c :: cs, ρ => setAll is cs (ρ.set i c)
  | _, _, ρ => ρ
def putL (xs : List D) (i : Int) (d : D) : Option (List D) := (ixN xs.length i).map fun j => xs.set j d
def isOwn : Cell → Option Unit
  | .own _ => some ()
  | .dic _ => some ()
  | _ => none
def putC : Cell → D → D → Option Cell
  | .own xs, .int z, d => (putL xs z d).map .own
  | .dic kvs, y, d => if keyOk y && decide (kvs.length < 16777215) then some (.dic (dPut kvs y d)) else none
  | _, _, _ => none
def whlL (c : Rho → Option (Bool × Rho)) (b : Rho → Option (Out × Rho)) : Nat → Rho → Option (Out × Rho)
  | 0, _ => none
  | n + 1, ρ => (c ρ).bind fun k => if k.1 then (b k.2).bind fun q => match q.1 with
      | .nx => whlL c b n q.2
      | .ct => whlL c b n q.2
      | .bk => some (.nx, q.2)
      | .rt o => some (.rt o, q.2)
    else some (.nx, k.2)
def forL (tg : Tg) (b : Rho → Option (Out × Rho)) : List D → Rho → Option (Out × Rho)
  | [], ρ => some (.nx, ρ)
  | d :: ds, ρ => (bindTg tg d ρ).bind fun ρ => (b ρ).bind fun q => match q.1 with
      | .nx => forL tg b ds q.2
      | .ct => forL tg b ds q.2
      | .bk => some (.nx, q.2)
      | .rt o => some (.rt o, q.2)
mutual
def ex (T : Tab) (n : Nat) : Sm → Rho → Option (Out × Rho)
  | .set i e, ρ => (ev T e ρ).bind fun r => (celOd r.2 r.1).map fun q => (.nx, q.2.set i q.1)
  | .asg tg e, ρ => (ev T e ρ).bind fun r => (frz r.2 r.1).bind fun q => (bindTg tg q.1 q.2).map fun ρ => (.nx, ρ)
  | .par is es, ρ => (evs T es ρ).bind fun r => (celOds r.2 r.1).map fun q => (.nx, setAll is q.1 q.2)
  | .put i k e, ρ => (ev T e ρ).bind fun r => (isOwn (cellAt r.2 i)).bind fun _ => (ev T k r.2).bind fun q => (frz q.2 r.1).bind fun u => (lookD u.2 q.1).bind fun y => (putC (cellAt u.2 i) y u.1).map fun c => (.nx, u.2.set i c)
  | .exp e, ρ => (ev T e ρ).map fun r => (.nx, r.2)
  | .ret e, ρ => (ev T e ρ).map fun r => (.rt r.1, r.2)
  | .retN, ρ => some (.rt (.t (.dat .none)), ρ)
  | .ite c a b, ρ => (ev T c ρ).bind fun r => (testOd r.2 r.1).bind fun k => if k then exs T n a r.2 else exs T n b r.2
  | .whl c b, ρ => whlL (fun ρ => (ev T c ρ).bind fun r => (testOd r.2 r.1).map fun k => (k, r.2)) (exs T n b) n ρ
  | .for_ tg it b, ρ => (evi T it ρ).bind fun r => forL tg (exs T n b) r.1 r.2
  | .brk, ρ => some (.bk, ρ)
  | .cnt, ρ => some (.ct, ρ)
  | .pas, ρ => some (.nx, ρ)
  | .nev, _ => none
def exs (T : Tab) (n : Nat) : Sms → Rho → Option (Out × Rho)
  | .nil, ρ => some (.nx, ρ)
  | .cons s r, ρ => (ex T n s ρ).bind fun q => match q.1 with
    | .nx => exs T n r q.2
    | o => some (o, q.2)
end
mutual
def Sm.p0 : Sm → Bool
  | .set i _ => i != 0
  | .asg tg _ => !tg.slots.contains 0
  | .par is _ => !is.contains 0
  | .ite _ a b => a.p0 && b.p0
  | .whl _ b => b.p0
  | .for_ tg _ b => !tg.slots.contains 0 && b.p0
  | _ => true
def Sms.p0 : Sms → Bool
  | .nil => true
  | .cons s r => s.p0 && r.p0
end
def Post (K : PySem.W.Frag) (pin : Bool) (ρ : Rho) (σ : L2.St) (H : Hp) (Z : Addr → Prop) (E : Ends) : Out → Rho → Prop
  | .nx, ρ' => ∀ σ' H' Z', Sta K H' Z' ρ' σ' → Stp (Ow ρ σ) (Ow ρ' σ') H Z H' Z' → (pin = true → σ'[0]? = σ[0]?) → E.nx σ' H'
  | .bk, ρ' => ∀ σ' H' Z', Sta K H' Z' ρ' σ' → Stp (Ow ρ σ) (Ow ρ' σ') H Z H' Z' → (pin = true → σ'[0]? = σ[0]?) → E.bk σ' H'
  | .ct, ρ' => ∀ σ' H' Z', Sta K H' Z' ρ' σ' → Stp (Ow ρ σ) (Ow ρ' σ') H Z H' Z' → (pin = true → σ'[0]? = σ[0]?) → E.ct σ' H'
  | .rt o, ρ' => ∀ σ' v H' Z', Sta K H' Z' ρ' σ' → Stp (Ow ρ σ) (Ow ρ' σ') H Z H' Z' → (pin = true → σ'[0]? = σ[0]?) → OdV K H' Z' ρ' σ' o v → NewV H o v → E.rt v H'
def LawS (K : PySem.W.Frag) (t : TS) (pin : Bool) (f : Rho → Option (Out × Rho)) : Prop := ∀ (ρ : Rho) (σ : L2.St) (H : Hp) (Z : Addr → Prop) (out : Out) (ρ' : Rho) (E : Ends), Sta K H Z ρ σ → f ρ = some (out, ρ') → Post K pin ρ σ H Z E out ρ' → t E σ H
def SS (X : Cx) (T : Tab) (st : Stmt) (s : Sm) : Prop := ∃ t : TS, PS X st t ∧ ∀ n, LawS X.K t s.p0 (ex T n s)
def SSs (X : Cx) (T : Tab) (st : List Stmt) (s : Sms) : Prop := ∃ t : TS, PSs X st t ∧ ∀ n, LawS X.K t s.p0 (exs T n s)
section
variable {K : PySem.W.Frag} {H0 H : Hp} {Z0 Z : Addr → Prop} {ρ ρ' : Rho} {σ : L2.St}
theorem celOd_ok {o : Od} {v : V} {c : Cell} {W0 : Addr → Prop} (p : Stp W0 (Ow ρ σ) H0 Z0 H Z) (s : Sta K H Z ρ σ) (r : OdV K H Z ρ σ o v) (n : NewV H0 o v) (e : celOd ρ o = some (c, ρ')) :
    ∃ Z', Stp W0 (Ow ρ' σ) H0 Z0 H Z' ∧ Sta K H Z' ρ' σ ∧ OdV K H Z' ρ' σ (.t c) v ∧ NewV H0 (.t c) v ∧ (∀ a, OwT (.t c) v a → OwT o v a) ∧ (∀ a, Z a → Z' a) ∧ (∀ a, Z' a → Z a ∨ Ow ρ σ a ∨ OwT (.v 0) v a) ∧ (∀ a, Ow ρ' σ a → Ow ρ σ a) := by
  cases o with
  | t c0 =>
    cases (show some (c0, ρ) = some (c, ρ') from e)
    exact ⟨Z, p, s, r, n, fun _ h => h, fun _ z => z, fun _ z => .inl z, fun _ w => w⟩
  | v i =>
    obtain ⟨⟨d, ρ1⟩, e1, e2⟩ := mpd (show (frz ρ (.v i)).map _ = some _ from e)
    cases e2
    obtain ⟨Z', p', s', r', z1, z2, z3⟩ := frz_ok p s r n e1
    refine ⟨Z', p', s', ⟨r', fun _ h => nomatch h⟩, (fun _ h => nomatch h), fun a ⟨c, h, w, _⟩ => ?_, z1, fun a z => ?_, z3⟩
    · cases h; cases w
    · rcases z2 a z with z | z | ⟨c, h, _⟩
      · exact .inl z
      · exact .inr (.inl z)
      · cases h
theorem celOds_ok {W0 : Addr → Prop} : ∀ {os : List Od} {vs : List V} {cs : List Cell} {ρ ρ' : Rho} {Z : Addr → Prop}, Stp W0 (Ow ρ σ) H0 Z0 H Z → Sta K H Z ρ σ → OdVs K H0 H Z ρ σ os vs → celOds ρ os = some (cs, ρ') →
    ∃ Z', Stp W0 (Ow ρ' σ) H0 Z0 H Z' ∧ Sta K H Z' ρ' σ ∧ OdVs K H0 H Z' ρ' σ (cs.map .t) vs ∧ (∀ a, Z a → Z' a) ∧ (∀ a, Z' a → Z a ∨ Ow ρ σ a) ∧ (∀ a, Ow ρ' σ a → Ow ρ σ a) ∧ (∀ a, OwF a os vs → OwF a (cs.map .t) vs)
  | [], vs, cs, ρ, ρ', Z, p, s, r, e => by
    cases (show some ([], ρ) = some (cs, ρ') from e)
    exact ⟨Z, p, s, r, fun _ z => z, fun _ z => .inl z, fun _ w => w, fun _ h => h⟩
  | o :: os, _, cs, ρ, ρ', Z, p, s, ⟨v, r, ev', hv, hn, hf, q⟩, e => by
    subst ev'
    obtain ⟨⟨c, ρ1⟩, e1, e⟩ := bnd (show (celOd ρ o).bind _ = some _ from e)
    obtain ⟨⟨cs', ρ2⟩, e2, e⟩ := mpd e
    cases e
    obtain ⟨Z1, p1, s1, r1, n1, o1, a1, a2, a3⟩ := celOd_ok p s hv hn e1
    have q1 : OdVs K H0 H Z1 ρ1 σ os r := q.frz (o1 := .v 0) (v1 := v) a1 a2 a3 fun a ⟨c, h, _⟩ => by cases h
    obtain ⟨Z2, p2, s2, r2, b1, b2, b3, b4⟩ := celOds_ok p1 s1 q1 e2
    refine ⟨Z2, p2, s2, ⟨v, r, rfl, r1.frz (o1 := .v 0) (v1 := v) b1 (fun a z => (b2 a z).elim .inl fun w => .inr (.inl w)) b3 (fun a _ ⟨c, h, _⟩ => by cases h), n1, fun a w => b4 a (hf a (o1 a w)), r2⟩, fun a z => b1 a (a1 a z), fun a z => ?_, fun a w => a3 a (b3 a w), fun a h => ⟨fun w => h.1 (o1 a w), b4 a h.2⟩⟩
    rcases b2 a z with z | z
    · rcases a2 a z with z | z | ⟨c, h, _⟩
      · exact .inl z
      · exact .inr z
      · cases h
    · exact .inr (a3 a z)
theorem setAll_ok : ∀ {is : List Nat} {cs : List Cell} {vs : List V} {ρ : Rho} {σ : L2.St}, Sta K H Z ρ σ → OdVs K H0 H Z ρ σ (cs.map .t) vs → is.length = cs.length → ∀ P : L2.St → Prop,
    (∀ σ', Sta K H Z (setAll is cs ρ) σ' → (∀ a, Ow (setAll is cs ρ) σ' a → Ow ρ σ a ∨ H0 a = none) → (∀ j, j ∉ is → σ'[j]? = σ[j]?) → σ' = (is.zip vs).foldl (fun s p => s.set p.1 (some p.2)) σ → P σ') → P ((is.zip vs).foldl (fun s p => s.set p.1 (some p.2)) σ)
  | [], [], vs, ρ, σ, s, r, _, P, k => k σ s (fun _ w => .inl w) (fun _ _ => rfl) (by simp)
  | [], c :: cs, vs, ρ, σ, s, r, h, P, k => by cases h
  | i :: is, [], vs, ρ, σ, s, r, h, P, k => by cases h
  | i :: is, c :: cs, _, ρ, σ, s, ⟨v, r, ev', hv, hn, hf, q⟩, h, P, k => by
    subst ev'
    obtain ⟨s1, ow1⟩ := set_ok s (i := i) hv.1 hv.2
    have tr : ∀ {cs : List Cell} {r : List V}, OdVs K H0 H Z ρ σ (cs.map .t) r → (∀ a, OwT (.t c) v a → OwF a (cs.map .t) r) → OdVs K H0 H Z (ρ.set i c) (σ.set i (some v)) (cs.map .t) r := by
      intro cs
      induction cs with
      | nil => intro r q _; exact q
      | cons d ds ih =>
        rintro _ ⟨w, r, rfl, hv', hn', hf', q'⟩ hd
        refine ⟨w, r, rfl, ⟨hv'.1, fun a h1 h2 h3 => ?_⟩, hn', hf', ih q' fun a z => (hd a z).2⟩
        rcases ow1 a h3 with z | z
        · exact hv'.2 a h1 h2 z
        · exact (hd a ⟨c, rfl, z.1, z.2⟩).1 ⟨d, rfl, h1, h2⟩
    have := setAll_ok (is := is) s1 (tr q hf) (by simpa using h) P (fun σ' s' w' l' e' => k σ' s' (fun a z => ?_) (fun j hj => ?_) (by rw [e']; rfl))
    · exact this
    · rcases w' a z with z | z
      · rcases ow1 a z with z | z
        · exact .inl z
        · exact .inr (hn a z.1 z.2)
      · exact .inr z
    · rw [List.mem_cons, not_or] at hj
      rw [l' j hj.2, List.getElem?_set_ne (Ne.symm hj.1)]
end
section
variable {X : Cx} {T : Tab} {pos : Pos} {e : Expr}
theorem ss_set {i : Nat} {x : Str} {ie : Ex} {p : Pos} (hN : X.N.Nodup) (hi : X.N[i]? = some x) (hx : Loc X.env.scope x) (hf : X.fn x = true ∨ X.env.scope.names.lookup x = some .local) (he : SO X e (ev T ie)) (hs : swapsWith e (some (.Name x p)) pos.line X.env = pure false) :
    SS X T (.Assign [.Name x p] e pos) (.set i ie) := by
  obtain ⟨t, pt, qt⟩ := he
  refine ⟨_, ps_set hN hi hx pt hs hf, fun n ρ σ H Z out ρ' E s e k => ?_⟩
  obtain ⟨⟨o, ρ1⟩, e1, e⟩ := bnd (show (ev T ie ρ).bind _ = some _ from e)
  obtain ⟨⟨c, ρ2⟩, e2, e⟩ := mpd e
  cases e
  refine qt ρ σ H Z o ρ1 _ s e1 fun v H1 Z1 s1 p1 r1 n1 => ?_
  obtain ⟨Z2, p2, s2, r2, n2, _⟩ := celOd_ok p1 s1 r1 n1 e2
  obtain ⟨s3, w3⟩ := set_ok s2 (i := i) r2.1 r2.2
  refine k _ H1 Z2 s3 ⟨p2.fr, p2.dom, p2.z, fun a w => ?_⟩ fun hp => ?_
  · rcases w3 a w with w | w
    · exact p2.w a w
    · exact .inr (n2 a w.1 w.2)
  · have : i ≠ 0 := by simpa [Sm.p0] using hp
    rw [List.getElem?_set_ne this]
theorem ss_setLc {i : Nat} {y : Str} {py : Pos} {elt tg iter : Expr} {ifs : List Expr} {scope : Scope} {own : List (Str × Nat)} {lpos spos : Pos} {itg : Tg} {iit : Itr} {ie : Ex} {ic : Oex} (hc : X.calm = true) (hN : X.N.Nodup) (hy : X.N[i]? = some y) (hyl : X.env.scope.names.lookup y = some .local)
    (hsw : swapsWith (.ListComp elt [⟨tg, iter, ifs, 0⟩] scope lpos) (some (.Name y py)) spos.line X.env = pure true) (hi : SI X tg iter itg (evi T iit)) (ok : BlkOk X.N X.env.scope scope own)
    (hg : ∀ c, SG (Bk X scope c) tg itg) (ht : ∀ c, SC (Bk X scope c) ifs (evc T ic)) (he : ∀ c, SO (Bk X scope c) elt (ev T ie)) (hsub : ∀ i ∈ itg.slots, i ∈ own.map (·.2)) (hs : ∀ x, foldedSetIterable iter X.env x = pure x) :
    SS X T (.Assign [.Name y py] (.ListComp elt [⟨tg, iter, ifs, 0⟩] scope lpos) spos) (.set i (.lc ie itg iit ic (own.map (·.2)))) := by
  obtain ⟨g, pg, lg⟩ := sg_all hg
  obtain ⟨tt, pt, lt⟩ := sc_all ht
  obtain ⟨te, pe, le⟩ := so_all he
  obtain ⟨wi, pi, qi⟩ := hi
  have qt := tLc_ok (X := X) (T := T) (elt := elt) (tg := tg) (iter := iter) (ifs := ifs) lg lt le hsub qi
  refine ⟨_, ps_setLc hc hN hy hyl hsw pi ok (fun s H C cl fp => pg (s, H, C, cl, fp)) (fun s H C cl fp => pt (s, H, C, cl, fp)) (fun s H C cl fp => pe (s, H, C, cl, fp)) hs, fun n ρ σ H Z out ρ' E s e k => ?_⟩
  obtain ⟨⟨o, ρ1⟩, e1, e⟩ := bnd (show (ev T (.lc ie itg iit ic (own.map (·.2))) ρ).bind _ = some _ from e)
  obtain ⟨⟨c, ρ2⟩, e2, e⟩ := mpd e
  cases e
  refine qt ρ σ H Z o ρ1 _ s e1 fun v H1 Z1 s1 p1 r1 n1 => ?_
  obtain ⟨Z2, p2, s2, r2, n2, _⟩ := celOd_ok p1 s1 r1 n1 e2
  obtain ⟨s3, w3⟩ := set_ok s2 (i := i) r2.1 r2.2
  refine k _ H1 Z2 s3 ⟨p2.fr, p2.dom, p2.z, fun a w => ?_⟩ fun hp => ?_
  · rcases w3 a w with w | w
    · exact p2.w a w
    · exact .inr (n2 a w.1 w.2)
  · have : i ≠ 0 := by simpa [Sm.p0] using hp
    rw [List.getElem?_set_ne this]
theorem ss_asg {tg : Expr} {itg : Tg} {ie : Ex} (hg : SG X tg itg) (he : SO X e (ev T ie)) (hs : swapsWithSole [tg] e pos.line X.env = pure false) (hw : swappedStores [tg] e X.env = pure none) (h1 : (assignEach [tg] X.env).map (·.2) = [assign tg X.env]) :
    SS X T (.Assign [tg] e pos) (.asg itg ie) := by
  obtain ⟨t, pt, qt⟩ := he
  obtain ⟨g, pg, qg⟩ := hg
  refine ⟨_, ps_asg pt pg hs hw h1, fun n ρ σ H Z out ρ' E s e k => ?_⟩
  obtain ⟨⟨o, ρ1⟩, e1, e⟩ := bnd (show (ev T ie ρ).bind _ = some _ from e)
  obtain ⟨⟨d, ρ2⟩, e2, e⟩ := bnd e
  obtain ⟨ρ3, e3, e⟩ := mpd e
  cases e
  refine qt ρ σ H Z o ρ1 _ s e1 fun v H1 Z1 s1 p1 r1 n1 => ?_
  obtain ⟨Z2, p2, s2, r2, _⟩ := frz_ok p1 s1 r1 n1 e2
  refine qg ρ2 σ H1 Z2 H1 d v ρ' _ s2 (.inl ⟨rfl, r2⟩) e3 fun σ' Z' s3 p3 l3 _ => ?_
  refine k σ' H1 Z' s3 (p2.trans p3) fun hp => l3 0 ?_
  simpa [Sm.p0] using hp
theorem ss_par2 {i j : Nat} {x y : Str} {a b : Expr} {px py pt : Pos} {kt k2 pt2} {is : Exs} (hc : X.calm = true) (hN : X.N.Nodup) (hi : X.N[i]? = some x) (hj : X.N[j]? = some y) (hij : i ≠ j)
    (hx : X.env.scope.names.lookup x = some .local) (hy : X.env.scope.names.lookup y = some .local) (ha : SA X [a, b] (evs T is)) (hl : is.len = 2)
    (hw : swappedStores [.Tuple [.Name x px, .Name y py] kt pt] (.Tuple [a, b] k2 pt2) X.env = pure (some [x, y]))
    (hs : swapsWithSole [.Tuple [.Name x px, .Name y py] kt pt] (.Tuple [a, b] k2 pt2) pos.line X.env = pure false) :
    SS X T (.Assign [.Tuple [.Name x px, .Name y py] kt pt] (.Tuple [a, b] k2 pt2) pos) (.par [i, j] is) := by
  obtain ⟨t, pt', qt⟩ := ha
  refine ⟨_, ps_par hc hN hi hj hij hx hy pt'.1 hw hs, fun n ρ σ H Z out ρ' E s e k => ?_⟩
  obtain ⟨⟨os, ρ1⟩, e1, e⟩ := bnd (show (evs T is ρ).bind _ = some _ from e)
  obtain ⟨⟨cs, ρ2⟩, e2, e⟩ := mpd e
  cases e
  refine qt ρ σ H Z os ρ1 _ s e1 fun vs H1 Z1 s1 p1 r1 => ?_
  obtain ⟨Z2, p2, s2, r2, _⟩ := celOds_ok p1 s1 r1 e2
  have lv : vs.length = 2 := by rw [r1.length, evs_len e1, hl]
  have lc : cs.length = 2 := by
    have := r2.length
    rw [List.length_map] at this
    omega
  match vs, lv with
  | [v, w], _ =>
    refine ⟨v, w, rfl, ?_⟩
    have := setAll_ok (is := [i, j]) s2 r2 (by rw [lc]; rfl) (fun σ' => E.nx σ' H1) fun σ' s3 w3 l3 _ => k σ' H1 Z2 s3 ⟨p2.fr, p2.dom, p2.z, fun a w => ?_⟩ fun hp => ?_
    · exact this
    · exact (w3 a w).elim (p2.w a) .inr
    · refine l3 0 ?_
      simpa [Sm.p0] using hp
theorem ss_par3 {i j l : Nat} {x y z : Str} {a b c : Expr} {px py pz pt : Pos} {kt k2 pt2} {is : Exs} (hc : X.calm = true) (hN : X.N.Nodup) (hi : X.N[i]? = some x) (hj : X.N[j]? = some y) (hl' : X.N[l]? = some z) (hij : i ≠ j) (hil : i ≠ l) (hjl : j ≠ l)
    (hx : X.env.scope.names.lookup x = some .local) (hy : X.env.scope.names.lookup y = some .local) (hz : X.env.scope.names.lookup z = some .local) (ha : SA X [a, b, c] (evs T is)) (hl : is.len = 3)
    (hw : swappedStores [.Tuple [.Name x px, .Name y py, .Name z pz] kt pt] (.Tuple [a, b, c] k2 pt2) X.env = pure (some [x, y, z]))
    (hs : swapsWithSole [.Tuple [.Name x px, .Name y py, .Name z pz] kt pt] (.Tuple [a, b, c] k2 pt2) pos.line X.env = pure false) :
    SS X T (.Assign [.Tuple [.Name x px, .Name y py, .Name z pz] kt pt] (.Tuple [a, b, c] k2 pt2) pos) (.par [i, j, l] is) := by
  obtain ⟨t, pt', qt⟩ := ha
  refine ⟨_, ps_par3 hc hN hi hj hl' hij hil hjl hx hy hz pt'.1 hw hs, fun n ρ σ H Z out ρ' E s e k => ?_⟩
  obtain ⟨⟨os, ρ1⟩, e1, e⟩ := bnd (show (evs T is ρ).bind _ = some _ from e)
  obtain ⟨⟨cs, ρ2⟩, e2, e⟩ := mpd e
  cases e
  refine qt ρ σ H Z os ρ1 _ s e1 fun vs H1 Z1 s1 p1 r1 => ?_
  obtain ⟨Z2, p2, s2, r2, _⟩ := celOds_ok p1 s1 r1 e2
  have lv : vs.length = 3 := by rw [r1.length, evs_len e1, hl]
  have lc : cs.length = 3 := by
    have := r2.length
    rw [List.length_map] at this
    omega
  match vs, lv with
  | [u, v, w], _ =>
    refine ⟨u, v, w, rfl, ?_⟩
    have := setAll_ok (is := [i, j, l]) s2 r2 (by rw [lc]; rfl) (fun σ' => E.nx σ' H1) fun σ' s3 w3 l3 _ => k σ' H1 Z2 s3 ⟨p2.fr, p2.dom, p2.z, fun a w => ?_⟩ fun hp => ?_
    · exact this
    · exact (w3 a w).elim (p2.w a) .inr
    · refine l3 0 ?_
      simpa [Sm.p0] using hp
/-- d[k] = v -/
def rSetK (K : PySem.W.Frag) : TSet := fun o i v H Q => ∃ (Z : Addr → Prop) (kvs : List (D × D)) (a b : Addr) (d y : D), o = .ref a ∧ i = .ref b ∧ DicV K H Z kvs a ∧ kvs.length < 16777215 ∧ keyOk d = true ∧ Rl K H Z d (.ref b) ∧ Rl K H Z y v ∧
  ∀ rows', RowsV K H Z (dPut kvs d y) rows' → (rows'.map (·.1)).Nodup → Q (upd H a (.ext (dφ a rows')))
theorem set_dic (hu : X.A.units + 65 < cLine) : PSet X (rSetK X.K) := by
  rintro pins s σ H o i v ov iv u Q I ro ri rv ⟨Z, kvs, a, b, d, y, rfl, rfl, g, hl, hd, rb, ry, q⟩
  cases ro
  cases ri
  exact d_setItem2 hu I g hl hd rb ry rv fun rows' s' I' r' n' => ⟨_, I', q rows' r' n'⟩
theorem pset_or {t u : TSet} (h1 : PSet X t) (h2 : PSet X u) : PSet X (fun o i v H Q => t o i v H Q ∨ u o i v H Q) := by
  intro pins s σ H o i v ov iv u Q I ro ri rv h
  rcases h with h | h
  · exact h1 pins s σ H o i v ov iv u Q I ro ri rv h
  · exact h2 pins s σ H o i v ov iv u Q I ro ri rv h
theorem dPut_len : ∀ {kvs : List (D × D)} {d y : D}, (dPut kvs d y).length ≤ kvs.length + 1
  | [], d, y => Nat.le_refl _
  | p :: r, d, y => by
    unfold dPut
    split
    · simp
    · have := dPut_len (kvs := r) (d := d) (y := y)
      simp only [List.length_cons]
      omega
theorem putC_is {c : Cell} {y d : D} {c' : Cell} (h : putC c y d = some c') : (∃ xs z xs', c = .own xs ∧ y = .int z ∧ putL xs z d = some xs' ∧ c' = .own xs') ∨ ∃ kvs, c = .dic kvs ∧ keyOk y = true ∧ kvs.length < 16777215 ∧ c' = .dic (dPut kvs y d) := by
  cases c with
  | emp => cases h
  | dat _ => cases h
  | own xs =>
    cases y <;> (try (cases (show none = some c' from h)))
    rename_i z
    obtain ⟨xs', e1, e2⟩ := mpd (show (putL xs z d).map Cell.own = some c' from h)
    exact .inl ⟨xs, z, xs', rfl, rfl, e1, e2.symm⟩
  | dic kvs =>
    have h' : (if (keyOk y && decide (kvs.length < 16777215)) = true then some (Cell.dic (dPut kvs y d)) else none) = some c' := h
    by_cases hk : (keyOk y && decide (kvs.length < 16777215)) = true
    · rw [if_pos hk] at h'
      cases h'
      rw [Bool.and_eq_true, decide_eq_true_eq] at hk
      exact .inr ⟨kvs, rfl, hk.1, hk.2, rfl⟩
    · rw [if_neg hk] at h'; cases h'
theorem ss_put (hu : X.A.units + 65 < cLine) {i : Nat} {x : Str} {kx : Expr} {ik ie : Ex} {p q : Pos} (hN : X.N[i]? = some x) (hv : Vis X.env.scope x) (hd : (x == ("__debug__" : Str)) = false) (hcd : (x == ("__classdict__" : Str)) = false) (hk : SO X kx (ev T ik)) (he : SO X e (ev T ie))
    (hs : swapsWithSole [.Subscript (.Name x p) kx q] e pos.line X.env = pure false) (hw : swappedStores [.Subscript (.Name x p) kx q] e X.env = pure none) (h1 : (assignEach [.Subscript (.Name x p) kx q] X.env).map (·.2) = [assign (.Subscript (.Name x p) kx q) X.env])
    (ha : ∀ v, assign (.Subscript (.Name x p) kx q) X.env v = (do
      let ov ← holding [v] (eval (.Name x p) X.env)
      let iv ← holding [v, ov] (eval kx X.env)
      standAt q
      holding [v, ov, iv] (setItem ov iv v)
      release [v, ov, iv] [])) :
    SS X T (.Assign [.Subscript (.Name x p) kx q] e pos) (.put i ik ie) := by
  obtain ⟨t, pt, qt⟩ := he
  obtain ⟨tk, pk, qk⟩ := hk
  refine ⟨_, ps_asg pt (pg_sub (pe_var hN hv hd hcd) pk (pset_or set_list (set_dic hu)) ha) hs hw h1, fun n ρ σ H Z out ρ' E s e k => ?_⟩
  obtain ⟨⟨o, ρ1⟩, e1, e⟩ := bnd (show (ev T ie ρ).bind _ = some _ from e)
  obtain ⟨_, e0, e⟩ := bnd e
  obtain ⟨⟨ok, ρ2⟩, e2, e⟩ := bnd e
  obtain ⟨⟨d, ρ3⟩, e3, e⟩ := bnd e
  obtain ⟨y, e4, e⟩ := bnd e
  obtain ⟨c', e5, e⟩ := mpd e
  cases e
  refine qt ρ σ H Z o ρ1 _ s e1 fun v H1 Z1 s1 p1 r1 n1 => ?_
  have e0' : isOwn (cellAt ρ1 i) = some () := e0
  obtain ⟨v0, hv0, _⟩ := s1.at_ i (fun q => by rw [q] at e0'; cases e0')
  refine ⟨v0, hv0, ?_⟩
  refine qk ρ1 σ H1 Z1 ok ρ2 _ s1 e2 fun w H2 Z2 s2 p2 r2 n2 => ?_
  obtain ⟨Z3, p3, s3, r3, z1, z2, z3⟩ := frz_ok (p1.trans p2) s2 (r1.stp s1 p2) n1 e3
  have r2' : OdV X.K H2 Z3 ρ3 σ ok w := r2.frz z1 z2 z3 fun a ⟨c, h1, h2, h3⟩ ⟨c', h4, h5, h6⟩ => by
    subst h1 h4
    obtain ⟨ob, eo⟩ := r1.1.dm h5 h6
    rw [n2 a h2 h3] at eo; cases eo
  rcases putC_is e5 with ⟨xs, z, xs', hc, rfl, e6, rfl⟩ | ⟨kvs, hc, hk, hl, rfl⟩
  · obtain ⟨j, e8, e9⟩ := mpd (show (ixN xs.length z).map _ = some xs' from e6)
    subst e9
    have hw' : w = .int z := VwV.int (r2'.vw s3 e4)
    subst hw'
    obtain ⟨v0', hv0', cv⟩ := s3.at_ i (by rw [hc]; intro q; cases q)
    rw [hv0] at hv0'
    cases hv0'
    rw [hc] at cv
    obtain ⟨a, vs, rfl, h2a, _, hl, rr⟩ := cv
    have lj := (ixN_seq e8).2.1
    refine .inl ⟨a, vs, z, j, rfl, rfl, h2a, by rw [rr.length]; exact e8, ?_⟩
    obtain ⟨p4, s4, _, _⟩ := wr_ok p3 s3 hc hv0 (Rls.set j rr r3) (by rw [List.length_set]; exact hl)
    exact k σ _ Z3 s4 p4 fun _ => rfl
  · have ry := VwV.rl (keyOk_d hk).1 (r2'.vw s3 e4)
    obtain ⟨b, rfl⟩ := key_ref hk ry
    obtain ⟨v0', hv0', cv⟩ := s3.at_ i (by rw [hc]; intro q; cases q)
    rw [hv0] at hv0'
    cases hv0'
    rw [hc] at cv
    obtain ⟨a, rfl, g⟩ := cv
    refine .inr ⟨Z3, kvs, a, b, y, d, rfl, rfl, g, hl, hk, ry, r3, fun rows' hr hn => ?_⟩
    have hlen : (dPut kvs y d).length ≤ 16777215 := by
      have := dPut_len (kvs := kvs) (d := y) (y := d)
      omega
    obtain ⟨p4, s4, _, _⟩ := wr_okG (c' := .dic (dPut kvs y d)) (ob := .ext (dφ a rows')) p3 s3 hc rfl rfl hv0 fun kp nz => ⟨a, rfl, rows', upd_same, nz, hlen, Paired.mapP hr fun p r ⟨q0, q1, q2, q3⟩ => ⟨q0, q1, Rl.keep kp _ _ q2, Rl.keep kp _ _ q3⟩, hn⟩
    exact k σ _ Z3 s4 p4 fun _ => rfl
theorem ss_exp {ie : Ex} (he : SO X e (ev T ie)) (hs : swapsWith e none pos.line X.env = pure false) : SS X T (.Expr e pos) (.exp ie) := by
  obtain ⟨t, pt, qt⟩ := he
  refine ⟨_, ps_expr pt hs, fun n ρ σ H Z out ρ' E s e k => ?_⟩
  obtain ⟨⟨o, ρ1⟩, e1, e⟩ := mpd (show (ev T ie ρ).map _ = some _ from e)
  cases e
  exact qt ρ σ H Z o ρ1 _ s e1 fun v H1 Z1 s1 p1 _ _ => k σ H1 Z1 s1 p1 fun _ => rfl
theorem ss_ret {ie : Ex} (he : SO X e (ev T ie)) : SS X T (.Return (some e) pos) (.ret ie) := by
  obtain ⟨t, pt, qt⟩ := he
  refine ⟨_, ps_ret pt, fun n ρ σ H Z out ρ' E s e k => ?_⟩
  obtain ⟨⟨o, ρ1⟩, e1, e⟩ := mpd (show (ev T ie ρ).map _ = some _ from e)
  cases e
  exact qt ρ σ H Z o ρ1 _ s e1 fun v H1 Z1 s1 p1 r1 n1 => k σ v H1 Z1 s1 p1 (fun _ => rfl) r1 n1
theorem ss_retN : SS X T (.Return none pos) .retN := by
  refine ⟨_, ps_retN, fun n ρ σ H Z out ρ' E s e k => ?_⟩
  cases (show some (Out.rt (.t (.dat .none)), ρ) = some (out, ρ') from e)
  exact k σ .non H Z s Stp.refl (fun _ => rfl) ⟨rfl, fun _ h => nomatch h⟩ fun _ h => nomatch h
theorem ss_pass : SS X T (.Pass pos) .pas := ⟨_, ps_pass, fun n ρ σ H Z out ρ' E s e k => by
  cases (show some (Out.nx, ρ) = some (out, ρ') from e)
  exact k σ H Z s Stp.refl fun _ => rfl⟩
theorem ss_break : SS X T (.Break pos) .brk := ⟨_, ps_break, fun n ρ σ H Z out ρ' E s e k => by
  cases (show some (Out.bk, ρ) = some (out, ρ') from e)
  exact k σ H Z s Stp.refl fun _ => rfl⟩
theorem ss_cont : SS X T (.Continue pos) .cnt := ⟨_, ps_continue, fun n ρ σ H Z out ρ' E s e k => by
  cases (show some (Out.ct, ρ) = some (out, ρ') from e)
  exact k σ H Z s Stp.refl fun _ => rfl⟩
theorem ss_doc {x j p1} : SS X T (.Expr (.Constant (.str x) j p1) pos) .pas := ⟨_, ps_doc, fun n ρ σ H Z out ρ' E s e k => by
  cases (show some (Out.nx, ρ) = some (out, ρ') from e)
  exact k σ H Z s Stp.refl fun _ => rfl⟩
theorem ss_never {st : Stmt} : SS X T st .nev := ⟨_, ps_never, fun n ρ σ H Z out ρ' E s e k => by cases e⟩
theorem sss_nil : SSs X T [] .nil := ⟨_, pss_nil, fun n ρ σ H Z out ρ' E s e k => by
  cases (show some (Out.nx, ρ) = some (out, ρ') from e)
  exact k σ H Z s Stp.refl fun _ => rfl⟩
theorem Post.after {K : PySem.W.Frag} {pin pin' q : Bool} {ρ ρ1 ρ' : Rho} {σ σ1 : L2.St} {H H1 : Hp} {Z Z1 : Addr → Prop} {E : Ends} {out : Out} (p : Stp (Ow ρ σ) (Ow ρ1 σ1) H Z H1 Z1) (e0 : q = true → σ1[0]? = σ[0]?) (hq : pin = true → q = true ∧ pin' = true) (k : Post K pin ρ σ H Z E out ρ') : Post K pin' ρ1 σ1 H1 Z1 E out ρ' := by
  cases out with
  | nx => exact fun σ' H' Z' s' p' h => k σ' H' Z' s' (p.trans p') fun w => (h (hq w).2).trans (e0 (hq w).1)
  | bk => exact fun σ' H' Z' s' p' h => k σ' H' Z' s' (p.trans p') fun w => (h (hq w).2).trans (e0 (hq w).1)
  | ct => exact fun σ' H' Z' s' p' h => k σ' H' Z' s' (p.trans p') fun w => (h (hq w).2).trans (e0 (hq w).1)
  | rt o => exact fun σ' v H' Z' s' p' h r n => k σ' v H' Z' s' (p.trans p') (fun w => (h (hq w).2).trans (e0 (hq w).1)) r (n.back fun a h => p.none_ h)
theorem sss_cons {st : Stmt} {rest : List Stmt} {i : Sm} {is : Sms} (h1 : SS X T st i) (h2 : SSs X T rest is) : SSs X T (st :: rest) (.cons i is) := by
  obtain ⟨t, p1, q1⟩ := h1
  obtain ⟨u, p2, q2⟩ := h2
  refine ⟨_, pss_cons p1 p2, fun n ρ σ H Z out ρ' E s e k => ?_⟩
  obtain ⟨⟨o, ρ1⟩, e1, e⟩ := bnd (show (ex T n i ρ).bind _ = some _ from e)
  have hp : ((Sms.cons i is).p0 = true) → i.p0 = true ∧ is.p0 = true := fun h => by simpa [Sms.p0] using h
  cases o with
  | nx =>
    refine q1 n ρ σ H Z .nx ρ1 { E with nx := u E } s e1 fun σ1 H1 Z1 s1 pp h0 => ?_
    exact q2 n ρ1 σ1 H1 Z1 out ρ' E s1 e (k.after pp h0 hp)
  | bk =>
    cases (show some (Out.bk, ρ1) = some (out, ρ') from e)
    exact q1 n ρ σ H Z .bk _ { E with nx := u E } s e1 fun σ1 H1 Z1 s1 pp h0 => k σ1 H1 Z1 s1 pp fun w => h0 (hp w).1
  | ct =>
    cases (show some (Out.ct, ρ1) = some (out, ρ') from e)
    exact q1 n ρ σ H Z .ct _ { E with nx := u E } s e1 fun σ1 H1 Z1 s1 pp h0 => k σ1 H1 Z1 s1 pp fun w => h0 (hp w).1
  | rt o =>
    cases (show some (Out.rt o, ρ1) = some (out, ρ') from e)
    exact q1 n ρ σ H Z (.rt o) _ { E with nx := u E } s e1 fun σ1 v H1 Z1 s1 pp h0 r nv => k σ1 v H1 Z1 s1 pp (fun w => h0 (hp w).1) r nv
theorem ss_if {c : Expr} {a b : List Stmt} {ic : Ex} {ia ib : Sms} (hc : ST X c (ev T ic)) (ha : SSs X T a ia) (hb : SSs X T b ib) : SS X T (.If c a b pos) (.ite ic ia ib) := by
  obtain ⟨tc, pc, qc⟩ := hc
  obtain ⟨ta, pa, qa⟩ := ha
  obtain ⟨tb, pb, qb⟩ := hb
  refine ⟨_, ps_if pc pa pb, fun n ρ σ H Z out ρ' E s e k => ?_⟩
  obtain ⟨⟨o, ρ1⟩, e1, e⟩ := bnd (show (ev T ic ρ).bind _ = some _ from e)
  obtain ⟨kk, e2, e⟩ := bnd e
  have hp : ((Sm.ite ic ia ib).p0 = true) → ia.p0 = true ∧ ib.p0 = true := fun h => by simpa [Sm.p0] using h
  refine qc ρ σ H Z o ρ1 kk _ s e1 e2 fun H1 Z1 s1 p1 => ?_
  cases kk with
  | true =>
    rw [if_pos rfl]
    exact qa n ρ1 σ H1 Z1 out ρ' E s1 e (k.after (q := true) p1 (fun _ => rfl) fun w => ⟨rfl, (hp w).1⟩)
  | false =>
    rw [if_neg Bool.false_ne_true]
    exact qb n ρ1 σ H1 Z1 out ρ' E s1 e (k.after (q := true) p1 (fun _ => rfl) fun w => ⟨rfl, (hp w).2⟩)
theorem ss_while (hpa : PassesOwn (model X.prog X.w) X.A X.env X.xe) {c : Expr} {b : List Stmt} {ic : Ex} {ib : Sms} (hc : ST X c (ev T ic)) (hb : SSs X T b ib) : SS X T (.While c b [] pos) (.whl ic ib) := by
  obtain ⟨tc, pc, qc⟩ := hc
  obtain ⟨tb, pb, qb⟩ := hb
  refine ⟨_, ps_while hpa pc pb, fun n ρ σ H Z out ρ' E s e k => ?_⟩
  have hp : ((Sm.whl ic ib).p0 = true) → ib.p0 = true := fun h => by simpa [Sm.p0] using h
  have hpe : (Sm.whl ic ib).p0 = ib.p0 := rfl
  rw [hpe] at k
  refine ⟨fun m σ1 H1 => ∃ ρ1 Z1, Sta X.K H1 Z1 ρ1 σ1 ∧ Stp (Ow ρ σ) (Ow ρ1 σ1) H Z H1 Z1 ∧ (ib.p0 = true → σ1[0]? = σ[0]?) ∧ whlL (fun ρ => (ev T ic ρ).bind fun r => (testOd r.2 r.1).map fun k => (k, r.2)) (exs T n ib) m ρ1 = some (out, ρ'), ⟨n, ρ, Z, s, Stp.refl, fun _ => rfl, e⟩, ?_⟩
  rintro m σ1 H1 ⟨ρ1, Z1, s1, p1, h1, e⟩
  cases m with
  | zero => cases e
  | succ m =>
    obtain ⟨⟨kk, ρ2⟩, e1, e⟩ := bnd (show ((ev T ic ρ1).bind fun r => (testOd r.2 r.1).map fun k => (k, r.2)).bind _ = some _ from e)
    obtain ⟨⟨o, ρ3⟩, e2, e1⟩ := bnd e1
    obtain ⟨k', e3, e4⟩ := mpd e1
    cases e4
    refine qc ρ1 σ1 H1 Z1 o _ kk _ s1 e2 e3 fun H2 Z2 s2 p2 => ?_
    cases kk with
    | false =>
      rw [if_neg Bool.false_ne_true]
      cases (show some (Out.nx, ρ3) = some (out, ρ') from e)
      exact k σ1 H2 Z2 s2 (p1.trans p2) h1
    | true =>
      rw [if_pos rfl]
      obtain ⟨⟨o4, ρ4⟩, e5, e⟩ := bnd (show (exs T n ib ρ3).bind _ = some _ from e)
      refine ⟨fun σ' H' => ∃ ρ1 Z1, Sta X.K H' Z1 ρ1 σ' ∧ Stp (Ow ρ σ) (Ow ρ1 σ') H Z H' Z1 ∧ (ib.p0 = true → σ'[0]? = σ[0]?) ∧ whlL (fun ρ => (ev T ic ρ).bind fun r => (testOd r.2 r.1).map fun k => (k, r.2)) (exs T n ib) m ρ1 = some (out, ρ'), fun σ' H' h => ⟨m, Nat.lt_succ_self m, h⟩, ?_⟩
      refine qb n ρ3 σ1 H2 Z2 o4 ρ4 _ s2 e5 ?_
      cases o4 with
      | nx => exact fun σ' H' Z' s' p' h' => ⟨ρ4, Z', s', (p1.trans p2).trans p', fun w => (h' w).trans (h1 w), e⟩
      | ct => exact fun σ' H' Z' s' p' h' => ⟨ρ4, Z', s', (p1.trans p2).trans p', fun w => (h' w).trans (h1 w), e⟩
      | bk =>
        cases (show some (Out.nx, ρ4) = some (out, ρ') from e)
        exact fun σ' H' Z' s' p' h' => k σ' H' Z' s' ((p1.trans p2).trans p') fun w => (h' w).trans (h1 w)
      | rt o =>
        cases (show some (Out.rt o, ρ4) = some (out, ρ') from e)
        exact fun σ' v H' Z' s' p' h' r nv => k σ' v H' Z' s' ((p1.trans p2).trans p') (fun w => (h' w).trans (h1 w)) r (nv.back fun a h => (p1.trans p2).none_ h)
theorem ss_for (hpa : PassesOwn (model X.prog X.w) X.A X.env X.xe) (hc : X.calm = true) {tg iter : Expr} {b : List Stmt} {itg : Tg} {iit : Itr} {ib : Sms} (hi : SI X tg iter itg (evi T iit)) (hg : SG X tg itg) (hb : SSs X T b ib) (hs : ∀ x, foldedSetIterable iter X.env x = pure x) : SS X T (.For tg iter b [] pos) (.for_ itg iit ib) := by
  obtain ⟨wi, pi, qi⟩ := hi
  obtain ⟨g, pg, qg⟩ := hg
  obtain ⟨tb, pb, qb⟩ := hb
  refine ⟨_, ps_for hpa hc pi pg pb hs, fun n ρ σ H Z out ρ' E s e k => ?_⟩
  obtain ⟨⟨ds, ρ1⟩, e1, e⟩ := bnd (show (evi T iit ρ).bind _ = some _ from e)
  have hp : ((Sm.for_ itg iit ib).p0 = true) → 0 ∉ itg.slots ∧ ib.p0 = true := fun h => by simpa [Sm.p0] using h
  refine qi ρ σ H Z ds ρ1 _ s e1 fun J H1 Z1 s1 p1 jo hl => ?_
  refine ⟨fun i m σ2 H2 => m = ds.length - i ∧ i ≤ ds.length ∧ ∃ ρ2 Z2, Sta X.K H2 Z2 ρ2 σ2 ∧ Stp (Ow ρ1 σ) (Ow ρ2 σ2) H1 Z1 H2 Z2 ∧ ((Sm.for_ itg iit ib).p0 = true → σ2[0]? = σ[0]?) ∧ forL itg (exs T n ib) (ds.drop i) ρ2 = some (out, ρ'), ⟨ds.length, by simp, Nat.zero_le _, ρ1, Z1, s1, Stp.refl, fun _ => rfl, e⟩, ?_⟩
  rintro i m σ2 H2 ⟨rfl, hi, ρ2, Z2, s2, p2, h2, e⟩
  obtain ⟨j1, j2, j3⟩ := jo i H2 Z2 (s1.keep p2)
  by_cases hlt : i < ds.length
  · refine .inr ⟨j1 hlt, fun σ3 H3 => ∃ ρ3 Z3, Sta X.K H3 Z3 ρ3 σ3 ∧ Stp (Ow ρ1 σ) (Ow ρ3 σ3) H1 Z1 H3 Z3 ∧ ((Sm.for_ itg iit ib).p0 = true → σ3[0]? = σ[0]?) ∧ forL itg (exs T n ib) (ds.drop (i + 1)) ρ3 = some (out, ρ'), fun σ' H' h => ⟨ds.length - (i + 1), by omega, rfl, hlt, h⟩, fun x H3 hy => ?_⟩
    have iv := j3 x H3 _ (List.getElem?_eq_getElem hlt) hy
    rw [List.drop_eq_getElem_cons hlt] at e
    obtain ⟨ρ3, e2, e⟩ := bnd (show (bindTg itg ds[i] ρ2).bind _ = some _ from e)
    obtain ⟨⟨o4, ρ4⟩, e3, e⟩ := bnd e
    refine qg ρ2 σ2 H2 Z2 H3 ds[i] x ρ3 _ s2 iv e2 fun σ3 Z3 s3 p3 l3 _ => ?_
    have h3 : (Sm.for_ itg iit ib).p0 = true → σ3[0]? = σ[0]? := fun w => (l3 0 (hp w).1).trans (h2 w)
    refine qb n ρ3 σ3 H3 Z3 o4 ρ4 _ s3 e3 ?_
    have p13 := p2.trans p3
    cases o4 with
    | nx => exact fun σ' H' Z' s' p' h' => ⟨ρ4, Z', s', p13.trans p', fun w => (h' (hp w).2).trans (h3 w), e⟩
    | ct => exact fun σ' H' Z' s' p' h' => ⟨ρ4, Z', s', p13.trans p', fun w => (h' (hp w).2).trans (h3 w), e⟩
    | bk =>
      cases (show some (Out.nx, ρ4) = some (out, ρ') from e)
      exact fun σ' H' Z' s' p' h' => k σ' H' Z' s' (p1.trans (p13.trans p')) fun w => (h' (hp w).2).trans (h3 w)
    | rt o =>
      cases (show some (Out.rt o, ρ4) = some (out, ρ') from e)
      exact fun σ' v H' Z' s' p' h' r nv => k σ' v H' Z' s' (p1.trans (p13.trans p')) (fun w => (h' (hp w).2).trans (h3 w)) r (nv.back fun a h => (p1.trans p13).none_ h)
  · rw [List.drop_eq_nil_of_le (by omega)] at e
    cases (show some (Out.nx, ρ2) = some (out, ρ') from e)
    exact .inl ⟨j2 (by omega), k σ2 H2 Z2 s2 (p1.trans p2) h2⟩
end
end Lt

/-! Lt: new dicts, tuples backwards, zip, enumerate. -/
namespace Lt
open PySem L2 PySem.Spec PyProof.Rows
section
variable {prog : Program} {w : World} {A : Around} {E : Value → Shared → Prop} {s : Shared}
theorem sliceApplied_rev {sl : Addr} {vl vu vs : Value} {n : Nat} {Q : Int × Int × Nat → Shared → Prop} (hs : s.heap.IsSliceOf sl vl vu vs) (pl : IsPart vl none) (pu : IsPart vu none) (ps : IsPart vs (some (-1)))
    (h : Q ((n : Int) - 1, -1, n) s) : wpAny (model prog w) A (Builtin.Slice.sliceApplied (.ref sl) (pure (n : Int))) Q E s := by
  obtain ⟨os, hos, hcs, hds⟩ := id hs
  unfold Builtin.Slice.sliceApplied Builtin.Slice.sliceFields
  refine wpAny_bind (wpAny_bind (wpAny_field hos hds (x := vl) rfl (wpAny_bind (wpAny_field hos hds (x := vu) rfl (wpAny_bind (wpAny_field hos hds (x := vs) rfl (wpAny_pure ?_)))))))
  refine wpAny_bind (HT.slicePart_ ps ?_)
  show wpAny _ _ (if ((-1 : Int) == 0) = true then _ else _) _ _ s
  rw [if_neg (by decide)]
  refine wpAny_bind (HT.slicePart_ pl (wpAny_bind (HT.slicePart_ pu (wpAny_bind (wpAny_pure ?_)))))
  show wpAny _ _ (match Builtin.Slice.sliceAdjust none none (-1) (n : Int) with | (lo, hi) => pure (lo, (-1 : Int), Builtin.Slice.slicePlaces lo hi (-1))) _ _ s
  have e1 : Builtin.Slice.sliceAdjust none none (-1) (n : Int) = ((n : Int) - 1, -1) := by
    unfold Builtin.Slice.sliceAdjust
    first | rfl | simp | (simp; omega)
  have e2 : Builtin.Slice.slicePlaces ((n : Int) - 1) (-1) (-1) = n := by
    unfold Builtin.Slice.slicePlaces
    first | (simp; done) | (simp; omega) | (split <;> simp <;> omega)
  rw [e1]
  show wpAny _ _ (pure ((n : Int) - 1, (-1 : Int), Builtin.Slice.slicePlaces ((n : Int) - 1) (-1) (-1))) _ _ s
  rw [e2]
  exact wpAny_pure h
theorem pick_rev (xs : Array Value) : ((List.range xs.size).filterMap fun (m : Nat) => xs[(((xs.size : Nat) : Int) - 1 + (m : Int) * -1).toNat]?).toArray = xs.toList.reverse.toArray := by
  have h := PySem.W.krv_all xs
  congr 1
  rw [← h, ← List.filterMap_reverse, ← PySem.W.krv_range, List.filterMap_map]
  have cg : ∀ (l : List Nat) (f g : Nat → Option Value), (∀ m ∈ l, f m = g m) → l.filterMap f = l.filterMap g := by
    intro l f g h
    induction l with
    | nil => rfl
    | cons a l ih => rw [List.filterMap_cons, List.filterMap_cons, h a (by simp), ih fun m hm => h m (by simp [hm])]
  refine cg _ _ _ fun m hm => ?_
  have := List.mem_range.mp hm
  show xs[(((xs.size : Nat) : Int) - 1 + (m : Int) * -1).toNat]? = xs[xs.size - 1 - m]?
  have e : (((xs.size : Nat) : Int) - 1 + (m : Int) * -1).toNat = xs.size - 1 - m := by omega
  rw [e]
theorem getItem_tuple_rev {t sl : Addr} {items : Array Value} {vl vu vs : Value} {Q : Value → Shared → Prop} (ht : IsTup s.heap t items) (hs : s.heap.IsSliceOf sl vl vu vs) (pl : IsPart vl none) (pu : IsPart vu none) (ps : IsPart vs (some (-1)))
    (h : Q (.ref s.heap.objs.size) { s with heap := s.heap.push { cls := .type "tuple", data := .seq items.toList.reverse.toArray } })
    (hsz : items.size ≤ sizeLine) : wpAny (model prog w) A (getItem (.ref t) (.ref sl)) Q E s := by
  have htake : sizeOk (.seq items.toList.reverse.toArray) := by
    show items.toList.reverse.toArray.size ≤ sizeLine
    rw [List.size_toArray, List.length_reverse, Array.length_toList]
    exact hsz
  obtain ⟨os, hos, hcs, hds⟩ := id hs
  have hTs : s.TypeIs (.ref sl) "slice" := ⟨os, hos, hcs⟩
  unfold getItem
  try with_reducible refine wpAny_holding ?_
  first | refine wpAny_bind (wpAny_pure ?_) | skip
  refine wpAny_bind (wpAny_sequenceKey ht.typeIs (by decide) ?_)
  refine wpAny_bind (wpAny_callSpecial?_slot (name := Str.ofString "__getitem__") ht.typeIs PyProof.Rows.slot_tuple_getitem
    (wpAny_call_entry PyProof.Rows.slot_tuple_getitem ht.typeIs entry_tuple_getitem ?_ (args_tuple_getitem _ _)))
  show wpAny _ _ (Builtin.Tuple.tupleItemsOf (.ref t) >>= _) _ _ s
  refine wpAny_bind (PyProof.Rows.tupleItemsOf_ ht ?_)
  refine wpAny_bind (wpAny_typeOf hTs ?_)
  rw [if_pos (by decide)]
  refine wpAny_bind (sliceApplied_rev hs pl pu ps ?_)
  have hno : ¬ (((((items.size : Nat) : Int) - 1) == 0 && (-1 : Int) == 1 && items.size == items.size) = true) := by
    intro q
    rw [Bool.and_eq_true, Bool.and_eq_true] at q
    exact absurd q.1.2 (by decide)
  show wpAny _ _ (if ((((items.size : Nat) : Int) - 1) == 0 && (-1 : Int) == 1 && items.size == items.size) = true then _ else _) _ _ s
  rw [if_neg hno, pick_rev]
  first
    | exact wpAny_bind (m := Builtin.Tuple.tupleExact _) (wpAny_newObj_type (wpAny_pure ⟨_, rfl, wpAny_pure h⟩) htake)
    | exact wpAny_bind (m := Builtin.Tuple.tupleExact _) (wpAny_newObj_type (wpAny_bind (wpAny_pure (wpAny_pure ⟨_, rfl, wpAny_pure h⟩))) htake)
    | exact wpAny_bind (wpAny_bind (m := Builtin.Tuple.tupleExact _) (wpAny_newObj_type (wpAny_pure (wpAny_pure ⟨_, rfl, wpAny_pure h⟩)) htake))
    | exact wpAny_bind (wpAny_bind (m := Builtin.Tuple.tupleExact _) (wpAny_newObj_type (wpAny_pure ⟨_, rfl, wpAny_pure h⟩) htake))
end
section
variable {X : Cx} {T : Tab} {pos : Pos}
/-- x[::-1], a list or a tuple -/
def tRevA (K : PySem.W.Frag) (te : TE) : TE := fun σ H Q => te σ H fun x H1 => ∃ a xs, x = .ref a ∧ ((SqL K H1 a xs ∧ ∀ p, H1 p = none → Q (.ref p) (upd H1 p (.lst xs.reverse))) ∨ (SqT K H1 a xs ∧ NewT H1 Q xs.reverse))
theorem pe_revA {e : Expr} {te : TE} {k : Nat} {p1 p2 p3 : Pos} (he : PE X e te) : PE X (.Subscript e (.Slice none none (some (.UnaryOp .USub (.Constant (.int 1) k p1) p2)) p3) pos) (tRevA X.K te) := by
  refine ⟨fun pins s σ H Q I h => ?_⟩
  refine Subscript_ (thn (he.run pins s σ H _ I h) fun v s1 ⟨x, H1, I1, r1, q1⟩ => ?_)
  obtain ⟨a, xs, ex, q⟩ := q1
  subst ex
  cases r1
  have hst : PO X (some (.UnaryOp .USub (.Constant (.int 1) k p1) p2)) (tPart (tUn (rU fun i => .int (-i)) (tC (.int 1)))) := po_some (pe_un un_neg pe_int)
  refine wpAny_Slice (thn (po_none.run pins s1 σ H1 (fun o H2 => o = none ∧ H2 = H1) I1 ⟨rfl, rfl⟩) fun vl s2 ⟨l, H2, I2, pl, el, e2⟩ => ?_)
  subst el e2
  refine thn (po_none.run pins s2 σ H2 (fun o H3 => o = none ∧ H3 = H2) I2 ⟨rfl, rfl⟩) fun vu s3 ⟨u, H3, I3, pu, eu, e3⟩ => ?_
  subst eu e3
  refine thn (hst.run pins s3 σ H3 (fun o H4 => o = some (-1) ∧ H4 = H3) I3 ⟨1, rfl, -1, rfl, rfl, rfl⟩) fun vs s4 ⟨o, H4, I4, ps, eo, e4⟩ => ?_
  subst eo e4
  have I5 : Inv X pins σ H4 { s4 with heap := s4.heap.push { cls := .type "slice", data := .fields #[vl, vu, vs] } } := I4.kept (t' := s4.toks) fun b ob q => Heap.get?_push_of_some _ q
  show wpAny (model X.prog X.w) X.A (subscriptTail e (.Slice none none (some (.UnaryOp .USub (.Constant (.int 1) k p1) p2)) p3) (.ref a) (.ref s4.heap.objs.size)) (EP X pins σ Q) X.xe { s4 with heap := s4.heap.push { cls := .type "slice", data := .fields #[vl, vu, vs] } }
  rcases q with ⟨hx, q⟩ | ⟨hx, q⟩
  · obtain ⟨its, r, ht, hz⟩ := I5.list hx
    have hlen := r.length
    refine tail_any (ops := [.ref a, .ref s4.heap.objs.size]) ht.isList.typeIs (PySem.slot_list_getitem.lookup) ?_ (by with_unfolding_all rfl)
    refine wpAny_getItem_list_slice ht.isList (Heap.IsSliceOf.new _ vl vu vs) pl pu ps (by decide) ?_ (by rw [List.size_toArray]; omega)
    rw [PySem.W.krv_pick]
    refine ⟨.ref _, _, I5.laid (t' := s4.toks) (o := .lst xs.reverse) (fun b ob q => Heap.get?_push_of_some _ q) (Nat.le_refl _) ?_, rfl, q _ (I5.hok.fresh (Nat.le_refl _))⟩
    exact ⟨by rw [List.length_reverse]; exact hz, _, 0, r.reverse, Heap.get?_push_size _ rfl⟩
  · obtain ⟨its, r, ht, hz⟩ := I5.tuple hx
    have hlen := r.length
    refine tail_any (ops := [.ref a, .ref s4.heap.objs.size]) ht.typeIs (PyProof.Rows.slot_tuple_getitem.lookup) ?_ (by with_unfolding_all rfl)
    refine getItem_tuple_rev ht (Heap.IsSliceOf.new _ vl vu vs) pl pu ps ?_ (by rw [List.size_toArray]; omega)
    have := q.use I5 r.reverse (by rw [List.length_reverse]; exact hz) s4.toks
    exact this
theorem so_rev {a : Expr} {ia : Ex} {k : Nat} {p1 p2 p3 : Pos} (ha : SO X a (ev T ia)) : SO X (.Subscript a (.Slice none none (some (.UnaryOp .USub (.Constant (.int 1) k p1) p2)) p3) pos) (ev T (.rev ia)) := by
  obtain ⟨ta, pa, qa⟩ := ha
  refine ⟨_, pe_revA pa, fun ρ σ H Z o ρ' Q s e k => ?_⟩
  obtain ⟨⟨x, ρ1⟩, e1, e⟩ := bnd (show (ev T ia ρ).bind _ = some _ from e)
  obtain ⟨d, e2, e⟩ := bnd e
  obtain ⟨c, e3, e⟩ := mpd e
  cases e
  refine qa ρ σ H Z x ρ1 _ s e1 fun v H1 Z1 s1 p1 r1 _ => ?_
  have rx := r1.vw s1 e2
  cases d <;> (try (cases (show none = some c from e3)))
  · rename_i xs
    cases (show some _ = some c from e3)
    obtain ⟨p, vs, rfl, hp, hlen, rr⟩ := rx.lst
    exact ⟨p, vs, rfl, .inl ⟨.inl (.inl hp), (Fin_.of k).lst p1 s1 rr.reverse (by rw [List.length_reverse]; exact hlen)⟩⟩
  · rename_i xs
    cases (show some _ = some c from e3)
    obtain ⟨p, vs, rfl, hp, hlen, rr⟩ := rx.tup
    exact ⟨p, vs, rfl, .inr ⟨hp, (Fin_.of k).tup p1 s1 rr.reverse (by rw [List.length_reverse]; exact hlen)⟩⟩
/-! ### new dicts -/
def tDNewL : TE := fun _ H Q => ∀ p, H p = none → Q (.ref p) (upd H p (.ext (dφ p [])))
theorem pe_dnewL : PE X (.Dict [] [] pos) tDNewL := ⟨fun pins s σ H Q I h =>
  wpAny_Dict_empty ⟨.ref s.heap.objs.size, _, I.laid (a := s.heap.objs.size) (o := .ext (dφ s.heap.objs.size [])) (t' := s.toks) (fun _ _ q => Heap.get?_push_of_some _ q) (Nat.le_refl _) (ext_ok (dφ_new I.big)), rfl, h _ (I.hok.fresh (Nat.le_refl _))⟩⟩
theorem so_dnew : SO X (.Dict [] [] pos) (ev T .dnew) := by
  refine ⟨tDNewL, pe_dnewL, fun ρ σ H Z o ρ' Q s e k p ha => ?_⟩
  cases (show some (Od.t (.dic []), ρ) = some (o, ρ') from e)
  obtain ⟨p1, s1, kp, nw, nz, n0⟩ := alloc Stp.refl s ha (.ext (dφ p [])) False
  exact k _ _ _ s1 p1 ⟨⟨p, rfl, [], upd_same, fun z => z.elim nz fun q => q.1, Nat.zero_le _, .nil, List.nodup_nil⟩, fun b _ e => by cases e; exact nw⟩ fun b _ e => by cases e; exact n0
/-! ### zip -/
theorem zipD_at : ∀ {xs ys : List D} {i : Nat} {d : D}, (zipD xs ys)[i]? = some d → ∃ a b, xs[i]? = some a ∧ ys[i]? = some b ∧ d = .tuple [a, b]
  | a :: as, b :: bs, 0, d, h => ⟨a, b, rfl, rfl, by simpa [zipD] using h.symm⟩
  | a :: as, b :: bs, i + 1, d, h => by
    obtain ⟨x, y, h1, h2, h3⟩ := zipD_at (xs := as) (ys := bs) (i := i) (by simpa [zipD] using h)
    exact ⟨x, y, by simpa using h1, by simpa using h2, h3⟩
  | [], _, i, d, h => by simp [zipD] at h
  | _ :: _, [], i, d, h => by simp [zipD] at h
theorem zipD_len : ∀ {xs ys : List D}, (zipD xs ys).length = min xs.length ys.length
  | a :: as, b :: bs => by simp [zipD, zipD_len]
  | [], _ => by simp [zipD]
  | _ :: _, [] => by simp [zipD]
theorem zipS_is {x y : D} {ds : List D} (h : zipS x y = some ds) : (∃ xs ys, x = .list xs ∧ y = .list ys ∧ ds = zipD xs ys) ∨ ∃ xs ys, x = .tuple xs ∧ y = .tuple ys ∧ ds = zipD xs ys := by
  cases x <;> cases y <;> (try (cases (show none = some ds from h)))
  · rename_i xs ys
    cases (show some _ = some ds from h)
    exact .inl ⟨xs, ys, rfl, rfl, rfl⟩
  · rename_i xs ys
    cases (show some _ = some ds from h)
    exact .inr ⟨xs, ys, rfl, rfl, rfl⟩
theorem si_zip {a b : Expr} {elts : List Expr} {kk : Nat} {tpos p : Pos} {itg : Tg} {i j : Ex} (hg : Gl X "zip") (hm : X.mg "zip" = none) (ht : isT itg) (h : SA X [a, b] (evs T (.cons i (.cons j .nil))))
    (hs : starEach [a, b] X.env = (false, eval a X.env) :: starEach [b] X.env) (hpl : (backTo pos (starEach [b] X.env)).any (·.1) = false) : SI X (.Tuple elts kk tpos) (.Call (.Name "zip" p) [a, b] [] pos) itg (evi T (.zip i j)) := by
  obtain ⟨t, pt, qt⟩ := h
  refine ⟨_, RZ.pi_zipA hg hm pt.1 hs hpl, fun ρ σ H Z ds ρ' R s e k => ?_⟩
  obtain ⟨⟨o, ρ1⟩, e1, e⟩ := bnd (show (ev T i ρ).bind _ = some _ from e)
  obtain ⟨⟨o2, ρ2⟩, e2, e⟩ := bnd e
  obtain ⟨⟨x, ρ3⟩, e3, e⟩ := bnd e
  obtain ⟨⟨y, ρ4⟩, e4, e⟩ := bnd e
  obtain ⟨ds', e5, e⟩ := mpd e
  cases e
  have ee : evs T (.cons i (.cons j .nil)) ρ = some ([o, o2], ρ2) := by
    show (ev T i ρ).bind _ = _
    rw [e1]
    show ((ev T j ρ1).bind _).map _ = _
    rw [e2]; rfl
  have ef : frzs ρ2 [o, o2] = some ([x, y], ρ4) := by
    show (frz ρ2 o).bind _ = _
    rw [e3]
    show ((frz ρ3 o2).bind _).map _ = _
    rw [e4]; rfl
  refine qt ρ σ H Z _ ρ2 _ s ee fun vs H1 Z1 s1 p1 r1 => ?_
  obtain ⟨Z2, p2, s2, ⟨v, r, rfl, rx, w, r', rfl, ry, rn⟩, _⟩ := frzs_ok p1 s1 r1 ef
  cases (show r' = [] from rn)
  have fin : ∀ {xs ys : List D} {a b : Addr} {us ws : List V} {J : It}, Rls X.K H1 Z2 xs us → Rls X.K H1 Z2 ys ws → (∀ H' Z', Keep H1 Z2 H' Z' → (∀ i x y, us[i]? = some x → ws[i]? = some y → J.go i H') ∧ (∀ i, us.length ≤ i ∨ ws.length ≤ i → J.stop i H') ∧ ∀ i v H'', J.yld i H' v H'' → ∃ T x y, v = .ref T ∧ H' T = none ∧ H'' = upd H' T (.tup [x, y]) ∧ us[i]? = some x ∧ ws[i]? = some y) → ItOk X.K itg J (zipD xs ys) H1 Z2 := by
    intro xs ys a b us ws J rx ry hJ i H' Z' kp
    obtain ⟨j1, j2, j3⟩ := hJ H' Z' kp
    have l1 := rx.length
    have l2 := ry.length
    have l3 := zipD_len (xs := xs) (ys := ys)
    refine ⟨fun hi => ?_, fun hi => j2 i (by omega), fun v H'' d hd hy => ?_⟩
    · exact j1 i _ _ (List.getElem?_eq_getElem (show i < us.length by omega)) (List.getElem?_eq_getElem (show i < ws.length by omega))
    · obtain ⟨T, x, y, rfl, hT, rfl, hx, hy⟩ := j3 i v H'' hy
      obtain ⟨a, b, h1, h2, rfl⟩ := zipD_at hd
      obtain ⟨x', h3, h4⟩ := (Rls.keep kp xs us rx).get h1
      obtain ⟨y', h5, h6⟩ := (Rls.keep kp ys ws ry).get h2
      rw [hx] at h3
      rw [hy] at h5
      cases h3
      cases h5
      exact .inr ⟨ht, T, x, y, a, b, rfl, hT, rfl, rfl, h4, h6⟩
  rcases zipS_is e5 with ⟨xs, ys, rfl, rfl, rfl⟩ | ⟨xs, ys, rfl, rfl, rfl⟩
  · obtain ⟨a, us, rfl, la, na, ra⟩ := (show Rl X.K H1 Z2 (.list xs) v from rx)
    obtain ⟨b, ws, rfl, lb, nb, rb⟩ := (show Rl X.K H1 Z2 (.list ys) w from ry)
    refine ⟨a, b, us, ws, rfl, .inl ⟨la.sq, lb.sq, k _ _ Z2 s2 p2 (fin (a := a) (b := b) ra rb fun H' Z' kp => ⟨fun i x y hx hy => ⟨us, ws, x, y, (la.keep kp).sq, (lb.keep kp).sq, hx, hy⟩, fun i hi => ⟨us, ws, (la.keep kp).sq, (lb.keep kp).sq, hi⟩, fun i v H'' ⟨T, x, y, e1, e2, e3, e4, e5⟩ => ⟨T, x, y, e1, e2, e3, e4 us (la.keep kp).sq, e5 ws (lb.keep kp).sq⟩⟩) ?_⟩⟩
    rw [zipD_len]
    omega
  · obtain ⟨a, us, rfl, la, na, ra⟩ := (show Rl X.K H1 Z2 (.tuple xs) v from rx)
    obtain ⟨b, ws, rfl, lb, nb, rb⟩ := (show Rl X.K H1 Z2 (.tuple ys) w from ry)
    refine ⟨a, b, us, ws, rfl, .inr ⟨la.sq, lb.sq, k _ _ Z2 s2 p2 (fin (a := a) (b := b) ra rb fun H' Z' kp => ⟨fun i x y hx hy => ⟨us, ws, x, y, (la.keep kp).sq, (lb.keep kp).sq, hx, hy⟩, fun i hi => ⟨us, ws, (la.keep kp).sq, (lb.keep kp).sq, hi⟩, fun i v H'' ⟨T, x, y, e1, e2, e3, e4, e5⟩ => ⟨T, x, y, e1, e2, e3, e4 us (la.keep kp).sq, e5 ws (lb.keep kp).sq⟩⟩) ?_⟩⟩
    rw [zipD_len]
    omega
end
end Lt

/-! Lt: enumerate of a list, of a tuple. -/
namespace Lt
open PySem L2 PySem.Spec PyProof.Rows
theorem meets_enumerate_new1 {v : Value} {o : Obj} {H : Heap → Prop} (B : Begins v o H) :
    Meets (Builtin.«enumerate.__new__» ⟨[.type "enumerate", v], []⟩) (fun _ R s => H s.heap ∧
      R (.ok (.ret (.ref (s.heap.push o).objs.size))) { s with heap := (s.heap.push o).push { cls := .type "enumerate", data := .fields #[.none, .bool false, .ref s.heap.objs.size, rawInt 0, .none, .none] } }) :=
  .of_wp fun prog w A R s h => by
    obtain ⟨hp, g, d, tk, os⟩ := s; obtain ⟨h1, h⟩ := h
    have hsub := sub_enumerate
    have q1 : ∀ {A' : Around} {E : Value → Shared → Prop} {Q : Value → Shared → Prop}, Q (.ref hp.objs.size) ⟨hp.push o, g, d, tk, os⟩ → wpAny (model prog w) A' (pyIter v) Q E ⟨hp, g, d, tk, os⟩ :=
      fun q => B.iter prog w _ _ ⟨hp, g, d, tk, os⟩ _ h1 q
    wp_walk using q1
    refine wpAny_stack_any fun st => wpAny_pure ?_
    split
    · rename_i c _ _ _ _ _
      cases (c == Value.type "enumerate")
      · wp_walk using q1
        exact ⟨_, rfl, h⟩
      · wp_walk using q1
        exact ⟨_, rfl, h⟩
    · wp_walk using q1
      exact ⟨_, rfl, h⟩
section
variable {prog : Program} {w : World} {A : Around} {E : Value → Shared → Prop} {s : Shared}
theorem call_enumerate1 {v : Value} {o : Obj} {H : Heap → Prop} {Q : Value → Shared → Prop} (B : Begins v o H) (h1 : H s.heap)
    (h : ∀ h', IsEnum h' (s.heap.objs.size + 1) s.heap.objs.size 0 .none → h'.get? s.heap.objs.size = some o → h'.objs.size = s.heap.objs.size + 2 →
      (∀ b o, s.heap.get? b = some o → h'.get? b = some o) → Q (.ref (s.heap.objs.size + 1)) { s with heap := h' }) :
    wpAny (model prog w) A (call (.type "enumerate") [v]) Q E s := by
  refine callType_new F.called_enumerate (by decide) (F.typeCall_enumerate_1 _) (F.newCall_enumerate_1 _) (fun obj => F.args_object_init_2 obj _) F.entry_enumerate_new
    (meets_enumerate_new1 B) ⟨h1, ?_⟩
  have hz : (s.heap.push o).objs.size = s.heap.objs.size + 1 := Heap.size_push ..
  show _ ∧ _
  rw [hz]
  have he : IsEnum ((s.heap.push o).push { cls := .type "enumerate", data := .fields #[.none, .bool false, .ref s.heap.objs.size, rawInt 0, .none, .none] }) (s.heap.objs.size + 1) s.heap.objs.size 0 .none := by
    have := Heap.get?_push_size (s.heap.push o) (o := { cls := .type "enumerate", data := .fields #[.none, .bool false, .ref s.heap.objs.size, rawInt 0, .none, .none] }) rfl
    rw [hz] at this; exact this
  refine ⟨⟨_, he, rfl⟩, h _ he (Heap.get?_push_of_some _ (Heap.get?_push_size _ B.free)) (by rw [Heap.size_push, hz]) fun b o x => Heap.get?_push_of_some _ (Heap.get?_push_of_some _ x)⟩
end
/-- the tuple at a, each item in a new pair -/
def IteT (K : PySem.W.Frag) (a : Addr) : It :=
  ⟨fun i H => ∃ (xs : List V) (x : V), SqT K H a xs ∧ xs[i]? = some x, fun i H v H' => ∃ T x, v = .ref T ∧ H T = none ∧ H' = upd H T (.tup [.int (i : Nat), x]) ∧ ∀ xs, SqT K H a xs → xs[i]? = some x, fun i H => ∃ xs : List V, SqT K H a xs ∧ xs.length = i⟩
theorem turn_enumT {P : Program} {w : World} {K : PySem.W.Frag} {elts : List Expr} {kk : Nat} {tpos : Pos} (a e it : Addr) :
    Turn P w K (.Tuple elts kk tpos) (IteT K a) [e, it] e (fun i h => (∃ old, IsEnum h e it ((i : Nat) : Int) old) ∧ h.IsTupleIter it a i ∧ e ≠ it ∧ a ≠ it ∧ a ≠ e) where
  mem := by simp
  obj := fun i h st b hb => by
    obtain ⟨⟨old, he⟩, ⟨o, ho, hc, hd⟩, _⟩ := st
    have e' : b = e ∨ b = it := by simpa using hb
    rcases e' with z | z
    · rw [z]; exact ⟨_, he, fun v q => nomatch q⟩
    · rw [z]; exact ⟨o, ho, fun v q => by rw [hd] at q; cases q⟩
  keep := fun i h h' st k => let ⟨⟨old, he⟩, hi, hne⟩ := st; ⟨⟨old, k e (by simp) _ he⟩, hi.at fun o q => k it (by simp) o q, hne⟩
  item := by
    intro X hP hw hK hc i pins s σ H E I hf st hg
    subst hP hw hK
    obtain ⟨⟨old, he⟩, hit, hne, hai, hae⟩ := st
    obtain ⟨xs, x, hq, hx⟩ := hg
    obtain ⟨its, rv, p, hz⟩ := I.tuple hq
    obtain ⟨u, hu, ru⟩ := rv.get hx
    have hel : e < s.heap.objs.size := Heap.lt_size he
    have hil : it < s.heap.objs.size := by obtain ⟨_, q, _⟩ := hit; exact Heap.lt_size q
    have hh : X.A.in1.handled = none := I.ok.hd hc
    have D : Draws X.prog X.w X.A.in1 it [it, a] its.toArray.size (fun i v => its.toArray[i]? = some v) (fun i h => h.IsTupleIter it a i ∧ h.IsTuple a its.toArray) := Draws.tuple hh it a hai its.toArray
    have hlt : i < its.toArray.size := by
      rw [List.size_toArray]
      exact (List.getElem?_eq_some_iff.mp hu).1
    refine wpAny_pyNext_enum_itemC D he ⟨hit, p⟩ hlt hne (by simp only [List.mem_cons, List.not_mem_nil, or_false, not_or]; exact ⟨hne, Ne.symm hae⟩) fun x' h' tk hx' ho hst' hT hsz hk => ?_
    have hxu : x' = u := by
      have : its.toArray[i]? = some u := by simpa using hu
      rw [this] at hx'
      exact (Option.some.inj hx').symm
    subst hxu
    refine ⟨_, rfl, wpAny_letOwnedTupleGo_enum (s := { s with heap := h', toks := tk + 1 }) ho fun h'' he' sb => ?_⟩
    have hT2 : h''.get? s.heap.objs.size = some { cls := .type "tuple", data := .seq #[.int i tk, x'] } := (sb.2 _ (Nat.ne_of_gt hel)).trans hT
    have new : ObjOk X.prog X.w (upd H s.heap.objs.size (.tup [.int (i : Nat), x])) h'' s.heap.objs.size (.tup [.int (i : Nat), x]) :=
      ⟨by show 2 ≤ sizeLine; decide, [.int i tk, x'], .cons ⟨_, rfl⟩ (.cons ru .nil), ⟨_, hT2, rfl, _, rfl⟩⟩
    have I1 : Inv X pins σ (upd H s.heap.objs.size (.tup [.int (i : Nat), x])) { s with heap := h'', toks := tk + 1 } :=
      I.turnedNew (ch := [e, it]) (fun b ob hb q => (sb.2 b (fun z => hb (by simp [z]))).trans (hk b ob (fun z => hb (by simp [z])) (fun z => hb (by simp [z])) q)) hf (Nat.le_refl _) new
    refine ⟨.ref s.heap.objs.size, _, I1, rfl, ⟨_, x, rfl, I.hok.fresh (Nat.le_refl _), rfl, fun ys hy => by rw [I.tuple_inj hy hq]; exact hx⟩, ⟨⟨x', ?_⟩, hst'.1.at fun o q => (sb.2 it (Ne.symm hne)).trans q, hne, hai, hae⟩, fun b hb => ?_⟩
    · have e1 : ((i + 1 : Nat) : Int) = (i : Int) + 1 := by omega
      rw [e1]; exact he'
    · have hb' : b < s.heap.objs.size := by
        have e' : b = e ∨ b = it := by simpa using hb
        rcases e' with z | z
        · rw [z]; exact hel
        · rw [z]; exact hil
      rw [upd_ne (Nat.ne_of_lt hb')]
      exact (hf b hb).1
  done := by
    intro X hP hw hK hc i pins s σ H E I hf st hg
    subst hP hw hK
    obtain ⟨⟨old, he⟩, hit, hne, hai, hae⟩ := st
    obtain ⟨xs, hq, hx⟩ := hg
    obtain ⟨its, rv, p, hz⟩ := I.tuple hq
    obtain ⟨f0, f1, f2, f3, f4, f5⟩ := hf it (by simp)
    have hl := rv.length
    have hh : X.A.in1.handled = none := I.ok.hd hc
    have D : Draws X.prog X.w X.A.in1 it [it, a] its.toArray.size (fun i v => its.toArray[i]? = some v) (fun i h => h.IsTupleIter it a i ∧ h.IsTuple a its.toArray) := Draws.tuple hh it a hai its.toArray
    have hi : i = its.toArray.size := by rw [List.size_toArray]; omega
    exact wpAny_pyNext_enum_endD D he (by rw [← hi]; exact ⟨hit, p⟩) fun h' eb => ⟨rfl, I.turned (t' := s.toks) (fun b o hb q => eb b o hb q) f0 f1 f3 f4 f5⟩
  self := fun A i s Q E st h => let ⟨⟨_, he⟩, _⟩ := st; wpAny_pyIter_enum he h
def iEnumA (K : PySem.W.Frag) (ta : TA) : TI := fun σ H R => ta σ H fun vs H1 => ∃ a xs, vs = [.ref a] ∧ ((SqL K H1 a xs ∧ R (Ite K a) H1) ∨ (SqT K H1 a xs ∧ R (IteT K a) H1))
theorem pi_enumA {X : Cx} {e : Expr} {ta : TA} {p pos tpos : Pos} {elts : List Expr} {kk : Nat} (hg : Gl X "enumerate") (hm : X.mg "enumerate" = none) (ha : PA X [e] ta) (hs : starEach [e] X.env = [(false, eval e X.env)]) :
    PI X (.Tuple elts kk tpos) (.Call (.Name "enumerate" p) [e] [] pos) (iEnumA X.K ta) := by
  refine ⟨fun pins s σ H R I h => ?_⟩
  refine Call_ (ld_blt I hg hm boot_enumerate (PyProof.Rows.callWith_type1 (thn (ha.run pos pins s σ H _ I h) fun us s1 ⟨vs, H1, I1, r1, q1⟩ => ?_) hs rfl))
  obtain ⟨a, xs, ex, q⟩ := q1
  subst ex
  cases r1 with
  | cons r rr =>
    cases rr
    cases r
    have fp : ∀ b, b ∈ [s1.heap.objs.size + 1, s1.heap.objs.size] → FpOk X pins H1 b := fun b hb => by
      have e' : b = s1.heap.objs.size + 1 ∨ b = s1.heap.objs.size := by simpa using hb
      have hle : s1.heap.objs.size ≤ b := by
        rcases e' with z | z
        · rw [z]; exact Nat.le_add_right _ _
        · rw [z]; exact Nat.le_refl _
      exact I1.fpOk hle (I1.hok.fresh hle)
    rcases q with ⟨hq, q⟩ | ⟨hq, q⟩
    · obtain ⟨its, rv, p', hz⟩ := I1.list hq
      refine call_enumerate_list p'.isList fun h' he hit hsz hk => wpAny_pyIter_enum he ?_
      have I2 : Inv X pins σ H1 { s1 with heap := h' } := I1.kept (t' := s1.toks) hk
      exact ⟨s1.heap.objs.size + 1, [s1.heap.objs.size + 1, s1.heap.objs.size], _, _, H1, rfl, I2, turn_enum a (s1.heap.objs.size + 1) s1.heap.objs.size, ⟨⟨.none, he⟩, hit, Nat.succ_ne_self _⟩, fp, q⟩
    · obtain ⟨its, rv, p', hz⟩ := I1.tuple hq
      obtain ⟨o, ho, _⟩ := id p'
      have hal := Heap.lt_size ho
      refine call_enumerate1 (begins_tuple a its.toArray) p' fun h' he hit hsz hk => wpAny_pyIter_enum he ?_
      have I2 : Inv X pins σ H1 { s1 with heap := h' } := I1.kept (t' := s1.toks) hk
      exact ⟨s1.heap.objs.size + 1, [s1.heap.objs.size + 1, s1.heap.objs.size], _, _, H1, rfl, I2, turn_enumT a (s1.heap.objs.size + 1) s1.heap.objs.size, ⟨⟨.none, he⟩, ⟨_, hit, rfl, rfl⟩, Nat.succ_ne_self _, Nat.ne_of_lt hal, Nat.ne_of_lt (Nat.lt_succ_of_lt hal)⟩, fp, q⟩
section
variable {X : Cx} {T : Tab} {pos : Pos}
theorem enmD_at : ∀ {ds : List D} {k i : Nat} {d : D}, (enmD k ds)[i]? = some d → ∃ x, ds[i]? = some x ∧ d = .tuple [.int ((k + i : Nat) : Int), x]
  | [], k, i, d, h => by simp [enmD] at h
  | x :: ds, k, 0, d, h => ⟨x, rfl, by simpa [enmD] using h.symm⟩
  | x :: ds, k, i + 1, d, h => by
    obtain ⟨y, h1, h2⟩ := enmD_at (ds := ds) (k := k + 1) (i := i) (by simpa [enmD] using h)
    exact ⟨y, by simpa using h1, by rw [h2, show k + 1 + i = k + (i + 1) by omega]⟩
theorem enmD_len : ∀ {ds : List D} {k : Nat}, (enmD k ds).length = ds.length
  | [], _ => rfl
  | x :: ds, k => by simp [enmD, enmD_len]
theorem si_enm {a : Expr} {elts : List Expr} {kk : Nat} {tpos p : Pos} {itg : Tg} {i : Ex} (hg : Gl X "enumerate") (hm : X.mg "enumerate" = none) (ht : isT itg) (ha : SO X a (ev T i)) (hs : starEach [a] X.env = [(false, eval a X.env)]) : SI X (.Tuple elts kk tpos) (.Call (.Name "enumerate" p) [a] [] pos) itg (evi T (.enm i)) := by
  obtain ⟨t, pt, qt⟩ := ha
  refine ⟨_, pi_enumA hg hm (pa_cons pt pa_nil hs) hs, fun ρ σ H Z ds ρ' R s e k => ?_⟩
  obtain ⟨⟨o, ρ1⟩, e1, e⟩ := bnd (show (ev T i ρ).bind _ = some _ from e)
  obtain ⟨⟨d, ρ2⟩, e2, e⟩ := bnd e
  obtain ⟨xs, e3, e⟩ := mpd e
  cases e
  refine qt ρ σ H Z o ρ1 _ s e1 fun v H1 Z1 s1 p1 r1 n1 => ?_
  obtain ⟨Z2, p2, s2, r2, _⟩ := frz_ok p1 s1 r1 n1 e2
  have fin : ∀ {us : List V} {J : It}, Rls X.K H1 Z2 xs us → (∀ H' Z', Keep H1 Z2 H' Z' → (∀ i x, us[i]? = some x → J.go i H') ∧ (∀ i, us.length = i → J.stop i H') ∧ ∀ i v H'', J.yld i H' v H'' → ∃ T x, v = .ref T ∧ H' T = none ∧ H'' = upd H' T (.tup [.int (i : Nat), x]) ∧ us[i]? = some x) → ItOk X.K itg J (enmD 0 xs) H1 Z2 := by
    intro us J rx hJ i H' Z' kp
    obtain ⟨j1, j2, j3⟩ := hJ H' Z' kp
    have l1 := rx.length
    have l3 := enmD_len (ds := xs) (k := 0)
    refine ⟨fun hi => j1 i _ (List.getElem?_eq_getElem (show i < us.length by omega)), fun hi => j2 i (by omega), fun v H'' d hd hy => ?_⟩
    obtain ⟨T, x, rfl, hT, rfl, hx⟩ := j3 i v H'' hy
    obtain ⟨a, h1, rfl⟩ := enmD_at hd
    obtain ⟨x', h3, h4⟩ := (Rls.keep kp xs us rx).get h1
    rw [hx] at h3
    cases h3
    exact .inr ⟨ht, T, .int (i : Nat), x, .int ((0 + i : Nat) : Int), a, rfl, hT, rfl, rfl, by rw [Nat.zero_add]; exact rfl, h4⟩
  rcases seqD_some e3 with rfl | rfl
  · obtain ⟨a, us, rfl, la, na, ra⟩ := (show Rl X.K H1 Z2 (.list xs) v from r2)
    exact ⟨a, us, rfl, .inl ⟨la.sq, k _ _ Z2 s2 p2 (fin ra fun H' Z' kp => ⟨fun i x hx => ⟨us, x, (la.keep kp).sq, hx⟩, fun i hi => ⟨us, (la.keep kp).sq, by omega⟩, fun i v H'' ⟨T, x, e1, e2, e3, e4⟩ => ⟨T, x, e1, e2, e3, e4 us (la.keep kp).sq⟩⟩) (by rw [enmD_len]; exact na)⟩⟩
  · obtain ⟨a, us, rfl, la, na, ra⟩ := (show Rl X.K H1 Z2 (.tuple xs) v from r2)
    exact ⟨a, us, rfl, .inr ⟨la.sq, k _ _ Z2 s2 p2 (fin ra fun H' Z' kp => ⟨fun i x hx => ⟨us, x, (la.keep kp).sq, hx⟩, fun i hi => ⟨us, (la.keep kp).sq, hi⟩, fun i v H'' ⟨T, x, e1, e2, e3, e4⟩ => ⟨T, x, e1, e2, e3, e4 us (la.keep kp).sq⟩⟩) (by rw [enmD_len]; exact na)⟩⟩
end
end Lt

/-! Lt, part 10: a def keeps its promise. -/
namespace Lt
open PySem L2 PySem.Spec PyProof.Rows
/-- what a return hands back -/
def retC (io : Bool) (o : Od) (ρ : Rho) : Option Cell := match o with
  | .t c => some c
  | .v i => match cellAt ρ i with
    | .dat d => some (.dat d)
    | .own ds => if io then (if i = 0 then none else match cellAt ρ 0 with
        | .own _ => some (.own ds)
        | _ => none) else some (.own ds)
    | _ => none
def outC (io : Bool) (o : Out) (ρ : Rho) : Option Cell := match o with
  | .nx => some (.dat .none)
  | .rt o => retC io o ρ
  | _ => none
def endB (io : Bool) (q : Out × Rho) : Option (Cell × Cell) := (outC io q.1 q.2).bind fun c => if io then (match cellAt q.2 0 with
    | .emp => none
    | x => some (c, x)) else some (c, .emp)
def runB (T : Tab) (n : Nat) (b : Sms) (L : Nat) (io : Bool) (cs : List Cell) : Option (Cell × Cell) := (exs T n b (cs ++ List.replicate (L - cs.length) .emp)).bind (endB io)
section
variable {K : PySem.W.Frag} {H H' : Hp} {Z Z' : Addr → Prop} {σ : L2.St} {cs : List Cell} {m : Nat}
theorem ext_cell (j : Nat) : cellAt (cs ++ List.replicate m .emp) j = cellAt cs j := by
  unfold cellAt
  rw [List.getD_eq_getElem?_getD, List.getD_eq_getElem?_getD]
  by_cases h : j < cs.length
  · rw [List.getElem?_append_left h]
  · rw [List.getElem?_append_right (by omega), List.getElem?_eq_none (l := cs) (by omega), List.getElem?_replicate]
    split <;> rfl
theorem ext_slot {σ : L2.St} {j : Nat} (h : j < σ.length) : (σ ++ List.replicate m none)[j]? = σ[j]? := List.getElem?_append_left h
theorem ext_sta (s : Sta K H Z cs σ) : Sta K H Z (cs ++ List.replicate m .emp) (σ ++ List.replicate m none) := by
  have inn : ∀ {j}, isOw (cellAt cs j) = true → j < σ.length := fun {j} h => by
    rcases Nat.lt_or_ge j cs.length with q | q
    · rw [← s.len]; exact q
    · rw [cellAt_out q] at h; cases h
  refine ⟨by simp [s.len], fun j hj => ?_, fun i j a h1 h2 h3 h4 => ?_, s.zd⟩
  · rw [ext_cell] at hj ⊢
    obtain ⟨v, e, c⟩ := s.at_ j hj
    exact ⟨v, by rw [ext_slot (List.getElem?_eq_some_iff.mp e).1]; exact e, c⟩
  · rw [ext_cell] at h1 h2
    rw [ext_slot (inn h1)] at h3
    rw [ext_slot (inn h2)] at h4
    exact s.inj i j a h1 h2 h3 h4
theorem ext_ow (s : Sta K H Z cs σ) (a : Addr) : Ow (cs ++ List.replicate m .emp) (σ ++ List.replicate m none) a ↔ Ow cs σ a := by
  constructor
  · rintro ⟨j, h1, h2⟩
    rw [ext_cell] at h1
    have : j < σ.length := by
      rcases Nat.lt_or_ge j cs.length with q | q
      · rw [← s.len]; exact q
      · rw [cellAt_out q] at h1; cases h1
    rw [ext_slot this] at h2
    exact ⟨j, h1, h2⟩
  · rintro ⟨j, h1, h2⟩
    exact ⟨j, by rw [ext_cell]; exact h1, by rw [ext_slot (List.getElem?_eq_some_iff.mp h2).1]; exact h2⟩
end
theorem fn_ok {P : Program} {w : World} {K : PySem.W.Frag} {mg : Str → Option Value} {base : Heap} {x qual : Str} {params : Arguments} {body : List Stmt} {scope : Scope} {f : Addr} {fd : FuncData} (F : FunD K x qual params body scope [] [] f fd)
    {N : List Str} {fn : Fn} {k : Nat} {T : Tab} {b : Sms} (S : FnScope N fn.ps scope)
    (hb : ∀ cdv A outer s H E, Room k (A.deeper (envOfC qual scope s.heap.objs.size f cdv)) → SSs (cxOf CX0_ P w K mg base N qual scope f cdv A outer s H E).nox T body b)
    (hp : fn.io = true → b.p0 = true) (hF : ∀ cs r, cs.length = fn.ps.length → fn.F cs = some r → ∃ n, runB T n b N.length fn.io cs = some r) :
    FnOk P w K mg base CX0_ (k + 1) f fd fn.ps (spF K fn) := by
  refine F.ok S spF_len fun cdv A outer s H vs Q E hr h => ?_
  obtain ⟨t, pt, qt⟩ := hb cdv A outer s H E hr
  refine ⟨t, pt.nox, ?_⟩
  obtain ⟨Z, cs, c, out, s0, hl, hio, hf, hQ⟩ := h
  obtain ⟨n, hn⟩ := hF cs (c, out) hl hf
  obtain ⟨⟨o, ρ'⟩, e1, e2⟩ := bnd (show (exs T n b (cs ++ List.replicate (N.length - cs.length) .emp)).bind (endB fn.io) = some (c, out) from hn)
  obtain ⟨c', e3, e4⟩ := bnd (show (outC fn.io o ρ').bind _ = some (c, out) from e2)
  have hvl : vs.length = cs.length := by
    have := s0.len
    rw [List.length_map] at this
    exact this.symm
  have est : start N vs = argSt vs ++ List.replicate (N.length - cs.length) none := by rw [← hvl]; rfl
  rw [est]
  have hc : c' = c ∧ (fn.io = true → cellAt ρ' 0 = out ∧ out ≠ .emp) ∧ (fn.io = false → out = .emp) := by
    cases hh : fn.io with
    | false =>
      rw [hh, if_neg Bool.false_ne_true] at e4
      cases e4
      exact ⟨rfl, (fun z => by cases z), fun _ => rfl⟩
    | true =>
      rw [hh, if_pos rfl] at e4
      have e5 : (match cellAt ρ' 0 with
        | .emp => none
        | x => some (c', x)) = some (c, out) := e4
      cases q : cellAt ρ' 0 <;> rw [q] at e5 <;> cases e5 <;> exact ⟨rfl, (fun _ => ⟨rfl, fun z => by cases z⟩), fun z => by cases z⟩
  obtain ⟨rfl, hcio, hcno⟩ := hc
  have fin : ∀ σ' H' Z' v, Sta K H' Z' ρ' σ' → Stp (Ow (cs ++ List.replicate (N.length - cs.length) .emp) (argSt vs ++ List.replicate (N.length - cs.length) none)) (Ow ρ' σ') H Z H' Z' → (b.p0 = true → σ'[0]? = (argSt vs ++ List.replicate (N.length - cs.length) none)[0]?) →
      CellV K H' Z' c' v → (∀ a, isOw c' = true → v = .ref a → H a = none) → Q v H' := fun σ' H' Z' v s' p' h0 cv nw => by
    refine hQ v H' Z' ⟨fun a o e n => p'.fr a o e fun w => n ((ext_ow s0 a).mp w), p'.dom, p'.z, fun a w => .inl w.2⟩ cv nw (fun v0 h1 h2 => ?_) s'.zd
    obtain ⟨io1, _⟩ := hio 0 h1
    obtain ⟨eo, no⟩ := hcio io1
    obtain ⟨u, e5, c5⟩ := s'.at_ 0 (by rw [eo]; exact no)
    rw [h0 (hp io1), ext_slot (by rw [List.length_map]; exact (List.getElem?_eq_some_iff.mp h2).1), List.getElem?_map, h2] at e5
    cases e5
    rw [← eo]; exact c5
  refine qt n _ _ H Z o ρ' _ (ext_sta s0) e1 ?_
  cases o with
  | bk => cases e3
  | ct => cases e3
  | nx =>
    cases (show some (Cell.dat .none) = some c' from e3)
    exact fun σ' H' Z' s' p' h0 => fin σ' H' Z' .non s' p' h0 rfl fun _ h => nomatch h
  | rt o =>
    intro σ' v H' Z' s' p' h0 r nv
    have e3' : retC fn.io o ρ' = some c' := e3
    cases o with
    | t c0 =>
      cases (show some c0 = some c' from e3')
      exact fin σ' H' Z' v s' p' h0 r.1 nv
    | v i =>
      have hvi : σ'[i]? = some (some v) := r
      have hne : cellAt ρ' i ≠ .emp := fun q => by simp [retC, q] at e3'
      obtain ⟨u, e5, c5⟩ := s'.at_ i hne
      rw [hvi] at e5; cases e5
      cases q : cellAt ρ' i with
      | emp => exact (hne q).elim
      | dic kvs => simp [retC, q] at e3'
      | dat d =>
        rw [q] at c5
        have e9 : some (Cell.dat d) = some c' := by simpa [retC, q] using e3'
        cases e9
        exact fin σ' H' Z' v s' p' h0 c5 fun _ h => nomatch h
      | own ds =>
        rw [q] at c5
        have e6 : c' = .own ds ∧ (fn.io = true → i ≠ 0 ∧ ∃ es, cellAt ρ' 0 = .own es) := by
          cases hh : fn.io with
          | false =>
            have e9 : some (Cell.own ds) = some c' := by simpa [retC, q, hh] using e3'
            cases e9
            exact ⟨rfl, fun z => by cases z⟩
          | true =>
            have e7 : (if i = 0 then none else match cellAt ρ' 0 with
              | .own _ => some (Cell.own ds)
              | _ => none) = some c' := by simpa [retC, q, hh] using e3'
            by_cases hi : i = 0
            · rw [if_pos hi] at e7; cases e7
            · rw [if_neg hi] at e7
              cases q0 : cellAt ρ' 0 <;> rw [q0] at e7 <;> cases e7
              exact ⟨rfl, fun _ => ⟨hi, _, rfl⟩⟩
        obtain ⟨rfl, h6⟩ := e6
        refine fin σ' H' Z' v s' p' h0 c5 fun a _ ev => ?_
        subst ev
        rcases p'.w a ⟨i, by rw [q]; rfl, hvi⟩ with w | w
        · obtain ⟨j, h1, h2⟩ := (ext_ow s0 a).mp w
          obtain ⟨io1, rfl⟩ := hio j h1
          obtain ⟨hi, es, q0⟩ := h6 io1
          have e8 : σ'[0]? = some (some (.ref a)) := by
            rw [h0 (hp io1), ext_slot (List.getElem?_eq_some_iff.mp h2).1]; exact h2
          exact (hi (s'.inj i 0 a (by rw [q]; rfl) (by rw [q0]; rfl) hvi e8)).elim
        · exact w
end Lt

/-! Lt, part 11: from a text to its IR. -/
namespace Lt
open PySem L2 PySem.Spec PyProof.Rows
structure Inf where
  N : List Str
  sc : Scope
  main : Bool
  /-- the defs that may be called: names, parameters; which keywords behind how many positional arguments -/
  sig : List (Str × Nat × List Str)
  kws : List (Str × Nat × List Str)
  gls : List (Str × Nat)
  fre : List Str
  gcd : Bool
def slotOf : List Str → Str → Option Nat
  | [], _ => none
  | y :: ys, x => if y = x then some 0 else (slotOf ys x).map (· + 1)
theorem slotOf_ok : ∀ {N : List Str} {x : Str} {i : Nat}, slotOf N x = some i → N[i]? = some x
  | [], _, _, h => by cases h
  | y :: ys, x, i, h => by
    have h' : (if y = x then some 0 else (slotOf ys x).map (· + 1)) = some i := h
    by_cases e : y = x
    · rw [if_pos e] at h'
      cases h'
      rw [e]; rfl
    · rw [if_neg e] at h'
      obtain ⟨j, h1, h2⟩ := mpd h'
      subst h2
      rw [List.getElem?_cons_succ]
      exact slotOf_ok h1
def nameOk (x : Str) : Bool := !(x == ("__debug__" : Str)) && !(x == ("__classdict__" : Str))
theorem nameOk_d {x : Str} (h : nameOk x = true) : (x == ("__debug__" : Str)) = false ∧ (x == ("__classdict__" : Str)) = false := by
  unfold nameOk at h
  simpa using h
def glB (sc : Scope) (x : Str) : Bool := decide (sc.names.lookup x = some .globalImplicit)
def visB (sc : Scope) (x : Str) : Bool := decide (sc.names.lookup x = some .local) || decide (sc.names.lookup x = some .cell) || decide (sc.names.lookup x = some .free)
def locB (I : Inf) (x : Str) : Bool := decide (I.sc.names.lookup x = some .local) || (I.main && decide (I.sc.names.lookup x = some .cell))
def bfOf (x : Str) : Option Bf :=
  if x = "len" then some .len else if x = "abs" then some .abs else if x = "int" then some .int else if x = "max" then some .max else if x = "min" then some .min
  else if x = "sum" then some .sum else if x = "all" then some .all else if x = "any" then some .any else if x = "tuple" then some .tuple else if x = "list" then some .list else if x = "sorted" then some .sorted else none
def tyOf (x : Str) : Option String :=
  if x = "int" then some "int" else if x = "bool" then some "bool" else if x = "str" then some "str" else if x = "list" then some "list" else if x = "tuple" then some "tuple" else none
def mfOf (x : Str) : Option Mf :=
  if x = "count" then some .count else if x = "index" then some .index else if x = "append" then some .append else if x = "extend" then some .extend else if x = "pop" then some .pop else if x = "reverse" then some .reverse else none
theorem mfOf_ok {x : Str} {m : Mf} (h : mfOf x = some m) : x = m.nm := by
  unfold mfOf at h
  repeat' split at h
  all_goals first
    | (cases h; assumption)
    | cases h
def isStar : Expr → Bool
  | .Starred .. => true
  | _ => false
def isSet : Expr → Bool
  | .Set .. => true
  | _ => false
def isSlice : Expr → Bool
  | .Slice .. => true
  | _ => false
/-- [::-1] -/
def isRevS : Expr → Bool
  | .Slice none none (some (.UnaryOp .USub (.Constant (.int i) _ _) _)) _ => decide (i = 1)
  | _ => false
def isCall : Expr → Bool
  | .Call .. => true
  | _ => false
def isComp : Expr → Bool
  | .ListComp .. | .SetComp .. | .DictComp .. => true
  | _ => false
def isTup : Expr → Bool
  | .Tuple .. => true
  | _ => false
theorem star_one {e : Expr} (h : isStar e = false) (es : List Expr) (env : Env) : starEach (e :: es) env = (false, eval e env) :: starEach es env := by
  cases e <;> first | rfl | cases h
theorem star_no {e : Expr} (h : isStar e = false) : ∀ v p, e ≠ .Starred v p := fun v p z => by rw [z] at h; cases h
theorem star_all : ∀ {es : List Expr} (_ : es.all (fun e => !isStar e) = true) (env : Env), starEach es env = es.map fun e => (false, eval e env)
  | [], _, _ => rfl
  | e :: es, h, env => by
    rw [List.all_cons, Bool.and_eq_true] at h
    rw [star_one (by simpa using h.1), star_all h.2, List.map_cons]
theorem back_all {es : List Expr} (h : es.all (fun e => !isStar e) = true) (env : Env) (pos : Pos) : (backTo pos (starEach es env)).any (·.1) = false := by
  rw [star_all h]
  unfold backTo
  rw [List.map_map, List.any_map, List.any_eq_false]
  intro e _ q
  cases q
/-! ### lists of expressions -/
def cLs (f : Expr → Option Ex) : List Expr → Option Exs
  | [] => some .nil
  | e :: es => if isStar e then none else (f e).bind fun i => (cLs f es).map fun is => .cons i is
def cBo (f : Expr → Option Ex) (k : Ex → Ex → Ex) : List Expr → Option Ex
  | [] => none
  | [a] => f a
  | a :: es => (f a).bind fun i => (cBo f k es).map fun j => k i j
def cKw (f : Expr → Option Ex) : List Keyword → Option (List Str × Exs)
  | [] => some ([], .nil)
  | ⟨some x, e, _⟩ :: ks => (f e).bind fun i => (cKw f ks).map fun q => (x :: q.1, .cons i q.2)
  | ⟨none, _, _⟩ :: _ => none
def cOe (f : Expr → Option Ex) : Option Expr → Option Oex
  | none => some .no
  | some e => (f e).map .so
def cIf (f : Expr → Option Ex) : List Expr → Option Oex
  | [] => some .no
  | [e] => (f e).map .so
  | _ => none
/-- a target's names -/
def cTl (f : Expr → Option Tg) : List Expr → Option (List Tg)
  | [] => some []
  | e :: es => if isStar e then none else (f e).bind fun t => (cTl f es).map fun ts => t :: ts
def cTg (I : Inf) : Nat → Expr → Option Tg
  | 0, _ => none
  | n + 1, e => match e with
    | .Name x _ => if locB I x then (slotOf I.N x).map .n else none
    | .Tuple es _ _ => (cTl (cTg I n) es).map .t
    | _ => none
/-- what is walked; f for its parts -/
def cIt (I : Inf) (f : Expr → Option Ex) (tup : Bool) (e : Expr) : Option Itr :=
  if isSet e then none else match e with
  | .Call (.Name x _) [a] [] _ => if x = "range" ∧ glB I.sc "range" = true ∧ I.fre.contains "range" = true then (if isStar a then none else (f a).map .rng1) else if x = "enumerate" ∧ tup = true ∧ glB I.sc "enumerate" = true ∧ I.fre.contains "enumerate" = true then (if isStar a then none else (f a).map .enm) else (f e).map .seq
  | .Call (.Name x _) [a, b] [] _ => if x = "range" ∧ glB I.sc "range" = true ∧ I.fre.contains "range" = true then (if isStar a || isStar b then none else (f a).bind fun i => (f b).map fun j => .rng2 i j) else if x = "zip" ∧ tup = true ∧ glB I.sc "zip" = true ∧ I.fre.contains "zip" = true then (match cLs f [a, b] with
      | some (.cons i (.cons j .nil)) => some (.zip i j)
      | _ => none) else (f e).map .seq
  | _ => (f e).map .seq
/-- the own names of a comprehension's block, with their slots -/
def ownOf (N : List Str) (scope : Scope) : List (Str × Nat) := scope.names.filterMap fun y => match y.2 with
  | .local => (slotOf N y.1).map fun i => (y.1, i)
  | .cell => (slotOf N y.1).map fun i => (y.1, i)
  | _ => none
def Inf.blk (I : Inf) (scope : Scope) : Inf := { I with sc := relS scope I.sc, main := false }
/-- a call of a built-in, of a def -/
def cCall (I : Inf) (f : Expr → Option Ex) (x : Str) (es : List Expr) (kws : List Keyword) : Option Ex :=
  if !(glB I.sc x && nameOk x) then none else
  match I.sig.lookup x with
  | some (j, ps) => if kws.isEmpty then (cLs f es).map fun is => .call j is [] .nil else (cLs f es).bind fun is => (cKw f kws).bind fun q =>
      if I.kws.contains (x, is.len, q.1) && decide (ps.Nodup) && (ps.drop is.len).all (fun p => q.1.contains p) then some (.call j is ((ps.drop is.len).map fun p => q.1.idxOf p) q.2) else none
  | none => if !kws.isEmpty then none
  else if x = "gcd" ∧ I.gcd = true then (if es.isEmpty then none else (cLs f es).map fun is => .blt .gcd is)
  else if !I.fre.contains x then none
  else if x = "isinstance" then (match es with
    | [a, .Name y _] => if isStar a then none else if glB I.sc y && I.fre.contains y then (tyOf y).bind fun t => (f a).map fun i => .isi i [t] else none
    | [a, .Tuple [.Name y _, .Name z _] _ _] => if isStar a then none else if glB I.sc y && I.fre.contains y && glB I.sc z && I.fre.contains z then (tyOf y).bind fun t => (tyOf z).bind fun u => (f a).map fun i => .isi i [t, u] else none
    | _ => none)
  else if es.isEmpty then none else (bfOf x).bind fun b => (cLs f es).map fun is => .blt b is
def cMth (f : Expr → Option Ex) (o : Expr) (name : Str) (es : List Expr) (apos cpos : Pos) : Option Ex :=
  if isCall o || !(apos.endLine == cpos.line) || !(decide (es.length ≤ 1)) then none else (mfOf name).bind fun m => (f o).bind fun i => (cLs f es).map fun is => .mth m i is
/-- a comprehension; f for its parts (the flag: a test) -/
def cLc (f : Bool → Inf → Expr → Option Ex) (I : Inf) (elt tg it : Expr) (ifs : List Expr) (scope : Scope) : Option Ex :=
  if !blkC I.N I.sc scope (ownOf I.N scope) then none else (cTg (I.blk scope) 9 tg).bind fun g => (cIt I (f false I) (isTup tg) it).bind fun w => (cIf (f true (I.blk scope)) ifs).bind fun c => (f false (I.blk scope) elt).bind fun y =>
    if g.slots.all (fun i => ((ownOf I.N scope).map (·.2)).contains i) then some (.lc y g w c ((ownOf I.N scope).map (·.2))) else none
def cLg (f : Bool → Inf → Expr → Option Ex) (I : Inf) (elt : Expr) (gs : List Comprehension) (scope : Scope) : Option Ex := match gs with
  | [c] => if c.is_async = 0 then cLc f I elt c.target c.iter c.ifs scope else none
  | _ => none
/-- t: a test -/
def cX : Nat → Bool → Inf → Expr → Option Ex
  | 0, _, _, _ => none
  | n + 1, t, I, e => match e with
    | .Name x _ => if !nameOk x then none else if visB I.sc x then (slotOf I.N x).map .var else if glB I.sc x then (I.gls.lookup x).map .glb else none
    | .Constant (.int i) _ _ => some (.con (.int i))
    | .Constant (.bool b) _ _ => some (.con (.bool b))
    | .Constant .none _ _ => some (.con .none)
    | .Constant (.str x) _ _ => some (.con (.str x))
    | .BinOp a op b _ => (cX n false I a).bind fun i => (cX n false I b).map fun j => .bin op i j
    | .UnaryOp .USub a _ => (cX n false I a).map .neg
    | .UnaryOp .Not a _ => (cX n t I a).map .not
    | .Compare a [op] [b] _ => if behindInMarks op b then none else (cX n false I a).bind fun i => (cX n false I b).map fun j => .cmp op i j
    | .Compare a [op, op'] [b, c] _ => if lastMarks [op, op'] [b, c] then none else (cX n false I a).bind fun i => (cX n false I b).bind fun j => (cX n false I c).map fun k => .chn op op' i j k
    | .BoolOp .And es _ => if es.length < 2 then none else cBo (cX n t I) .and es
    | .BoolOp .Or es _ => if es.length < 2 then none else cBo (cX n t I) .or es
    | .IfExp c a b _ => if t then none else (cX n true I c).bind fun k => (cX n false I a).bind fun i => (cX n false I b).map fun j => .ifx k i j
    | .Tuple es _ _ => if es.length ≤ 1000 then (cLs (cX n false I) es).map .tup else none
    | .List es _ => if es.length ≤ 1000 then (cLs (cX n false I) es).map .lst else none
    | .Subscript a (.Slice lo hi none _) _ => (cX n false I a).bind fun i => (cOe (cX n false I) lo).bind fun l => (cOe (cX n false I) hi).map fun h => .slc i l h
    | .Subscript a b _ => if isSlice b then (if isRevS b then (cX n false I a).map .rev else none) else (cX n false I a).bind fun i => (cX n false I b).map fun j => .idx i j
    | .Call (.Name x _) es kws _ => cCall I (cX n false I) x es kws
    | .Call (.Attribute o name apos) es [] cpos => cMth (cX n false I) o name es apos cpos
    | .ListComp elt gs scope _ => cLg (cX n) I elt gs scope
    | .Dict [] [] _ => some .dnew
    | _ => none
/-! ### statements -/
def cOp (o : Option Ex) (k : Ex → Sm) : Sm := match o with
  | some i => k i
  | none => .nev
def cSl (f : Stmt → Sm) : List Stmt → Sms
  | [] => .nil
  | s :: r => .cons (f s) (cSl f r)
/-- the new list goes to the name before the block's names are let go -/
def swB (I : Inf) (x : Str) (p lp : Pos) (scope : Scope) : Bool := decide (I.sc.names.lookup x = some .local) && p.line == lp.line && !(scope.names.any fun (n, k) => n == x && (k == .local || k == .cell))
def parB (I : Inf) (ts : List (Str × Pos)) (vs : List Expr) : Bool := ts.all (fun q => decide (I.sc.names.lookup q.1 = some .local)) && vs.all (fun e => !isStar e) && !vs.all (foldedForSure 8) && !vs.all (constantsAlone 8)
def cAsg (m : Nat) (I : Inf) (tg e : Expr) : Sm := match tg with
  | .Name x p => if !locB I x then .nev else match slotOf I.N x with
    | none => .nev
    | some i => match e with
      | .ListComp elt gs scope lp => cOp (cLg (cX m) I elt gs scope) (.set i)
      | e => if isComp e then .nev else cOp (cX m false I e) (.set i)
  | .Subscript (.Name x _) k _ => if !(visB I.sc x && nameOk x) || isSlice k then .nev else match slotOf I.N x with
    | none => .nev
    | some i => cOp (cX m false I k) fun ik => cOp (cX m false I e) fun ie => .put i ik ie
  | .Tuple ts _ _ => match e with
    | .Tuple vs _ _ => (match ts, vs with
      | [.Name x px, .Name y py], [a, b] => if parB I [(x, px), (y, py)] [a, b] && px.line == py.line then (match slotOf I.N x, slotOf I.N y with
        | some i, some j => if i = j then .nev else (match cLs (cX m false I) [a, b] with
          | some is => .par [i, j] is
          | none => .nev)
        | _, _ => .nev) else .nev
      | [.Name x px, .Name y py, .Name z pz], [a, b, c] => if parB I [(x, px), (y, py), (z, pz)] [a, b, c] && px.line == py.line && px.line == pz.line then (match slotOf I.N x, slotOf I.N y, slotOf I.N z with
        | some i, some j, some l => if i = j ∨ i = l ∨ j = l then .nev else (match cLs (cX m false I) [a, b, c] with
          | some is => .par [i, j, l] is
          | none => .nev)
        | _, _, _ => .nev) else .nev
      | _, _ => .nev)
    | e => match cTg I 9 tg with
      | some g => cOp (cX m false I e) (.asg g)
      | none => .nev
  | _ => .nev
def cS (m : Nat) (I : Inf) : Nat → Stmt → Sm
  | 0, _ => .nev
  | n + 1, st => match st with
    | .Pass _ => .pas
    | .Break _ => .brk
    | .Continue _ => .cnt
    | .Return none _ => .retN
    | .Return (some e) _ => cOp (cX m false I e) .ret
    | .Expr (.Constant (.str _) _ _) _ => .pas
    | .Expr e _ => if isComp e then .nev else cOp (cX m false I e) .exp
    | .If c a b _ => cOp (cX m true I c) fun i => .ite i (cSl (cS m I n) a) (cSl (cS m I n) b)
    | .While c b [] _ => cOp (cX m true I c) fun i => .whl i (cSl (cS m I n) b)
    | .For tg it b [] _ => (match cTg I 9 tg, cIt I (cX m false I) (isTup tg) it with
      | some g, some w => .for_ g w (cSl (cS m I n) b)
      | _, _ => .nev)
    | .Assign [tg] e _ => cAsg m I tg e
    | _ => .nev
end Lt

/-! Lt, part 12: the IR of a text says what the text does. -/
namespace Lt
open PySem L2 PySem.Spec PyProof.Rows
structure FnG (X : Cx) (x : Str) (fn : Fn) (f : Addr) (fd : FuncData) : Prop where
  ok : FnOk X.prog X.w X.K X.mg X.base CX0_ fn.lvl f fd fn.ps (spF X.K fn)
  room : Room fn.lvl X.A
  mg : X.mg x = some (.ref f)
  kp : PySem.W.keepIn X.K (.ref f) = true
  bd : Binds X.K fd fn.ps []
structure Good (X : Cx) (T : Tab) (I : Inf) : Prop where
  N : X.N = I.N
  nd : I.N.Nodup
  sc : X.env.scope = I.sc
  calm : X.calm = true
  un : X.A.units + 65 < cLine
  kind : I.sc.kind = .function
  main : I.main = true → ∀ x, X.fn x = true
  fre : ∀ x ∈ I.fre, X.mg x = none
  gcd : I.gcd = true → X.mg "gcd" = some (.builtin "math.gcd")
  gls : ∀ x j, I.gls.lookup x = some j → ∃ d u v, T.gl j = some d ∧ X.mg x = some u ∧ RelV v u ∧ ∀ H Z, Rl X.K H Z d v
  sig : ∀ x j ps, I.sig.lookup x = some (j, ps) → ∃ fn f fd, T.fn j = some fn ∧ fn.ps = ps ∧ FnG X x fn f fd ∧ ∀ n ks, (x, n, ks) ∈ I.kws → KBn X.K fd ps n ks (kwArr .none ps ks) (kwArr .non ps ks)
section
variable {X : Cx} {T : Tab} {I : Inf}
theorem Good.blk (G : Good X T I) {scope : Scope} {own : List (Str × Nat)} (h : blkC I.N I.sc scope own = true) (c : BkI) : Good (Bk X scope c) T (I.blk scope) where
  N := G.N
  nd := G.nd
  sc := by rw [show (I.blk scope).sc = relS scope I.sc from rfl, ← G.sc]; rfl
  calm := G.calm
  un := G.un
  kind := (blkOk_by h).kind
  main := fun h => by cases h
  fre := G.fre
  gcd := G.gcd
  gls := G.gls
  sig := fun x j ps h => by
    obtain ⟨fn, f, fd, h1, h2, h3, h4⟩ := G.sig x j ps h
    exact ⟨fn, f, fd, h1, h2, ⟨h3.ok, h3.room, h3.mg, h3.kp, h3.bd⟩, h4⟩
theorem Good.gl (G : Good X T I) {x : Str} (h : glB I.sc x = true) : Gl X x := by
  unfold glB at h
  have := of_decide_eq_true h
  show X.env.scope.names.lookup x = _
  rw [G.sc]; exact this
theorem Good.vis (G : Good X T I) {x : Str} (h : visB I.sc x = true) : Vis X.env.scope x := by
  unfold visB at h
  rw [G.sc]
  simp only [Bool.or_eq_true, decide_eq_true_eq] at h
  rcases h with (h | h) | h
  · exact .inl h
  · exact .inr (.inl h)
  · exact .inr (.inr h)
theorem Good.loc (G : Good X T I) {x : Str} (h : locB I x = true) : Loc X.env.scope x ∧ (X.fn x = true ∨ X.env.scope.names.lookup x = some .local) := by
  unfold locB at h
  rw [G.sc]
  simp only [Bool.or_eq_true, Bool.and_eq_true, decide_eq_true_eq] at h
  rcases h with h | ⟨h1, h⟩
  · exact ⟨.inl h, .inr h⟩
  · exact ⟨.inr h, .inl (G.main h1 x)⟩
theorem Good.at_ (G : Good X T I) {x : Str} {i : Nat} (h : slotOf I.N x = some i) : X.N[i]? = some x := by rw [G.N]; exact slotOf_ok h
theorem Good.nodup (G : Good X T I) : X.N.Nodup := by rw [G.N]; exact G.nd
/-! ### lists -/
theorem cLs_ok {f : Expr → Option Ex} (hf : ∀ e i, f e = some i → SO X e (ev T i)) : ∀ {es : List Expr} {is : Exs}, cLs f es = some is → SA X es (evs T is) ∧ es.all (fun e => !isStar e) = true ∧ is.len = es.length
  | [], is, h => by
    cases (show some Exs.nil = some is from h)
    exact ⟨sa_nil, rfl, rfl⟩
  | e :: es, is, h => by
    have h' : (if isStar e = true then none else (f e).bind fun i => (cLs f es).map fun is => Exs.cons i is) = some is := h
    cases hs : isStar e with
    | true => rw [hs, if_pos rfl] at h'; cases h'
    | false =>
      rw [hs, if_neg Bool.false_ne_true] at h'
      obtain ⟨i, h1, h2⟩ := bnd h'
      obtain ⟨js, h3, h4⟩ := mpd h2
      subst h4
      obtain ⟨q1, q2, q3⟩ := cLs_ok hf h3
      refine ⟨sa_cons (hf e i h1) q1 (star_one hs es X.env), ?_, ?_⟩
      · rw [List.all_cons, hs, q2]; rfl
      · show js.len + 1 = _
        rw [q3]; rfl
theorem cKw_ok {f : Expr → Option Ex} (hf : ∀ e i, f e = some i → SO X e (ev T i)) (env : Env) (pos : Pos) : ∀ {kws : List Keyword} {ks : List Str} {is : Exs}, cKw f kws = some (ks, is) → SK X kws (evs T is) ∧ (backToKw pos (keywordEach kws env)).all (·.1.isSome) = true ∧ (backToKw pos (keywordEach kws env)).filterMap (·.1) = ks ∧ (backToKw pos (keywordEach kws env)).any (·.1.isNone) = false ∧ is.len = ks.length
  | [], ks, is, h => by
    cases (show some (([] : List Str), Exs.nil) = some (ks, is) from h)
    exact ⟨sk_nil, rfl, rfl, rfl, rfl⟩
  | ⟨none, e, p⟩ :: kws, ks, is, h => by cases h
  | ⟨some x, e, p⟩ :: kws, ks, is, h => by
    obtain ⟨i, h1, h2⟩ := bnd (show (f e).bind _ = some (ks, is) from h)
    obtain ⟨⟨ks', is'⟩, h3, h4⟩ := mpd h2
    cases h4
    obtain ⟨q1, q2, q3, q4, q5⟩ := cKw_ok hf env pos h3
    refine ⟨sk_cons (hf e i h1) q1, ?_, ?_, ?_, ?_⟩
    · simpa [backToKw, keywordEach] using q2
    · have : (backToKw pos (keywordEach (⟨some x, e, p⟩ :: kws) env)).filterMap (·.1) = x :: (backToKw pos (keywordEach kws env)).filterMap (·.1) := rfl
      rw [this, q3]
    · simpa [backToKw, keywordEach] using q4
    · show is'.len + 1 = _
      rw [q5]; rfl
/-! ### targets -/
theorem asg_one {e : Expr} (h : isStar e = false) (es : List Expr) (env : Env) : assignEach (e :: es) env = (false, assign e env) :: assignEach es env := by
  cases e <;> first | rfl | cases h
theorem cTl_ok {f : Expr → Option Tg} (hf : ∀ e g, f e = some g → SGn X e g ∧ isStar e = false) : ∀ {es : List Expr} {gs : List Tg}, cTl f es = some gs → SGs X es gs ∧ (assignEach es X.env).length = gs.length ∧ (assignEach es X.env).findIdx? (·.1) = none
  | [], gs, h => by cases (show some [] = some gs from h); exact ⟨sgs_nil, rfl, rfl⟩
  | e :: es, gs, h => by
    have h' : (if isStar e = true then none else (f e).bind fun t => (cTl f es).map fun ts => t :: ts) = some gs := h
    split at h'
    · cases h'
    · obtain ⟨g, h1, h2⟩ := bnd h'
      obtain ⟨gs', h3, h4⟩ := mpd h2
      subst h4
      obtain ⟨q1, q3⟩ := hf e g h1
      obtain ⟨r1, r2, r3⟩ := cTl_ok hf h3
      have ha := asg_one q3 es X.env
      refine ⟨sgs_cons q1 r1 (by rw [ha]; rfl), by rw [ha, List.length_cons, List.length_cons, r2], ?_⟩
      rw [ha, List.findIdx?_cons]
      simp [r3]
theorem cTg_ok (G : Good X T I) : ∀ (n : Nat) (e : Expr) (g : Tg), cTg I n e = some g → SGn X e g ∧ SG X e g ∧ isStar e = false
  | 0, e, g, h => by cases h
  | n + 1, e, g, h => by
    cases e with
    | Name x p =>
      have h' : (if locB I x = true then (slotOf I.N x).map Tg.n else none) = some g := h
      split at h'
      · rename_i hl
        obtain ⟨i, h1, h2⟩ := mpd h'
        subst h2
        obtain ⟨l1, l2⟩ := G.loc hl
        have q := sgn_name (pos := p) G.nodup (G.at_ h1) l1 l2
        exact ⟨q, q.g (fun z => z), rfl⟩
      · cases h'
    | Tuple es k0 p =>
      obtain ⟨gs, h1, h2⟩ := mpd (show (cTl (cTg I n) es).map Tg.t = some g from h)
      subst h2
      obtain ⟨q1, q2, q3⟩ := cTl_ok (fun e g h => ⟨(cTg_ok G n e g h).1, (cTg_ok G n e g h).2.2⟩) h1
      exact ⟨sgn_tup G.calm q1 q2 q3, sg_tup G.calm q1 q2 q3, rfl⟩
    | _ => cases h
/-! ### what is walked -/
theorem notset_fold {e : Expr} (h : isSet e = false) (env : Env) (x : Value) : foldedSetIterable e env x = pure x := by
  cases e <;> first | rfl | cases h
theorem cTg_isT {n : Nat} {tg : Expr} {g : Tg} (h : cTg I n tg = some g) (hi : isTup tg = true) : (∃ es k p, tg = .Tuple es k p) ∧ isT g := by
  cases tg <;> (try (cases hi))
  cases n with
  | zero => cases h
  | succ n =>
    rename_i es k p
    obtain ⟨gs, h1, h2⟩ := mpd (show (cTl (cTg I n) es).map Tg.t = some g from h)
    subst h2
    exact ⟨⟨_, _, _, rfl⟩, trivial⟩
theorem cIt_ok (G : Good X T I) {f : Expr → Option Ex} (hf : ∀ e i, f e = some i → SO X e (ev T i)) {tg e : Expr} {itg : Tg} {w : Itr} {tup : Bool} (htup : tup = true → (∃ es k p, tg = .Tuple es k p) ∧ isT itg) (h : cIt I f tup e = some w) : SI X tg e itg (evi T w) ∧ isSet e = false := by
  unfold cIt at h
  split at h
  · cases h
  · rename_i hs
    refine ⟨?_, by simpa using hs⟩
    have seq : ∀ {e w}, (f e).map Itr.seq = some w → SI X tg e itg (evi T w) := fun {e w} h => by
      obtain ⟨i, h1, h2⟩ := mpd h
      subst h2
      exact si_seq (hf e i h1)
    split at h
    · rename_i x p a pos
      split at h
      · rename_i hx
        obtain ⟨rfl, hg, hm⟩ := hx
        split at h
        · cases h
        · rename_i ha
          obtain ⟨i, h1, h2⟩ := mpd h
          subst h2
          exact si_rng1 (G.gl hg) (G.fre _ (by simpa using hm)) (hf a i h1) (star_one (by simpa using ha) [] X.env)
      · split at h
        · rename_i hx
          obtain ⟨rfl, ht, hg, hm⟩ := hx
          obtain ⟨⟨es, k, p, rfl⟩, hT⟩ := htup ht
          split at h
          · cases h
          · rename_i ha
            obtain ⟨i, h1, h2⟩ := mpd h
            subst h2
            exact si_enm (G.gl hg) (G.fre _ (by simpa using hm)) hT (hf a i h1) (star_one (by simpa using ha) [] X.env)
        · exact seq h
    · rename_i x p a b pos
      split at h
      · rename_i hx
        obtain ⟨rfl, hg, hm⟩ := hx
        split at h
        · cases h
        · rename_i ha
          have ha' : isStar a = false ∧ isStar b = false := by simpa using ha
          obtain ⟨i, h1, h2⟩ := bnd h
          obtain ⟨j, h3, h4⟩ := mpd h2
          subst h4
          exact si_rng2 (G.gl hg) (G.fre _ (by simpa using hm)) (hf a i h1) (hf b j h3) ((star_one ha'.1 [b] X.env).trans (by rw [star_one ha'.2 [] X.env]; rfl)) (star_one ha'.2 [] X.env)
      · split at h
        · rename_i hx
          obtain ⟨rfl, ht, hg, hm⟩ := hx
          obtain ⟨⟨es, k, p, rfl⟩, hT⟩ := htup ht
          split at h
          · rename_i i j hl
            cases h
            obtain ⟨q1, q2, _⟩ := cLs_ok hf hl
            have q2' : isStar a = false ∧ isStar b = false := by simpa using q2
            exact si_zip (G.gl hg) (G.fre _ (by simpa using hm)) hT q1 (star_one q2'.1 [b] X.env) (back_all (es := [b]) (by simpa using q2'.2) _ _)
          · cases h
        · exact seq h
    · exact seq h
theorem cIf_ok {f : Expr → Option Ex} (hf : ∀ e i, f e = some i → ST X e (ev T i)) {es : List Expr} {c : Oex} (h : cIf f es = some c) : SC X es (evc T c) := by
  match es, h with
  | [], h => cases (show some Oex.no = some c from h); exact sc_nil
  | [e], h =>
    obtain ⟨i, h1, h2⟩ := mpd (show (f e).map Oex.so = some c from h)
    subst h2
    exact sc_one (hf e i h1)
  | _ :: _ :: _, h => cases h
theorem cOe_ok {f : Expr → Option Ex} (hf : ∀ e i, f e = some i → SO X e (ev T i)) {e : Option Expr} {c : Oex} (h : cOe f e = some c) : SP_ X e (evo T c) := by
  cases e with
  | none => cases (show some Oex.no = some c from h); exact sp_no
  | some e =>
    obtain ⟨i, h1, h2⟩ := mpd (show (f e).map Oex.so = some c from h)
    subst h2
    exact sp_so (hf e i h1)
/-! ### calls -/
theorem cr_or {X : Cx} {g : Value} {r1 r2 : List V → Hp → VK → Prop} (h1 : CallR X g r1) (h2 : CallR X g r2) : CallR X g (fun vs H Q => r1 vs H Q ∨ r2 vs H Q) := by
  intro pins s σ H vs us Q I r h
  rcases h with h | h
  · exact h1 pins s σ H vs us Q I r h
  · exact h2 pins s σ H vs us Q I r h
theorem bf_ok (G : Good X T I) {x : Str} {b : Bf} (h : bfOf x = some b) (hg : Gl X x) (hm : X.mg x = none) :
    ∃ r, BltOk X.K b r ∧ BltKOk X.K b r ∧ ∀ {e : Expr} {es : List Expr} {t : TA} {p pos : Pos}, PA X (e :: es) t → isStar e = false → es.all (fun e => !isStar e) = true → PE X (.Call (.Name x p) (e :: es) [] pos) (tCB r t) := by
  unfold bfOf at h
  split at h
  · rename_i e; subst e; cases h
    exact ⟨_, blt_len, @bltK_no X.K .len _ nofun, fun ha h1 h2 => pe_callB call_len hg hm boot_len ha (by decide) (by decide) (star_one h1 _ _) (back_all h2 _ _)⟩
  split at h
  · rename_i e; subst e; cases h
    exact ⟨_, blt_abs, @bltK_no X.K .abs _ nofun, fun ha h1 h2 => pe_callB call_abs hg hm boot_abs ha (by decide) (by decide) (star_one h1 _ _) (back_all h2 _ _)⟩
  split at h
  · rename_i e; subst e; cases h
    exact ⟨_, blt_int, @bltK_no X.K .int _ nofun, fun ha h1 h2 => pe_callTy call_int1 hg hm boot_int ha (by decide) (by decide) (star_one h1 _ _) (back_all h2 _ _)⟩
  split at h
  · rename_i e; subst e; cases h
    exact ⟨_, blt_max, @bltK_no X.K .max _ nofun, fun ha h1 h2 => pe_callB (cr_or (call_max2 G.calm) (cr_max G.calm)) hg hm boot_max ha (by decide) (by decide) (star_one h1 _ _) (back_all h2 _ _)⟩
  split at h
  · rename_i e; subst e; cases h
    exact ⟨_, blt_min, @bltK_no X.K .min _ nofun, fun ha h1 h2 => pe_callB (cr_or (call_min2 G.calm) (cr_min G.calm)) hg hm boot_min ha (by decide) (by decide) (star_one h1 _ _) (back_all h2 _ _)⟩
  split at h
  · rename_i e; subst e; cases h
    exact ⟨_, blt_sum, @bltK_no X.K .sum _ nofun, fun ha h1 h2 => pe_callB (cr_sum G.calm) hg hm boot_sum ha (by decide) (by decide) (star_one h1 _ _) (back_all h2 _ _)⟩
  split at h
  · rename_i e; subst e; cases h
    exact ⟨_, blt_all, @bltK_no X.K .all _ nofun, fun ha h1 h2 => pe_callB (cr_all G.calm) hg hm boot_all ha (by decide) (by decide) (star_one h1 _ _) (back_all h2 _ _)⟩
  split at h
  · rename_i e; subst e; cases h
    exact ⟨_, blt_any, @bltK_no X.K .any _ nofun, fun ha h1 h2 => pe_callB (cr_any G.calm) hg hm boot_any ha (by decide) (by decide) (star_one h1 _ _) (back_all h2 _ _)⟩
  split at h
  · rename_i e; subst e; cases h
    exact ⟨_, blt_tuple, @bltK_no X.K .tuple _ nofun, fun ha h1 h2 => pe_callTy call_tupleF hg hm boot_tuple ha (by decide) (by decide) (star_one h1 _ _) (back_all h2 _ _)⟩
  split at h
  · rename_i e; subst e; cases h
    exact ⟨_, blt_list, @bltK_no X.K .list _ nofun, fun ha h1 h2 => pe_callTy call_list_of hg hm boot_list ha (by decide) (by decide) (star_one h1 _ _) (back_all h2 _ _)⟩
  split at h
  · rename_i e; subst e; cases h
    exact ⟨_, BltOk.or_l blt_sorted, BltKOk.or_r bltK_sorted, fun ha h1 h2 => pe_callB (cr_or (cr_sortedD G.un) (cr_sortedK G.calm G.un)) hg hm boot_sorted ha (by decide) (by decide) (star_one h1 _ _) (back_all h2 _ _)⟩
  cases h
theorem ty_ok (G : Good X T I) {x : Str} {t : String} (h : tyOf x = some t) (hg : Gl X x) (hm : X.mg x = none) : TyNm X x t := by
  unfold tyOf at h
  split at h
  · rename_i e; subst e; cases h
    exact ⟨hg, hm, by decide +kernel, by decide, by decide, by decide⟩
  split at h
  · rename_i e; subst e; cases h
    exact ⟨hg, hm, by decide +kernel, by decide, by decide, by decide⟩
  split at h
  · rename_i e; subst e; cases h
    exact ⟨hg, hm, by decide +kernel, by decide, by decide, by decide⟩
  split at h
  · rename_i e; subst e; cases h
    exact ⟨hg, hm, by decide +kernel, by decide, by decide, by decide⟩
  split at h
  · rename_i e; subst e; cases h
    exact ⟨hg, hm, by decide +kernel, by decide, by decide, by decide⟩
  cases h
/-- a call of a def, of a built-in -/
theorem cCall_ok (G : Good X T I) {f : Expr → Option Ex} (hf : ∀ e i, f e = some i → SO X e (ev T i)) {x : Str} {es : List Expr} {kws : List Keyword} {i : Ex} {p pos : Pos} (h : cCall I f x es kws = some i) : SO X (.Call (.Name x p) es kws pos) (ev T i) := by
  unfold cCall at h
  split at h
  · cases h
  rename_i h0
  have h0' : glB I.sc x = true ∧ nameOk x = true := by simpa using h0
  have hg := G.gl h0'.1
  have nd := (nameOk_d h0'.2).1
  split at h
  · rename_i j ps hj
    obtain ⟨fn, fa, fd, t1, t2, t3, t4⟩ := G.sig x j ps hj
    have F : FnAt X x fn fa fd := ⟨t3.ok, t3.room, hg, t3.mg, t3.kp, t3.bd, nd⟩
    split at h
    · rename_i hk
      have hk' : kws = [] := by cases kws with
        | nil => rfl
        | cons _ _ => cases hk
      subst hk'
      obtain ⟨is, h1, h2⟩ := mpd h
      subst h2
      obtain ⟨q1, q2, _⟩ := cLs_ok hf h1
      refine so_call t1 F q1 fun {t} ha => ?_
      cases es with
      | nil =>
        rw [ha.2 rfl]
        exact pe_call0 F.ok F.room F.gl F.mg F.kp F.bd .nil pass0_ F.nd
      | cons e es =>
        rw [List.all_cons, Bool.and_eq_true] at q2
        exact pe_call F.ok F.room F.gl F.mg F.kp F.bd .nil pass0_ ha.1 F.nd (star_one (by simpa using q2.1) _ _) (back_all q2.2 _ _)
    · obtain ⟨is, h1, h2⟩ := bnd h
      obtain ⟨⟨ks, iks⟩, h3, h4⟩ := bnd h2
      obtain ⟨q1, q2, q3⟩ := cLs_ok hf h1
      obtain ⟨k1, k2, k3, k4, k5⟩ := cKw_ok hf X.env pos h3
      split at h4
      · rename_i hc
        cases h4
        simp only [Bool.and_eq_true, decide_eq_true_eq, List.all_eq_true, List.contains_iff_mem] at hc
        obtain ⟨⟨c1, c2⟩, c3⟩ := hc
        subst t2
        have B := t4 _ _ c1
        refine so_callk t1 F B c3 c2 k5 q1 k1 fun {t tk} ha hk => ?_
        cases es with
        | nil =>
          have e0 : is = .nil := by
            cases (show some Exs.nil = some is from h1); rfl
          subst e0
          rw [ha.2 rfl]
          exact pe_callN0 F.ok F.room F.gl F.mg F.kp B pass0_ hk k2 k3 F.nd (by rw [k4]; rfl)
        | cons e es =>
          have q2' := q2
          rw [List.all_cons, Bool.and_eq_true] at q2
          exact pe_callN F.ok F.room F.gl F.mg F.kp B pass0_ ha.1 hk k2 k3 F.nd (star_one (by simpa using q2.1) _ _) (by rw [k4, back_all q2']; rfl)
      · cases h4
  split at h
  · cases h
  rename_i hk
  have hk' : kws = [] := by cases kws with
    | nil => rfl
    | cons _ _ => exact absurd rfl hk
  subst hk'
  split at h
  · rename_i hx
    obtain ⟨rfl, hgc⟩ := hx
    cases es with
    | nil => cases h
    | cons e es =>
      obtain ⟨is, h1, h2⟩ := mpd (show (cLs f (e :: es)).map (fun is => Ex.blt .gcd is) = some i from h)
      subst h2
      obtain ⟨q1, q2, _⟩ := cLs_ok hf h1
      rw [List.all_cons, Bool.and_eq_true] at q2
      exact so_blt blt_gcd (@bltK_no X.K .gcd _ nofun) (fun {t} ha => pe_callBfun cr_gcd hg (G.gcd hgc) ha.1 nd (star_one (by simpa using q2.1) _ _) (back_all q2.2 _ _)) q1
  split at h
  · cases h
  rename_i hfr
  have hm : X.mg x = none := G.fre x (by simpa using hfr)
  split at h
  · rename_i hx
    subst hx
    split at h
    · rename_i a y p1
      split at h
      · cases h
      rename_i ha
      split at h
      · rename_i hy
        rw [Bool.and_eq_true] at hy
        obtain ⟨t, h1, h2⟩ := bnd h
        obtain ⟨ia, h3, h4⟩ := mpd h2
        subst h4
        exact so_isi1 (ty_ok G h1 (G.gl hy.1) (G.fre _ (by simpa using hy.2))) hg hm (hf a ia h3) (star_no (by simpa using ha))
      · cases h
    · rename_i a y p1 z p2 k0 p3
      split at h
      · cases h
      rename_i ha
      split at h
      · rename_i hy
        simp only [Bool.and_eq_true] at hy
        obtain ⟨⟨⟨y1, y2⟩, y3⟩, y4⟩ := hy
        obtain ⟨t, h1, h2⟩ := bnd h
        obtain ⟨u, h3, h4⟩ := bnd h2
        obtain ⟨ia, h5, h6⟩ := mpd h4
        subst h6
        have := so_isiN (T := T) (xs := [(y, p1, t), (z, p2, u)]) (p := p) (k0 := k0) (pt := p3) (pos := pos) (fun q hq => by
          rcases List.mem_cons.mp hq with rfl | hq
          · exact ty_ok G h1 (G.gl y1) (G.fre _ (by simpa using y2))
          · rcases List.mem_cons.mp hq with rfl | hq
            · exact ty_ok G h3 (G.gl y3) (G.fre _ (by simpa using y4))
            · cases hq) (Nat.le_of_ble_eq_true rfl) hg hm (hf a ia h5) (star_no (by simpa using ha))
        exact this
      · cases h
    · cases h
  · cases es with
    | nil => cases h
    | cons e es =>
      obtain ⟨b, hb, h⟩ := bnd (show (bfOf x).bind (fun b => (cLs f (e :: es)).map fun is => Ex.blt b is) = some i from h)
      obtain ⟨is, h1, h2⟩ := mpd h
      subst h2
      obtain ⟨q1, q2, _⟩ := cLs_ok hf h1
      rw [List.all_cons, Bool.and_eq_true] at q2
      obtain ⟨r, ok, okK, pc⟩ := bf_ok G hb hg hm
      exact so_blt ok okK (fun {t} ha => pc ha.1 (by simpa using q2.1) q2.2) q1
theorem attr_call {o : Expr} (h : isCall o = false) (name : Str) (env : Env) (w : Sem Value) : attributeBase o name env w = w := by
  cases o <;> first | rfl | cases h
theorem cMth_ok (G : Good X T I) {f : Expr → Option Ex} (hf : ∀ e i, f e = some i → SO X e (ev T i)) {o : Expr} {name : Str} {es : List Expr} {i : Ex} {apos cpos : Pos} (h : cMth f o name es apos cpos = some i) : SO X (.Call (.Attribute o name apos) es [] cpos) (ev T i) := by
  unfold cMth at h
  split at h
  · cases h
  rename_i h0
  have h0' : (isCall o = false ∧ (apos.endLine == cpos.line) = true) ∧ es.length ≤ 1 := by simpa using h0
  obtain ⟨⟨o1, o2⟩, o3⟩ := h0'
  obtain ⟨m, hm, h⟩ := bnd h
  obtain ⟨io, h1, h⟩ := bnd h
  obtain ⟨is, h2, h⟩ := mpd h
  subst h
  have := mfOf_ok hm
  subst this
  obtain ⟨q1, q2, _⟩ := cLs_ok hf h2
  have pc : ∀ {to : TE} {t : TA}, PE X o to → PAn X es t → PE X (.Call (.Attribute o m.nm apos) es [] cpos) (tMG X m.nm to t) := fun {to t} po pa => by
    match es, o3, q2, pa with
    | [], _, _, pa =>
      rw [pa.2 rfl]
      exact pe_mg0 po (attr_call o1 _ _ _) o2
    | [e], _, q2, pa =>
      rw [List.all_cons, Bool.and_eq_true] at q2
      exact pe_mg1 po pa.1 (star_one (by simpa using q2.1) [] X.env) (attr_call o1 _ _ _) o2
    | _ :: _ :: _, o3, _, _ => exact absurd o3 (by simp)
  cases m with
  | append => exact so_mut rfl (hf o io h1) q1 pc
  | extend => exact so_mut rfl (hf o io h1) q1 pc
  | pop => exact so_mut rfl (hf o io h1) q1 pc
  | reverse => exact so_mut rfl (hf o io h1) q1 pc
  | count => exact so_cnt G.un (hf o io h1) q1 pc
  | index => exact so_ind G.un (hf o io h1) q1 pc
/-! ### comprehensions -/
structure LcG (X : Cx) (T : Tab) (elt tg it : Expr) (ifs : List Expr) (scope : Scope) (y : Ex) (g : Tg) (w : Itr) (c : Oex) (own : List (Str × Nat)) : Prop where
  bk : BlkOk X.N X.env.scope scope own
  ns : isSet it = false
  si : SI X tg it g (evi T w)
  sg : ∀ c, SG (Bk X scope c) tg g
  sc : ∀ k, SC (Bk X scope k) ifs (evc T c)
  so : ∀ k, SO (Bk X scope k) elt (ev T y)
  sub : ∀ i ∈ g.slots, i ∈ own.map (·.2)
theorem cLc_ok (G : Good X T I) {f : Bool → Inf → Expr → Option Ex} (hf : ∀ {X I}, Good X T I → ∀ e i, f false I e = some i → SO X e (ev T i)) (ht : ∀ {X I}, Good X T I → ∀ e i, f true I e = some i → ST X e (ev T i)) {elt tg it : Expr} {ifs : List Expr} {scope : Scope} {i : Ex} (h : cLc f I elt tg it ifs scope = some i) :
    ∃ y g w c, i = .lc y g w c ((ownOf I.N scope).map (·.2)) ∧ LcG X T elt tg it ifs scope y g w c (ownOf I.N scope) := by
  unfold cLc at h
  split at h
  · cases h
  rename_i hb
  have hb' : blkC I.N I.sc scope (ownOf I.N scope) = true := by simpa using hb
  obtain ⟨g, h1, h⟩ := bnd h
  obtain ⟨w, h2, h⟩ := bnd h
  obtain ⟨c, h3, h⟩ := bnd h
  obtain ⟨y, h4, h⟩ := bnd h
  split at h
  · rename_i hs
    cases h
    obtain ⟨i1, i2⟩ := cIt_ok (tg := tg) (itg := g) G (hf G) (cTg_isT h1) h2
    refine ⟨y, g, w, c, rfl, ?_, i2, i1, fun k => (cTg_ok (G.blk hb' k) 9 tg g h1).2.1, fun k => cIf_ok (ht (G.blk hb' k)) h3, fun k => hf (G.blk hb' k) elt y h4, fun i hi => ?_⟩
    · rw [G.N, G.sc]; exact blkOk_by hb'
    · have := List.all_eq_true.mp hs i hi
      simpa using this
  · cases h
theorem cLg_is {f : Bool → Inf → Expr → Option Ex} {elt : Expr} {gs : List Comprehension} {scope : Scope} {i : Ex} (h : cLg f I elt gs scope = some i) : ∃ tg it ifs, gs = [⟨tg, it, ifs, 0⟩] ∧ cLc f I elt tg it ifs scope = some i := by
  match gs, h with
  | [⟨tg, it, ifs, asy⟩], h =>
    have h' : (if asy = 0 then cLc f I elt tg it ifs scope else none) = some i := h
    split at h'
    · rename_i e
      subst e
      exact ⟨tg, it, ifs, rfl, h'⟩
    · cases h'
/-! ### boolean operators -/
theorem cBo_t {f : Expr → Option Ex} (hf : ∀ e i, f e = some i → ST X e (ev T i)) {pos : Pos} : ∀ {a : Expr} {es : List Expr} {i : Ex}, (cBo f .and (a :: es) = some i → SW X (.BoolOp .And (a :: es) pos) (ev T i)) ∧ (cBo f .or (a :: es) = some i → SW X (.BoolOp .Or (a :: es) pos) (ev T i))
  | a, [], i => ⟨fun h => sw_and1 (hf a i h), fun h => sw_or1 (hf a i h)⟩
  | a, b :: es, i => by
    refine ⟨fun h => ?_, fun h => ?_⟩
    · obtain ⟨ia, h1, h⟩ := bnd (show (f a).bind (fun i => (cBo f .and (b :: es)).map fun j => Ex.and i j) = some i from h)
      obtain ⟨ib, h2, h⟩ := mpd h
      subst h
      exact sw_and (hf a ia h1) ((cBo_t hf).1 h2)
    · obtain ⟨ia, h1, h⟩ := bnd (show (f a).bind (fun i => (cBo f .or (b :: es)).map fun j => Ex.or i j) = some i from h)
      obtain ⟨ib, h2, h⟩ := mpd h
      subst h
      exact sw_or (hf a ia h1) ((cBo_t hf).2 h2)
theorem cBo_b {f : Expr → Option Ex} (hf : ∀ e i, f e = some i → SO X e (ev T i)) {pos : Pos} : ∀ {a : Expr} {es : List Expr} {i : Ex}, (cBo f .and (a :: es) = some i → SB X (.BoolOp .And (a :: es) pos) (ev T i)) ∧ (cBo f .or (a :: es) = some i → SB X (.BoolOp .Or (a :: es) pos) (ev T i))
  | a, [], i => ⟨fun h => sb_one (hf a i h).sb, fun h => sb_one (hf a i h).sb⟩
  | a, b :: es, i => by
    refine ⟨fun h => ?_, fun h => ?_⟩
    · obtain ⟨ia, h1, h⟩ := bnd (show (f a).bind (fun i => (cBo f .and (b :: es)).map fun j => Ex.and i j) = some i from h)
      obtain ⟨ib, h2, h⟩ := mpd h
      subst h
      exact sb_and (hf a ia h1).sb ((cBo_b hf).1 h2)
    · obtain ⟨ia, h1, h⟩ := bnd (show (f a).bind (fun i => (cBo f .or (b :: es)).map fun j => Ex.or i j) = some i from h)
      obtain ⟨ib, h2, h⟩ := mpd h
      subst h
      exact sb_or (hf a ia h1).sb ((cBo_b hf).2 h2)
theorem cBo_is {f : Expr → Option Ex} {k : Ex → Ex → Ex} {a b : Expr} {es : List Expr} {i : Ex} (h : cBo f k (a :: b :: es) = some i) : ∃ x y, i = k x y := by
  obtain ⟨ia, h1, h⟩ := bnd (show (f a).bind (fun i => (cBo f k (b :: es)).map fun j => k i j) = some i from h)
  obtain ⟨ib, h2, h⟩ := mpd h
  exact ⟨ia, ib, h.symm⟩
end
theorem slice_plain {b : Expr} (h : isSlice b = false) : PlainIx b := by
  cases b <;> first | exact fun _ _ => rfl | cases h
/-! ### expressions -/
theorem cX_ok {T : Tab} : ∀ (n : Nat) (t : Bool) (I : Inf) (e : Expr) (i : Ex), cX n t I e = some i → ∀ X, Good X T I → (t = false → SO X e (ev T i)) ∧ (t = true → ST X e (ev T i))
  | 0, t, I, e, i, h, X, G => by cases h
  | n + 1, t, I, e, i, h, X, G => by
    have so : ∀ {X I}, Good X T I → ∀ e i, cX n false I e = some i → SO X e (ev T i) := fun G e i h => (cX_ok n false _ e i h _ G).1 rfl
    have st : ∀ {X I}, Good X T I → ∀ e i, cX n true I e = some i → ST X e (ev T i) := fun G e i h => (cX_ok n true _ e i h _ G).2 rfl
    have fin : SO X e (ev T i) → (∀ whole, isTrue e X.env whole = (do let v ← whole; standAt e.pos; holding [v] (truthy v))) → (t = false → SO X e (ev T i)) ∧ (t = true → ST X e (ev T i)) := fun h1 h2 => ⟨fun _ => h1, fun _ => st_of h1 h2⟩
    cases e with
    | Name x p =>
      have h' : (if (!nameOk x) = true then none else if visB I.sc x = true then (slotOf I.N x).map Ex.var else if glB I.sc x = true then (I.gls.lookup x).map Ex.glb else none) = some i := h
      split at h'
      · cases h'
      rename_i hn
      obtain ⟨n1, n2⟩ := nameOk_d (by simpa using hn)
      split at h'
      · rename_i hv
        obtain ⟨j, h1, h2⟩ := mpd h'
        subst h2
        exact fin (so_var (G.at_ h1) (G.vis hv) n1 n2) fun _ => rfl
      split at h'
      · rename_i hg
        obtain ⟨j, h1, h2⟩ := mpd h'
        subst h2
        obtain ⟨d, u, v, t1, t2, t3, t4⟩ := G.gls x j h1
        exact fin (so_glb t1 (G.gl hg) t2 t3 t4 n1) fun _ => rfl
      · cases h'
    | Constant c k p =>
      cases c <;> first
        | (cases h; first
          | exact fin so_int fun _ => rfl
          | exact fin so_bool fun _ => rfl
          | exact fin so_none fun _ => rfl
          | exact fin so_str fun _ => rfl)
        | cases h
    | BinOp a op b p =>
      obtain ⟨ia, h1, h2⟩ := bnd (show (cX n false I a).bind (fun i => (cX n false I b).map fun j => Ex.bin op i j) = some i from h)
      obtain ⟨ib, h3, h4⟩ := mpd h2
      subst h4
      exact fin (so_bin (so G a ia h1) (so G b ib h3)) fun _ => rfl
    | UnaryOp op a p =>
      cases op with
      | USub =>
        obtain ⟨ia, h1, h2⟩ := mpd (show (cX n false I a).map Ex.neg = some i from h)
        subst h2
        exact fin (so_neg (so G a ia h1)) fun _ => rfl
      | Not =>
        obtain ⟨ia, h1, h2⟩ := mpd (show (cX n t I a).map Ex.not = some i from h)
        subst h2
        refine ⟨fun ht => ?_, fun ht => ?_⟩
        · subst ht; exact so_not (so G a ia h1)
        · subst ht; exact st_not (st G a ia h1)
      | _ => cases h
    | Compare a ops cs p =>
      match ops, cs, h with
      | [op], [b], h =>
        have h' : (if behindInMarks op b = true then none else (cX n false I a).bind fun i => (cX n false I b).map fun j => Ex.cmp op i j) = some i := h
        split at h'
        · cases h'
        rename_i hm
        have hm' : behindInMarks op b = false := by simpa using hm
        obtain ⟨ia, h1, h2⟩ := bnd h'
        obtain ⟨ib, h3, h4⟩ := mpd h2
        subst h4
        exact ⟨fun _ => so_cmp G.un (so G a ia h1) (so G b ib h3) hm', fun _ => st_cmp G.un (so G a ia h1) (so G b ib h3) hm'⟩
      | [op, op'], [b, c], h =>
        have h' : (if lastMarks [op, op'] [b, c] = true then none else (cX n false I a).bind fun i => (cX n false I b).bind fun j => (cX n false I c).map fun k => Ex.chn op op' i j k) = some i := h
        split at h'
        · cases h'
        rename_i hm
        have hm' : lastMarks [op, op'] [b, c] = false := by simpa using hm
        obtain ⟨ia, h1, h2⟩ := bnd h'
        obtain ⟨ib, h3, h4⟩ := bnd h2
        obtain ⟨ic, h5, h6⟩ := mpd h4
        subst h6
        exact ⟨fun _ => so_chn G.un (so G a ia h1) (so G b ib h3) (so G c ic h5) hm', fun _ => st_chn G.un (so G a ia h1) (so G b ib h3) (so G c ic h5) hm'⟩
      | [], _, h => cases h
      | [_], [], h => cases h
      | [_], _ :: _ :: _, h => cases h
      | [_, _], [], h => cases h
      | [_, _], [_], h => cases h
      | [_, _], _ :: _ :: _ :: _, h => cases h
      | _ :: _ :: _ :: _, _, h => cases h
    | BoolOp op es p =>
      cases op with
      | And =>
        have h' : (if es.length < 2 then none else cBo (cX n t I) .and es) = some i := h
        split at h'
        · cases h'
        match es, h' with
        | a :: b :: es, h' =>
          obtain ⟨x, y, e⟩ := cBo_is h'
          refine ⟨fun ht => ?_, fun ht => ?_⟩
          · subst ht
            have q := (cBo_b (pos := p) (so G)).1 h'
            rw [e] at q ⊢
            exact so_sb q and_bool
          · subst ht; exact ((cBo_t (st G)).1 h').t
        | [_], h' => rename_i hl; exact absurd (Nat.lt_succ_self 1) hl
        | [], h' => rename_i hl; exact absurd (Nat.zero_lt_succ 1) hl
      | Or =>
        have h' : (if es.length < 2 then none else cBo (cX n t I) .or es) = some i := h
        split at h'
        · cases h'
        match es, h' with
        | a :: b :: es, h' =>
          obtain ⟨x, y, e⟩ := cBo_is h'
          refine ⟨fun ht => ?_, fun ht => ?_⟩
          · subst ht
            have q := (cBo_b (pos := p) (so G)).2 h'
            rw [e] at q ⊢
            exact so_sb q or_bool
          · subst ht; exact ((cBo_t (st G)).2 h').t
        | [_], h' => rename_i hl; exact absurd (Nat.lt_succ_self 1) hl
        | [], h' => rename_i hl; exact absurd (Nat.zero_lt_succ 1) hl
    | IfExp c a b p =>
      have h' : (if t = true then none else (cX n true I c).bind fun k => (cX n false I a).bind fun i => (cX n false I b).map fun j => Ex.ifx k i j) = some i := h
      split at h'
      · cases h'
      rename_i ht
      obtain ⟨ic, h1, h2⟩ := bnd h'
      obtain ⟨ia, h3, h4⟩ := bnd h2
      obtain ⟨ib, h5, h6⟩ := mpd h4
      subst h6
      exact ⟨fun _ => so_ifx (st G c ic h1) (so G a ia h3) (so G b ib h5), fun z => absurd z ht⟩
    | Tuple es k p =>
      have h' : (if es.length ≤ 1000 then (cLs (cX n false I) es).map Ex.tup else none) = some i := h
      split at h'
      · rename_i hl
        obtain ⟨is, h1, h2⟩ := mpd h'
        subst h2
        obtain ⟨q1, _, q3⟩ := cLs_ok (so G) h1
        exact fin (so_tup q1 (by omega)) fun _ => rfl
      · cases h'
    | List es p =>
      have h' : (if es.length ≤ 1000 then (cLs (cX n false I) es).map Ex.lst else none) = some i := h
      split at h'
      · rename_i hl
        obtain ⟨is, h1, h2⟩ := mpd h'
        subst h2
        obtain ⟨q1, _, q3⟩ := cLs_ok (so G) h1
        exact fin (so_lst q1 (by omega)) fun _ => rfl
      · cases h'
    | Subscript a b p =>
      cases hb : isSlice b with
      | false =>
        have h' : (if isSlice b = true then (if isRevS b then (cX n false I a).map Ex.rev else none) else (cX n false I a).bind fun i => (cX n false I b).map fun j => Ex.idx i j) = some i := by
          cases b <;> first | exact h | cases hb
        rw [hb, if_neg Bool.false_ne_true] at h'
        obtain ⟨ia, h1, h2⟩ := bnd h'
        obtain ⟨ib, h3, h4⟩ := mpd h2
        subst h4
        exact fin (so_idx G.un (so G a ia h1) (so G b ib h3) (slice_plain hb)) fun _ => rfl
      | true =>
        cases b <;> (try (cases hb))
        rename_i lo hi st' p2
        cases st' with
        | some s' =>
          have h' : (if isRevS (.Slice lo hi (some s') p2) = true then (cX n false I a).map Ex.rev else none) = some i := by
            cases lo <;> cases hi <;> exact h
          split at h'
          · rename_i hr
            obtain ⟨ia, h1, h2⟩ := mpd h'
            subst h2
            unfold isRevS at hr
            split at hr
            · rename_i e
              cases e
              have := of_decide_eq_true hr
              subst this
              exact fin (so_rev (so G a ia h1)) fun _ => rfl
            · cases hr
          · cases h'
        | none =>
          obtain ⟨ia, h1, h2⟩ := bnd (show (cX n false I a).bind (fun i => (cOe (cX n false I) lo).bind fun l => (cOe (cX n false I) hi).map fun h => Ex.slc i l h) = some i from h)
          obtain ⟨il, h3, h4⟩ := bnd h2
          obtain ⟨ih, h5, h6⟩ := mpd h4
          subst h6
          exact fin (so_slc (so G a ia h1) (cOe_ok (so G) h3) (cOe_ok (so G) h5)) fun _ => rfl
    | Call fe es kws p =>
      cases fe with
      | Name x p2 => exact fin (cCall_ok G (so G) (show cCall I (cX n false I) x es kws = some i from h)) fun _ => rfl
      | Attribute o name apos =>
        cases kws with
        | nil => exact fin (cMth_ok G (so G) (show cMth (cX n false I) o name es apos p = some i from h)) fun _ => rfl
        | cons _ _ => cases h
      | _ => cases h
    | Dict ks vs p =>
      cases ks with
      | cons _ _ => cases h
      | nil =>
        cases vs with
        | cons _ _ => cases h
        | nil =>
          cases (show some Ex.dnew = some i from h)
          exact fin so_dnew fun _ => rfl
    | ListComp elt gs scope p =>
      obtain ⟨tg, it, ifs, rfl, h1⟩ := cLg_is (show cLg (cX n) I elt gs scope = some i from h)
      obtain ⟨y, g, w, c, e, L⟩ := cLc_ok G (f := cX n) (fun G => so G) (fun G => st G) h1
      subst e
      exact fin (so_lc G.calm G.nodup L.si L.bk L.sg L.sc L.so L.sub (notset_fold L.ns X.env)) fun _ => rfl
    | _ => cases h
end Lt

/-! Lt, part 13: the IR of statements. -/
namespace Lt
open PySem L2 PySem.Spec PyProof.Rows
theorem comp_sw {e : Expr} (h : isComp e = false) (tg : Option Expr) (l : Nat) (env : Env) : swapsWith e tg l env = pure false := by
  cases e <;> first | rfl | cases h
theorem list_sw {elt : Expr} {gs : List Comprehension} {scope : Scope} {lp p : Pos} {x : Str} {l : Nat} {env : Env} (hk : env.scope.kind = .function) :
    swapsWith (.ListComp elt gs scope lp) (some (.Name x p)) l env = pure (decide (env.scope.names.lookup x = some .local) && p.line == lp.line && !(scope.names.any fun (n, k) => n == x && (k == .local || k == .cell))) := by
  have hb : env.blockKind = .function := by unfold Env.blockKind; rw [hk]; rfl
  have hd : ∀ a : Option NameKind, (a == some NameKind.local) = decide (a = some .local) := fun a => by
    by_cases h : a = some .local
    · rw [h]; rfl
    · rw [decide_eq_false h]; exact beq_eq_false_iff_ne.mpr h
  show (pure (env.blockKind == .function && env.scope.names.lookup x == some .local && p.line == lp.line && !(scope.names.any fun (n, k) => n == x && (k == .local || k == .cell))) : Sem Bool) = _
  rw [hb, hd]
  rfl
theorem tup_sw {ts : List Expr} {k : Nat} {p : Pos} {e : Expr} {l : Nat} {env : Env} : swapsWithSole [.Tuple ts k p] e l env = pure false := by
  cases e <;> rfl
theorem sub_sw {o i : Expr} {p : Pos} {e : Expr} {l : Nat} {env : Env} : swapsWithSole [.Subscript o i p] e l env = pure false := by
  cases e <;> rfl
theorem tup_st {ts : List Expr} {k : Nat} {p : Pos} {e : Expr} {env : Env} (h : isTup e = false) : swappedStores [.Tuple ts k p] e env = pure none := by
  cases e <;> first | rfl | cases h
theorem par_st2 {x y : Str} {px py pt pt2 : Pos} {kt k2 : Nat} {a b : Expr} {env : Env} (hk : env.scope.kind = .function) (hx : env.scope.names.lookup x = some .local) (hy : env.scope.names.lookup y = some .local) (hl : (px.line == py.line) = true) (hxy : x ≠ y)
    (h1 : [a, b].all (fun e => !isStar e) = true) (h2 : [a, b].all (foldedForSure 8) = false) (h3 : [a, b].all (constantsAlone 8) = false) :
    swappedStores [.Tuple [.Name x px, .Name y py] kt pt] (.Tuple [a, b] k2 pt2) env = pure (some [x, y]) := by
  have hb : env.blockKind = .function := by unfold Env.blockKind; rw [hk]; rfl
  have kx : env.kindOf x = some .local := hx
  have ky : env.kindOf y = some .local := hy
  have hl' : (py.line == px.line) = true := beq_iff_eq.mpr (beq_iff_eq.mp hl).symm
  have st1 : ∀ e : Expr, isStar e = false → ¬ (match e with | .Starred .. => true | _ => false) = true := fun e h z => by cases e <;> first | exact absurd z Bool.false_ne_true | exact Bool.noConfusion h
  have hne : (x == y) = false := beq_eq_false_iff_ne.mpr hxy
  have hne' : (y == x) = false := beq_eq_false_iff_ne.mpr (Ne.symm hxy)
  unfold swappedStores
  simp only [hb, h2, h3, List.length_cons, List.length_nil, List.head?_cons, Option.map_some, Option.getD_some, List.filterMap_cons, List.filterMap_nil, kx, ky, Expr.pos, beq_self_eq_true, Bool.true_and, hl', hl, if_true]
  simp [List.eraseDups_cons, hne, hne', bne]
  have h1' : isStar a = false ∧ isStar b = false := by simpa using h1
  rintro (z | z)
  · exact (st1 a h1'.1 z).elim
  · exact (st1 b h1'.2 z).elim
theorem par_st3 {x y z : Str} {px py pz pt pt2 : Pos} {kt k2 : Nat} {a b c : Expr} {env : Env} (hk : env.scope.kind = .function) (hx : env.scope.names.lookup x = some .local) (hy : env.scope.names.lookup y = some .local) (hz : env.scope.names.lookup z = some .local) (hl : (px.line == py.line) = true) (hl2 : (px.line == pz.line) = true) (hxy : x ≠ y) (hxz : x ≠ z) (hyz : y ≠ z)
    (h1 : [a, b, c].all (fun e => !isStar e) = true) (h2 : [a, b, c].all (foldedForSure 8) = false) (h3 : [a, b, c].all (constantsAlone 8) = false) :
    swappedStores [.Tuple [.Name x px, .Name y py, .Name z pz] kt pt] (.Tuple [a, b, c] k2 pt2) env = pure (some [x, y, z]) := by
  have hb : env.blockKind = .function := by unfold Env.blockKind; rw [hk]; rfl
  have kx : env.kindOf x = some .local := hx
  have ky : env.kindOf y = some .local := hy
  have kz : env.kindOf z = some .local := hz
  have hl' : (py.line == px.line) = true := beq_iff_eq.mpr (beq_iff_eq.mp hl).symm
  have hl2' : (pz.line == px.line) = true := beq_iff_eq.mpr (beq_iff_eq.mp hl2).symm
  have st1 : ∀ e : Expr, isStar e = false → ¬ (match e with | .Starred .. => true | _ => false) = true := fun e h z => by cases e <;> first | exact absurd z Bool.false_ne_true | exact Bool.noConfusion h
  have n1 : (x == y) = false := beq_eq_false_iff_ne.mpr hxy
  have n2 : (y == x) = false := beq_eq_false_iff_ne.mpr (Ne.symm hxy)
  have n3 : (x == z) = false := beq_eq_false_iff_ne.mpr hxz
  have n4 : (z == x) = false := beq_eq_false_iff_ne.mpr (Ne.symm hxz)
  have n5 : (y == z) = false := beq_eq_false_iff_ne.mpr hyz
  have n6 : (z == y) = false := beq_eq_false_iff_ne.mpr (Ne.symm hyz)
  unfold swappedStores
  simp only [hb, h2, h3, List.length_cons, List.length_nil, List.head?_cons, Option.map_some, Option.getD_some, List.filterMap_cons, List.filterMap_nil, kx, ky, kz, Expr.pos, beq_self_eq_true, Bool.true_and, hl', hl, hl2, hl2', if_true]
  simp [List.eraseDups_cons, n1, n2, n3, n4, n5, n6, bne]
  have h1' : isStar a = false ∧ isStar b = false ∧ isStar c = false := by simpa using h1
  rintro (w | w | w)
  · exact (st1 a h1'.1 w).elim
  · exact (st1 b h1'.2.1 w).elim
  · exact (st1 c h1'.2.2 w).elim
section
variable {X : Cx} {T : Tab} {I : Inf}
theorem cOp_ok {st : Stmt} {o : Option Ex} {k : Ex → Sm} (h : ∀ i, o = some i → SS X T st (k i)) : SS X T st (cOp o k) := by
  cases o with
  | none => exact ss_never
  | some i => exact h i rfl
theorem cSl_ok {f : Stmt → Sm} (h : ∀ st, SS X T st (f st)) : ∀ sts : List Stmt, SSs X T sts (cSl f sts)
  | [] => sss_nil
  | st :: sts => sss_cons (h st) (cSl_ok h sts)
theorem slotOf_inj {N : List Str} {x y : Str} {i : Nat} (h1 : slotOf N x = some i) (h2 : slotOf N y = some i) : x = y := by
  have a := slotOf_ok h1
  have b := slotOf_ok h2
  rw [a] at b
  exact Option.some.inj b
theorem cAsg_ok (G : Good X T I) (m : Nat) (tg e : Expr) (pos : Pos) : SS X T (.Assign [tg] e pos) (cAsg m I tg e) := by
  have so : ∀ {X I}, Good X T I → ∀ e i, cX m false I e = some i → SO X e (ev T i) := fun G e i h => (cX_ok m false _ e i h _ G).1 rfl
  have st : ∀ {X I}, Good X T I → ∀ e i, cX m true I e = some i → ST X e (ev T i) := fun G e i h => (cX_ok m true _ e i h _ G).2 rfl
  have hk : X.env.scope.kind = .function := by rw [G.sc]; exact G.kind
  cases tg with
  | Name x p =>
    show SS X T _ (if (!locB I x) = true then Sm.nev else match slotOf I.N x with
      | none => .nev
      | some i => match e with
        | .ListComp elt gs scope lp => cOp (cLg (cX m) I elt gs scope) (.set i)
        | e => if isComp e = true then .nev else cOp (cX m false I e) (.set i))
    split
    · exact ss_never
    rename_i hl
    obtain ⟨l1, l2⟩ := G.loc (x := x) (by simpa using hl)
    split
    · exact ss_never
    rename_i i hi
    have hN := G.at_ hi
    split
    · rename_i elt gs scope lp
      refine cOp_ok fun ii h => ?_
      obtain ⟨tg, it, ifs, rfl, h1⟩ := cLg_is h
      obtain ⟨y, g, w, c, e, L⟩ := cLc_ok G (f := cX m) (fun G => so G) (fun G => st G) h1
      subst e
      cases hsw : (decide (X.env.scope.names.lookup x = some .local) && p.line == lp.line && !(scope.names.any fun (n, k) => n == x && (k == .local || k == .cell))) with
      | true =>
        have hy : X.env.scope.names.lookup x = some .local := by
          rw [Bool.and_eq_true, Bool.and_eq_true] at hsw
          exact of_decide_eq_true hsw.1.1
        exact ss_setLc G.calm G.nodup hN hy ((list_sw hk).trans (by rw [hsw])) L.si L.bk L.sg L.sc L.so L.sub (notset_fold L.ns X.env)
      | false => exact ss_set G.nodup hN l1 l2 (so_lc G.calm G.nodup L.si L.bk L.sg L.sc L.so L.sub (notset_fold L.ns X.env)) ((list_sw hk).trans (by rw [hsw]))
    · split
      · exact ss_never
      rename_i hc
      exact cOp_ok fun ii h => ss_set G.nodup hN l1 l2 (so G _ ii h) (comp_sw (by simpa using hc) _ _ _)
  | Subscript o k q =>
    cases o with
    | Name x p =>
      show SS X T _ (if (!(visB I.sc x && nameOk x) || isSlice k) = true then Sm.nev else match slotOf I.N x with
        | none => .nev
        | some i => cOp (cX m false I k) fun ik => cOp (cX m false I e) fun ie => .put i ik ie)
      split
      · exact ss_never
      rename_i hl
      have hl' : (visB I.sc x = true ∧ nameOk x = true) ∧ isSlice k = false := by simpa using hl
      split
      · exact ss_never
      rename_i i hi
      refine cOp_ok fun ik h1 => cOp_ok fun ie h2 => ?_
      refine ss_put G.un (G.at_ hi) (G.vis hl'.1.1) (nameOk_d hl'.1.2).1 (nameOk_d hl'.1.2).2 (so G _ _ h1) (so G _ _ h2) sub_sw (by rfl) (by rfl) fun v => ?_
      cases k <;> first | rfl | cases hl'.2
    | _ => exact ss_never
  | Tuple ts kt pt =>
    cases ht : isTup e with
    | false =>
      have hh : cAsg m I (.Tuple ts kt pt) e = (match cTg I 9 (.Tuple ts kt pt) with
        | some g => cOp (cX m false I e) (.asg g)
        | none => .nev) := by
        cases e <;> first | rfl | cases ht
      rw [hh]
      split
      · rename_i g hg
        refine cOp_ok fun ie h1 => ?_
        exact ss_asg (cTg_ok G 9 _ g hg).2.1 (so G _ _ h1) tup_sw (tup_st ht) (by rfl)
      · exact ss_never
    | true =>
      cases e <;> (try (cases ht))
      rename_i vs k2 pt2
      show SS X T _ (match ts, vs with
      | [.Name x px, .Name y py], [a, b] => if (parB I [(x, px), (y, py)] [a, b] && px.line == py.line) = true then (match slotOf I.N x, slotOf I.N y with
        | some i, some j => if i = j then Sm.nev else (match cLs (cX m false I) [a, b] with
          | some is => .par [i, j] is
          | none => .nev)
        | _, _ => .nev) else .nev
      | [.Name x px, .Name y py, .Name z pz], [a, b, c] => if (parB I [(x, px), (y, py), (z, pz)] [a, b, c] && px.line == py.line && px.line == pz.line) = true then (match slotOf I.N x, slotOf I.N y, slotOf I.N z with
        | some i, some j, some l => if i = j ∨ i = l ∨ j = l then .nev else (match cLs (cX m false I) [a, b, c] with
          | some is => .par [i, j, l] is
          | none => .nev)
        | _, _, _ => .nev) else .nev
      | _, _ => .nev)
      split
      · rename_i x px y py a b
        split
        · rename_i hp
          rw [Bool.and_eq_true] at hp
          obtain ⟨hp, hline⟩ := hp
          split
          · rename_i i j hi hj
            split
            · exact ss_never
            rename_i hij
            split
            · rename_i is his
              obtain ⟨q1, _, q3⟩ := cLs_ok (so G) his
              unfold parB at hp
              simp only [Bool.and_eq_true, List.all_cons, List.all_nil, decide_eq_true_eq, and_true] at hp
              obtain ⟨⟨⟨⟨hx, hy⟩, h1⟩, h2⟩, h3⟩ := hp
              rw [← G.sc] at hx hy
              refine ss_par2 G.calm G.nodup (G.at_ hi) (G.at_ hj) hij hx hy q1 (by rw [q3]; rfl) (par_st2 hk hx hy hline (fun z => hij (by subst z; rw [hi] at hj; exact Option.some.inj hj)) (by simpa using h1) ((Bool.not_eq_true' _).mp h2) ((Bool.not_eq_true' _).mp h3)) tup_sw
            · exact ss_never
          · exact ss_never
        · exact ss_never
      · rename_i x px y py z pz a b c
        split
        · rename_i hp
          rw [Bool.and_eq_true, Bool.and_eq_true] at hp
          obtain ⟨⟨hp, hline⟩, hline2⟩ := hp
          split
          · rename_i i j l hi hj hl
            split
            · exact ss_never
            rename_i hij
            rw [not_or, not_or] at hij
            split
            · rename_i is his
              obtain ⟨q1, _, q3⟩ := cLs_ok (so G) his
              unfold parB at hp
              simp only [Bool.and_eq_true, List.all_cons, List.all_nil, decide_eq_true_eq, and_true] at hp
              obtain ⟨⟨⟨⟨hx, hy, hz⟩, h1⟩, h2⟩, h3⟩ := hp
              rw [← G.sc] at hx hy hz
              refine ss_par3 G.calm G.nodup (G.at_ hi) (G.at_ hj) (G.at_ hl) hij.1 hij.2.1 hij.2.2 hx hy hz q1 (by rw [q3]; rfl)
                (par_st3 hk hx hy hz hline hline2 (fun z => hij.1 (by subst z; rw [hi] at hj; exact Option.some.inj hj)) (fun z => hij.2.1 (by subst z; rw [hi] at hl; exact Option.some.inj hl)) (fun z => hij.2.2 (by subst z; rw [hj] at hl; exact Option.some.inj hl)) (by simpa using h1) ((Bool.not_eq_true' _).mp h2) ((Bool.not_eq_true' _).mp h3)) tup_sw
            · exact ss_never
          · exact ss_never
        · exact ss_never
      · exact ss_never
  | _ => exact ss_never
theorem cS_ok (G : Good X T I) (hpa : PassesOwn (model X.prog X.w) X.A X.env X.xe) (m : Nat) : ∀ (n : Nat) (st : Stmt), SS X T st (cS m I n st)
  | 0, st => ss_never
  | n + 1, st => by
    have so : ∀ e i, cX m false I e = some i → SO X e (ev T i) := fun e i h => (cX_ok m false _ e i h _ G).1 rfl
    have stt : ∀ e i, cX m true I e = some i → ST X e (ev T i) := fun e i h => (cX_ok m true _ e i h _ G).2 rfl
    have ih := cS_ok G hpa m n
    unfold cS
    split
    · exact ss_pass
    · exact ss_break
    · exact ss_cont
    · exact ss_retN
    · exact cOp_ok fun i h => ss_ret (so _ i h)
    · exact ss_doc
    · split
      · exact ss_never
      rename_i hc
      exact cOp_ok fun i h => ss_exp (so _ i h) (comp_sw (by simpa using hc) _ _ _)
    · exact cOp_ok fun i h => ss_if (stt _ i h) (cSl_ok ih _) (cSl_ok ih _)
    · exact cOp_ok fun i h => ss_while hpa (stt _ i h) (cSl_ok ih _)
    · split
      · rename_i g w hg hw
        obtain ⟨i1, i2⟩ := cIt_ok (itg := g) G so (cTg_isT hg) hw
        exact ss_for hpa G.calm i1 (cTg_ok G 9 _ g hg).2.1 (cSl_ok ih _) (notset_fold i2 X.env)
      · exact ss_never
    · exact cAsg_ok G m _ _ _
    · exact ss_never
end
end Lt

/-! Lt, part 14: the defs of a module. -/
namespace Lt
open PySem L2 PySem.Spec PyProof.Rows
/-- a def that may be called: its place in T, its function object -/
structure FnM (P : Program) (w : World) (K : PySem.W.Frag) (mg : Str → Option Value) (base : Heap) (T : Tab) (k : Nat) (kws : List (Str × Nat × List Str)) (q : Str × Nat × List Str) : Prop where
  ex : ∃ fn f fd, T.fn q.2.1 = some fn ∧ fn.ps = q.2.2 ∧ FnOk P w K mg base CX0_ fn.lvl f fd fn.ps (spF K fn) ∧ fn.lvl ≤ k ∧ mg q.1 = some (.ref f) ∧ PySem.W.keepIn K (.ref f) = true ∧ Binds K fd fn.ps [] ∧
    ∀ n ks, (q.1, n, ks) ∈ kws → KBn K fd q.2.2 n ks (kwArr .none q.2.2 ks) (kwArr .non q.2.2 ks)
structure Mo (P : Program) (w : World) (K : PySem.W.Frag) (mg : Str → Option Value) (base : Heap) (T : Tab) (k : Nat) (I : Inf) : Prop where
  fre : ∀ x ∈ I.fre, mg x = none
  gcd : I.gcd = true → mg "gcd" = some (.builtin "math.gcd")
  gls : ∀ q ∈ I.gls, ∃ d u v, T.gl q.2 = some d ∧ mg q.1 = some u ∧ RelV v u ∧ ∀ H Z, Rl K H Z d v
  sig : ∀ q ∈ I.sig, FnM P w K mg base T k I.kws q
theorem Mo.good {P : Program} {w : World} {K : PySem.W.Frag} {mg : Str → Option Value} {base : Heap} {T : Tab} {k : Nat} {I : Inf} (M : Mo P w K mg base T k I) {N : List Str} {qual : Str} {scope : Scope} {f : Addr} {cdv : Value} {A : Around} {outer : List Env} {s : Shared} {H : Hp} {E : XK}
    (hr : Room k (A.deeper (envOfC qual scope s.heap.objs.size f cdv))) (hN : I.N = N) (nd : N.Nodup) (hs : I.sc = scope) (hk : scope.kind = .function) : Good (cxOf CX0_ P w K mg base N qual scope f cdv A outer s H E).nox T I where
  N := hN.symm
  nd := by rw [hN]; exact nd
  sc := hs.symm
  calm := rfl
  un := by
    have := hr.un
    show (A.deeper (envOfC qual scope s.heap.objs.size f cdv)).units + 65 < cLine
    omega
  kind := by rw [hs]; exact hk
  main := fun _ _ => rfl
  fre := M.fre
  gcd := M.gcd
  gls := fun x j h => M.gls (x, j) (PySem.mem_of_lookup h)
  sig := fun x j ps h => by
    obtain ⟨fn, f, fd, h1, h2, h3, h4, h5, h6, h7, h8⟩ := (M.sig (x, j, ps) (PySem.mem_of_lookup h)).ex
    exact ⟨fn, f, fd, h1, h2, ⟨h3, hr.mono h4, h5, h6, h7⟩, h8⟩
/-- a def keeps the promise of its F -/
theorem df_ok {P : Program} {w : World} {K : PySem.W.Frag} {mg : Str → Option Value} {base : Heap} {x qual : Str} {params : Arguments} {body : List Stmt} {scope : Scope} {f : Addr} {fd : FuncData} (F : FunD K x qual params body scope [] [] f fd)
    {N : List Str} {fn : Fn} {k : Nat} {T : Tab} {I : Inf} {b : Sms} (S : FnScope N fn.ps scope) (M : Mo P w K mg base T k I) (hN : I.N = N) (hs : I.sc = scope) (hb : cSl (cS 60 I 30) body = b)
    (hp : fn.io = true → b.p0 = true) (hl : fn.lvl = k + 1) (hF : ∀ cs r, cs.length = fn.ps.length → fn.F cs = some r → ∃ n, runB T n b N.length fn.io cs = some r) :
    FnOk P w K mg base CX0_ fn.lvl f fd fn.ps (spF K fn) := by
  rw [hl]
  refine fn_ok F S (fun cdv A outer s H E hr => ?_) hp hF
  have G := M.good (E := E) (outer := outer) (H := H) hr hN S.nd hs S.kind
  rw [← hb]
  exact cSl_ok (cS_ok G PassesOwn.never 60 30) body
theorem KBn.of0 {K : PySem.W.Frag} {x qual : Str} {params : Arguments} {body : List Stmt} {scope : Scope} {kws : List (Str × V)} {f : Addr} {fd : FuncData} (F : FunD K x qual params body scope [] kws f fd) {ps : List Str} {n : Nat} {ks : List Str}
    (h : ∀ (kV doc pm : Value) (an : Option Addr) (cdv ct : Value) (us ws : List Value), us.length = n → ws.length = ks.length → bindArgs (PySem.W.fnOf x qual params body scope .none kV doc pm an cdv ct) ⟨us, ks.zip ws⟩ = pure (ps.zip (kwArr .none ps ks us ws))) : KBn K fd ps n ks (kwArr .none ps ks) (kwArr .non ps ks) := by
  obtain ⟨oc, od, dV, kV, doc, pm, an, cdv, ct, osl, rfl, lk, hcd, hD, hK⟩ := F.ex
  rcases hD with ⟨_, rfl⟩ | ⟨e, _⟩
  · refine ⟨fun s us ws _ l1 l2 => .of_eq (h kV doc pm an cdv ct us ws l1 l2), fun {vs us zs ws} r1 r2 => ?_⟩
    have hl : vs.length = us.length := r1.length
    unfold kwArr
    rw [hl]
    refine Vals.append r1 ?_
    have : ∀ l : List Str, Vals (l.map fun p => zs.getD (ks.idxOf p) .non) (l.map fun p => ws.getD (ks.idxOf p) .none) := fun l => by
      induction l with
      | nil => exact .nil
      | cons p l ih =>
        refine .cons ?_ ih
        have : ∀ {zs : List V} {ws : List Value} (i : Nat), Vals zs ws → RelV (zs.getD i .non) (ws.getD i .none) := by
          intro zs ws i r
          induction r generalizing i with
          | nil => simp [List.getD]; rfl
          | cons h r ih =>
            cases i with
            | zero => exact h
            | succ i => exact ih i
        exact this _ r2
    exact this _
  · exact absurd rfl e
end Lt

/-! Lt, part 15: facts of the module, the law's end. -/
namespace Lt
open PySem L2 PySem.Spec PyProof.Rows
mutual
/-- the value u of the written part is the data -/
def datB (K : PySem.W.Frag) : D → Value → Bool
  | .none, u => (match u with | .none => true | _ => false)
  | .bool b, u => (match u with | .bool c => b == c | _ => false)
  | .int i, u => (match u with | .int j _ => decide (j = i) | _ => false)
  | .str x, u => (match u with | .str y _ => decide (y = x) | _ => false)
  | .tuple ds, u => (match u with
    | .ref a => (match K.lookup a with
      | some ⟨.type c, none, .seq its _, _⟩ => decide (c = "tuple") && (decide (its.size ≤ sizeLine) && datsB K ds its.toList)
      | _ => false)
    | _ => false)
  | _, _ => false
def datsB (K : PySem.W.Frag) : List D → List Value → Bool
  | [], us => us.isEmpty
  | d :: ds, us => (match us with
    | [] => false
    | u :: r => datB K d u && datsB K ds r)
end
mutual
theorem datB_ok {K : PySem.W.Frag} : ∀ (d : D) (u : Value), datB K d u = true → ∃ v, RelV v u ∧ ∀ H Z, Rl K H Z d v
  | .none, u, h => by
    cases u <;> first | exact ⟨.non, rfl, fun _ _ => rfl⟩ | cases h
  | .bool b, u, h => by
    cases u <;> (try (cases h))
    rename_i c
    have : b = c := by simpa [datB] using h
    subst this
    exact ⟨.bl b, rfl, fun _ _ => rfl⟩
  | .int i, u, h => by
    cases u <;> (try (cases h))
    rename_i j t
    have : j = i := by simpa [datB] using h
    subst this
    exact ⟨.int j, ⟨t, rfl⟩, fun _ _ => rfl⟩
  | .str x, u, h => by
    cases u <;> (try (cases h))
    rename_i y t
    have : y = x := by simpa [datB] using h
    subst this
    exact ⟨.str y, ⟨t, rfl⟩, fun _ _ => rfl⟩
  | .tuple ds, u, h => by
    cases u <;> (try (cases h))
    rename_i a
    have h' : (match K.lookup a with
      | some ⟨.type c, none, .seq its _, _⟩ => decide (c = "tuple") && (decide (its.size ≤ sizeLine) && datsB K ds its.toList)
      | _ => false) = true := h
    split at h'
    · rename_i c its n sl q
      simp only [Bool.and_eq_true, decide_eq_true_eq] at h'
      obtain ⟨h1, h2, h3⟩ := h'
      obtain ⟨vs, r1, r2⟩ := datsB_ok ds its.toList h3
      have hl : ds.length ≤ sizeLine := by
        have e1 := r1.length
        have e2 := (r2 (fun _ => none) fun _ => False).length
        have e3 : its.toList.length = its.size := Array.length_toList
        omega
      exact ⟨.ref a, rfl, fun H Z => ⟨a, vs, rfl, .inr ⟨_, its, n, q, congrArg Value.type h1, rfl, rfl, h2, r1⟩, hl, r2 H Z⟩⟩
    · cases h'
  | .list _, _, h => by cases h
  | .dict _, _, h => by cases h
theorem datsB_ok {K : PySem.W.Frag} : ∀ (ds : List D) (us : List Value), datsB K ds us = true → ∃ vs, Vals vs us ∧ ∀ H Z, Rls K H Z ds vs
  | [], us, h => by
    cases us with
    | nil => exact ⟨[], .nil, fun _ _ => rfl⟩
    | cons _ _ => cases h
  | d :: ds, us, h => by
    cases us with
    | nil => cases h
    | cons u r =>
      obtain ⟨h1, h2⟩ := Bool.and_eq_true_iff.mp (show (datB K d u && datsB K ds r) = true from h)
      obtain ⟨v, e1, e2⟩ := datB_ok d u h1
      obtain ⟨vs, e3, e4⟩ := datsB_ok ds r h2
      exact ⟨v :: vs, .cons e1 e3, fun H Z => ⟨v, vs, rfl, e2 H Z, e4 H Z⟩⟩
end
/-- more facts of the module -/
inductive Xf where
  | con (x : Str) (d : D)
  | bfn (x : Str) (id : String)
def Xf.ok (K : PySem.W.Frag) : Xf → Bool
  | .con x d => (match PySem.W.nsIn K mainGlobals x with
    | some (some u) => datB K d u
    | _ => false)
  | .bfn x id => (match PySem.W.nsIn K mainGlobals x with
    | some (some (.builtin j)) => decide (j = id)
    | _ => false)
section
variable {K : PySem.W.Frag} {h : Heap} {mg : Str → Option Value}
theorem con_ok (X : K.In h) (G : h.Ns mainGlobals mg) {x : Str} {d : D} (c : (Xf.con x d).ok K = true) : ∃ u v, mg x = some u ∧ RelV v u ∧ ∀ H Z, Rl K H Z d v := by
  have c' : (match PySem.W.nsIn K mainGlobals x with
    | some (some u) => datB K d u
    | _ => false) = true := c
  split at c'
  · rename_i u e
    obtain ⟨v, r1, r2⟩ := datB_ok d u c'
    exact ⟨u, v, PySem.W.mg_of X G e, r1, r2⟩
  · cases c'
theorem bfn_ok (X : K.In h) (G : h.Ns mainGlobals mg) {x : Str} {id : String} (c : (Xf.bfn x id).ok K = true) : mg x = some (.builtin id) := by
  have c' : (match PySem.W.nsIn K mainGlobals x with
    | some (some (.builtin j)) => decide (j = id)
    | _ => false) = true := c
  split at c'
  · rename_i j e
    have := of_decide_eq_true c'
    subst this
    exact PySem.W.mg_of X G e
  · cases c'
end
abbrev AlX : Type := Bool × He.AlD
def obsX (n : Nat) (fa : List He.Fa) (fn : List He.DefD) (xs : List Xf) (g : Addr → Option Obj) : AlX :=
  ((xs.all fun x => x.ok (He.frG g (He.asD g n))), He.obsDG n fa fn g)
def SaysX (fa : List He.Fa) (fn : List He.DefD) (xs : List Xf) (K : PySem.W.Frag) : Prop := He.SaysD fa fn K ∧ (xs.all fun x => x.ok K) = true
def hookX (n : Nat) (fa : List He.Fa) (fn : List He.DefD) (xs : List Xf) : PySem.W.Hook where
  α := AlX
  obs := fun s => obsX n fa fn xs s.heap.get?
  val := fun _ => (true, He.valD fn)
  says := fun _ h => ∃ K : PySem.W.Frag, K.In h ∧ SaysX fa fn xs K
  of := fun _ s e => ⟨He.frG s.heap.get? (He.asD s.heap.get? n), He.frG_in, congrArg (fun z : AlX => z.2) e, congrArg (fun z : AlX => z.1) e⟩
  keeps := fun _ _ _ ⟨K, hK, c⟩ k => ⟨K, PySem.W.Frag.In.keeps hK k, c⟩
theorem obsX_eq {n : Nat} {fa : List He.Fa} {fn : List He.DefD} {xs : List Xf} {g : Addr → Option Obj} {s : Shared} (h : ∀ a, g a = s.heap.get? a) : obsX n fa fn xs g = (hookX n fa fn xs).obs s := by
  cases (show g = s.heap.get? from funext h); rfl
theorem SaysX.x {fa : List He.Fa} {fn : List He.DefD} {xs : List Xf} {K : PySem.W.Frag} (c : SaysX fa fn xs K) {f : Xf} (h : f ∈ xs) : f.ok K = true := List.all_eq_true.mp c.2 f h
/-- the law's own call -/
theorem spF_law {K : PySem.W.Frag} {fn : Fn} {H : Hp} {a : Addr} {ns : List Int} {E : XK} (hio : fn.io = false) (hps : fn.ps.length = 1) (hF : fn.F [.dat (scr ns)] = some (.dat (.bool true), .emp)) (hl : ns.length ≤ 1000) (r : SqL K H a (ns.map V.int)) :
    spF K fn [.ref a] H (fun v _ => v = .bl true) E := by
  have hlst : LstE K H (fun x => x = a ∧ ∃ o, H a = some o) a (ns.map V.int) := by
    rcases r with r | r
    · refine .inl ⟨r, rfl, ?_⟩
      rcases r with r | ⟨o, r⟩
      · exact ⟨_, r⟩
      · exact ⟨_, r⟩
    · exact .inr r
  have zd : ∀ x, (x = a ∧ ∃ o, H a = some o) → ∃ o, H x = some o := fun x ⟨e, o, h⟩ => ⟨o, by rw [e]; exact h⟩
  have rl : Rls K H (fun x => x = a ∧ ∃ o, H a = some o) [scr ns] [.ref a] := Rls.cons ⟨a, ns, rfl, hlst, rfl, hl⟩ Rls.nil
  refine ⟨_, [.dat (scr ns)], .dat (.bool true), .emp, dats_sta (ds := [scr ns]) rl zd, by rw [hps]; rfl, fun i h => ?_, hF, fun v H' Z' _ cv _ _ _ => cv⟩
  have h' : isOw (cellAt ([scr ns].map Cell.dat) i) = true := h
  rw [dats_ow] at h'; cases h'
end Lt

/-! Lt, part 16: tables of defs, running an IR by simp. -/
namespace Lt
open PySem L2
/-- the rounds of a while loop that are looked at -/
@[irreducible] def fuel : Nat := 2 ^ 100000
def mkF (T : Tab) (b : Sms) (L : Nat) (io : Bool) : List Cell → Option (Cell × Cell) := fun cs => runB T fuel b L io cs
def Tab.add (T : Tab) (j : Nat) (f : Fn) : Tab := ⟨fun i => if i = j then some f else T.fn i, T.gl⟩
theorem mkF_run {T : Tab} {b : Sms} {L : Nat} {io : Bool} {cs : List Cell} {r : Cell × Cell} (h : mkF T b L io cs = some r) : ∃ n, runB T n b L io cs = some r := ⟨fuel, h⟩
/-- ints that the model multiplies -/
def Ok (i : Int) : Prop := i.natAbs < 2 ^ 100000
theorem Ok.mul {i j : Int} (hi : Ok i) (hj : Ok j) : mulOk i j = true := by
  unfold mulOk
  have l1 : i.natAbs.log2 < 100000 ∨ i.natAbs = 0 := by
    by_cases h : i.natAbs = 0
    · exact .inr h
    · exact .inl ((Nat.log2_lt h).mpr hi)
  have l2 : j.natAbs.log2 < 100000 ∨ j.natAbs = 0 := by
    by_cases h : j.natAbs = 0
    · exact .inr h
    · exact .inl ((Nat.log2_lt h).mpr hj)
  rcases l1 with l1 | l1
  · rcases l2 with l2 | l2
    · have : i.natAbs.log2 + j.natAbs.log2 < 1000000 := by omega
      rw [decide_eq_true this, Bool.or_true]
    · rw [l2]; simp
  · rw [l1]; simp
theorem mulOk_small {i j : Int} (h : i.natAbs < 2 ^ 64) : mulOk i j = true := by
  unfold mulOk
  rw [decide_eq_true h, Bool.true_or, Bool.true_or]
theorem mulOk_smallR {i j : Int} (h : j.natAbs < 2 ^ 64) : mulOk i j = true := by
  unfold mulOk
  rw [decide_eq_true h, Bool.or_true, Bool.true_or]
/-! ### steps -/
section
variable {T : Tab} {n : Nat} {ρ : Rho}
@[simp] theorem cellAt_zero {c : Cell} {r : Rho} : cellAt (c :: r) 0 = c := rfl
@[simp] theorem cellAt_succ {c : Cell} {r : Rho} {i : Nat} : cellAt (c :: r) (i + 1) = cellAt r i := rfl
end
end Lt

/-! Lt, part 17: running an IR forwards, a rule for each form. -/
namespace Lt
open PySem L2
/-- it gives something, and K holds of that -/
def WV {α : Type} (x : Option α) (K : α → Prop) : Prop := ∃ a, x = some a ∧ K a
def WP {α β : Type} (x : Option (α × β)) (K : α → β → Prop) : Prop := ∃ a b, x = some (a, b) ∧ K a b
section
variable {α β γ : Type}
theorem WV.go {x : Option α} {a : α} {K : α → Prop} (e : x = some a) (k : K a) : WV x K := ⟨a, e, k⟩
theorem WP.go {x : Option (α × β)} {a : α} {b : β} {K : α → β → Prop} (e : x = some (a, b)) (k : K a b) : WP x K := ⟨a, b, e, k⟩
theorem WP.bindP {x : Option (α × β)} {f : α × β → Option γ} {K : γ → Prop} (h : WP x fun a b => WV (f (a, b)) K) : WV (x.bind f) K := by
  obtain ⟨a, b, e, c, e2, k⟩ := h
  exact ⟨c, by rw [e]; exact e2, k⟩
theorem WP.mono {x : Option (α × β)} {K K' : α → β → Prop} (h : WP x K) (hk : ∀ a b, K a b → K' a b) : WP x K' := by
  obtain ⟨a, b, e, k⟩ := h
  exact ⟨a, b, e, hk a b k⟩
theorem WV.mono {x : Option α} {K K' : α → Prop} (h : WV x K) (hk : ∀ a, K a → K' a) : WV x K' := by
  obtain ⟨a, e, k⟩ := h
  exact ⟨a, e, hk a k⟩
end
variable {T : Tab} {n : Nat} {ρ : Rho}
/-! ### expressions -/
def notE : Cell → Bool
  | .emp => false
  | _ => true
section
variable {Q : Od → Rho → Prop} {a b c : Ex} {es kes : Exs}
theorem we_var {i : Nat} (hn : notE (cellAt ρ i) = true) (k : Q (.v i) ρ) : WP (ev T (.var i) ρ) Q := by
  refine ⟨.v i, ρ, ?_, k⟩
  show (match cellAt ρ i with
    | .emp => none
    | _ => some (Od.v i, ρ)) = _
  cases h : cellAt ρ i <;> rw [h] at hn <;> first | rfl | cases hn
theorem we_con {d : D} (k : Q (.t (.dat d)) ρ) : WP (ev T (.con d) ρ) Q := ⟨_, _, rfl, k⟩
theorem we_glb {j : Nat} {d : D} (h : T.gl j = some d) (k : Q (.t (.dat d)) ρ) : WP (ev T (.glb j) ρ) Q := ⟨_, _, by show (T.gl j).map _ = _; rw [h]; rfl, k⟩
theorem we_bin {op : Operator} (h : WP (ev T a ρ) fun o1 ρ1 => WP (ev T b ρ1) fun o2 ρ2 => WV (lookD ρ2 o1) fun x => WV (lookD ρ2 o2) fun y => WV (binD op x y) fun c => Q (.t c) ρ2) : WP (ev T (.bin op a b) ρ) Q := by
  obtain ⟨o1, ρ1, e1, o2, ρ2, e2, x, e3, y, e4, c, e5, k⟩ := h
  exact ⟨_, _, by show (ev T a ρ).bind _ = _; rw [e1]; show (ev T b ρ1).bind _ = _; rw [e2]; show (lookD ρ2 o1).bind _ = _; rw [e3]; show (lookD ρ2 o2).bind _ = _; rw [e4]; show (binD op x y).map _ = _; rw [e5]; rfl, k⟩
theorem we_neg {i : Int} (h : WP (ev T a ρ) fun o ρ1 => WV (lookD ρ1 o) fun x => ∃ i, x = .int i ∧ Q (.t (.dat (.int (-i)))) ρ1) : WP (ev T (.neg a) ρ) Q := by
  obtain ⟨o1, ρ1, e1, x, e3, i, rfl, k⟩ := h
  exact ⟨_, _, by show (ev T a ρ).bind _ = _; rw [e1]; show (lookD ρ1 o1).bind _ = _; rw [e3]; rfl, k⟩
theorem we_not (h : WP (ev T a ρ) fun o ρ1 => WV (testOd ρ1 o) fun b => Q (.t (.dat (.bool (!b)))) ρ1) : WP (ev T (.not a) ρ) Q := by
  obtain ⟨o1, ρ1, e1, x, e3, k⟩ := h
  exact ⟨_, _, by show (ev T a ρ).bind _ = _; rw [e1]; show (testOd ρ1 o1).map _ = _; rw [e3]; rfl, k⟩
theorem we_chn {op op' : CmpOp} (h : WP (ev T a ρ) fun o1 ρ1 => WP (ev T b ρ1) fun o2 ρ2 => WV (lookD ρ2 o1) fun x => WV (lookD ρ2 o2) fun y => WV (cmpD op x y) fun k => (k = true → WP (ev T c ρ2) fun o3 ρ3 => WV (lookD ρ3 o2) fun y => WV (lookD ρ3 o3) fun z => WV (cmpD op' y z) fun k' => Q (.t (.dat (.bool k'))) ρ3) ∧ (k = false → Q (.t (.dat (.bool false))) ρ2)) : WP (ev T (.chn op op' a b c) ρ) Q := by
  obtain ⟨o1, ρ1, e1, o2, ρ2, e2, x, e3, y, e4, k, e5, h1, h2⟩ := h
  cases k with
  | true =>
    obtain ⟨o3, ρ3, e6, y', e7, z, e8, k', e9, q⟩ := h1 rfl
    exact ⟨_, _, by show (ev T a ρ).bind _ = _; rw [e1]; show (ev T b ρ1).bind _ = _; rw [e2]; show (lookD ρ2 o1).bind _ = _; rw [e3]; show (lookD ρ2 o2).bind _ = _; rw [e4]; show (cmpD op x y).bind _ = _; rw [e5]; show (ev T c ρ2).bind _ = _; rw [e6]; show (lookD ρ3 o2).bind _ = _; rw [e7]; show (lookD ρ3 o3).bind _ = _; rw [e8]; show (cmpD op' y' z).map _ = _; rw [e9]; rfl, q⟩
  | false => exact ⟨_, _, by show (ev T a ρ).bind _ = _; rw [e1]; show (ev T b ρ1).bind _ = _; rw [e2]; show (lookD ρ2 o1).bind _ = _; rw [e3]; show (lookD ρ2 o2).bind _ = _; rw [e4]; show (cmpD op x y).bind _ = _; rw [e5]; rfl, h2 rfl⟩
theorem we_and (h : WP (ev T a ρ) fun o ρ1 => WV (testOd ρ1 o) fun k => (k = true → WP (ev T b ρ1) fun o2 ρ2 => WV (testOd ρ2 o2) fun k' => Q (.t (.dat (.bool k'))) ρ2) ∧ (k = false → Q (.t (.dat (.bool false))) ρ1)) : WP (ev T (.and a b) ρ) Q := by
  obtain ⟨o1, ρ1, e1, k, e2, h1, h2⟩ := h
  cases k with
  | true =>
    obtain ⟨o3, ρ3, e6, k', e9, q⟩ := h1 rfl
    exact ⟨_, _, by show (ev T a ρ).bind _ = _; rw [e1]; show (testOd ρ1 o1).bind _ = _; rw [e2]; show (ev T b ρ1).bind _ = _; rw [e6]; show (testOd ρ3 o3).map _ = _; rw [e9]; rfl, q⟩
  | false => exact ⟨_, _, by show (ev T a ρ).bind _ = _; rw [e1]; show (testOd ρ1 o1).bind _ = _; rw [e2]; rfl, h2 rfl⟩
theorem we_or (h : WP (ev T a ρ) fun o ρ1 => WV (testOd ρ1 o) fun k => (k = false → WP (ev T b ρ1) fun o2 ρ2 => WV (testOd ρ2 o2) fun k' => Q (.t (.dat (.bool k'))) ρ2) ∧ (k = true → Q (.t (.dat (.bool true))) ρ1)) : WP (ev T (.or a b) ρ) Q := by
  obtain ⟨o1, ρ1, e1, k, e2, h1, h2⟩ := h
  cases k with
  | false =>
    obtain ⟨o3, ρ3, e6, k', e9, q⟩ := h1 rfl
    exact ⟨_, _, by show (ev T a ρ).bind _ = _; rw [e1]; show (testOd ρ1 o1).bind _ = _; rw [e2]; show (ev T b ρ1).bind _ = _; rw [e6]; show (testOd ρ3 o3).map _ = _; rw [e9]; rfl, q⟩
  | true => exact ⟨_, _, by show (ev T a ρ).bind _ = _; rw [e1]; show (testOd ρ1 o1).bind _ = _; rw [e2]; rfl, h2 rfl⟩
theorem we_ifx (h : WP (ev T c ρ) fun o ρ1 => WV (testOd ρ1 o) fun k => (k = true → WP (ev T a ρ1) Q) ∧ (k = false → WP (ev T b ρ1) Q)) : WP (ev T (.ifx c a b) ρ) Q := by
  obtain ⟨o1, ρ1, e1, k, e2, h1, h2⟩ := h
  cases k with
  | true =>
    obtain ⟨o3, ρ3, e6, q⟩ := h1 rfl
    exact ⟨_, _, by show (ev T c ρ).bind _ = _; rw [e1]; show (testOd ρ1 o1).bind _ = _; rw [e2]; exact e6, q⟩
  | false =>
    obtain ⟨o3, ρ3, e6, q⟩ := h2 rfl
    exact ⟨_, _, by show (ev T c ρ).bind _ = _; rw [e1]; show (testOd ρ1 o1).bind _ = _; rw [e2]; exact e6, q⟩
theorem we_tup (h : WP (evs T es ρ) fun os ρ1 => WP (frzs ρ1 os) fun ds ρ2 => Q (.t (.dat (.tuple ds))) ρ2) : WP (ev T (.tup es) ρ) Q := by
  obtain ⟨os, ρ1, e1, ds, ρ2, e2, k⟩ := h
  exact ⟨_, _, by show (evs T es ρ).bind _ = _; rw [e1]; show (frzs ρ1 os).map _ = _; rw [e2]; rfl, k⟩
theorem we_lst (h : WP (evs T es ρ) fun os ρ1 => WP (frzs ρ1 os) fun ds ρ2 => Q (.t (.own ds)) ρ2) : WP (ev T (.lst es) ρ) Q := by
  obtain ⟨os, ρ1, e1, ds, ρ2, e2, k⟩ := h
  exact ⟨_, _, by show (evs T es ρ).bind _ = _; rw [e1]; show (frzs ρ1 os).map _ = _; rw [e2]; rfl, k⟩
theorem we_slc {lo hi : Oex} (h : WP (ev T a ρ) fun o1 ρ1 => WP (evo T lo ρ1) fun l ρ2 => WP (evo T hi ρ2) fun r ρ3 => WV (lookD ρ3 o1) fun x => WV (slcD x l r) fun c => Q (.t c) ρ3) : WP (ev T (.slc a lo hi) ρ) Q := by
  obtain ⟨o1, ρ1, e1, l, ρ2, e2, r, ρ3, e3, x, e4, c, e5, k⟩ := h
  exact ⟨_, _, by show (ev T a ρ).bind _ = _; rw [e1]; show (evo T lo ρ1).bind _ = _; rw [e2]; show (evo T hi ρ2).bind _ = _; rw [e3]; show (lookD ρ3 o1).bind _ = _; rw [e4]; show (slcD x l r).map _ = _; rw [e5]; rfl, k⟩
def noDict : D → Bool
  | .dict _ => false
  | _ => true
theorem we_isi {ts : List String} (ht : isiOk ts = true) (h : WP (ev T a ρ) fun o ρ1 => WV (lookD ρ1 o) fun x => noDict x = true ∧ Q (.t (.dat (.bool (ts.any (isiOne x))))) ρ1) : WP (ev T (.isi a ts) ρ) Q := by
  obtain ⟨o1, ρ1, e1, x, e2, hd, k⟩ := h
  refine ⟨_, _, ?_, k⟩
  show (if isiOk ts = true then _ else none) = _
  rw [if_pos ht, e1]
  show (lookD ρ1 o1).bind _ = _
  rw [e2]
  cases x <;> first | rfl | cases hd
theorem we_call {j : Nat} {fn : Fn} {ix : List Nat} (hf : T.fn j = some fn) (h : WP (evs T es ρ) fun us ρ1 => WP (evs T kes ρ1) fun ws ρ2 => us.length + ix.length = fn.ps.length ∧ WP (callF fn (us ++ ix.map fun i => ws.getD i (.t .emp)) ρ2) Q) : WP (ev T (.call j es ix kes) ρ) Q := by
  obtain ⟨us, ρ1, e1, ws, ρ2, e2, hl, o, ρ3, e3, k⟩ := h
  refine ⟨_, _, ?_, k⟩
  show (evs T es ρ).bind _ = _
  rw [e1]
  show (evs T kes ρ1).bind _ = _
  rw [e2]
  show (T.fn j).bind _ = _
  rw [hf]
  show (if us.length + ix.length = fn.ps.length then _ else none) = _
  rw [if_pos hl]; exact e3
/-- the callee's F on its cells -/
def WF (F : List Cell → Option (Cell × Cell)) (cs : List Cell) (K : Cell → Cell → Prop) : Prop := WP (F cs) K
theorem wc_fr {fn : Fn} {os : List Od} (hio : fn.io = false) (h : WP (frzs ρ os) fun ds ρ1 => WF fn.F (ds.map .dat) fun c _ => Q (.t c) (unfz c ρ ρ1)) : WP (callF fn os ρ) Q := by
  obtain ⟨ds, ρ1, e1, c, o, e2, k⟩ := h
  refine ⟨_, _, ?_, k⟩
  unfold callF
  rw [if_neg (by rw [hio]; exact Bool.false_ne_true), e1]
  show (fn.F (ds.map .dat)).map _ = _
  rw [e2]; rfl
theorem wc_io {fn : Fn} {os : List Od} {i : Nat} {xs : List D} (hio : fn.io = true) (h : WP (frzs ρ os) fun ds ρ1 => cellAt ρ1 i = .own xs ∧ WF fn.F (.own xs :: ds.map .dat) fun c out => Q (.t c) (ρ1.set i out)) : WP (callF fn (.v i :: os) ρ) Q := by
  obtain ⟨ds, ρ1, e1, hc, c, o, e2, k⟩ := h
  refine ⟨_, _, ?_, k⟩
  unfold callF
  rw [if_pos hio]
  show (frzs ρ os).bind _ = _
  rw [e1]
  show (match cellAt ρ1 i with
        | .dat d => (fn.F (.dat d :: ds.map .dat)).map fun q : Cell × Cell => (Od.t q.1, ρ1)
        | .own xs => (fn.F (.own xs :: ds.map .dat)).map fun q : Cell × Cell => (.t q.1, ρ1.set i q.2)
        | .dic kvs => (fn.F (.dic kvs :: ds.map .dat)).map fun q : Cell × Cell => (.t q.1, ρ1.set i q.2)
        | .emp => none) = _
  rw [hc]
  show (fn.F (.own xs :: ds.map .dat)).map _ = _
  rw [e2]; rfl
theorem we_mut {m : Mf} {i : Nat} {xs0 xs : List D} (hm : isMut m = true) (h : WP (ev T a ρ) fun o ρ1 => o = .v i ∧ cellAt ρ1 i = .own xs0 ∧ WP (evs T es ρ1) fun os ρ2 => WP (frzs ρ2 os) fun ds ρ3 => cellAt ρ3 i = .own xs ∧ WP (mthOwn m xs ds) fun c xs' => Q (.t c) (ρ3.set i (.own xs'))) : WP (ev T (.mth m a es) ρ) Q := by
  obtain ⟨o, ρ1, e1, rfl, hc, os, ρ2, e2, ds, ρ3, e3, hc3, c, xs', e4, k⟩ := h
  refine ⟨_, _, ?_, k⟩
  show (ev T a ρ).bind _ = _
  rw [e1]
  show (if isMut m = true then _ else _) = _
  rw [if_pos hm]
  show (match cellAt ρ1 i with
          | .own _ => (evs T es ρ1).bind fun q => (frzs q.2 q.1).bind fun u => (match cellAt u.2 i with
            | .own xs => (mthOwn m xs u.1).map fun w : Cell × List D => (Od.t w.1, u.2.set i (.own w.2))
            | _ => none)
          | _ => none) = _
  rw [hc]
  show (evs T es ρ1).bind _ = _
  rw [e2]
  show (frzs ρ2 os).bind _ = _
  rw [e3]
  show (match cellAt ρ3 i with
            | .own xs => (mthOwn m xs ds).map fun w : Cell × List D => (Od.t w.1, ρ3.set i (.own w.2))
            | _ => none) = _
  rw [hc3]
  show (mthOwn m xs ds).map _ = _
  rw [e4]; rfl
theorem we_mthL {m : Mf} (hm : isMut m = false) (h : WP (ev T a ρ) fun o ρ1 => WV (lookD ρ1 o) fun x0 => (∃ xs, x0 = .list xs) ∧ WP (evs T es ρ1) fun os ρ2 => WV (lookD ρ2 o) fun x => (∃ xs, x = .list xs ∧ WV (lookDs ρ2 os) fun vs => WV (mthD m (.list xs) vs) fun c => Q (.t c) ρ2)) : WP (ev T (.mth m a es) ρ) Q := by
  obtain ⟨o, ρ1, e1, x0, e2, ⟨xs0, rfl⟩, os, ρ2, e3, x, e4, xs, rfl, vs, e5, c, e6, k⟩ := h
  refine ⟨_, _, ?_, k⟩
  show (ev T a ρ).bind _ = _
  rw [e1]
  show (if isMut m = true then _ else _) = _
  rw [if_neg (by rw [hm]; exact Bool.false_ne_true)]
  show (lookD ρ1 o).bind _ = _
  rw [e2]
  show (evs T es ρ1).bind _ = _
  rw [e3]
  show (lookD ρ2 o).bind _ = _
  rw [e4]
  show (lookDs ρ2 os).bind _ = _
  rw [e5]
  show (mthD m (.list xs) vs).map _ = _
  rw [e6]; rfl
theorem we_mthT {m : Mf} (hm : isMut m = false) (h : WP (ev T a ρ) fun o ρ1 => WV (lookD ρ1 o) fun x0 => (∃ xs, x0 = .tuple xs) ∧ WP (evs T es ρ1) fun os ρ2 => WV (lookD ρ2 o) fun x => (∃ xs, x = .tuple xs ∧ WV (lookDs ρ2 os) fun vs => WV (mthD m (.tuple xs) vs) fun c => Q (.t c) ρ2)) : WP (ev T (.mth m a es) ρ) Q := by
  obtain ⟨o, ρ1, e1, x0, e2, ⟨xs0, rfl⟩, os, ρ2, e3, x, e4, xs, rfl, vs, e5, c, e6, k⟩ := h
  refine ⟨_, _, ?_, k⟩
  show (ev T a ρ).bind _ = _
  rw [e1]
  show (if isMut m = true then _ else _) = _
  rw [if_neg (by rw [hm]; exact Bool.false_ne_true)]
  show (lookD ρ1 o).bind _ = _
  rw [e2]
  show (evs T es ρ1).bind _ = _
  rw [e3]
  show (lookD ρ2 o).bind _ = _
  rw [e4]
  show (lookDs ρ2 os).bind _ = _
  rw [e5]
  show (mthD m (.tuple xs) vs).map _ = _
  rw [e6]; rfl
theorem we_lc {tg : Tg} {it : Itr} {cc : Oex} {own : List Nat} (h : WP (evi T it ρ) fun ds ρ1 => WP (lcLoop (lcTurn T a tg cc) own ds ρ1) fun ys ρ2 => Q (.t (.own ys)) (backR ρ1 ρ2 own)) : WP (ev T (.lc a tg it cc own) ρ) Q := by
  obtain ⟨ds, ρ1, e1, ys, ρ2, e2, k⟩ := h
  refine ⟨_, _, ?_, k⟩
  show (evi T it ρ).bind _ = _
  rw [e1]
  show (lcLoop (lcTurn T a tg cc) own ds ρ1).map _ = _
  rw [e2]; rfl
end
/-! ### lists of expressions, operands -/
theorem wes_nil {Q : List Od → Rho → Prop} (k : Q [] ρ) : WP (evs T .nil ρ) Q := ⟨_, _, rfl, k⟩
theorem wes_cons {Q : List Od → Rho → Prop} {e : Ex} {es : Exs} (h : WP (ev T e ρ) fun o ρ1 => WP (evs T es ρ1) fun os ρ2 => Q (o :: os) ρ2) : WP (evs T (.cons e es) ρ) Q := by
  obtain ⟨o, ρ1, e1, os, ρ2, e2, k⟩ := h
  exact ⟨_, _, by show (ev T e ρ).bind _ = _; rw [e1]; show (evs T es ρ1).map _ = _; rw [e2]; rfl, k⟩
theorem wfz_nil {K : List D → Rho → Prop} (k : K [] ρ) : WP (frzs ρ []) K := ⟨_, _, rfl, k⟩
theorem wfz_t {K : List D → Rho → Prop} {d : D} {os : List Od} (h : WP (frzs ρ os) fun ds ρ' => K (d :: ds) ρ') : WP (frzs ρ (.t (.dat d) :: os)) K := by
  obtain ⟨ds, ρ', e, k⟩ := h
  exact ⟨_, _, by show (frzs ρ os).map _ = _; rw [e]; rfl, k⟩
theorem wfz_o {K : List D → Rho → Prop} {xs : List D} {os : List Od} (h : WP (frzs ρ os) fun ds ρ' => K (.list xs :: ds) ρ') : WP (frzs ρ (.t (.own xs) :: os)) K := by
  obtain ⟨ds, ρ', e, k⟩ := h
  exact ⟨_, _, by show (frzs ρ os).map _ = _; rw [e]; rfl, k⟩
theorem wfz_v {K : List D → Rho → Prop} {i : Nat} {d : D} {os : List Od} (hc : cellAt ρ i = .dat d) (h : WP (frzs ρ os) fun ds ρ' => K (d :: ds) ρ') : WP (frzs ρ (.v i :: os)) K := by
  obtain ⟨ds, ρ', e, k⟩ := h
  refine ⟨_, _, ?_, k⟩
  have : frz ρ (.v i) = some (d, ρ) := by
    show (match cellAt ρ i with
      | .dat d => some (d, ρ)
      | .own ds => some (.list ds, ρ.set i (.dat (.list ds)))
      | _ => none) = _
    rw [hc]
  show (frz ρ (.v i)).bind _ = _
  rw [this]
  show (frzs ρ os).map _ = _
  rw [e]; rfl
theorem wfz_w {K : List D → Rho → Prop} {i : Nat} {xs : List D} {os : List Od} (hc : cellAt ρ i = .own xs) (h : WP (frzs (ρ.set i (.dat (.list xs))) os) fun ds ρ' => K (.list xs :: ds) ρ') : WP (frzs ρ (.v i :: os)) K := by
  obtain ⟨ds, ρ', e, k⟩ := h
  refine ⟨_, _, ?_, k⟩
  have : frz ρ (.v i) = some (.list xs, ρ.set i (.dat (.list xs))) := by
    show (match cellAt ρ i with
      | .dat d => some (d, ρ)
      | .own ds => some (.list ds, ρ.set i (.dat (.list ds)))
      | _ => none) = _
    rw [hc]
  show (frz ρ (.v i)).bind _ = _
  rw [this]
  show (frzs (ρ.set i (.dat (.list xs))) os).map _ = _
  rw [e]; rfl
theorem wls_nil {K : List D → Prop} (k : K []) : WV (lookDs ρ []) K := ⟨_, rfl, k⟩
theorem wls_cons {K : List D → Prop} {o : Od} {os : List Od} (h : WV (lookD ρ o) fun d => WV (lookDs ρ os) fun ds => K (d :: ds)) : WV (lookDs ρ (o :: os)) K := by
  obtain ⟨d, e1, ds, e2, k⟩ := h
  exact ⟨_, by show (lookD ρ o).bind _ = _; rw [e1]; show (lookDs ρ os).map _ = _; rw [e2]; rfl, k⟩
theorem wl_t {K : D → Prop} {d : D} (k : K d) : WV (lookD ρ (.t (.dat d))) K := ⟨_, rfl, k⟩
theorem wl_o {K : D → Prop} {xs : List D} (k : K (.list xs)) : WV (lookD ρ (.t (.own xs))) K := ⟨_, rfl, k⟩
theorem wl_v {K : D → Prop} {i : Nat} {d : D} (hc : cellAt ρ i = .dat d) (k : K d) : WV (lookD ρ (.v i)) K := ⟨d, by show ((cellAt ρ i).vw).bind Vw.asD = _; rw [hc]; rfl, k⟩
theorem wl_w {K : D → Prop} {i : Nat} {xs : List D} (hc : cellAt ρ i = .own xs) (k : K (.list xs)) : WV (lookD ρ (.v i)) K := ⟨_, by show ((cellAt ρ i).vw).bind Vw.asD = _; rw [hc]; rfl, k⟩
theorem wt_t {K : Bool → Prop} {b : Bool} (k : K b) : WV (testOd ρ (.t (.dat (.bool b)))) K := ⟨_, rfl, k⟩
theorem wt_v {K : Bool → Prop} {i : Nat} {b : Bool} (hc : cellAt ρ i = .dat (.bool b)) (k : K b) : WV (testOd ρ (.v i)) K := ⟨b, by show ((cellAt ρ i).vw).bind asBool = _; rw [hc]; rfl, k⟩
theorem wo_no {K : Option Int → Rho → Prop} (k : K none ρ) : WP (evo T .no ρ) K := ⟨_, _, rfl, k⟩
theorem wo_so {K : Option Int → Rho → Prop} {e : Ex} (h : WP (ev T e ρ) fun o ρ1 => WV (lookD ρ1 o) fun x => ∃ i, x = .int i ∧ K (some i) ρ1) : WP (evo T (.so e) ρ) K := by
  obtain ⟨o1, ρ1, e1, x, e3, i, rfl, k⟩ := h
  exact ⟨_, _, by show (ev T e ρ).bind _ = _; rw [e1]; show (lookD ρ1 o1).bind _ = _; rw [e3]; rfl, k⟩
theorem wc_no {K : Bool → Rho → Prop} (k : K true ρ) : WP (evc T .no ρ) K := ⟨_, _, rfl, k⟩
theorem wc_so {K : Bool → Rho → Prop} {e : Ex} (h : WP (ev T e ρ) fun o ρ1 => WV (testOd ρ1 o) fun b => K b ρ1) : WP (evc T (.so e) ρ) K := by
  obtain ⟨o1, ρ1, e1, x, e3, k⟩ := h
  exact ⟨_, _, by show (ev T e ρ).bind _ = _; rw [e1]; show (testOd ρ1 o1).map _ = _; rw [e3]; rfl, k⟩
section
variable {K : List D → Rho → Prop} {a b : Ex}
theorem wi_seq (h : WP (ev T a ρ) fun o ρ1 => WP (frz ρ1 o) fun d ρ2 => WV (seqD d) fun ds => K ds ρ2) : WP (evi T (.seq a) ρ) K := by
  obtain ⟨o, ρ1, e1, d, ρ2, e2, ds, e3, k⟩ := h
  exact ⟨_, _, by show (ev T a ρ).bind _ = _; rw [e1]; show (frz ρ1 o).bind _ = _; rw [e2]; show (seqD d).map _ = _; rw [e3]; rfl, k⟩
theorem wi_rng1 (h : WP (ev T a ρ) fun o ρ1 => WV (lookD ρ1 o) fun x => WV (rng1D x) fun ds => K ds ρ1) : WP (evi T (.rng1 a) ρ) K := by
  obtain ⟨o, ρ1, e1, x, e2, ds, e3, k⟩ := h
  exact ⟨_, _, by show (ev T a ρ).bind _ = _; rw [e1]; show (lookD ρ1 o).bind _ = _; rw [e2]; show (rng1D x).map _ = _; rw [e3]; rfl, k⟩
theorem wi_rng2 (h : WP (ev T a ρ) fun o1 ρ1 => WP (ev T b ρ1) fun o2 ρ2 => WV (lookD ρ2 o1) fun x => WV (lookD ρ2 o2) fun y => WV (rng2D x y) fun ds => K ds ρ2) : WP (evi T (.rng2 a b) ρ) K := by
  obtain ⟨o1, ρ1, e1, o2, ρ2, e2, x, e3, y, e4, ds, e5, k⟩ := h
  exact ⟨_, _, by show (ev T a ρ).bind _ = _; rw [e1]; show (ev T b ρ1).bind _ = _; rw [e2]; show (lookD ρ2 o1).bind _ = _; rw [e3]; show (lookD ρ2 o2).bind _ = _; rw [e4]; show (rng2D x y).map _ = _; rw [e5]; rfl, k⟩
end
/-! ### statements -/
section
variable {Q : Out → Rho → Prop}
theorem ws_nil (k : Q .nx ρ) : WP (exs T n .nil ρ) Q := ⟨_, _, rfl, k⟩
def seqK (T : Tab) (n : Nat) (r : Sms) (Q : Out → Rho → Prop) : Out → Rho → Prop
  | .nx, ρ => WP (exs T n r ρ) Q
  | o, ρ => Q o ρ
theorem ws_cons {s : Sm} {r : Sms} (h : WP (ex T n s ρ) (seqK T n r Q)) : WP (exs T n (.cons s r) ρ) Q := by
  obtain ⟨o, ρ1, e1, k⟩ := h
  cases o with
  | nx =>
    obtain ⟨o2, ρ2, e2, k2⟩ := k
    exact ⟨_, _, by show (ex T n s ρ).bind _ = _; rw [e1]; exact e2, k2⟩
  | bk => exact ⟨_, _, by show (ex T n s ρ).bind _ = _; rw [e1]; rfl, k⟩
  | ct => exact ⟨_, _, by show (ex T n s ρ).bind _ = _; rw [e1]; rfl, k⟩
  | rt o => exact ⟨_, _, by show (ex T n s ρ).bind _ = _; rw [e1]; rfl, k⟩
theorem sk_nx {r : Sms} (k : WP (exs T n r ρ) Q) : seqK T n r Q .nx ρ := k
theorem sk_rt {r : Sms} {o : Od} (k : Q (.rt o) ρ) : seqK T n r Q (.rt o) ρ := k
theorem sk_bk {r : Sms} (k : Q .bk ρ) : seqK T n r Q .bk ρ := k
theorem sk_ct {r : Sms} (k : Q .ct ρ) : seqK T n r Q .ct ρ := k
theorem ws_set {i : Nat} {e : Ex} (h : WP (ev T e ρ) fun o ρ1 => WP (celOd ρ1 o) fun c ρ2 => Q .nx (ρ2.set i c)) : WP (ex T n (.set i e) ρ) Q := by
  obtain ⟨o, ρ1, e1, c, ρ2, e2, k⟩ := h
  exact ⟨_, _, by show (ev T e ρ).bind _ = _; rw [e1]; show (celOd ρ1 o).map _ = _; rw [e2]; rfl, k⟩
theorem wco_t {K : Cell → Rho → Prop} {c : Cell} (k : K c ρ) : WP (celOd ρ (.t c)) K := ⟨_, _, rfl, k⟩
theorem wco_v {K : Cell → Rho → Prop} {i : Nat} {d : D} (hc : cellAt ρ i = .dat d) (k : K (.dat d) ρ) : WP (celOd ρ (.v i)) K := by
  refine ⟨_, _, ?_, k⟩
  have : frz ρ (.v i) = some (d, ρ) := by
    show (match cellAt ρ i with
      | .dat d => some (d, ρ)
      | .own ds => some (.list ds, ρ.set i (.dat (.list ds)))
      | _ => none) = _
    rw [hc]
  show (frz ρ (.v i)).map _ = _
  rw [this]; rfl
theorem wco_w {K : Cell → Rho → Prop} {i : Nat} {xs : List D} (hc : cellAt ρ i = .own xs) (k : K (.dat (.list xs)) (ρ.set i (.dat (.list xs)))) : WP (celOd ρ (.v i)) K := by
  refine ⟨_, _, ?_, k⟩
  have : frz ρ (.v i) = some (.list xs, ρ.set i (.dat (.list xs))) := by
    show (match cellAt ρ i with
      | .dat d => some (d, ρ)
      | .own ds => some (.list ds, ρ.set i (.dat (.list ds)))
      | _ => none) = _
    rw [hc]
  show (frz ρ (.v i)).map _ = _
  rw [this]; rfl
theorem wcos_nil {K : List Cell → Rho → Prop} (k : K [] ρ) : WP (celOds ρ []) K := ⟨_, _, rfl, k⟩
theorem wcos_cons {K : List Cell → Rho → Prop} {o : Od} {os : List Od} (h : WP (celOd ρ o) fun c ρ1 => WP (celOds ρ1 os) fun cs ρ2 => K (c :: cs) ρ2) : WP (celOds ρ (o :: os)) K := by
  obtain ⟨c, ρ1, e1, cs, ρ2, e2, k⟩ := h
  exact ⟨_, _, by show (celOd ρ o).bind _ = _; rw [e1]; show (celOds ρ1 os).map _ = _; rw [e2]; rfl, k⟩
theorem wf1_t {K : D → Rho → Prop} {d : D} (k : K d ρ) : WP (frz ρ (.t (.dat d))) K := ⟨_, _, rfl, k⟩
theorem wf1_o {K : D → Rho → Prop} {xs : List D} (k : K (.list xs) ρ) : WP (frz ρ (.t (.own xs))) K := ⟨_, _, rfl, k⟩
theorem wf1_v {K : D → Rho → Prop} {i : Nat} {d : D} (hc : cellAt ρ i = .dat d) (k : K d ρ) : WP (frz ρ (.v i)) K := by
  refine ⟨_, _, ?_, k⟩
  show (match cellAt ρ i with
      | .dat d => some (d, ρ)
      | .own ds => some (.list ds, ρ.set i (.dat (.list ds)))
      | _ => none) = _
  rw [hc]
theorem wf1_w {K : D → Rho → Prop} {i : Nat} {xs : List D} (hc : cellAt ρ i = .own xs) (k : K (.list xs) (ρ.set i (.dat (.list xs)))) : WP (frz ρ (.v i)) K := by
  refine ⟨_, _, ?_, k⟩
  show (match cellAt ρ i with
      | .dat d => some (d, ρ)
      | .own ds => some (.list ds, ρ.set i (.dat (.list ds)))
      | _ => none) = _
  rw [hc]
theorem ws_asg {tg : Tg} {e : Ex} (h : WP (ev T e ρ) fun o ρ1 => WP (frz ρ1 o) fun d ρ2 => WV (bindTg tg d ρ2) fun ρ3 => Q .nx ρ3) : WP (ex T n (.asg tg e) ρ) Q := by
  obtain ⟨o, ρ1, e1, d, ρ2, e2, ρ3, e3, k⟩ := h
  exact ⟨_, _, by show (ev T e ρ).bind _ = _; rw [e1]; show (frz ρ1 o).bind _ = _; rw [e2]; show (bindTg tg d ρ2).map _ = _; rw [e3]; rfl, k⟩
theorem ws_par {is : List Nat} {es : Exs} (h : WP (evs T es ρ) fun os ρ1 => WP (celOds ρ1 os) fun cs ρ2 => Q .nx (setAll is cs ρ2)) : WP (ex T n (.par is es) ρ) Q := by
  obtain ⟨o, ρ1, e1, c, ρ2, e2, k⟩ := h
  exact ⟨_, _, by show (evs T es ρ).bind _ = _; rw [e1]; show (celOds ρ1 o).map _ = _; rw [e2]; rfl, k⟩
theorem ws_exp {e : Ex} (h : WP (ev T e ρ) fun _ ρ1 => Q .nx ρ1) : WP (ex T n (.exp e) ρ) Q := by
  obtain ⟨o, ρ1, e1, k⟩ := h
  exact ⟨_, _, by show (ev T e ρ).map _ = _; rw [e1]; rfl, k⟩
theorem ws_ret {e : Ex} (h : WP (ev T e ρ) fun o ρ1 => Q (.rt o) ρ1) : WP (ex T n (.ret e) ρ) Q := by
  obtain ⟨o, ρ1, e1, k⟩ := h
  exact ⟨_, _, by show (ev T e ρ).map _ = _; rw [e1]; rfl, k⟩
theorem ws_retN (k : Q (.rt (.t (.dat .none))) ρ) : WP (ex T n .retN ρ) Q := ⟨_, _, rfl, k⟩
theorem ws_pas (k : Q .nx ρ) : WP (ex T n .pas ρ) Q := ⟨_, _, rfl, k⟩
theorem ws_brk (k : Q .bk ρ) : WP (ex T n .brk ρ) Q := ⟨_, _, rfl, k⟩
theorem ws_cnt (k : Q .ct ρ) : WP (ex T n .cnt ρ) Q := ⟨_, _, rfl, k⟩
theorem ws_ite {c : Ex} {a b : Sms} (h : WP (ev T c ρ) fun o ρ1 => WV (testOd ρ1 o) fun k => (k = true → WP (exs T n a ρ1) Q) ∧ (k = false → WP (exs T n b ρ1) Q)) : WP (ex T n (.ite c a b) ρ) Q := by
  obtain ⟨o1, ρ1, e1, k, e2, h1, h2⟩ := h
  cases k with
  | true =>
    obtain ⟨o3, ρ3, e6, q⟩ := h1 rfl
    exact ⟨_, _, by show (ev T c ρ).bind _ = _; rw [e1]; show (testOd ρ1 o1).bind _ = _; rw [e2]; exact e6, q⟩
  | false =>
    obtain ⟨o3, ρ3, e6, q⟩ := h2 rfl
    exact ⟨_, _, by show (ev T c ρ).bind _ = _; rw [e1]; show (testOd ρ1 o1).bind _ = _; rw [e2]; exact e6, q⟩
theorem ws_for {tg : Tg} {it : Itr} {b : Sms} (h : WP (evi T it ρ) fun ds ρ1 => WP (forL tg (exs T n b) ds ρ1) Q) : WP (ex T n (.for_ tg it b) ρ) Q := by
  obtain ⟨ds, ρ1, e1, o, ρ2, e2, k⟩ := h
  exact ⟨_, _, by show (evi T it ρ).bind _ = _; rw [e1]; exact e2, k⟩
/-- what a turn's end leads to -/
def turnK (nx : Rho → Prop) (Q : Out → Rho → Prop) : Out → Rho → Prop
  | .nx, ρ => nx ρ
  | .ct, ρ => nx ρ
  | .bk, ρ => Q .nx ρ
  | .rt o, ρ => Q (.rt o) ρ
theorem wfor_nil {tg : Tg} {b : Rho → Option (Out × Rho)} (k : Q .nx ρ) : WP (forL tg b [] ρ) Q := ⟨_, _, rfl, k⟩
theorem wfor_cons {tg : Tg} {b : Rho → Option (Out × Rho)} {d : D} {ds : List D} (h : WV (bindTg tg d ρ) fun ρ1 => WP (b ρ1) (turnK (fun ρ2 => WP (forL tg b ds ρ2) Q) Q)) : WP (forL tg b (d :: ds) ρ) Q := by
  obtain ⟨ρ1, e1, o, ρ2, e2, k⟩ := h
  cases o with
  | nx =>
    obtain ⟨o3, ρ3, e3, q⟩ := k
    exact ⟨_, _, by show (bindTg tg d ρ).bind _ = _; rw [e1]; show (b ρ1).bind _ = _; rw [e2]; exact e3, q⟩
  | ct =>
    obtain ⟨o3, ρ3, e3, q⟩ := k
    exact ⟨_, _, by show (bindTg tg d ρ).bind _ = _; rw [e1]; show (b ρ1).bind _ = _; rw [e2]; exact e3, q⟩
  | bk => exact ⟨_, _, by show (bindTg tg d ρ).bind _ = _; rw [e1]; show (b ρ1).bind _ = _; rw [e2]; rfl, k⟩
  | rt o => exact ⟨_, _, by show (bindTg tg d ρ).bind _ = _; rw [e1]; show (b ρ1).bind _ = _; rw [e2]; rfl, k⟩
/-- a loop by an invariant of the turn's number -/
theorem wfor_inv {tg : Tg} {b : Rho → Option (Out × Rho)} {ds : List D} (Inv : Nat → Rho → Prop) (h0 : Inv 0 ρ) (step : ∀ i d ρ, ds[i]? = some d → Inv i ρ → WV (bindTg tg d ρ) fun ρ1 => WP (b ρ1) (turnK (Inv (i + 1)) Q)) (he : ∀ ρ, Inv ds.length ρ → Q .nx ρ) : WP (forL tg b ds ρ) Q := by
  induction ds generalizing ρ Inv with
  | nil => exact wfor_nil (he ρ h0)
  | cons d ds ih =>
    refine wfor_cons ?_
    obtain ⟨ρ1, e1, o, ρ2, e2, k⟩ := step 0 d ρ rfl h0
    refine ⟨ρ1, e1, o, ρ2, e2, ?_⟩
    have go : ∀ ρ2, Inv 1 ρ2 → WP (forL tg b ds ρ2) Q := fun ρ2 h => ih (fun i => Inv (i + 1)) h (fun i d' ρ' hd hi => step (i + 1) d' ρ' (by simpa using hd) hi) fun ρ' h => he ρ' h
    cases o with
    | nx => exact go _ k
    | ct => exact go _ k
    | bk => exact k
    | rt o => exact k
theorem ws_whl {c : Ex} {b : Sms} (h : WP (whlL (fun ρ => (ev T c ρ).bind fun r => (testOd r.2 r.1).map fun k => (k, r.2)) (exs T n b) n ρ) Q) : WP (ex T n (.whl c b) ρ) Q := h
end
/-! ### comprehension loops -/
section
variable {turn : D → Rho → Option (Option D × Rho)} {own : List Nat} {K : List D → Rho → Prop}
theorem wlc_nil (k : K [] ρ) : WP (lcLoop turn own [] ρ) K := ⟨_, _, rfl, k⟩
def keepK (y : Option D) (ys : List D) : List D := match y with
  | some y => y :: ys
  | none => ys
theorem wlc_cons {d : D} {ds : List D} (h : WP (turn d (wipeR ρ own)) fun y ρ1 => WP (lcLoop turn own ds ρ1) fun ys ρ2 => K (keepK y ys) ρ2) : WP (lcLoop turn own (d :: ds) ρ) K := by
  obtain ⟨y, ρ1, e1, ys, ρ2, e2, k⟩ := h
  refine ⟨_, _, ?_, k⟩
  show (turn d (wipeR ρ own)).bind _ = _
  rw [e1]
  show (lcLoop turn own ds ρ1).map _ = _
  rw [e2]
  cases y <;> rfl
theorem wtn {elt : Ex} {tg : Tg} {c : Oex} {d : D} {K : Option D → Rho → Prop} (h : WV (bindTg tg d ρ) fun ρ1 => WP (evc T c ρ1) fun k ρ2 => (k = true → WP (ev T elt ρ2) fun o ρ3 => WP (frz ρ3 o) fun y ρ4 => K (some y) ρ4) ∧ (k = false → K none ρ2)) : WP (lcTurn T elt tg c d ρ) K := by
  obtain ⟨ρ1, e1, k, ρ2, e2, h1, h2⟩ := h
  cases k with
  | true =>
    obtain ⟨o, ρ3, e3, y, ρ4, e4, q⟩ := h1 rfl
    exact ⟨_, _, by show (bindTg tg d ρ).bind _ = _; rw [e1]; show (evc T c ρ1).bind _ = _; rw [e2]; show (ev T elt ρ2).bind _ = _; rw [e3]; show (frz ρ3 o).map _ = _; rw [e4]; rfl, q⟩
  | false => exact ⟨_, _, by show (bindTg tg d ρ).bind _ = _; rw [e1]; show (evc T c ρ1).bind _ = _; rw [e2]; rfl, h2 rfl⟩
end
/-! ### operators -/
theorem wb_mul {K : Cell → Prop} {i j : Int} (h : mulOk i j = true) (k : K (.dat (.int (i * j)))) : WV (binD .Mult (.int i) (.int j)) K := ⟨_, by show (if mulOk i j = true then _ else none) = _; rw [if_pos h], k⟩
theorem wb_div {K : Cell → Prop} {i j : Int} (h : divOk j = true) (k : K (.dat (.int (i.fdiv j)))) : WV (binD .FloorDiv (.int i) (.int j)) K := ⟨_, by show (if divOk j = true then _ else none) = _; rw [if_pos h], k⟩
theorem wb_mod {K : Cell → Prop} {i j : Int} (h : j ≠ 0) (k : K (.dat (.int (i.fmod j)))) : WV (binD .Mod (.int i) (.int j)) K := ⟨_, by show (if j = 0 then none else _) = _; rw [if_neg h], k⟩
theorem wq_int {K : Bool → Prop} {i j : Int} (k : K (decide (i = j))) : WV (cmpD .Eq (.int i) (.int j)) K := by
  refine ⟨decide (i = j), ?_, k⟩
  have e : PyData.eqv (.int i) (.int j) = decide (i = j) := by
    simp only [PyData.eqv]
    by_cases h : i = j
    · rw [decide_eq_true h, h]; simp
    · rw [decide_eq_false h]; exact beq_eq_false_iff_ne.mpr h
  show eqD (.int i) (.int j) = _
  unfold eqD
  rw [if_pos (show scalD (.int i) (.int j) = true from rfl), e]
theorem wqn_int {K : Bool → Prop} {i j : Int} (k : K (!decide (i = j))) : WV (cmpD .NotEq (.int i) (.int j)) K := by
  obtain ⟨b, e, q⟩ := wq_int (K := fun b => K (!b)) k
  exact ⟨!b, by show (eqD (.int i) (.int j)).map _ = _; rw [show eqD (.int i) (.int j) = some b from e]; rfl, q⟩
/-! ### targets -/
theorem wbt_n {K : Rho → Prop} {i : Nat} {d : D} (k : K (ρ.set i (.dat d))) : WV (bindTg (.n i) d ρ) K := ⟨_, rfl, k⟩
theorem wbt_t {K : Rho → Prop} {ts : List Tg} {ds : List D} (h : WV (bindTg.go ts ds ρ) K) : WV (bindTg (.t ts) (.tuple ds) ρ) K := h
theorem wbg_nil {K : Rho → Prop} (k : K ρ) : WV (bindTg.go [] [] ρ) K := ⟨_, rfl, k⟩
theorem wbg_cons {K : Rho → Prop} {t : Tg} {ts : List Tg} {d : D} {ds : List D} (h : WV (bindTg t d ρ) fun ρ1 => WV (bindTg.go ts ds ρ1) K) : WV (bindTg.go (t :: ts) (d :: ds) ρ) K := by
  obtain ⟨ρ1, e1, ρ2, e2, k⟩ := h
  exact ⟨ρ2, by show (bindTg t d ρ).bind _ = _; rw [e1]; exact e2, k⟩
/-! ### isinstance -/
def tInt : D → Bool
  | .int _ => true
  | .bool _ => true
  | _ => false
def tBool : D → Bool
  | .bool _ => true
  | _ => false
def tTup : D → Bool
  | .tuple _ => true
  | _ => false
def tLst : D → Bool
  | .list _ => true
  | _ => false
def tStr : D → Bool
  | .str _ => true
  | _ => false
theorem isi_int (d : D) : isiOne d "int" = tInt d := by cases d <;> simp [isiOne, tyName, isiT, tInt]
theorem isi_bool (d : D) : isiOne d "bool" = tBool d := by cases d <;> simp [isiOne, tyName, isiT, tBool]
theorem isi_tup (d : D) : isiOne d "tuple" = tTup d := by cases d <;> simp [isiOne, tyName, isiT, tTup]
theorem isi_lst (d : D) : isiOne d "list" = tLst d := by cases d <;> simp [isiOne, tyName, isiT, tLst]
theorem isi_str (d : D) : isiOne d "str" = tStr d := by cases d <;> simp [isiOne, tyName, isiT, tStr]
section
variable {Q : Od → Rho → Prop} {a : Ex}
theorem we_isi1 {t : String} {f : D → Bool} (ht : isiOk [t] = true) (hf : ∀ d, isiOne d t = f d) (h : WP (ev T a ρ) fun o ρ1 => WV (lookD ρ1 o) fun x => noDict x = true ∧ Q (.t (.dat (.bool (f x)))) ρ1) : WP (ev T (.isi a [t]) ρ) Q := by
  refine we_isi ht (h.mono fun o ρ1 h => h.mono fun x h => ⟨h.1, ?_⟩)
  rw [List.any_cons, List.any_nil, Bool.or_false, hf]; exact h.2
theorem we_isi2 {t u : String} {f g : D → Bool} (ht : isiOk [t, u] = true) (hf : ∀ d, isiOne d t = f d) (hg : ∀ d, isiOne d u = g d) (h : WP (ev T a ρ) fun o ρ1 => WV (lookD ρ1 o) fun x => noDict x = true ∧ Q (.t (.dat (.bool (f x || g x)))) ρ1) : WP (ev T (.isi a [t, u]) ρ) Q := by
  refine we_isi ht (h.mono fun o ρ1 h => h.mono fun x h => ⟨h.1, ?_⟩)
  rw [List.any_cons, List.any_cons, List.any_nil, Bool.or_false, hf, hg]; exact h.2
theorem we_isi_int (h : WP (ev T a ρ) fun o ρ1 => WV (lookD ρ1 o) fun x => noDict x = true ∧ Q (.t (.dat (.bool (tInt x)))) ρ1) : WP (ev T (.isi a ["int"]) ρ) Q := we_isi1 (by decide) isi_int h
theorem we_isi_bool (h : WP (ev T a ρ) fun o ρ1 => WV (lookD ρ1 o) fun x => noDict x = true ∧ Q (.t (.dat (.bool (tBool x)))) ρ1) : WP (ev T (.isi a ["bool"]) ρ) Q := we_isi1 (by decide) isi_bool h
theorem we_isi_tup (h : WP (ev T a ρ) fun o ρ1 => WV (lookD ρ1 o) fun x => noDict x = true ∧ Q (.t (.dat (.bool (tTup x)))) ρ1) : WP (ev T (.isi a ["tuple"]) ρ) Q := we_isi1 (by decide) isi_tup h
theorem we_isi_lst (h : WP (ev T a ρ) fun o ρ1 => WV (lookD ρ1 o) fun x => noDict x = true ∧ Q (.t (.dat (.bool (tLst x)))) ρ1) : WP (ev T (.isi a ["list"]) ρ) Q := we_isi1 (by decide) isi_lst h
theorem we_isi_str (h : WP (ev T a ρ) fun o ρ1 => WV (lookD ρ1 o) fun x => noDict x = true ∧ Q (.t (.dat (.bool (tStr x)))) ρ1) : WP (ev T (.isi a ["str"]) ρ) Q := we_isi1 (by decide) isi_str h
theorem we_isi_tl (h : WP (ev T a ρ) fun o ρ1 => WV (lookD ρ1 o) fun x => noDict x = true ∧ Q (.t (.dat (.bool (tTup x || tLst x)))) ρ1) : WP (ev T (.isi a ["tuple", "list"]) ρ) Q := we_isi2 (by decide) isi_tup isi_lst h
end
/-! ### tests -/
theorem wif_t {A B : Prop} (h : A) : (true = true → A) ∧ (true = false → B) := ⟨fun _ => h, fun z => nomatch z⟩
theorem wif_f {A B : Prop} (h : B) : (false = true → A) ∧ (false = false → B) := ⟨fun z => (nomatch z), fun _ => h⟩
theorem wor_f {A B : Prop} (h : A) : (false = false → A) ∧ (false = true → B) := ⟨fun _ => h, fun z => nomatch z⟩
theorem wor_t {A B : Prop} (h : B) : (true = false → A) ∧ (true = true → B) := ⟨fun z => (nomatch z), fun _ => h⟩
/-! ### a def's body -/
theorem wf_run {T : Tab} {b : Sms} {L : Nat} {io : Bool} {cs : List Cell} {K : Cell → Cell → Prop} (h : WP (exs T fuel b (cs ++ List.replicate (L - cs.length) .emp)) fun o ρ => WP (endB io (o, ρ)) K) : WF (mkF T b L io) cs K := by
  obtain ⟨o, ρ, e1, c, out, e2, k⟩ := h
  exact ⟨_, _, by show (exs T fuel b (cs ++ List.replicate (L - cs.length) .emp)).bind (endB io) = _; rw [e1]; exact e2, k⟩
end Lt

/-! Lt, part 19: running an IR forwards by rewriting. -/
namespace Lt
open PySem L2
theorem WV_congr {α : Type} {x x' : Option α} {K : α → Prop} (h : x = x') : WV x K = WV x' K := by rw [h]
theorem WP_congr {α β : Type} {x x' : Option (α × β)} {K : α → β → Prop} (h : x = x') : WP x K = WP x' K := by rw [h]
theorem WF_congr {F : List Cell → Option (Cell × Cell)} {cs cs' : List Cell} {K : Cell → Cell → Prop} (h : cs = cs') : WF F cs K = WF F cs' K := by rw [h]
theorem WV_some {α : Type} {a : α} {K : α → Prop} : WV (some a) K = K a := propext ⟨fun ⟨_, e, k⟩ => by cases e; exact k, fun k => ⟨a, rfl, k⟩⟩
theorem WP_some {α β : Type} {a : α} {b : β} {K : α → β → Prop} : WP (some (a, b)) K = K a b := propext ⟨fun ⟨_, _, e, k⟩ => by cases e; exact k, fun k => ⟨a, b, rfl, k⟩⟩
theorem WV_if {α : Type} {c : Prop} [Decidable c] {a : α} {K : α → Prop} : WV (if c then some a else none) K = (c ∧ K a) := by
  by_cases h : c
  · rw [if_pos h, WV_some]; exact propext ⟨fun k => ⟨h, k⟩, fun k => k.2⟩
  · rw [if_neg h]; exact propext ⟨fun ⟨_, e, _⟩ => (nomatch e), fun k => absurd k.1 h⟩
theorem WV_map {α β : Type} {x : Option α} {f : α → β} {K : β → Prop} : WV (x.map f) K = WV x fun a => K (f a) := by
  cases x with
  | none => exact propext ⟨fun ⟨_, e, _⟩ => (nomatch e), fun ⟨_, e, _⟩ => (nomatch e)⟩
  | some a => show WV (some (f a)) K = _; rw [WV_some, WV_some]
theorem WV_bind {α β : Type} {x : Option α} {f : α → Option β} {K : β → Prop} : WV (x.bind f) K = WV x fun a => WV (f a) K := by
  cases x with
  | none => exact propext ⟨fun ⟨_, e, _⟩ => (nomatch e), fun ⟨_, e, _⟩ => (nomatch e)⟩
  | some a => show WV (f a) K = _; rw [WV_some]
theorem WP_bindV {α β γ : Type} {x : Option α} {f : α → Option (β × γ)} {K : β → γ → Prop} : WP (x.bind f) K = WV x fun a => WP (f a) K := by
  cases x with
  | none => exact propext ⟨fun ⟨_, _, e, _⟩ => (nomatch e), fun ⟨_, e, _⟩ => (nomatch e)⟩
  | some a => show WP (f a) K = _; rw [WV_some]
theorem WP_bindP {α β γ δ : Type} {x : Option (α × β)} {f : α × β → Option (γ × δ)} {K : γ → δ → Prop} : WP (x.bind f) K = WP x fun a b => WP (f (a, b)) K := by
  cases x with
  | none => exact propext ⟨fun ⟨_, _, e, _⟩ => (nomatch e), fun ⟨_, _, e, _⟩ => (nomatch e)⟩
  | some a => obtain ⟨a, b⟩ := a; show WP (f (a, b)) K = _; rw [WP_some]
theorem WP_mapV {α β γ : Type} {x : Option α} {f : α → β × γ} {K : β → γ → Prop} : WP (x.map f) K = WV x fun a => K (f a).1 (f a).2 := by
  cases x with
  | none => exact propext ⟨fun ⟨_, _, e, _⟩ => (nomatch e), fun ⟨_, e, _⟩ => (nomatch e)⟩
  | some a => show WP (some ((f a).1, (f a).2)) K = _; rw [WP_some, WV_some]
theorem WP_mapP {α β γ δ : Type} {x : Option (α × β)} {f : α × β → γ × δ} {K : γ → δ → Prop} : WP (x.map f) K = WP x fun a b => K (f (a, b)).1 (f (a, b)).2 := by
  cases x with
  | none => exact propext ⟨fun ⟨_, _, e, _⟩ => (nomatch e), fun ⟨_, _, e, _⟩ => (nomatch e)⟩
  | some a => obtain ⟨a, b⟩ := a; show WP (some ((f (a, b)).1, (f (a, b)).2)) K = _; rw [WP_some, WP_some]
theorem WV_pair {α β : Type} {x : Option (α × β)} {K : α × β → Prop} : WV x K = WP x fun a b => K (a, b) := propext ⟨fun ⟨⟨a, b⟩, e, k⟩ => ⟨a, b, e, k⟩, fun ⟨a, b, e, k⟩ => ⟨(a, b), e, k⟩⟩
theorem WP_mono {α β : Type} {x : Option (α × β)} {K K' : α → β → Prop} (h : WP x K) (hk : ∀ a b, K a b → K' a b) : WP x K' := h.mono hk
/-- a test's two ways -/
def IT (k : Bool) (A B : Prop) : Prop := (k = true → A) ∧ (k = false → B)
theorem IT_congr {k k' : Bool} {A B : Prop} (h : k = k') : IT k A B = IT k' A B := by rw [h]
theorem IT_t {A B : Prop} : IT true A B = A := propext ⟨fun h => h.1 rfl, fun h => ⟨fun _ => h, fun z => nomatch z⟩⟩
theorem IT_f {A B : Prop} : IT false A B = B := propext ⟨fun h => h.2 rfl, fun h => ⟨fun z => (nomatch z), fun _ => h⟩⟩
theorem IT_not {k : Bool} {A B : Prop} : IT (!k) A B = IT k B A := by cases k <;> simp [IT]
theorem IT.pos {p : Prop} [Decidable p] {A B : Prop} (h : p) (a : A) : IT (decide p) A B := by rw [decide_eq_true h, IT_t]; exact a
theorem IT.neg {p : Prop} [Decidable p] {A B : Prop} (h : ¬p) (b : B) : IT (decide p) A B := by rw [decide_eq_false h, IT_f]; exact b
theorem IT.dec {p : Prop} [Decidable p] {A B : Prop} (a : p → A) (b : ¬p → B) : IT (decide p) A B := by
  by_cases h : p
  · exact .pos h (a h)
  · exact .neg h (b h)
theorem IT.and {j k : Bool} {A B : Prop} : IT (j && k) A B = IT j (IT k A B) B := by cases j <;> cases k <;> simp [IT]
theorem IT.or {j k : Bool} {A B : Prop} : IT (j || k) A B = IT j A (IT k A B) := by cases j <;> cases k <;> simp [IT]
/-! ### cells -/
def AtD (c : Cell) (K : D → Prop) : Prop := WV (c.vw.bind Vw.asD) K
theorem AtD_dat {d : D} {K : D → Prop} : AtD (.dat d) K = K d := WV_some
theorem AtD_own {ds : List D} {K : D → Prop} : AtD (.own ds) K = K (.list ds) := WV_some
theorem AtD_congr {c c' : Cell} {K : D → Prop} (h : c = c') : AtD c K = AtD c' K := by rw [h]
def AtV (c : Cell) (K : Vw → Prop) : Prop := WV c.vw K
theorem AtV_dat {d : D} {K : Vw → Prop} : AtV (.dat d) K = K (.d d) := WV_some
theorem AtV_own {ds : List D} {K : Vw → Prop} : AtV (.own ds) K = K (.d (.list ds)) := WV_some
theorem AtV_dic {ds : List (D × D)} {K : Vw → Prop} : AtV (.dic ds) K = K (.dc ds) := WV_some
theorem AtV_congr {c c' : Cell} {K : Vw → Prop} (h : c = c') : AtV c K = AtV c' K := by rw [h]
/-- frozen: the data, the new cells -/
def FrC (c : Cell) (ρ : Rho) (i : Nat) (K : D → Rho → Prop) : Prop := match c with
  | .dat d => K d ρ
  | .own ds => K (.list ds) (ρ.set i (.dat (.list ds)))
  | _ => False
theorem FrC_dat {d : D} {ρ : Rho} {i : Nat} {K : D → Rho → Prop} : FrC (.dat d) ρ i K = K d ρ := rfl
theorem FrC_own {ds : List D} {ρ : Rho} {i : Nat} {K : D → Rho → Prop} : FrC (.own ds) ρ i K = K (.list ds) (ρ.set i (.dat (.list ds))) := rfl
theorem FrC_congr {c c' : Cell} {ρ : Rho} {i : Nat} {K : D → Rho → Prop} (h : c = c') : FrC c ρ i K = FrC c' ρ i K := by rw [h]
def NotE (c : Cell) : Prop := notE c = true
theorem NotE_dat {d : D} : NotE (.dat d) = True := propext ⟨fun _ => trivial, fun _ => rfl⟩
theorem NotE_own {d : List D} : NotE (.own d) = True := propext ⟨fun _ => trivial, fun _ => rfl⟩
theorem NotE_dic {d : List (D × D)} : NotE (.dic d) = True := propext ⟨fun _ => trivial, fun _ => rfl⟩
theorem cell0 {c : Cell} {r : Rho} : cellAt (c :: r) 0 = c := rfl
theorem cellS {c : Cell} {r : Rho} {i : Nat} : cellAt (c :: r) (i + 1) = cellAt r i := rfl
theorem set0 {c d : Cell} {r : Rho} : List.set (c :: r) 0 d = d :: r := rfl
theorem setS {c d : Cell} {r : Rho} {i : Nat} : List.set (c :: r) (i + 1) d = c :: List.set r i d := rfl
section
variable {T : Tab} {n : Nat} {ρ : Rho} {Q : Od → Rho → Prop} {a b c : Ex} {es kes : Exs}
theorem q_var {i : Nat} : WP (ev T (.var i) ρ) Q = (NotE (cellAt ρ i) ∧ Q (.v i) ρ) := by
  show WP (match cellAt ρ i with
    | .emp => none
    | _ => some (Od.v i, ρ)) Q = _
  unfold NotE
  cases h : cellAt ρ i
  · exact propext ⟨fun ⟨_, _, e, _⟩ => (nomatch e), fun k => nomatch k.1⟩
  all_goals rw [WP_some]; exact propext ⟨fun k => ⟨rfl, k⟩, fun k => k.2⟩
theorem q_con {d : D} : WP (ev T (.con d) ρ) Q = Q (.t (.dat d)) ρ := WP_some
theorem q_glb {j : Nat} {d : D} (h : T.gl j = some d) : WP (ev T (.glb j) ρ) Q = Q (.t (.dat d)) ρ := by
  show WP ((T.gl j).map _) Q = _
  rw [h]; exact WP_some
theorem q_bin {op : Operator} : WP (ev T (.bin op a b) ρ) Q = WP (ev T a ρ) fun o1 ρ1 => WP (ev T b ρ1) fun o2 ρ2 => WV (lookD ρ2 o1) fun x => WV (lookD ρ2 o2) fun y => WV (binD op x y) fun c => Q (.t c) ρ2 := by
  show WP ((ev T a ρ).bind _) Q = _
  simp only [WP_bindV, WP_mapV, WV_pair]
def negD (x : D) : Option D := match x with
  | .int i => some (.int (-i))
  | _ => none
theorem neg_int {i : Int} {K : D → Prop} : WV (negD (.int i)) K = K (.int (-i)) := WV_some
theorem q_neg : WP (ev T (.neg a) ρ) Q = WP (ev T a ρ) fun o ρ1 => WV (lookD ρ1 o) fun x => WV (negD x) fun y => Q (.t (.dat y)) ρ1 := by
  show WP ((ev T a ρ).bind _) Q = _
  simp only [WP_bindV, WV_pair]
  congr; funext o ρ1; congr; funext x
  cases x <;> first | (show WP (some _) _ = WV (some _) _; rw [WP_some, WV_some]) | exact propext ⟨fun ⟨_, _, e, _⟩ => (nomatch e), fun ⟨_, e, _⟩ => nomatch e⟩
theorem q_not : WP (ev T (.not a) ρ) Q = WP (ev T a ρ) fun o ρ1 => WV (testOd ρ1 o) fun b => Q (.t (.dat (.bool (!b)))) ρ1 := by
  show WP ((ev T a ρ).bind _) Q = _
  simp only [WP_bindV, WP_mapV, WV_pair]
/-- a comparison with what is looked at -/
def cmpV (op : CmpOp) (x : D) : Vw → Option Bool
  | .d y => cmpD op x y
  | .dc kvs => match op with
    | .In => if keyOk x then some (dGet kvs x).isSome else none
    | .NotIn => if keyOk x then some (!(dGet kvs x).isSome) else none
    | _ => none
theorem cmpV_d {op : CmpOp} {x y : D} {K : Bool → Prop} : WV (cmpV op x (.d y)) K = WV (cmpD op x y) K := rfl
theorem cmpV_in {x : D} {kvs : List (D × D)} {K : Bool → Prop} : WV (cmpV .In x (.dc kvs)) K = (keyOk x = true ∧ K (dGet kvs x).isSome) := WV_if
theorem cmpV_notIn {x : D} {kvs : List (D × D)} {K : Bool → Prop} : WV (cmpV .NotIn x (.dc kvs)) K = (keyOk x = true ∧ K (!(dGet kvs x).isSome)) := WV_if
theorem q_cmp {op : CmpOp} : WP (ev T (.cmp op a b) ρ) Q = WP (ev T a ρ) fun o1 ρ1 => WP (ev T b ρ1) fun o2 ρ2 => WV (lookD ρ2 o1) fun x => WV (look ρ2 o2) fun y => WV (cmpV op x y) fun k => Q (.t (.dat (.bool k))) ρ2 := by
  show WP ((ev T a ρ).bind _) Q = _
  simp only [WP_bindV, WV_pair]
  congr; funext o1 ρ1; congr; funext o2 ρ2; congr; funext x; congr; funext y
  cases y with
  | d y => exact WP_mapV
  | dc kvs =>
    have nn : ∀ {K : Od → Rho → Prop} {K' : Bool → Prop}, WP (none : Option (Od × Rho)) K = WV (none : Option Bool) K' := fun {_ _} => propext ⟨fun ⟨_, _, e, _⟩ => (nomatch e), fun ⟨_, e, _⟩ => nomatch e⟩
    cases op <;> first
      | exact nn
      | (show WP (if keyOk x then _ else none) _ = WV (if keyOk x then _ else none) _
         by_cases h : keyOk x = true
         · rw [if_pos h, if_pos h, WP_some, WV_some]
         · rw [if_neg h, if_neg h]; exact nn)
/-- and, or: the second part (which hands on a truth and the cells) is looked at where the first leaves it open -/
def ANDK (k : Bool) (E : (Bool → Rho → Prop) → Prop) (ρ : Rho) (Q : Bool → Rho → Prop) : Prop := IT k (E Q) (Q false ρ)
def ORK (k : Bool) (E : (Bool → Rho → Prop) → Prop) (ρ : Rho) (Q : Bool → Rho → Prop) : Prop := IT k (Q true ρ) (E Q)
theorem AN_t {E : (Bool → Rho → Prop) → Prop} {Q : Bool → Rho → Prop} : ANDK true E ρ Q = E Q := IT_t
theorem AN_f {E : (Bool → Rho → Prop) → Prop} {Q : Bool → Rho → Prop} : ANDK false E ρ Q = Q false ρ := IT_f
theorem OR_t {E : (Bool → Rho → Prop) → Prop} {Q : Bool → Rho → Prop} : ORK true E ρ Q = Q true ρ := IT_t
theorem OR_f {E : (Bool → Rho → Prop) → Prop} {Q : Bool → Rho → Prop} : ORK false E ρ Q = E Q := IT_f
theorem AN_p {k k' : Bool} {Q : Bool → Rho → Prop} : ANDK k (fun R => R k' ρ) ρ Q = Q (k && k') ρ := by cases k <;> simp [ANDK, IT]
theorem OR_p {k k' : Bool} {Q : Bool → Rho → Prop} : ORK k (fun R => R k' ρ) ρ Q = Q (k || k') ρ := by cases k <;> simp [ORK, IT]
theorem ANDK.cut {k : Bool} {E : (Bool → Rho → Prop) → Prop} {Q : Bool → Rho → Prop} (h1 : k = true → E Q) (h2 : k = false → Q false ρ) : ANDK k E ρ Q := ⟨h1, h2⟩
theorem ORK.cut {k : Bool} {E : (Bool → Rho → Prop) → Prop} {Q : Bool → Rho → Prop} (h1 : k = true → Q true ρ) (h2 : k = false → E Q) : ORK k E ρ Q := ⟨h1, h2⟩
theorem ANDK.known {k : Bool} {E : (Bool → Rho → Prop) → Prop} {Q : Bool → Rho → Prop} (b : Bool) (h : ∀ Q' : Bool → Rho → Prop, Q' b ρ → ANDK k E ρ Q') (hq : Q b ρ) : ANDK k E ρ Q := h Q hq
theorem ORK.known {k : Bool} {E : (Bool → Rho → Prop) → Prop} {Q : Bool → Rho → Prop} (b : Bool) (h : ∀ Q' : Bool → Rho → Prop, Q' b ρ → ORK k E ρ Q') (hq : Q b ρ) : ORK k E ρ Q := h Q hq
theorem q_chn {op op' : CmpOp} : WP (ev T (.chn op op' a b c) ρ) Q = WP (ev T a ρ) fun o1 ρ1 => WP (ev T b ρ1) fun o2 ρ2 => WV (lookD ρ2 o1) fun x => WV (lookD ρ2 o2) fun y => WV (cmpD op x y) fun k => ANDK k (fun R => WP (ev T c ρ2) fun o3 ρ3 => WV (lookD ρ3 o2) fun y => WV (lookD ρ3 o3) fun z => WV (cmpD op' y z) fun k' => R k' ρ3) ρ2 fun b ρ => Q (.t (.dat (.bool b))) ρ := by
  show WP ((ev T a ρ).bind _) Q = _
  simp only [WP_bindV, WV_pair]
  congr; funext o1 ρ1; congr; funext o2 ρ2; congr; funext x; congr; funext y; congr; funext k
  cases k with
  | true => rw [AN_t, if_pos rfl]; simp only [WP_bindV, WP_mapV, WV_pair]
  | false => rw [AN_f, if_neg Bool.false_ne_true, WP_some]
theorem q_and : WP (ev T (.and a b) ρ) Q = WP (ev T a ρ) fun o ρ1 => WV (testOd ρ1 o) fun k => ANDK k (fun R => WP (ev T b ρ1) fun o2 ρ2 => WV (testOd ρ2 o2) fun k' => R k' ρ2) ρ1 fun b ρ => Q (.t (.dat (.bool b))) ρ := by
  show WP ((ev T a ρ).bind _) Q = _
  simp only [WP_bindV, WV_pair]
  congr; funext o1 ρ1; congr; funext k
  cases k with
  | true => rw [AN_t, if_pos rfl]; simp only [WP_bindV, WP_mapV, WV_pair]
  | false => rw [AN_f, if_neg Bool.false_ne_true, WP_some]
theorem q_or : WP (ev T (.or a b) ρ) Q = WP (ev T a ρ) fun o ρ1 => WV (testOd ρ1 o) fun k => ORK k (fun R => WP (ev T b ρ1) fun o2 ρ2 => WV (testOd ρ2 o2) fun k' => R k' ρ2) ρ1 fun b ρ => Q (.t (.dat (.bool b))) ρ := by
  show WP ((ev T a ρ).bind _) Q = _
  simp only [WP_bindV, WV_pair]
  congr; funext o1 ρ1; congr; funext k
  cases k with
  | false => rw [OR_f, if_neg Bool.false_ne_true]; simp only [WP_bindV, WP_mapV, WV_pair]
  | true => rw [OR_t, if_pos rfl, WP_some]
theorem q_ifx : WP (ev T (.ifx c a b) ρ) Q = WP (ev T c ρ) fun o ρ1 => WV (testOd ρ1 o) fun k => IT k (WP (ev T a ρ1) Q) (WP (ev T b ρ1) Q) := by
  show WP ((ev T c ρ).bind _) Q = _
  simp only [WP_bindV, WV_pair]
  congr; funext o1 ρ1; congr; funext k
  cases k with
  | false => rw [IT_f, if_neg Bool.false_ne_true]
  | true => rw [IT_t, if_pos rfl]
theorem q_tup : WP (ev T (.tup es) ρ) Q = WP (evs T es ρ) fun os ρ1 => WP (frzs ρ1 os) fun ds ρ2 => Q (.t (.dat (.tuple ds))) ρ2 := by
  show WP ((evs T es ρ).bind _) Q = _
  simp only [WP_bindV, WP_mapV, WV_pair]
theorem q_lst : WP (ev T (.lst es) ρ) Q = WP (evs T es ρ) fun os ρ1 => WP (frzs ρ1 os) fun ds ρ2 => Q (.t (.own ds)) ρ2 := by
  show WP ((evs T es ρ).bind _) Q = _
  simp only [WP_bindV, WP_mapV, WV_pair]
def idxV (x : Vw) (y : D) : Option D := match x with
  | .d x => idxD x y
  | .dc kvs => if keyOk y then dGet kvs y else none
theorem idxV_d {x y : D} {K : D → Prop} : WV (idxV (.d x) y) K = WV (idxD x y) K := rfl
theorem idxV_dc {kvs : List (D × D)} {y : D} {K : D → Prop} : WV (idxV (.dc kvs) y) K = (keyOk y = true ∧ WV (dGet kvs y) K) := by
  show WV (if keyOk y then dGet kvs y else none) K = _
  by_cases h : keyOk y = true
  · rw [if_pos h]; exact propext ⟨fun k => ⟨h, k⟩, fun k => k.2⟩
  · rw [if_neg h]; exact propext ⟨fun ⟨_, e, _⟩ => (nomatch e), fun k => absurd k.1 h⟩
theorem q_idx : WP (ev T (.idx a b) ρ) Q = WP (ev T a ρ) fun o1 ρ1 => WP (ev T b ρ1) fun o2 ρ2 => WV (look ρ2 o1) fun x => WV (lookD ρ2 o2) fun y => WV (idxV x y) fun d => Q (.t (.dat d)) ρ2 := by
  show WP ((ev T a ρ).bind _) Q = _
  simp only [WP_bindV, WV_pair]
  congr; funext o1 ρ1; congr; funext o2 ρ2; congr; funext x; congr; funext y
  cases x with
  | d x => exact WP_mapV
  | dc kvs =>
    show WP (if keyOk y then _ else none) _ = WV (if keyOk y then _ else none) _
    by_cases h : keyOk y = true
    · rw [if_pos h, if_pos h]; exact WP_mapV
    · rw [if_neg h, if_neg h]; exact propext ⟨fun ⟨_, _, e, _⟩ => (nomatch e), fun ⟨_, e, _⟩ => nomatch e⟩
theorem q_slc {lo hi : Oex} : WP (ev T (.slc a lo hi) ρ) Q = WP (ev T a ρ) fun o1 ρ1 => WP (evo T lo ρ1) fun l ρ2 => WP (evo T hi ρ2) fun r ρ3 => WV (lookD ρ3 o1) fun x => WV (slcD x l r) fun c => Q (.t c) ρ3 := by
  show WP ((ev T a ρ).bind _) Q = _
  simp only [WP_bindV, WP_mapV, WV_pair]
theorem q_rev : WP (ev T (.rev a) ρ) Q = WP (ev T a ρ) fun o1 ρ1 => WV (lookD ρ1 o1) fun x => WV (revD x) fun c => Q (.t c) ρ1 := by
  show WP ((ev T a ρ).bind _) Q = _
  simp only [WP_bindV, WP_mapV, WV_pair]
theorem q_dnew : WP (ev T .dnew ρ) Q = Q (.t (.dic [])) ρ := WP_some
theorem q_blt {f : Bf} : WP (ev T (.blt f es) ρ) Q = WP (evs T es ρ) fun os ρ1 => WV (bltAt f ρ1 os) fun c => Q (.t c) ρ1 := by
  show WP ((evs T es ρ).bind _) Q = _
  simp only [WP_bindV, WP_mapV, WV_pair]
def bltV (f : Bf) : Vw → Option Cell
  | .d x => bltD f [x]
  | .dc kvs => bltK f kvs
theorem ba_1 {f : Bf} {o : Od} {K : Cell → Prop} : WV (bltAt f ρ [o]) K = WV (look ρ o) fun x => WV (bltV f x) K := by
  have e : bltAt f ρ [o] = (look ρ o).bind (bltV f) := by
    show (match (match look ρ o with
      | some (.dc kvs) => some kvs
      | _ => none) with
      | some kvs => bltK f kvs
      | none => (((look ρ o).bind Vw.asD).bind fun d => (some ([] : List D)).map fun ds => d :: ds).bind (bltD f)) = _
    generalize look ρ o = x
    cases x with
    | none => rfl
    | some x => cases x <;> rfl
  rw [e, WV_bind]
theorem ba_2 {f : Bf} {o o2 : Od} {os : List Od} {K : Cell → Prop} : WV (bltAt f ρ (o :: o2 :: os)) K = WV (lookDs ρ (o :: o2 :: os)) fun vs => WV (bltD f vs) K := by
  show WV ((lookDs ρ (o :: o2 :: os)).bind (bltD f)) K = _
  rw [WV_bind]
theorem bltV_d {f : Bf} {x : D} {K : Cell → Prop} : WV (bltV f (.d x)) K = WV (bltD f [x]) K := rfl
theorem bltV_sorted {kvs : List (D × D)} {K : Cell → Prop} : WV (bltV .sorted (.dc kvs)) K = (sortOk (kvs.map (·.1)) = true ∧ K (.own (sortD (kvs.map (·.1))))) := WV_if
theorem f_sorted {xs : List D} {K : Cell → Prop} : WV (bltD .sorted [.list xs]) K = (sortOk xs = true ∧ K (.own (sortD xs))) := WV_if
def isiV (ts : List String) (x : D) : Option Bool := match x with
  | .dict _ => none
  | x => some (ts.any (isiOne x))
theorem q_isi {ts : List String} (h : isiOk ts = true) : WP (ev T (.isi a ts) ρ) Q = WP (ev T a ρ) fun o ρ1 => WV (lookD ρ1 o) fun x => WV (isiV ts x) fun b => Q (.t (.dat (.bool b))) ρ1 := by
  show WP (if isiOk ts = true then _ else none) Q = _
  rw [if_pos h]
  simp only [WP_bindV, WV_pair]
  congr; funext o1 ρ1; congr; funext x
  cases x <;> first | (show WP (some _) _ = WV (some _) _; rw [WP_some, WV_some]) | exact propext ⟨fun ⟨_, _, e, _⟩ => (nomatch e), fun ⟨_, e, _⟩ => nomatch e⟩
/-- a def's F on operands -/
def WC (F : List Cell → Option (Cell × Cell)) (os : List Od) (ρ : Rho) (Q : Od → Rho → Prop) : Prop := WP (frzs ρ os) fun ds ρ1 => WF F (ds.map .dat) fun c _ => Q (.t c) (unfz c ρ ρ1)
def WCI1 (c : Cell) (F : List Cell → Option (Cell × Cell)) (ds : List D) (ρ : Rho) (i : Nat) (Q : Od → Rho → Prop) : Prop := match c with
  | .own xs => WF F (.own xs :: ds.map .dat) fun c out => Q (.t c) (ρ.set i out)
  | .dic kvs => WF F (.dic kvs :: ds.map .dat) fun c out => Q (.t c) (ρ.set i out)
  | .dat d => WF F (.dat d :: ds.map .dat) fun c _ => Q (.t c) ρ
  | .emp => False
def WCI (F : List Cell → Option (Cell × Cell)) (os : List Od) (ρ : Rho) (Q : Od → Rho → Prop) : Prop := match os with
  | [] => False
  | o :: os => WP (frzs ρ os) fun ds ρ1 => match o with
    | .v i => WCI1 (cellAt ρ1 i) F ds ρ1 i Q
    | .t .emp => False
    | .t c => WF F (c :: ds.map .dat) fun c _ => Q (.t c) ρ1
theorem WC_def {F : List Cell → Option (Cell × Cell)} {os : List Od} {ρ : Rho} {Q : Od → Rho → Prop} : WC F os ρ Q = WP (frzs ρ os) fun ds ρ1 => WF F (ds.map .dat) fun c _ => Q (.t c) (unfz c ρ ρ1) := rfl
/-- a continuation that the run's rules leave alone (its dependent mate keeps it fixed) -/
inductive Hd {α : Type} (x : α) : Type where
  | mk
def WFH (F : List Cell → Option (Cell × Cell)) (cs : List Cell) (K : Cell → Cell → Prop) (h : Hd K) : Prop := WF F cs K
theorem WC_defH {F : List Cell → Option (Cell × Cell)} {os : List Od} {ρ : Rho} {Q : Od → Rho → Prop} : WC F os ρ Q = WP (frzs ρ os) fun ds ρ1 => WFH F (ds.map .dat) (fun c _ => Q (.t c) (unfz c ρ ρ1)) .mk := rfl
theorem WCI_tO {F : List Cell → Option (Cell × Cell)} {os : List Od} {xs : List D} {ρ : Rho} {Q : Od → Rho → Prop} : WCI F (.t (.own xs) :: os) ρ Q = WP (frzs ρ os) fun ds ρ1 => WFH F (.own xs :: ds.map .dat) (fun c _ => Q (.t c) ρ1) .mk := rfl
theorem WCI_tD {F : List Cell → Option (Cell × Cell)} {os : List Od} {d : D} {ρ : Rho} {Q : Od → Rho → Prop} : WCI F (.t (.dat d) :: os) ρ Q = WP (frzs ρ os) fun ds ρ1 => WFH F (.dat d :: ds.map .dat) (fun c _ => Q (.t c) ρ1) .mk := rfl
theorem WCI1_ownH {F : List Cell → Option (Cell × Cell)} {ds xs : List D} {i : Nat} {ρ : Rho} {Q : Od → Rho → Prop} : WCI1 (.own xs) F ds ρ i Q = WFH F (.own xs :: ds.map .dat) (fun c out => Q (.t c) (ρ.set i out)) .mk := rfl
theorem WCI1_dicH {F : List Cell → Option (Cell × Cell)} {ds : List D} {xs : List (D × D)} {i : Nat} {ρ : Rho} {Q : Od → Rho → Prop} : WCI1 (.dic xs) F ds ρ i Q = WFH F (.dic xs :: ds.map .dat) (fun c out => Q (.t c) (ρ.set i out)) .mk := rfl
theorem uz_n {ρ ρ1 : Rho} : unfz (.dat .none) ρ ρ1 = ρ := rfl
theorem uz_b {ρ ρ1 : Rho} {b : Bool} : unfz (.dat (.bool b)) ρ ρ1 = ρ := rfl
theorem uz_i {ρ ρ1 : Rho} {i : Int} : unfz (.dat (.int i)) ρ ρ1 = ρ := rfl
theorem uz_s {ρ ρ1 : Rho} {x : Str} : unfz (.dat (.str x)) ρ ρ1 = ρ := rfl
theorem uz_t {ρ ρ1 : Rho} {ds : List D} : unfz (.dat (.tuple ds)) ρ ρ1 = ρ1 := rfl
theorem uz_l {ρ ρ1 : Rho} {ds : List D} : unfz (.dat (.list ds)) ρ ρ1 = ρ1 := rfl
theorem uz_o {ρ ρ1 : Rho} {ds : List D} : unfz (.own ds) ρ ρ1 = ρ1 := rfl
theorem uz_d {ρ ρ1 : Rho} {kvs : List (D × D)} : unfz (.dic kvs) ρ ρ1 = ρ1 := rfl
theorem uz_r {c : Cell} {ρ : Rho} : unfz c ρ ρ = ρ := by
  cases c with
  | dat d => cases d <;> rfl
  | _ => rfl
theorem WCI_def {F : List Cell → Option (Cell × Cell)} {os : List Od} {i : Nat} {ρ : Rho} {Q : Od → Rho → Prop} : WCI F (.v i :: os) ρ Q = WP (frzs ρ os) fun ds ρ1 => WCI1 (cellAt ρ1 i) F ds ρ1 i Q := rfl
theorem WCI1_own {F : List Cell → Option (Cell × Cell)} {ds xs : List D} {i : Nat} {ρ : Rho} {Q : Od → Rho → Prop} : WCI1 (.own xs) F ds ρ i Q = WF F (.own xs :: ds.map .dat) fun c out => Q (.t c) (ρ.set i out) := rfl
theorem WCI1_dic {F : List Cell → Option (Cell × Cell)} {ds : List D} {xs : List (D × D)} {i : Nat} {ρ : Rho} {Q : Od → Rho → Prop} : WCI1 (.dic xs) F ds ρ i Q = WF F (.dic xs :: ds.map .dat) fun c out => Q (.t c) (ρ.set i out) := rfl
theorem WCI1_congr {F : List Cell → Option (Cell × Cell)} {ds : List D} {i : Nat} {ρ : Rho} {Q : Od → Rho → Prop} {c c' : Cell} (h : c = c') : WCI1 c F ds ρ i Q = WCI1 c' F ds ρ i Q := by rw [h]
theorem WP_if {α β : Type} {c : Prop} [Decidable c] {x : Option (α × β)} {K : α → β → Prop} : WP (if c then x else none) K = (c ∧ WP x K) := by
  by_cases h : c
  · rw [if_pos h]; exact propext ⟨fun k => ⟨h, k⟩, fun k => k.2⟩
  · rw [if_neg h]; exact propext ⟨fun ⟨_, _, e, _⟩ => (nomatch e), fun k => absurd k.1 h⟩
theorem q_callfr {j : Nat} {fn : Fn} {ix : List Nat} {m : Nat} {F : List Cell → Option (Cell × Cell)} (hf : T.fn j = some fn) (hio : fn.io = false) (hm : fn.ps.length = m) (hF : fn.F = F) :
    WP (ev T (.call j es ix kes) ρ) Q = WP (evs T es ρ) fun us ρ1 => WP (evs T kes ρ1) fun ws ρ2 => us.length + ix.length = m ∧ WC F (us ++ ix.map fun i => ws.getD i (.t .emp)) ρ2 Q := by
  subst hm hF
  show WP ((evs T es ρ).bind _) Q = _
  have e : ∀ os ρ, WP (callF fn os ρ) Q = WC fn.F os ρ Q := fun os ρ => by
    unfold callF
    rw [if_neg (by rw [hio]; exact Bool.false_ne_true)]
    simp only [WP_bindV, WP_mapV, WV_pair]; rfl
  simp only [WP_bindV, WV_pair, hf, WV_some, WP_if, e]
theorem q_callio {j : Nat} {fn : Fn} {ix : List Nat} {m : Nat} {F : List Cell → Option (Cell × Cell)} (hf : T.fn j = some fn) (hio : fn.io = true) (hm : fn.ps.length = m) (hF : fn.F = F) :
    WP (ev T (.call j es ix kes) ρ) Q = WP (evs T es ρ) fun us ρ1 => WP (evs T kes ρ1) fun ws ρ2 => us.length + ix.length = m ∧ WCI F (us ++ ix.map fun i => ws.getD i (.t .emp)) ρ2 Q := by
  subst hm hF
  show WP ((evs T es ρ).bind _) Q = _
  have nn : ∀ {α β : Type} {K : α → β → Prop}, WP (none : Option (α × β)) K = False := fun {_ _ _} => propext ⟨fun ⟨_, _, e, _⟩ => (nomatch e), fun e => nomatch e⟩
  have e : ∀ os ρ, WP (callF fn os ρ) Q = WCI fn.F os ρ Q := fun os ρ => by
    unfold callF
    rw [if_pos hio]
    cases os with
    | nil => exact nn
    | cons o os =>
      show WP ((frzs ρ os).bind _) Q = _
      simp only [WP_bindV, WV_pair]
      cases o with
      | t c =>
        show (WP (frzs ρ os) fun ds ρ1 => WP _ Q) = _
        cases c with
        | emp => show _ = WP (frzs ρ os) fun ds ρ1 => False; congr; funext ds ρ1; exact nn
        | dat d => show _ = WP (frzs ρ os) fun ds ρ1 => WF fn.F (.dat d :: ds.map .dat) fun c _ => Q (.t c) ρ1; congr; funext ds ρ1; simp only [WP_mapV, WV_pair]; rfl
        | own d => show _ = WP (frzs ρ os) fun ds ρ1 => WF fn.F (.own d :: ds.map .dat) fun c _ => Q (.t c) ρ1; congr; funext ds ρ1; simp only [WP_mapV, WV_pair]; rfl
        | dic d => show _ = WP (frzs ρ os) fun ds ρ1 => WF fn.F (.dic d :: ds.map .dat) fun c _ => Q (.t c) ρ1; congr; funext ds ρ1; simp only [WP_mapV, WV_pair]; rfl
      | v i =>
        show _ = WP (frzs ρ os) fun ds ρ1 => WCI1 (cellAt ρ1 i) fn.F ds ρ1 i Q
        congr; funext ds ρ1
        show WP (match cellAt ρ1 i with
          | .dat d => (fn.F (.dat d :: ds.map .dat)).map fun q : Cell × Cell => (Od.t q.1, ρ1)
          | .own xs => (fn.F (.own xs :: ds.map .dat)).map fun q : Cell × Cell => (.t q.1, ρ1.set i q.2)
          | .dic kvs => (fn.F (.dic kvs :: ds.map .dat)).map fun q : Cell × Cell => (.t q.1, ρ1.set i q.2)
          | .emp => none) Q = _
        generalize cellAt ρ1 i = c
        cases c with
        | emp => exact nn
        | dat d => simp only [WP_mapV, WV_pair]; rfl
        | own d => simp only [WP_mapV, WV_pair]; rfl
        | dic d => simp only [WP_mapV, WV_pair]; rfl
  simp only [WP_bindV, WV_pair, hf, WV_some, WP_if, e]
end
/-! ### lists of expressions, operands -/
section
variable {T : Tab} {n : Nat} {ρ : Rho}
theorem qs_nil {Q : List Od → Rho → Prop} : WP (evs T .nil ρ) Q = Q [] ρ := WP_some
theorem qs_cons {Q : List Od → Rho → Prop} {e : Ex} {es : Exs} : WP (evs T (.cons e es) ρ) Q = WP (ev T e ρ) fun o ρ1 => WP (evs T es ρ1) fun os ρ2 => Q (o :: os) ρ2 := by
  show WP ((ev T e ρ).bind _) Q = _
  simp only [WP_bindV, WP_mapV, WV_pair]
theorem ld_v {i : Nat} {K : D → Prop} : WV (lookD ρ (.v i)) K = AtD (cellAt ρ i) K := rfl
theorem ld_d {d : D} {K : D → Prop} : WV (lookD ρ (.t (.dat d))) K = K d := WV_some
theorem ld_o {ds : List D} {K : D → Prop} : WV (lookD ρ (.t (.own ds))) K = K (.list ds) := WV_some
theorem lv_v {i : Nat} {K : Vw → Prop} : WV (look ρ (.v i)) K = AtV (cellAt ρ i) K := rfl
theorem lv_d {d : D} {K : Vw → Prop} : WV (look ρ (.t (.dat d))) K = K (.d d) := WV_some
theorem lv_o {ds : List D} {K : Vw → Prop} : WV (look ρ (.t (.own ds))) K = K (.d (.list ds)) := WV_some
theorem lv_c {ds : List (D × D)} {K : Vw → Prop} : WV (look ρ (.t (.dic ds))) K = K (.dc ds) := WV_some
/-- the truth in a cell -/
def AtB (c : Cell) (K : Bool → Prop) : Prop := WV (c.vw.bind asBool) K
theorem AtB_b {b : Bool} {K : Bool → Prop} : AtB (.dat (.bool b)) K = K b := WV_some
theorem AtB_congr {c c' : Cell} {K : Bool → Prop} (h : c = c') : AtB c K = AtB c' K := by rw [h]
theorem tb_v {i : Nat} {K : Bool → Prop} : WV (testOd ρ (.v i)) K = AtB (cellAt ρ i) K := rfl
theorem tb_b {b : Bool} {K : Bool → Prop} : WV (testOd ρ (.t (.dat (.bool b)))) K = K b := WV_some
theorem lds_nil {K : List D → Prop} : WV (lookDs ρ []) K = K [] := WV_some
theorem lds_cons {o : Od} {os : List Od} {K : List D → Prop} : WV (lookDs ρ (o :: os)) K = WV (lookD ρ o) fun d => WV (lookDs ρ os) fun ds => K (d :: ds) := by
  show WV ((lookD ρ o).bind _) K = _
  simp only [WV_bind, WV_map]
theorem f1_v {i : Nat} {K : D → Rho → Prop} : WP (frz ρ (.v i)) K = FrC (cellAt ρ i) ρ i K := by
  show WP (match cellAt ρ i with
    | .dat d => some (d, ρ)
    | .own ds => some (.list ds, ρ.set i (.dat (.list ds)))
    | _ => none) K = _
  have nn : ∀ {α β : Type} {K : α → β → Prop}, WP (none : Option (α × β)) K = False := fun {_ _ _} => propext ⟨fun ⟨_, _, e, _⟩ => (nomatch e), fun e => nomatch e⟩
  cases cellAt ρ i <;> first | exact WP_some | exact nn
theorem f1_d {d : D} {K : D → Rho → Prop} : WP (frz ρ (.t (.dat d))) K = K d ρ := WP_some
theorem f1_o {ds : List D} {K : D → Rho → Prop} : WP (frz ρ (.t (.own ds))) K = K (.list ds) ρ := WP_some
theorem fs_nil {K : List D → Rho → Prop} : WP (frzs ρ []) K = K [] ρ := WP_some
theorem fs_cons {o : Od} {os : List Od} {K : List D → Rho → Prop} : WP (frzs ρ (o :: os)) K = WP (frz ρ o) fun d ρ1 => WP (frzs ρ1 os) fun ds ρ2 => K (d :: ds) ρ2 := by
  show WP ((frz ρ o).bind _) K = _
  simp only [WP_bindV, WP_mapV, WV_pair]
theorem co_v {i : Nat} {K : Cell → Rho → Prop} : WP (celOd ρ (.v i)) K = FrC (cellAt ρ i) ρ i fun d ρ1 => K (.dat d) ρ1 := by
  show WP ((frz ρ (.v i)).map _) K = _
  simp only [WP_mapV, WV_pair]; exact f1_v
theorem co_t {c : Cell} {K : Cell → Rho → Prop} : WP (celOd ρ (.t c)) K = K c ρ := WP_some
theorem cos_nil {K : List Cell → Rho → Prop} : WP (celOds ρ []) K = K [] ρ := WP_some
theorem cos_cons {o : Od} {os : List Od} {K : List Cell → Rho → Prop} : WP (celOds ρ (o :: os)) K = WP (celOd ρ o) fun c ρ1 => WP (celOds ρ1 os) fun cs ρ2 => K (c :: cs) ρ2 := by
  show WP ((celOd ρ o).bind _) K = _
  simp only [WP_bindV, WP_mapV, WV_pair]
def intV (x : D) (K : Int → Prop) : Prop := match x with
  | .int i => K i
  | _ => False
theorem intV_congr {x x' : D} {K : Int → Prop} (h : x = x') : intV x K = intV x' K := by rw [h]
theorem intV_i {i : Int} {K : Int → Prop} : intV (.int i) K = K i := rfl
theorem eo_no {K : Option Int → Rho → Prop} : WP (evo T .no ρ) K = K none ρ := WP_some
theorem eo_so {e : Ex} {K : Option Int → Rho → Prop} : WP (evo T (.so e) ρ) K = WP (ev T e ρ) fun o ρ1 => WV (lookD ρ1 o) fun x => intV x fun i => K (some i) ρ1 := by
  show WP ((ev T e ρ).bind _) K = _
  simp only [WP_bindV, WV_pair]
  have nn : ∀ {α β : Type} {K : α → β → Prop}, WP (none : Option (α × β)) K = False := fun {_ _ _} => propext ⟨fun ⟨_, _, e, _⟩ => (nomatch e), fun e => nomatch e⟩
  congr; funext o ρ1; congr; funext x
  cases x <;> first | exact WP_some | exact nn
theorem ec_no {K : Bool → Rho → Prop} : WP (evc T .no ρ) K = K true ρ := WP_some
theorem ec_so {e : Ex} {K : Bool → Rho → Prop} : WP (evc T (.so e) ρ) K = WP (ev T e ρ) fun o ρ1 => WV (testOd ρ1 o) fun b => K b ρ1 := by
  show WP ((ev T e ρ).bind _) K = _
  simp only [WP_bindV, WP_mapV, WV_pair]
section
variable {K : List D → Rho → Prop} {a b : Ex}
theorem i_seq : WP (evi T (.seq a) ρ) K = WP (ev T a ρ) fun o ρ1 => WP (frz ρ1 o) fun d ρ2 => WV (seqD d) fun ds => K ds ρ2 := by
  show WP ((ev T a ρ).bind _) K = _
  simp only [WP_bindV, WP_mapV, WV_pair]
theorem i_rng1 : WP (evi T (.rng1 a) ρ) K = WP (ev T a ρ) fun o ρ1 => WV (lookD ρ1 o) fun x => WV (rng1D x) fun ds => K ds ρ1 := by
  show WP ((ev T a ρ).bind _) K = _
  simp only [WP_bindV, WP_mapV, WV_pair]
theorem i_rng2 : WP (evi T (.rng2 a b) ρ) K = WP (ev T a ρ) fun o1 ρ1 => WP (ev T b ρ1) fun o2 ρ2 => WV (lookD ρ2 o1) fun x => WV (lookD ρ2 o2) fun y => WV (rng2D x y) fun ds => K ds ρ2 := by
  show WP ((ev T a ρ).bind _) K = _
  simp only [WP_bindV, WP_mapV, WV_pair]
theorem i_enm : WP (evi T (.enm a) ρ) K = WP (ev T a ρ) fun o ρ1 => WP (frz ρ1 o) fun d ρ2 => WV (seqD d) fun ds => K (enmD 0 ds) ρ2 := by
  show WP ((ev T a ρ).bind _) K = _
  simp only [WP_bindV, WP_mapV, WV_pair]
theorem i_zip : WP (evi T (.zip a b) ρ) K = WP (ev T a ρ) fun o1 ρ1 => WP (ev T b ρ1) fun o2 ρ2 => WP (frz ρ2 o1) fun x ρ3 => WP (frz ρ3 o2) fun y ρ4 => WV (zipS x y) fun ds => K ds ρ4 := by
  show WP ((ev T a ρ).bind _) K = _
  simp only [WP_bindV, WP_mapV, WV_pair]
theorem zs_l {xs ys : List D} {K : List D → Prop} : WV (zipS (.list xs) (.list ys)) K = K (zipD xs ys) := WV_some
theorem zs_t {xs ys : List D} {K : List D → Prop} : WV (zipS (.tuple xs) (.tuple ys)) K = K (zipD xs ys) := WV_some
theorem i_rev : WP (evi T (.rev a) ρ) K = WP (ev T a ρ) fun o ρ1 => WP (frz ρ1 o) fun d ρ2 => WV (seqD d) fun ds => K ds.reverse ρ2 := by
  show WP ((ev T a ρ).bind _) K = _
  simp only [WP_bindV, WP_mapV, WV_pair]
end
theorem rv_l {xs : List D} {K : Cell → Prop} : WV (revD (.list xs)) K = K (.own xs.reverse) := WV_some
theorem rv_t {xs : List D} {K : Cell → Prop} : WV (revD (.tuple xs)) K = K (.dat (.tuple xs.reverse)) := WV_some
theorem sq_l {xs : List D} {K : List D → Prop} : WV (seqD (.list xs)) K = K xs := WV_some
theorem sq_t {xs : List D} {K : List D → Prop} : WV (seqD (.tuple xs)) K = K xs := WV_some
theorem q_lc {Q : Od → Rho → Prop} {a : Ex} {tg : Tg} {it : Itr} {cc : Oex} {own : List Nat} : WP (ev T (.lc a tg it cc own) ρ) Q = WP (evi T it ρ) fun ds ρ1 => WP (lcLoop (lcTurn T a tg cc) own ds ρ1) fun ys ρ2 => Q (.t (.own ys)) (backR ρ1 ρ2 own) := by
  show WP ((evi T it ρ).bind _) Q = _
  simp only [WP_bindV, WP_mapV, WV_pair]; rfl
/-! ### targets -/
theorem tg_n {i : Nat} {d : D} {K : Rho → Prop} : WV (bindTg (.n i) d ρ) K = K (ρ.set i (.dat d)) := WV_some
theorem tg_t {ts : List Tg} {ds : List D} {K : Rho → Prop} : WV (bindTg (.t ts) (.tuple ds) ρ) K = WV (bindTg.go ts ds ρ) K := rfl
theorem tgs_nil {K : Rho → Prop} : WV (bindTg.go [] [] ρ) K = K ρ := WV_some
theorem tgs_cons {t : Tg} {ts : List Tg} {d : D} {ds : List D} {K : Rho → Prop} : WV (bindTg.go (t :: ts) (d :: ds) ρ) K = WV (bindTg t d ρ) fun ρ1 => WV (bindTg.go ts ds ρ1) K := by
  show WV ((bindTg t d ρ).bind _) K = _
  simp only [WV_bind]
/-! ### statements -/
section
variable {Q : Out → Rho → Prop} {e : Ex}
theorem r_nil : WP (exs T n .nil ρ) Q = Q .nx ρ := WP_some
def seqO (T : Tab) (n : Nat) (r : Sms) (Q : Out → Rho → Prop) (o : Out) (ρ : Rho) : Prop := match o with
  | .nx => WP (exs T n r ρ) Q
  | o => Q o ρ
theorem seqO_congr {r : Sms} {o o' : Out} (h : o = o') : seqO T n r Q o ρ = seqO T n r Q o' ρ := by rw [h]
theorem so_nx {r : Sms} : seqO T n r Q .nx ρ = WP (exs T n r ρ) Q := rfl
theorem so_bk {r : Sms} : seqO T n r Q .bk ρ = Q .bk ρ := rfl
theorem so_ct {r : Sms} : seqO T n r Q .ct ρ = Q .ct ρ := rfl
theorem so_rt {r : Sms} {o : Od} : seqO T n r Q (.rt o) ρ = Q (.rt o) ρ := rfl
theorem r_cons {s : Sm} {r : Sms} : WP (exs T n (.cons s r) ρ) Q = WP (ex T n s ρ) fun o ρ1 => seqO T n r Q o ρ1 := by
  show WP ((ex T n s ρ).bind _) Q = _
  simp only [WP_bindV, WV_pair]
  congr; funext o ρ1
  cases o <;> first | rfl | exact WP_some
theorem r_set {i : Nat} : WP (ex T n (.set i e) ρ) Q = WP (ev T e ρ) fun o ρ1 => WP (celOd ρ1 o) fun c ρ2 => Q .nx (ρ2.set i c) := by
  show WP ((ev T e ρ).bind _) Q = _
  simp only [WP_bindV, WP_mapV, WV_pair]
theorem r_asg {tg : Tg} : WP (ex T n (.asg tg e) ρ) Q = WP (ev T e ρ) fun o ρ1 => WP (frz ρ1 o) fun d ρ2 => WV (bindTg tg d ρ2) fun ρ3 => Q .nx ρ3 := by
  show WP ((ev T e ρ).bind _) Q = _
  simp only [WP_bindV, WP_mapV, WV_pair]
theorem r_par {is : List Nat} {es : Exs} : WP (ex T n (.par is es) ρ) Q = WP (evs T es ρ) fun os ρ1 => WP (celOds ρ1 os) fun cs ρ2 => Q .nx (setAll is cs ρ2) := by
  show WP ((evs T es ρ).bind _) Q = _
  simp only [WP_bindV, WP_mapV, WV_pair]
theorem sA_nil {cs : List Cell} {ρ : Rho} : setAll [] cs ρ = ρ := by cases cs <;> rfl
theorem sA_cons {i : Nat} {is : List Nat} {c : Cell} {cs : List Cell} {ρ : Rho} : setAll (i :: is) (c :: cs) ρ = setAll is cs (ρ.set i c) := rfl
def OwnC (c : Cell) : Prop := (isOwn c).isSome = true
theorem OwnC_o {ds : List D} : OwnC (.own ds) = True := propext ⟨fun _ => trivial, fun _ => rfl⟩
theorem OwnC_d {kvs : List (D × D)} : OwnC (.dic kvs) = True := propext ⟨fun _ => trivial, fun _ => rfl⟩
def PutC (c : Cell) (y d : D) (K : Cell → Prop) : Prop := WV (putC c y d) K
theorem PutC_o {xs : List D} {z : Int} {d : D} {K : Cell → Prop} : PutC (.own xs) (.int z) d K = WV (putL xs z d) fun xs => K (.own xs) := by
  show WV ((putL xs z d).map Cell.own) K = _
  rw [WV_map]
theorem PutC_d {kvs : List (D × D)} {y d : D} {K : Cell → Prop} : PutC (.dic kvs) y d K = ((keyOk y && decide (kvs.length < 16777215)) = true ∧ K (.dic (dPut kvs y d))) := WV_if
theorem PutC_congr {c c' : Cell} {y d : D} {K : Cell → Prop} (h : c = c') : PutC c y d K = PutC c' y d K := by rw [h]
theorem r_put {i : Nat} {kx : Ex} : WP (ex T n (.put i kx e) ρ) Q = WP (ev T e ρ) fun o ρ1 => OwnC (cellAt ρ1 i) ∧ WP (ev T kx ρ1) fun ok ρ2 => WP (frz ρ2 o) fun d ρ3 => WV (lookD ρ3 ok) fun y => PutC (cellAt ρ3 i) y d fun c => Q .nx (ρ3.set i c) := by
  show WP ((ev T e ρ).bind _) Q = _
  have h : ∀ {x : Option Unit} {P : Unit → Prop}, WV x P = (x.isSome = true ∧ P ()) := fun {x _} => by
    cases x with
    | none => exact propext ⟨fun ⟨_, e, _⟩ => (nomatch e), fun e => nomatch e.1⟩
    | some u => rw [WV_some]; exact propext ⟨fun k => ⟨rfl, k⟩, fun k => k.2⟩
  simp only [WP_bindV, WP_mapV, WV_pair, h]; rfl
theorem r_exp : WP (ex T n (.exp e) ρ) Q = WP (ev T e ρ) fun _ ρ1 => Q .nx ρ1 := by
  show WP ((ev T e ρ).map _) Q = _
  simp only [WP_mapV, WV_pair]
theorem r_ret : WP (ex T n (.ret e) ρ) Q = WP (ev T e ρ) fun o ρ1 => Q (.rt o) ρ1 := by
  show WP ((ev T e ρ).map _) Q = _
  simp only [WP_mapV, WV_pair]
theorem r_retN : WP (ex T n .retN ρ) Q = Q (.rt (.t (.dat .none))) ρ := WP_some
theorem r_pas : WP (ex T n .pas ρ) Q = Q .nx ρ := WP_some
theorem r_brk : WP (ex T n .brk ρ) Q = Q .bk ρ := WP_some
theorem r_cnt : WP (ex T n .cnt ρ) Q = Q .ct ρ := WP_some
theorem r_nev : WP (ex T n .nev ρ) Q = False := propext ⟨fun ⟨_, _, e, _⟩ => (nomatch e), fun e => nomatch e⟩
theorem r_ite {c : Ex} {a b : Sms} : WP (ex T n (.ite c a b) ρ) Q = WP (ev T c ρ) fun o ρ1 => WV (testOd ρ1 o) fun k => IT k (WP (exs T n a ρ1) Q) (WP (exs T n b ρ1) Q) := by
  show WP ((ev T c ρ).bind _) Q = _
  simp only [WP_bindV, WV_pair]
  congr; funext o ρ1; congr; funext k
  cases k with
  | true => rw [IT_t, if_pos rfl]
  | false => rw [IT_f, if_neg Bool.false_ne_true]
theorem r_for {tg : Tg} {it : Itr} {b : Sms} : WP (ex T n (.for_ tg it b) ρ) Q = WP (evi T it ρ) fun ds ρ1 => WP (forL tg (exs T n b) ds ρ1) Q := by
  show WP ((evi T it ρ).bind _) Q = _
  simp only [WP_bindV, WV_pair]
def turnO (nx : Rho → Prop) (Q : Out → Rho → Prop) (o : Out) (ρ : Rho) : Prop := match o with
  | .nx => nx ρ
  | .ct => nx ρ
  | .bk => Q .nx ρ
  | .rt o => Q (.rt o) ρ
theorem turnO_congr {nx : Rho → Prop} {o o' : Out} (h : o = o') : turnO nx Q o ρ = turnO nx Q o' ρ := by rw [h]
theorem to_nx {nx : Rho → Prop} : turnO nx Q .nx ρ = nx ρ := rfl
theorem to_ct {nx : Rho → Prop} : turnO nx Q .ct ρ = nx ρ := rfl
theorem to_bk {nx : Rho → Prop} : turnO nx Q .bk ρ = Q .nx ρ := rfl
theorem to_rt {nx : Rho → Prop} {o : Od} : turnO nx Q (.rt o) ρ = Q (.rt o) ρ := rfl
theorem turnK_O {nx : Rho → Prop} {o : Out} : turnK nx Q o ρ = turnO nx Q o ρ := by cases o <;> rfl
theorem fo_nil {tg : Tg} {b : Rho → Option (Out × Rho)} : WP (forL tg b [] ρ) Q = Q .nx ρ := WP_some
theorem fo_cons {tg : Tg} {b : Rho → Option (Out × Rho)} {d : D} {ds : List D} : WP (forL tg b (d :: ds) ρ) Q = WV (bindTg tg d ρ) fun ρ1 => WP (b ρ1) fun o ρ2 => turnO (fun ρ3 => WP (forL tg b ds ρ3) Q) Q o ρ2 := by
  show WP ((bindTg tg d ρ).bind _) Q = _
  simp only [WP_bindV, WV_pair]
  congr; funext ρ1; congr; funext o ρ2
  cases o <;> first | rfl | exact WP_some
/-- a loop by an invariant of the turn's number -/
theorem fo_inv {tg : Tg} {b : Rho → Option (Out × Rho)} {ds : List D} (Inv : Nat → Rho → Prop) (h0 : Inv 0 ρ) (step : ∀ i d ρ, ds[i]? = some d → Inv i ρ → WV (bindTg tg d ρ) fun ρ1 => WP (b ρ1) fun o ρ2 => turnO (Inv (i + 1)) Q o ρ2) (he : ∀ ρ, Inv ds.length ρ → Q .nx ρ) : WP (forL tg b ds ρ) Q := by
  refine wfor_inv Inv h0 (fun i d ρ h1 h2 => ?_) he
  simp only [funext fun o => funext fun ρ => turnK_O (nx := Inv (i + 1)) (Q := Q) (o := o) (ρ := ρ)]
  exact step i d ρ h1 h2
/-- a while loop by an invariant with a measure -/
theorem r_whl {c : Ex} {b : Sms} : WP (ex T n (.whl c b) ρ) Q = WP (whlL (fun ρ => (ev T c ρ).bind fun r => (testOd r.2 r.1).map fun k => (k, r.2)) (exs T n b) n ρ) Q := rfl
theorem wh_inv {c : Ex} {b : Sms} {N : Nat} (Inv : Nat → Rho → Prop) (m : Nat) (hm : m < N) (h0 : Inv m ρ)
    (step : ∀ m ρ, Inv m ρ → WP (ev T c ρ) fun o ρ1 => WV (testOd ρ1 o) fun k => IT k (WP (exs T n b ρ1) fun o ρ2 => turnO (fun ρ3 => ∃ m', m' < m ∧ Inv m' ρ3) Q o ρ2) (Q .nx ρ1)) :
    WP (whlL (fun ρ => (ev T c ρ).bind fun r => (testOd r.2 r.1).map fun k => (k, r.2)) (exs T n b) N ρ) Q := by
  induction N generalizing m ρ with
  | zero => omega
  | succ N ih =>
    show WP (((ev T c ρ).bind fun r => (testOd r.2 r.1).map fun k => (k, r.2)).bind _) Q
    rw [WP_bindV, WV_bind, WV_pair]
    simp only [WV_map]
    refine (step m ρ h0).mono fun o ρ1 h => h.mono fun k h => ?_
    cases k with
    | false => rw [IT_f] at h; rw [if_neg Bool.false_ne_true, WP_some]; exact h
    | true =>
      rw [IT_t] at h
      rw [if_pos rfl, WP_bindV, WV_pair]
      refine h.mono fun o ρ2 h => ?_
      cases o with
      | nx => obtain ⟨m', h1, h2⟩ := h; exact ih m' (by omega) h2
      | ct => obtain ⟨m', h1, h2⟩ := h; exact ih m' (by omega) h2
      | bk => exact WP_some ▸ h
      | rt o => exact WP_some ▸ h
end
/-! ### comprehension loops -/
section
variable {turn : D → Rho → Option (Option D × Rho)} {own : List Nat} {K : List D → Rho → Prop}
theorem lc_nil : WP (lcLoop turn own [] ρ) K = K [] ρ := WP_some
theorem lc_cons {d : D} {ds : List D} : WP (lcLoop turn own (d :: ds) ρ) K = WP (turn d (wipeR ρ own)) fun y ρ1 => WP (lcLoop turn own ds ρ1) fun ys ρ2 => K (keepK y ys) ρ2 := by
  show WP ((turn d (wipeR ρ own)).bind _) K = _
  simp only [WP_bindV, WP_mapV, WV_pair]
  rfl
theorem kk_s {y : D} {ys : List D} : keepK (some y) ys = y :: ys := rfl
theorem kk_n {ys : List D} : keepK none ys = ys := rfl
theorem lc_turn {elt : Ex} {tg : Tg} {c : Oex} {d : D} {K : Option D → Rho → Prop} : WP (lcTurn T elt tg c d ρ) K = WV (bindTg tg d ρ) fun ρ1 => WP (evc T c ρ1) fun k ρ2 => IT k (WP (ev T elt ρ2) fun o ρ3 => WP (frz ρ3 o) fun y ρ4 => K (some y) ρ4) (K none ρ2) := by
  show WP ((bindTg tg d ρ).bind _) K = _
  simp only [WP_bindV, WV_pair]
  congr; funext ρ1; congr; funext k ρ2
  cases k with
  | true => rw [IT_t, if_pos rfl]; simp only [WP_bindV, WP_mapV, WV_pair]
  | false => rw [IT_f, if_neg Bool.false_ne_true, WP_some]
/-- a comprehension's loop by an invariant: the turn's number, the items so far -/
theorem lc_inv {ds : List D} (Inv : Nat → List D → Rho → Prop) (h0 : Inv 0 [] ρ) (step : ∀ i d ys ρ, ds[i]? = some d → Inv i ys ρ → WP (turn d (wipeR ρ own)) fun y ρ1 => Inv (i + 1) (ys ++ keepK y []) ρ1) (he : ∀ ys ρ, Inv ds.length ys ρ → K ys ρ) : WP (lcLoop turn own ds ρ) K := by
  suffices h : ∀ (ds : List D) (ρ : Rho) (K : List D → Rho → Prop) (Inv : Nat → List D → Rho → Prop) (pre : List D), Inv 0 pre ρ → (∀ i d ys ρ, ds[i]? = some d → Inv i ys ρ → WP (turn d (wipeR ρ own)) fun y ρ1 => Inv (i + 1) (ys ++ keepK y []) ρ1) → (∀ ys ρ, Inv ds.length (pre ++ ys) ρ → K ys ρ) → WP (lcLoop turn own ds ρ) K by
    exact h ds ρ K Inv [] h0 step fun ys ρ h => he ys ρ h
  intro ds
  induction ds with
  | nil => intro ρ K Inv pre h0 _ he; rw [lc_nil]; exact he [] ρ (by rw [List.append_nil]; exact h0)
  | cons d ds ih =>
    intro ρ K Inv pre h0 step he
    rw [lc_cons]
    refine (step 0 d pre ρ rfl h0).mono fun y ρ1 h => ?_
    refine ih ρ1 _ (fun i => Inv (i + 1)) (pre ++ keepK y []) h (fun i d' ys ρ' hd hi => step (i + 1) d' ys ρ' (by simpa using hd) hi) fun ys ρ' h => he _ ρ' ?_
    have : pre ++ keepK y [] ++ ys = pre ++ keepK y ys := by cases y <;> simp [keepK]
    rw [← this]; exact h
end
/-! ### a def's end -/
def EndV (c : Cell) (K : Cell → Prop) : Prop := match c with
  | .dat d => K (.dat d)
  | .own ds => K (.own ds)
  | _ => False
theorem EndV_d {d : D} {K : Cell → Prop} : EndV (.dat d) K = K (.dat d) := rfl
theorem EndV_o {ds : List D} {K : Cell → Prop} : EndV (.own ds) K = K (.own ds) := rfl
theorem EndV_congr {c c' : Cell} {K : Cell → Prop} (h : c = c') : EndV c K = EndV c' K := by rw [h]
section
variable {K : Cell → Cell → Prop}
theorem none_P {α β : Type} {K : α → β → Prop} : WP (none : Option (α × β)) K = False := propext ⟨fun ⟨_, _, e, _⟩ => (nomatch e), fun e => nomatch e⟩
theorem en_nx : WP (endB false (.nx, ρ)) K = K (.dat .none) .emp := WP_some
theorem en_t {c : Cell} : WP (endB false (.rt (.t c), ρ)) K = K c .emp := WP_some
theorem en_v {i : Nat} : WP (endB false (.rt (.v i), ρ)) K = EndV (cellAt ρ i) fun c => K c .emp := by
  show WP ((retC false (.v i) ρ).bind _) K = _
  unfold retC
  cases h : cellAt ρ i <;> simp only [h, WP_bindV] <;> first | (rw [if_neg Bool.false_ne_true, WV_some, if_neg Bool.false_ne_true, WP_some]; rfl) | (rw [WV_some, if_neg Bool.false_ne_true, WP_some]; rfl) | exact propext ⟨fun ⟨_, e, _⟩ => (nomatch e), fun e => nomatch e⟩
/-- the first slot's cell goes back to the caller -/
def OutV (c : Cell) (K : Cell → Prop) : Prop := match c with
  | .emp => False
  | x => K x
theorem OutV_o {ds : List D} {K : Cell → Prop} : OutV (.own ds) K = K (.own ds) := rfl
theorem OutV_d {d : D} {K : Cell → Prop} : OutV (.dat d) K = K (.dat d) := rfl
theorem OutV_congr {c c' : Cell} {K : Cell → Prop} (h : c = c') : OutV c K = OutV c' K := by rw [h]
theorem outV_eq {c : Cell} {ρ : Rho} : WP (match cellAt ρ 0 with
    | .emp => none
    | x => some (c, x)) K = OutV (cellAt ρ 0) fun x => K c x := by
  cases h : cellAt ρ 0 <;> first | exact none_P | exact WP_some
theorem eo_nx : WP (endB true (.nx, ρ)) K = OutV (cellAt ρ 0) fun x => K (.dat .none) x := outV_eq
theorem eo_t {c : Cell} : WP (endB true (.rt (.t c), ρ)) K = OutV (cellAt ρ 0) fun x => K c x := outV_eq
def OwnL (c : Cell) : Prop := match c with
  | .own _ => True
  | _ => False
theorem OwnL_o {ds : List D} : OwnL (.own ds) = True := rfl
theorem OwnL_congr {c c' : Cell} (h : c = c') : OwnL c = OwnL c' := by rw [h]
def EndO (i : Nat) (c c0 : Cell) (K : Cell → Cell → Prop) : Prop := match c with
  | .dat d => OutV c0 fun x => K (.dat d) x
  | .own ds => i ≠ 0 ∧ OwnL c0 ∧ K (.own ds) c0
  | _ => False
theorem EndO_d {i : Nat} {d : D} {c0 : Cell} : EndO i (.dat d) c0 K = OutV c0 fun x => K (.dat d) x := rfl
theorem EndO_o {i : Nat} {ds : List D} {c0 : Cell} : EndO i (.own ds) c0 K = (i ≠ 0 ∧ OwnL c0 ∧ K (.own ds) c0) := rfl
theorem EndO_congr {i : Nat} {c c' c0 c0' : Cell} (h : c = c') (h0 : c0 = c0') : EndO i c c0 K = EndO i c' c0' K := by rw [h, h0]
theorem eo_v {i : Nat} : WP (endB true (.rt (.v i), ρ)) K = EndO i (cellAt ρ i) (cellAt ρ 0) K := by
  show WP ((retC true (.v i) ρ).bind fun c => if true = true then (match cellAt ρ 0 with
    | .emp => none
    | x => some (c, x)) else some (c, .emp)) K = _
  unfold retC
  cases h : cellAt ρ i with
  | emp => simp only [h]; exact none_P
  | dic d => simp only [h]; exact none_P
  | dat d => simp only [h, WP_bindV, WV_some, if_true]; exact outV_eq
  | own ds =>
    simp only [h, if_true]
    show _ = (i ≠ 0 ∧ OwnL (cellAt ρ 0) ∧ K (.own ds) (cellAt ρ 0))
    by_cases hi : i = 0
    · rw [if_pos hi]; exact propext ⟨fun ⟨_, _, e, _⟩ => (nomatch e), fun e => absurd hi e.1⟩
    · rw [if_neg hi]
      cases h0 : cellAt ρ 0 with
      | own es => simp only [WP_bindV, WV_some]; rw [WP_some]; exact propext ⟨fun k => ⟨hi, trivial, k⟩, fun k => k.2.2⟩
      | _ => exact propext ⟨fun ⟨_, _, e, _⟩ => (nomatch e), fun e => nomatch e.2.1⟩
theorem wf_eq {T : Tab} {b : Sms} {L : Nat} {io : Bool} {cs : List Cell} : WF (mkF T b L io) cs K = WP (exs T fuel b (cs ++ List.replicate (L - cs.length) .emp)) fun o ρ => WP (endB io (o, ρ)) K := by
  show WP ((exs T fuel b (cs ++ List.replicate (L - cs.length) .emp)).bind (endB io)) K = _
  simp only [WP_bindV, WV_pair]
end
end
/-! ### tables -/
def tab (fs : List (Nat × Fn)) (gs : List (Nat × D)) : Tab := ⟨fun i => fs.lookup i, fun i => gs.lookup i⟩
/-! ### operators -/
section
variable {K : Cell → Prop} {i j : Int}
theorem o_add : WV (binD .Add (.int i) (.int j)) K = K (.dat (.int (i + j))) := WV_some
theorem o_sub : WV (binD .Sub (.int i) (.int j)) K = K (.dat (.int (i - j))) := WV_some
theorem o_mul : WV (binD .Mult (.int i) (.int j)) K = (mulOk i j = true ∧ K (.dat (.int (i * j)))) := WV_if
theorem o_div : WV (binD .FloorDiv (.int i) (.int j)) K = (divOk j = true ∧ K (.dat (.int (i.fdiv j)))) := WV_if
theorem o_mod : WV (binD .Mod (.int i) (.int j)) K = (j ≠ 0 ∧ K (.dat (.int (i.fmod j)))) := by
  show WV (if j = 0 then none else some _) K = _
  by_cases h : j = 0
  · rw [if_pos h]; exact propext ⟨fun ⟨_, e, _⟩ => (nomatch e), fun k => absurd h k.1⟩
  · rw [if_neg h, WV_some]; exact propext ⟨fun k => ⟨h, k⟩, fun k => k.2⟩
theorem o_pow : WV (binD .Pow (.int i) (.int j)) K = ((0 ≤ j ∧ j ≤ 1000000 ∧ i.natAbs < 2 ^ 64) ∧ K (.dat (.int (i ^ j.toNat)))) := WV_if
theorem o_addT {xs ys : List D} : WV (binD .Add (.tuple xs) (.tuple ys)) K = (xs.length + ys.length ≤ 16777216 ∧ K (.dat (.tuple (xs ++ ys)))) := WV_if
theorem o_addL {xs ys : List D} : WV (binD .Add (.list xs) (.list ys)) K = (xs.length + ys.length ≤ 16777216 ∧ K (.own (xs ++ ys))) := WV_if
theorem o_mulL {xs : List D} {k : Int} : WV (binD .Mult (.list xs) (.int k)) K = ((0 ≤ k ∧ xs.length * k.toNat ≤ 16777216 ∧ k < 2 ^ 62) ∧ K (.own (List.replicate k.toNat xs).flatten)) := WV_if
end
section
variable {K : D → Prop} {x y z u v w : D} {r : List D}
theorem ix0 : WV (idxD (.tuple (x :: r)) (.int 0)) K = K x := by
  rw [show idxD (.tuple (x :: r)) (.int 0) = some x from atI_nat (j := 0) rfl, WV_some]
theorem ixL0 : WV (idxD (.list (x :: r)) (.int 0)) K = K x := by
  rw [show idxD (.list (x :: r)) (.int 0) = some x from atI_nat (j := 0) rfl, WV_some]
theorem ix1 : WV (idxD (.tuple (x :: y :: r)) (.int 1)) K = K y := by
  rw [show idxD (.tuple (x :: y :: r)) (.int 1) = some y from atI_nat (j := 1) rfl, WV_some]
theorem ixL1 : WV (idxD (.list (x :: y :: r)) (.int 1)) K = K y := by
  rw [show idxD (.list (x :: y :: r)) (.int 1) = some y from atI_nat (j := 1) rfl, WV_some]
theorem ix2 : WV (idxD (.tuple (x :: y :: z :: r)) (.int 2)) K = K z := by
  rw [show idxD (.tuple (x :: y :: z :: r)) (.int 2) = some z from atI_nat (j := 2) rfl, WV_some]
theorem ixL2 : WV (idxD (.list (x :: y :: z :: r)) (.int 2)) K = K z := by
  rw [show idxD (.list (x :: y :: z :: r)) (.int 2) = some z from atI_nat (j := 2) rfl, WV_some]
theorem ix3 : WV (idxD (.tuple (x :: y :: z :: w :: r)) (.int 3)) K = K w := by
  rw [show idxD (.tuple (x :: y :: z :: w :: r)) (.int 3) = some w from atI_nat (j := 3) rfl, WV_some]
theorem ixL3 : WV (idxD (.list (x :: y :: z :: w :: r)) (.int 3)) K = K w := by
  rw [show idxD (.list (x :: y :: z :: w :: r)) (.int 3) = some w from atI_nat (j := 3) rfl, WV_some]
/-- an item at a place -/
theorem ixTn {xs : List D} {i : Nat} {d : D} (h : xs[i]? = some d) (k : K d) : WV (idxD (.tuple xs) (.int (i : Int))) K := by
  rw [show idxD (.tuple xs) (.int (i : Int)) = some d from atI_nat h, WV_some]; exact k
theorem ixLn {xs : List D} {i : Nat} {d : D} (h : xs[i]? = some d) (k : K d) : WV (idxD (.list xs) (.int (i : Int))) K := by
  rw [show idxD (.list xs) (.int (i : Int)) = some d from atI_nat h, WV_some]; exact k
end
section
variable {K : Bool → Prop} {i j : Int} {b c : Bool} {x : D} {xs ys : List D}
theorem eqv_int : PyData.eqv (.int i) (.int j) = decide (i = j) := by
  simp only [PyData.eqv]
  by_cases h : i = j
  · rw [decide_eq_true h, h]; simp
  · rw [decide_eq_false h]; exact beq_eq_false_iff_ne.mpr h
theorem putL0 {x d : D} {r : List D} {K : List D → Prop} : WV (putL (x :: r) 0 d) K = K (d :: r) := by
  have e : putL (x :: r) 0 d = some (d :: r) := by simp [putL, ixN]
  rw [e, WV_some]
theorem putL1 {x y d : D} {r : List D} {K : List D → Prop} : WV (putL (x :: y :: r) 1 d) K = K (x :: d :: r) := by
  have e : putL (x :: y :: r) 1 d = some (x :: d :: r) := by
    have h : (1 : Int) < (((x :: y :: r).length : Nat) : Int) := by simp only [List.length_cons]; omega
    simp only [putL, ixN]
    rw [if_pos (by decide), if_pos h]; rfl
  rw [e, WV_some]
theorem putLn {xs : List D} {i : Nat} {d : D} {K : List D → Prop} (h : i < xs.length) (k : K (xs.set i d)) : WV (putL xs (i : Int) d) K := by
  have e : putL xs (i : Int) d = some (xs.set i d) := by
    simp only [putL, ixN]
    rw [if_pos (by omega), if_pos (by omega)]; rfl
  rw [e, WV_some]; exact k
theorem pow64 {K : Cell → Prop} : WV (binD .Pow (.int 2) (.int 64)) K = K (.dat (.int 18446744073709551616)) := by rw [o_pow]; exact propext ⟨fun k => k.2, fun k => ⟨by decide, k⟩⟩
theorem pow33 {K : Cell → Prop} : WV (binD .Pow (.int 2) (.int 33)) K = K (.dat (.int 8589934592)) := by rw [o_pow]; exact propext ⟨fun k => k.2, fun k => ⟨by decide, k⟩⟩
theorem pow22 {K : Cell → Prop} : WV (binD .Pow (.int 2) (.int 22)) K = K (.dat (.int 4194304)) := by rw [o_pow]; exact propext ⟨fun k => k.2, fun k => ⟨by decide, k⟩⟩
theorem pow18 {K : Cell → Prop} : WV (binD .Pow (.int 10) (.int 18)) K = K (.dat (.int 1000000000000000000)) := by rw [o_pow]; exact propext ⟨fun k => k.2, fun k => ⟨by decide, k⟩⟩
theorem pow10 {K : Cell → Prop} : WV (binD .Pow (.int 10) (.int 10)) K = K (.dat (.int 10000000000)) := by rw [o_pow]; exact propext ⟨fun k => k.2, fun k => ⟨by decide, k⟩⟩
theorem p_eqI : WV (cmpD .Eq (.int i) (.int j)) K = K (decide (i = j)) := by
  show WV (eqD (.int i) (.int j)) K = _
  unfold eqD
  rw [if_pos (show scalD (.int i) (.int j) = true from rfl), WV_some, eqv_int]
theorem p_neI : WV (cmpD .NotEq (.int i) (.int j)) K = K (!decide (i = j)) := by
  show WV ((eqD (.int i) (.int j)).map _) K = _
  unfold eqD
  rw [if_pos (show scalD (.int i) (.int j) = true from rfl), WV_map, WV_some, eqv_int]
theorem eqv_bool : PyData.eqv (.bool b) (.bool c) = decide (b = c) := by
  simp only [PyData.eqv]
  cases b <;> cases c <;> rfl
theorem p_eqB : WV (cmpD .Eq (.bool b) (.bool c)) K = K (decide (b = c)) := by
  show WV (eqD (.bool b) (.bool c)) K = _
  unfold eqD
  rw [if_pos (show scalD (.bool b) (.bool c) = true from rfl), WV_some, eqv_bool]
theorem p_neB : WV (cmpD .NotEq (.bool b) (.bool c)) K = K (!decide (b = c)) := by
  show WV ((eqD (.bool b) (.bool c)).map _) K = _
  unfold eqD
  rw [if_pos (show scalD (.bool b) (.bool c) = true from rfl), WV_map, WV_some, eqv_bool]
theorem eqv_str {s r : Str} : PyData.eqv (.str s) (.str r) = decide (s = r) := by
  simp only [PyData.eqv]
  by_cases h : s = r
  · rw [decide_eq_true h, h]; simp
  · rw [decide_eq_false h]; exact beq_eq_false_iff_ne.mpr h
theorem p_eqS {s r : Str} : WV (cmpD .Eq (.str s) (.str r)) K = K (decide (s = r)) := by
  show WV (eqD (.str s) (.str r)) K = _
  unfold eqD
  rw [if_pos (show scalD (.str s) (.str r) = true from rfl), WV_some, eqv_str]
theorem p_neS {s r : Str} : WV (cmpD .NotEq (.str s) (.str r)) K = K (!decide (s = r)) := by
  show WV ((eqD (.str s) (.str r)).map _) K = _
  unfold eqD
  rw [if_pos (show scalD (.str s) (.str r) = true from rfl), WV_map, WV_some, eqv_str]
/-- == of data that are no two scalars -/
theorem p_eqD {y : D} (h1 : SeqAt.shaped x = true) (h2 : SeqAt.shaped y = true) (k : K (PyData.eqv x y)) : WV (cmpD .Eq x y) K := by
  show WV (eqD x y) K
  unfold eqD
  by_cases h : scalD x y = true
  · rw [if_pos h, WV_some]; exact k
  · rw [if_neg h, if_pos (by rw [h1, h2]; rfl), WV_some]; exact k
theorem p_neD {y : D} (h1 : SeqAt.shaped x = true) (h2 : SeqAt.shaped y = true) (k : K (!PyData.eqv x y)) : WV (cmpD .NotEq x y) K := by
  show WV ((eqD x y).map _) K
  rw [WV_map]
  exact p_eqD (K := fun b => K (!b)) h1 h2 k
theorem p_ltI : WV (cmpD .Lt (.int i) (.int j)) K = K (decide (i < j)) := WV_some
theorem p_leI : WV (cmpD .LtE (.int i) (.int j)) K = K (decide (i ≤ j)) := WV_some
theorem p_gtI : WV (cmpD .Gt (.int i) (.int j)) K = K (decide (j < i)) := WV_some
theorem p_geI : WV (cmpD .GtE (.int i) (.int j)) K = K (decide (j ≤ i)) := WV_some
def isNon : D → Bool
  | .none => true
  | _ => false
theorem p_isN : WV (cmpD .Is x .none) K = K (isNon x) := by
  show WV (some _) K = _
  rw [WV_some]; cases x <;> rfl
theorem p_isnN : WV (cmpD .IsNot x .none) K = K (!isNon x) := by
  show WV (some _) K = _
  rw [WV_some]; cases x <;> rfl
theorem nonN : isNon .none = true := rfl
theorem nonI : isNon (.int i) = false := rfl
theorem nonB : isNon (.bool b) = false := rfl
theorem nonT : isNon (.tuple xs) = false := rfl
theorem nonL : isNon (.list xs) = false := rfl
theorem nonS {s : Str} : isNon (.str s) = false := rfl
end
section
variable {K : Cell → Prop} {xs : List D} {i j : Int}
theorem f_lenT : WV (bltD .len [.tuple xs]) K = K (.dat (.int (xs.length : Nat))) := WV_some
theorem f_lenL : WV (bltD .len [.list xs]) K = K (.dat (.int (xs.length : Nat))) := WV_some
theorem f_abs : WV (bltD .abs [.int i]) K = K (.dat (.int (if i < 0 then -i else i))) := WV_some
theorem f_int : WV (bltD .int [.int i]) K = K (.dat (.int i)) := WV_some
theorem f_max : WV (bltD .max [.int i, .int j]) K = K (.dat (.int (if j > i then j else i))) := WV_some
theorem f_min : WV (bltD .min [.int i, .int j]) K = K (.dat (.int (if j < i then j else i))) := WV_some
theorem f_tupL : WV (bltD .tuple [.list xs]) K = K (.dat (.tuple xs)) := WV_some
theorem f_tupT : WV (bltD .tuple [.tuple xs]) K = K (.dat (.tuple xs)) := WV_some
theorem f_lisL : WV (bltD .list [.list xs]) K = K (.own xs) := WV_some
theorem f_lisT : WV (bltD .list [.tuple xs]) K = K (.own xs) := WV_some
theorem f_gcd : WV (bltD .gcd [.int i, .int j]) K = K (.dat (.int (Nat.gcd i.natAbs j.natAbs : Nat))) := WV_some
theorem asBools_map {bs : List Bool} : asBools (bs.map .bool) = some bs := by
  induction bs with
  | nil => rfl
  | cons b bs ih => show (asBools (bs.map .bool)).map _ = _; rw [ih]; rfl
theorem asInts_map {bs : List Int} : asInts (bs.map .int) = some bs := by
  induction bs with
  | nil => rfl
  | cons b bs ih => show (asInts (bs.map .int)).map _ = _; rw [ih]; rfl
theorem f_all {bs : List Bool} (h : xs = bs.map .bool) (k : K (.dat (.bool (bs.all id)))) : WV (bltD .all [.list xs]) K := by
  subst h
  show WV ((asBools (bs.map .bool)).map _) K
  rw [asBools_map]; exact WV_some ▸ k
theorem f_any {bs : List Bool} (h : xs = bs.map .bool) (k : K (.dat (.bool (bs.any id)))) : WV (bltD .any [.list xs]) K := by
  subst h
  show WV ((asBools (bs.map .bool)).map _) K
  rw [asBools_map]; exact WV_some ▸ k
theorem f_sum {ns : List Int} (h : xs = ns.map .int) (k : K (.dat (.int ns.sum))) : WV (bltD .sum [.list xs]) K := by
  subst h
  show WV ((asInts (ns.map .int)).map _) K
  rw [asInts_map]; exact WV_some ▸ k
end
/-! ### isinstance -/
section
variable {K : Bool → Prop} {x : D}
theorem si_int {ts : List String} {i : Int} : WV (isiV ts (.int i)) K = K (ts.any fun t => isiT "int" t) := WV_some
theorem si_bool {ts : List String} {b : Bool} : WV (isiV ts (.bool b)) K = K (ts.any fun t => isiT "bool" t) := WV_some
theorem si_str {ts : List String} {b : Str} : WV (isiV ts (.str b)) K = K (ts.any fun t => isiT "str" t) := WV_some
theorem si_none {ts : List String} : WV (isiV ts .none) K = K (ts.any fun t => isiT "NoneType" t) := WV_some
theorem si_tup {ts : List String} {b : List D} : WV (isiV ts (.tuple b)) K = K (ts.any fun t => isiT "tuple" t) := WV_some
theorem si_lst {ts : List String} {b : List D} : WV (isiV ts (.list b)) K = K (ts.any fun t => isiT "list" t) := WV_some
end
/-! ### methods -/
section
variable {T : Tab} {ρ : Rho} {Q : Od → Rho → Prop} {a : Ex} {es : Exs}
def OwnP (c : Cell) (K : List D → Prop) : Prop := match c with
  | .own xs => K xs
  | _ => False
theorem OwnP_o {xs : List D} {K : List D → Prop} : OwnP (.own xs) K = K xs := rfl
theorem OwnP_congr {c c' : Cell} {K : List D → Prop} (h : c = c') : OwnP c K = OwnP c' K := by rw [h]
def mutP (o : Od) (ρ : Rho) (K : Nat → Prop) : Prop := match o with
  | .v i => OwnP (cellAt ρ i) fun _ => K i
  | _ => False
theorem mutP_congr {o o' : Od} {ρ : Rho} {K : Nat → Prop} (h : o = o') : mutP o ρ K = mutP o' ρ K := by rw [h]
theorem mutP_v {i : Nat} {ρ : Rho} {K : Nat → Prop} : mutP (.v i) ρ K = OwnP (cellAt ρ i) fun _ => K i := rfl
theorem q_mut {m : Mf} (hm : isMut m = true) : WP (ev T (.mth m a es) ρ) Q = WP (ev T a ρ) fun o ρ1 => mutP o ρ1 fun i => WP (evs T es ρ1) fun os ρ2 => WP (frzs ρ2 os) fun ds ρ3 => OwnP (cellAt ρ3 i) fun xs => WP (mthOwn m xs ds) fun c xs' => Q (.t c) (ρ3.set i (.own xs')) := by
  show WP ((ev T a ρ).bind fun r => if isMut m = true then _ else _) Q = _
  simp only [hm, if_true, WP_bindV, WV_pair]
  congr; funext o ρ1
  cases o with
  | t c => exact none_P
  | v i =>
    show _ = OwnP (cellAt ρ1 i) fun _ => _
    simp only []
    cases h : cellAt ρ1 i with
    | own xs0 =>
      simp only [WP_bindV, WV_pair, OwnP_o]
      congr; funext os ρ2; congr; funext ds ρ3
      cases h3 : cellAt ρ3 i with
      | own xs => simp only [WP_mapV, WV_pair, OwnP_o]
      | _ => exact none_P
    | _ => exact none_P
theorem m_app {xs : List D} {d : D} {K : Cell → List D → Prop} : WP (mthOwn .append xs [d]) K = (xs.length < 16777216 ∧ K (.dat .none) (xs ++ [d])) := by
  show WP (if _ then _ else none) K = _
  rw [WP_if, WP_some]
theorem m_ext {xs ys : List D} {K : Cell → List D → Prop} : WP (mthOwn .extend xs [.list ys]) K = (xs.length + ys.length ≤ 16777216 ∧ K (.dat .none) (xs ++ ys)) := by
  show WP (if _ then _ else none) K = _
  rw [WP_if, WP_some]
theorem m_rev {xs : List D} {K : Cell → List D → Prop} : WP (mthOwn .reverse xs []) K = K (.dat .none) xs.reverse := WP_some
theorem m_pop {xs : List D} {y : D} {K : Cell → List D → Prop} : WP (mthOwn .pop (xs ++ [y]) []) K = K (.dat y) xs := by
  show WP ((((xs ++ [y])[(xs ++ [y]).length - 1]?)).map _) K = _
  have : (xs ++ [y])[(xs ++ [y]).length - 1]? = some y := by simp
  rw [this]; show WP (some (Cell.dat y, (xs ++ [y]).dropLast)) K = _
  rw [WP_some, List.dropLast_concat]
/-- a method that changes nothing -/
def conV (m : Mf) (x : D) (vs : List D) : Option Cell := mthD m x vs
def isSq : D → Bool
  | .list _ => true
  | .tuple _ => true
  | _ => false
def sqP (x : D) : Prop := isSq x = true
theorem sqP_t {xs : List D} : sqP (.tuple xs) = True := propext ⟨fun _ => trivial, fun _ => rfl⟩
theorem sqP_l {xs : List D} : sqP (.list xs) = True := propext ⟨fun _ => trivial, fun _ => rfl⟩
def sameK : D → D → Prop
  | .list _, .list _ => True
  | .tuple _, .tuple _ => True
  | _, _ => False
theorem sameK_l {xs ys : List D} : sameK (.list xs) (.list ys) = True := rfl
theorem sameK_t {xs ys : List D} : sameK (.tuple xs) (.tuple ys) = True := rfl
theorem q_mth {m : Mf} (hm : isMut m = false) : WP (ev T (.mth m a es) ρ) Q = WP (ev T a ρ) fun o ρ1 => WV (lookD ρ1 o) fun x0 => sqP x0 ∧ WP (evs T es ρ1) fun os ρ2 => WV (lookD ρ2 o) fun x => sameK x0 x ∧ WV (lookDs ρ2 os) fun vs => WV (mthD m x vs) fun c => Q (.t c) ρ2 := by
  show WP ((ev T a ρ).bind fun r => if isMut m = true then _ else _) Q = _
  simp only [hm, if_neg Bool.false_ne_true, WP_bindV, WV_pair]
  congr; funext o ρ1; congr; funext x0
  have ff : ∀ {α β : Type} {x : Option (α × β)}, (WP x fun _ _ => False) = False := fun {_ _ _} => propext ⟨fun ⟨_, _, _, k⟩ => k, fun k => nomatch k⟩
  cases x0 with
  | list xs =>
    simp only [sqP_l, true_and, WP_bindV, WV_pair]
    congr; funext os ρ2; congr; funext x
    cases x <;> simp only [WP_bindV, WP_mapV, sameK, true_and, false_and] <;> exact none_P
  | tuple xs =>
    simp only [sqP_t, true_and, WP_bindV, WV_pair]
    congr; funext os ρ2; congr; funext x
    cases x <;> simp only [WP_bindV, WP_mapV, sameK, true_and, false_and] <;> exact none_P
  | _ => simp only [sqP, isSq]; rw [none_P]; exact propext ⟨fun k => (nomatch k), fun k => nomatch k.1⟩
theorem q_count : WP (ev T (.mth .count a es) ρ) Q = WP (ev T a ρ) fun o ρ1 => WV (lookD ρ1 o) fun x0 => sqP x0 ∧ WP (evs T es ρ1) fun os ρ2 => WV (lookD ρ2 o) fun x => sameK x0 x ∧ WV (lookDs ρ2 os) fun vs => WV (mthD .count x vs) fun c => Q (.t c) ρ2 := q_mth rfl
theorem q_index : WP (ev T (.mth .index a es) ρ) Q = WP (ev T a ρ) fun o ρ1 => WV (lookD ρ1 o) fun x0 => sqP x0 ∧ WP (evs T es ρ1) fun os ρ2 => WV (lookD ρ2 o) fun x => sameK x0 x ∧ WV (lookDs ρ2 os) fun vs => WV (mthD .index x vs) fun c => Q (.t c) ρ2 := q_mth rfl
theorem q_append : WP (ev T (.mth .append a es) ρ) Q = WP (ev T a ρ) fun o ρ1 => mutP o ρ1 fun i => WP (evs T es ρ1) fun os ρ2 => WP (frzs ρ2 os) fun ds ρ3 => OwnP (cellAt ρ3 i) fun xs => WP (mthOwn .append xs ds) fun c xs' => Q (.t c) (ρ3.set i (.own xs')) := q_mut rfl
theorem q_extend : WP (ev T (.mth .extend a es) ρ) Q = WP (ev T a ρ) fun o ρ1 => mutP o ρ1 fun i => WP (evs T es ρ1) fun os ρ2 => WP (frzs ρ2 os) fun ds ρ3 => OwnP (cellAt ρ3 i) fun xs => WP (mthOwn .extend xs ds) fun c xs' => Q (.t c) (ρ3.set i (.own xs')) := q_mut rfl
theorem q_pop : WP (ev T (.mth .pop a es) ρ) Q = WP (ev T a ρ) fun o ρ1 => mutP o ρ1 fun i => WP (evs T es ρ1) fun os ρ2 => WP (frzs ρ2 os) fun ds ρ3 => OwnP (cellAt ρ3 i) fun xs => WP (mthOwn .pop xs ds) fun c xs' => Q (.t c) (ρ3.set i (.own xs')) := q_mut rfl
theorem q_reverse : WP (ev T (.mth .reverse a es) ρ) Q = WP (ev T a ρ) fun o ρ1 => mutP o ρ1 fun i => WP (evs T es ρ1) fun os ρ2 => WP (frzs ρ2 os) fun ds ρ3 => OwnP (cellAt ρ3 i) fun xs => WP (mthOwn .reverse xs ds) fun c xs' => Q (.t c) (ρ3.set i (.own xs')) := q_mut rfl
theorem m_cntT {xs : List D} {d : D} {K : Cell → Prop} : WV (mthD .count (.tuple xs) [d]) K = ((SeqAt.shaped (.tuple xs) && SeqAt.shaped d) = true ∧ K (.dat (.int (xs.countP fun z => PyData.eqv z d : Nat)))) := WV_if
theorem m_cntL {xs : List D} {d : D} {K : Cell → Prop} : WV (mthD .count (.list xs) [d]) K = ((SeqAt.shaped (.list xs) && SeqAt.shaped d) = true ∧ K (.dat (.int (xs.countP fun z => PyData.eqv z d : Nat)))) := WV_if
end
section
variable {T : Tab} {ρ : Rho} {Q : Od → Rho → Prop} {a : Ex}
theorem isi1 {t : String} {f : D → Bool} (ht : isiOk [t] = true) (hf : ∀ d, isiOne d t = f d) : WP (ev T (.isi a [t]) ρ) Q = WP (ev T a ρ) fun o ρ1 => WV (lookD ρ1 o) fun x => noDict x = true ∧ Q (.t (.dat (.bool (f x)))) ρ1 := by
  rw [q_isi ht]; congr; funext o ρ1; congr; funext x
  have e : ([t].any fun t => isiOne x t) = f x := by rw [List.any_cons, List.any_nil, Bool.or_false, hf]
  cases x <;> first
    | (show WV (some ([t].any fun t => isiOne _ t)) _ = _; rw [e, WV_some]; exact propext ⟨fun k => ⟨rfl, k⟩, fun k => k.2⟩)
    | exact propext ⟨fun ⟨_, e, _⟩ => (nomatch e), fun k => nomatch k.1⟩
theorem isi2 {t u : String} {f g : D → Bool} (ht : isiOk [t, u] = true) (hf : ∀ d, isiOne d t = f d) (hg : ∀ d, isiOne d u = g d) : WP (ev T (.isi a [t, u]) ρ) Q = WP (ev T a ρ) fun o ρ1 => WV (lookD ρ1 o) fun x => noDict x = true ∧ Q (.t (.dat (.bool (f x || g x)))) ρ1 := by
  rw [q_isi ht]; congr; funext o ρ1; congr; funext x
  have e : ([t, u].any fun t => isiOne x t) = (f x || g x) := by rw [List.any_cons, List.any_cons, List.any_nil, Bool.or_false, hf, hg]
  cases x <;> first
    | (show WV (some ([t, u].any fun t => isiOne _ t)) _ = _; rw [e, WV_some]; exact propext ⟨fun k => ⟨rfl, k⟩, fun k => k.2⟩)
    | exact propext ⟨fun ⟨_, e, _⟩ => (nomatch e), fun k => nomatch k.1⟩
theorem isiI : WP (ev T (.isi a ["int"]) ρ) Q = WP (ev T a ρ) fun o ρ1 => WV (lookD ρ1 o) fun x => noDict x = true ∧ Q (.t (.dat (.bool (tInt x)))) ρ1 := isi1 (by decide) isi_int
theorem isiB : WP (ev T (.isi a ["bool"]) ρ) Q = WP (ev T a ρ) fun o ρ1 => WV (lookD ρ1 o) fun x => noDict x = true ∧ Q (.t (.dat (.bool (tBool x)))) ρ1 := isi1 (by decide) isi_bool
theorem isiTu : WP (ev T (.isi a ["tuple"]) ρ) Q = WP (ev T a ρ) fun o ρ1 => WV (lookD ρ1 o) fun x => noDict x = true ∧ Q (.t (.dat (.bool (tTup x)))) ρ1 := isi1 (by decide) isi_tup
theorem isiL : WP (ev T (.isi a ["list"]) ρ) Q = WP (ev T a ρ) fun o ρ1 => WV (lookD ρ1 o) fun x => noDict x = true ∧ Q (.t (.dat (.bool (tLst x)))) ρ1 := isi1 (by decide) isi_lst
theorem isiS : WP (ev T (.isi a ["str"]) ρ) Q = WP (ev T a ρ) fun o ρ1 => WV (lookD ρ1 o) fun x => noDict x = true ∧ Q (.t (.dat (.bool (tStr x)))) ρ1 := isi1 (by decide) isi_str
theorem isiTL : WP (ev T (.isi a ["tuple", "list"]) ρ) Q = WP (ev T a ρ) fun o ρ1 => WV (lookD ρ1 o) fun x => noDict x = true ∧ Q (.t (.dat (.bool (tTup x || tLst x)))) ρ1 := isi2 (by decide) isi_tup isi_lst
end
section
variable {i : Int} {b : Bool} {s : Str} {xs : List D}
theorem nd_i : noDict (.int i) = true := rfl
theorem nd_b : noDict (.bool b) = true := rfl
theorem nd_s : noDict (.str s) = true := rfl
theorem nd_t : noDict (.tuple xs) = true := rfl
theorem nd_l : noDict (.list xs) = true := rfl
theorem nd_n : noDict .none = true := rfl
theorem ti_i : tInt (.int i) = true := rfl
theorem ti_b : tInt (.bool b) = true := rfl
theorem ti_s : tInt (.str s) = false := rfl
theorem ti_t : tInt (.tuple xs) = false := rfl
theorem ti_l : tInt (.list xs) = false := rfl
theorem ti_n : tInt .none = false := rfl
theorem tb_i' : tBool (.int i) = false := rfl
theorem tb_b' : tBool (.bool b) = true := rfl
theorem tb_s' : tBool (.str s) = false := rfl
theorem tb_t' : tBool (.tuple xs) = false := rfl
theorem tb_l' : tBool (.list xs) = false := rfl
theorem tb_n' : tBool .none = false := rfl
theorem tt_i : tTup (.int i) = false := rfl
theorem tt_b : tTup (.bool b) = false := rfl
theorem tt_s : tTup (.str s) = false := rfl
theorem tt_t : tTup (.tuple xs) = true := rfl
theorem tt_l : tTup (.list xs) = false := rfl
theorem tt_n : tTup .none = false := rfl
theorem tl_i : tLst (.int i) = false := rfl
theorem tl_b : tLst (.bool b) = false := rfl
theorem tl_s : tLst (.str s) = false := rfl
theorem tl_t : tLst (.tuple xs) = false := rfl
theorem tl_l : tLst (.list xs) = true := rfl
theorem tl_n : tLst .none = false := rfl
theorem ts_i : tStr (.int i) = false := rfl
theorem ts_b : tStr (.bool b) = false := rfl
theorem ts_s : tStr (.str s) = true := rfl
theorem ts_t : tStr (.tuple xs) = false := rfl
theorem ts_l : tStr (.list xs) = false := rfl
theorem ts_n : tStr .none = false := rfl
theorem no_t : (!true) = false := rfl
theorem no_f : (!false) = true := rfl
theorem mapN {α β : Type} {f : α → β} : List.map f [] = [] := rfl
theorem mapC {α β : Type} {f : α → β} {x : α} {l : List α} : List.map f (x :: l) = f x :: List.map f l := rfl
theorem appN {α : Type} {l : List α} : [] ++ l = l := rfl
theorem appC {α : Type} {x : α} {k l : List α} : (x :: k) ++ l = x :: (k ++ l) := rfl
theorem gD0 {α : Type} {x d : α} {l : List α} : (x :: l).getD 0 d = x := rfl
theorem gDS {α : Type} {x d : α} {l : List α} {i : Nat} : (x :: l).getD (i + 1) d = l.getD i d := rfl
theorem lenN {α : Type} : ([] : List α).length = 0 := rfl
theorem lenC {α : Type} {x : α} {l : List α} : (x :: l).length = l.length + 1 := rfl
theorem bkN {ρ ρ' : Rho} : backR ρ ρ' [] = ρ' := rfl
theorem bkC {ρ ρ' : Rho} {i : Nat} {is : List Nat} : backR ρ ρ' (i :: is) = (backR ρ ρ' is).set i (cellAt ρ i) := rfl
theorem wpN {ρ : Rho} : wipeR ρ [] = ρ := rfl
theorem wpC {ρ : Rho} {i : Nat} {is : List Nat} : wipeR ρ (i :: is) = (wipeR ρ is).set i .emp := rfl
end
/-- rules of the run, part 0 -/
def RUN0 := And.intro @q_var (And.intro @q_con (And.intro @q_bin (And.intro @q_neg (And.intro @neg_int (And.intro @q_not (And.intro @q_cmp (And.intro @cmpV_d (And.intro @cmpV_in (And.intro @cmpV_notIn (And.intro @q_chn (And.intro @q_and (And.intro @q_or (And.intro @q_ifx (And.intro @q_tup (And.intro @q_lst (And.intro @q_idx (And.intro @idxV_d (And.intro @idxV_dc (And.intro @q_slc (And.intro @q_rev (And.intro @q_blt (And.intro @q_lc (And.intro @qs_nil (And.intro @qs_cons (And.intro @ld_v (And.intro @ld_d (And.intro @ld_o (And.intro @lv_v (And.intro @lv_d (And.intro @lv_o (And.intro @lv_c (And.intro @AtD_dat (And.intro @AtD_own (And.intro @AtV_dat (And.intro @AtV_own (And.intro @AtV_dic (And.intro @AtB_b (And.intro @tb_v (@tb_b)))))))))))))))))))))))))))))))))))))))
/-- rules of the run, part 1 -/
def RUN1 := And.intro @lds_nil (And.intro @lds_cons (And.intro @f1_v (And.intro @f1_d (And.intro @f1_o (And.intro @fs_nil (And.intro @fs_cons (And.intro @FrC_dat (And.intro @FrC_own (And.intro @co_v (And.intro @co_t (And.intro @cos_nil (And.intro @cos_cons (And.intro @eo_no (And.intro @eo_so (And.intro @intV_i (And.intro @ec_no (And.intro @ec_so (And.intro @i_seq (And.intro @i_rng1 (And.intro @i_rng2 (And.intro @i_enm (And.intro @i_zip (And.intro @i_rev (And.intro @sq_l (And.intro @sq_t (And.intro @tg_n (And.intro @tg_t (And.intro @tgs_nil (And.intro @tgs_cons (And.intro @r_nil (And.intro @so_nx (And.intro @so_bk (And.intro @so_ct (And.intro @so_rt (And.intro @r_cons (And.intro @r_set (And.intro @r_asg (And.intro @r_par (@sA_nil)))))))))))))))))))))))))))))))))))))))
/-- rules of the run, part 2 -/
def RUN2 := And.intro @sA_cons (And.intro @OwnC_o (And.intro @PutC_o (And.intro @r_put (And.intro @r_exp (And.intro @r_ret (And.intro @r_retN (And.intro @r_pas (And.intro @r_brk (And.intro @r_cnt (And.intro @r_ite (And.intro @r_for (And.intro @to_nx (And.intro @to_ct (And.intro @to_bk (And.intro @to_rt (And.intro @fo_nil (And.intro @fo_cons (And.intro @r_whl (And.intro @lc_nil (And.intro @lc_cons (And.intro @kk_s (And.intro @kk_n (And.intro @lc_turn (And.intro @EndV_d (And.intro @EndV_o (And.intro @en_nx (And.intro @en_t (And.intro @en_v (And.intro @OutV_o (And.intro @OutV_d (And.intro @eo_nx (And.intro @eo_t (And.intro @eo_v (And.intro @EndO_d (And.intro @EndO_o (And.intro @IT_t (And.intro @IT_f (And.intro @NotE_dat (@NotE_own)))))))))))))))))))))))))))))))))))))))
/-- rules of the run, part 3 -/
def RUN3 := And.intro @NotE_dic (And.intro @cell0 (And.intro @cellS (And.intro @set0 (And.intro @setS (And.intro @WC_def (And.intro @WCI_def (And.intro @WCI1_own (And.intro @WV_some (And.intro @o_add (And.intro @o_sub (And.intro @o_mul (And.intro @o_div (And.intro @o_mod (And.intro @o_addT (And.intro @o_addL (And.intro @ix0 (And.intro @ix1 (And.intro @ix2 (And.intro @ix3 (And.intro @ixL0 (And.intro @ixL1 (And.intro @ixL2 (And.intro @ixL3 (And.intro @p_eqI (And.intro @p_neI (And.intro @p_eqB (And.intro @p_neB (And.intro @p_ltI (And.intro @p_leI (And.intro @p_gtI (And.intro @p_geI (And.intro @p_isN (And.intro @p_isnN (And.intro @nonN (And.intro @nonI (And.intro @nonB (And.intro @nonT (And.intro @nonL (@nonS)))))))))))))))))))))))))))))))))))))))
/-- rules of the run, part 4 -/
def RUN4 := And.intro @f_lenT (And.intro @f_lenL (And.intro @f_abs (And.intro @f_int (And.intro @f_max (And.intro @f_min (And.intro @f_tupL (And.intro @f_tupT (And.intro @f_lisL (And.intro @f_lisT (And.intro @f_gcd (And.intro @mutP_v (And.intro @OwnP_o (And.intro @m_app (And.intro @m_ext (And.intro @m_rev (And.intro @isiI (And.intro @isiB (And.intro @isiTu (And.intro @isiL (And.intro @isiS (And.intro @isiTL (And.intro @nd_i (And.intro @nd_b (And.intro @nd_s (And.intro @nd_t (And.intro @nd_l (And.intro @nd_n (And.intro @ti_i (And.intro @ti_b (And.intro @ti_s (And.intro @ti_t (And.intro @ti_l (And.intro @ti_n (And.intro @tb_i' (And.intro @tb_b' (And.intro @tb_s' (And.intro @tb_t' (And.intro @tb_l' (@tb_n')))))))))))))))))))))))))))))))))))))))
/-- rules of the run, part 5 -/
def RUN5 := And.intro @tt_i (And.intro @tt_b (And.intro @tt_s (And.intro @tt_t (And.intro @tt_l (And.intro @tt_n (And.intro @tl_i (And.intro @tl_b (And.intro @tl_s (And.intro @tl_t (And.intro @tl_l (And.intro @tl_n (And.intro @ts_i (And.intro @ts_b (And.intro @ts_s (And.intro @ts_t (And.intro @ts_l (And.intro @ts_n (And.intro @no_t (And.intro @no_f (And.intro @q_count (And.intro @q_index (And.intro @q_append (And.intro @q_extend (And.intro @q_pop (And.intro @q_reverse (And.intro @sqP_t (And.intro @sqP_l (And.intro @sameK_l (And.intro @sameK_t (And.intro @m_cntT (And.intro @m_cntL (And.intro @putL0 (And.intro @putL1 (And.intro @pow64 (And.intro @pow33 (And.intro @pow22 (And.intro @pow18 (And.intro @pow10 (@p_eqS)))))))))))))))))))))))))))))))))))))))
/-- rules of the run, part 6 -/
def RUN6 := And.intro @p_neS (And.intro @AN_t (And.intro @AN_f (And.intro @OR_t (And.intro @OR_f (And.intro @q_dnew (And.intro @ba_1 (And.intro @ba_2 (And.intro @bltV_d (And.intro @bltV_sorted (And.intro @f_sorted (And.intro @OwnC_d (And.intro @PutC_d (And.intro @zs_l (And.intro @zs_t (And.intro @rv_l (And.intro @rv_t (And.intro @WCI1_dic (And.intro @OwnL_o (And.intro @uz_n (And.intro @uz_b (And.intro @uz_i (And.intro @uz_s (And.intro @uz_t (And.intro @uz_l (And.intro @uz_o (And.intro @uz_d (And.intro @uz_r (And.intro @WCI_tO (@WCI_tD)))))))))))))))))))))))))))))
def RUN := And.intro @RUN0 (And.intro @RUN1 (And.intro @RUN2 (And.intro @RUN3 (And.intro @RUN4 (And.intro @RUN5 (@RUN6))))))
def RUNH3 := And.intro @NotE_dic (And.intro @cell0 (And.intro @cellS (And.intro @set0 (And.intro @setS (And.intro @WC_defH (And.intro @WCI_def (And.intro @WCI1_ownH (And.intro @WV_some (And.intro @o_add (And.intro @o_sub (And.intro @o_mul (And.intro @o_div (And.intro @o_mod (And.intro @o_addT (And.intro @o_addL (And.intro @ix0 (And.intro @ix1 (And.intro @ix2 (And.intro @ix3 (And.intro @ixL0 (And.intro @ixL1 (And.intro @ixL2 (And.intro @ixL3 (And.intro @p_eqI (And.intro @p_neI (And.intro @p_eqB (And.intro @p_neB (And.intro @p_ltI (And.intro @p_leI (And.intro @p_gtI (And.intro @p_geI (And.intro @p_isN (And.intro @p_isnN (And.intro @nonN (And.intro @nonI (And.intro @nonB (And.intro @nonT (And.intro @nonL (@nonS)))))))))))))))))))))))))))))))))))))))
def RUNH6 := And.intro @p_neS (And.intro @AN_t (And.intro @AN_f (And.intro @OR_t (And.intro @OR_f (And.intro @q_dnew (And.intro @ba_1 (And.intro @ba_2 (And.intro @bltV_d (And.intro @bltV_sorted (And.intro @f_sorted (And.intro @OwnC_d (And.intro @PutC_d (And.intro @zs_l (And.intro @zs_t (And.intro @rv_l (And.intro @rv_t (And.intro @WCI1_dicH (And.intro @OwnL_o (And.intro @uz_n (And.intro @uz_b (And.intro @uz_i (And.intro @uz_s (And.intro @uz_t (And.intro @uz_l (And.intro @uz_o (And.intro @uz_d (And.intro @uz_r (And.intro @WCI_tO (@WCI_tD)))))))))))))))))))))))))))))
/-- the rules with the calls' continuations held -/
def RUNH := And.intro @RUN0 (And.intro @RUN1 (And.intro @RUN2 (And.intro @RUNH3 (And.intro @RUN4 (And.intro @RUN5 (@RUNH6))))))
theorem eqSelf {α : Type} {a : α} : (a = a) = True := eq_self a
theorem decTrue : decide True = true := rfl
theorem decFalse : decide False = false := rfl
def POST := And.intro @AN_p (And.intro @OR_p (And.intro @mapN (And.intro @mapC (And.intro @appN (And.intro @appC (And.intro @gD0 (And.intro @gDS (And.intro @lenN (And.intro @lenC (And.intro @bkN (And.intro @bkC (And.intro @wpN (And.intro @wpC (And.intro @cell0 (And.intro @cellS (And.intro @set0 (And.intro @setS (And.intro @Nat.zero_add (And.intro @true_and (And.intro @and_true (And.intro @Bool.not_true (And.intro @Bool.not_false (And.intro @Bool.true_or (And.intro @Bool.or_true (And.intro @Bool.false_or (And.intro @Bool.or_false (And.intro @Bool.true_and (And.intro @Bool.and_true (And.intro @Bool.false_and (And.intro @Bool.and_false (And.intro @eqSelf (And.intro @decTrue (@decFalse)))))))))))))))))))))))))))))))))
end Lt

/-! Lt, part 20: loops over ranges, comprehensions that change nothing. -/
namespace Lt
open PySem L2
/-! ### (the run's rules: RUN, POST of LtSim) -/
section
variable {K : List D → Prop}
def rngL (a : Int) (n : Nat) : List D := (List.range n).map fun k : Nat => .int (a + (k : Nat))
theorem rngL_len {a : Int} {n : Nat} : (rngL a n).length = n := by simp [rngL]
theorem rngL_at {a : Int} {n i : Nat} {d : D} (h : (rngL a n)[i]? = some d) : i < n ∧ d = .int (a + (i : Nat)) := by
  obtain ⟨h1, h2⟩ := List.getElem?_eq_some_iff.mp h
  rw [rngL_len] at h1
  exact ⟨h1, by rw [← h2]; simp [rngL]⟩
theorem rng1 {m : Nat} (hm : m ≤ 16777216) (k : K (rngL 0 m)) : WV (rng1D (.int (m : Int))) K := by
  refine ⟨_, ?_, k⟩
  show (if -(2 ^ 62) ≤ (m : Int) ∧ (m : Int) ≤ 16777216 then some _ else none) = _
  rw [if_pos ⟨by have : (0 : Int) ≤ 2 ^ 62 := by decide
                 omega, by omega⟩]
  simp [rngL]
/-- a range's turns by the ints -/
theorem rng1' {n : Int} (h : n ≤ 16777216) (h2 : -(2 ^ 62) ≤ n) (k : K (rngL 0 n.toNat)) : WV (rng1D (.int n)) K := by
  refine ⟨_, ?_, k⟩
  show (if -(2 ^ 62) ≤ n ∧ n ≤ 16777216 then some _ else none) = _
  rw [if_pos ⟨h2, h⟩]
  simp [rngL]
theorem rng2 {a b : Int} (h1 : -(2 ^ 62) ≤ a ∧ a < 2 ^ 62 ∧ -(2 ^ 62) ≤ b ∧ b < 2 ^ 62 ∧ b - a ≤ 16777216) (k : K (rngL a (b - a).toNat)) : WV (rng2D (.int a) (.int b)) K := by
  refine ⟨_, ?_, k⟩
  show (if _ then some _ else none) = _
  rw [if_pos h1]; rfl
theorem rng1_2 : WV (rng1D (.int 2)) K = K [.int 0, .int 1] := WV_some
theorem rng1_3 : WV (rng1D (.int 3)) K = K [.int 0, .int 1, .int 2] := WV_some
theorem rng1_4 : WV (rng1D (.int 4)) K = K [.int 0, .int 1, .int 2, .int 3] := WV_some
end
section
variable {T : Tab} {n : Nat} {ρ : Rho} {Q : Out → Rho → Prop} {tg : Tg} {b : Rho → Option (Out × Rho)} {a : Int} {m : Nat}
theorem fo_range (Inv : Nat → Rho → Prop) (h0 : Inv 0 ρ) (step : ∀ i ρ, i < m → Inv i ρ → WV (bindTg tg (.int (a + (i : Nat))) ρ) fun ρ1 => WP (b ρ1) fun o ρ2 => turnO (Inv (i + 1)) Q o ρ2) (he : ∀ ρ, Inv m ρ → Q .nx ρ) : WP (forL tg b (rngL a m) ρ) Q := by
  refine fo_inv Inv h0 (fun i d ρ hd hi => ?_) (by rw [rngL_len]; exact he)
  obtain ⟨h1, rfl⟩ := rngL_at hd
  exact step i ρ h1 hi
end
theorem set_out {α : Type} {l : List α} {i : Nat} {x : α} (h : l.length ≤ i) : l.set i x = l := List.set_eq_of_length_le h
theorem wpL {own : List Nat} : ∀ {ρ : Rho}, (wipeR ρ own).length = ρ.length := by
  induction own with
  | nil => intro ρ; rfl
  | cons i is ih => intro ρ; show ((wipeR ρ is).set i .emp).length = _; rw [List.length_set, ih]
theorem bkL {ρ ρ' : Rho} {own : List Nat} : (backR ρ ρ' own).length = ρ'.length := by
  induction own with
  | nil => rfl
  | cons i is ih => show ((backR ρ ρ' is).set i _).length = _; rw [List.length_set, ih]
theorem wpAt {own : List Nat} : ∀ {ρ : Rho} {j : Nat}, (wipeR ρ own)[j]? = if j ∈ own ∧ j < ρ.length then some .emp else ρ[j]? := by
  induction own with
  | nil => intro ρ j; simp [wipeR]
  | cons i is ih =>
    intro ρ j
    show ((wipeR ρ is).set i .emp)[j]? = _
    rw [List.getElem?_set, ih, wpL]
    by_cases h : i = j
    · subst h
      by_cases hl : i < ρ.length
      · simp [hl]
      · simp [hl]
    · rw [if_neg h]
      simp [show j ≠ i from fun z => h z.symm]
theorem bkAt {ρ ρ' : Rho} (hl : ρ'.length = ρ.length) {own : List Nat} : ∀ {j : Nat}, (backR ρ ρ' own)[j]? = if j ∈ own then ρ[j]? else ρ'[j]? := by
  induction own with
  | nil => intro j; simp [backR]
  | cons i is ih =>
    intro j
    show ((backR ρ ρ' is).set i (cellAt ρ i))[j]? = _
    rw [List.getElem?_set, ih, bkL]
    by_cases h : i = j
    · subst h
      by_cases hh : i < ρ'.length
      · have hh' : i < ρ.length := by omega
        simp [hh, cellAt, List.getD_eq_getElem?_getD, List.getElem?_eq_getElem hh']
      · simp [hh]; omega
    · rw [if_neg h]
      simp [show j ≠ i from fun z => h z.symm]
/-- only the block's own slots were changed: nothing was -/
theorem back_wipe {ρ ρ' : Rho} {own : List Nat} (h : wipeR ρ' own = wipeR ρ own) : backR ρ ρ' own = ρ := by
  have hl : ρ'.length = ρ.length := by rw [← wpL (own := own), h, wpL]
  refine List.ext_getElem? fun j => ?_
  rw [bkAt hl]
  by_cases hj : j ∈ own
  · rw [if_pos hj]
  · rw [if_neg hj]
    have := congrArg (fun l => l[j]?) h
    simpa [wpAt, hj] using this
section
variable {turn : D → Rho → Option (Option D × Rho)} {own : List Nat} {K : List D → Rho → Prop} {ρ : Rho} {ds : List D}
theorem lc_pure (f : D → Option D) (h : ∀ d ∈ ds, WP (turn d (wipeR ρ own)) fun y ρ1 => y = f d ∧ wipeR ρ1 own = wipeR ρ own) (k : ∀ ρ2, backR ρ ρ2 own = ρ → wipeR ρ2 own = wipeR ρ own → K (ds.filterMap f) ρ2) : WP (lcLoop turn own ds ρ) K := by
  suffices g : ∀ (ds : List D) (ρ0 : Rho), (∀ d ∈ ds, WP (turn d (wipeR ρ own)) fun y ρ1 => y = f d ∧ wipeR ρ1 own = wipeR ρ own) → wipeR ρ0 own = wipeR ρ own → WP (lcLoop turn own ds ρ0) fun ys ρ2 => ys = ds.filterMap f ∧ wipeR ρ2 own = wipeR ρ own by
    refine (g ds ρ h rfl).mono fun ys ρ2 h => ?_
    obtain ⟨rfl, h⟩ := h
    exact k ρ2 (back_wipe h) h
  intro ds
  induction ds with
  | nil => intro ρ0 _ e; rw [lc_nil]; exact ⟨rfl, e⟩
  | cons d ds ih =>
    intro ρ0 h e
    rw [lc_cons, e]
    refine (h d (List.mem_cons_self ..)).mono fun y ρ1 hy => ?_
    refine (ih ρ1 (fun d' h' => h d' (List.mem_cons_of_mem _ h')) hy.2).mono fun ys ρ2 hz => ?_
    obtain ⟨rfl, hz⟩ := hz
    refine ⟨?_, hz⟩
    rw [hy.1, List.filterMap_cons]
    cases f d <;> rfl
/-- each item gives one -/
theorem lc_map (f : D → D) (h : ∀ d ∈ ds, WP (turn d (wipeR ρ own)) fun y ρ1 => y = some (f d) ∧ wipeR ρ1 own = wipeR ρ own) (k : ∀ ρ2, backR ρ ρ2 own = ρ → K (ds.map f) ρ2) : WP (lcLoop turn own ds ρ) K := by
  refine lc_pure (fun d => some (f d)) h fun ρ2 hb _ => ?_
  have : ds.filterMap (fun d => some (f d)) = ds.map f := by induction ds with
    | nil => rfl
    | cons d ds ih => simp [List.filterMap_cons]
  rw [this]; exact k ρ2 hb
end
theorem fuel_lt {n m : Nat} (h : m < 2 ^ n) (k : n ≤ 100000) : m < fuel := by
  unfold fuel
  exact Nat.lt_of_lt_of_le h (Nat.pow_le_pow_right (by decide) k)
theorem fuel_big {m : Nat} (h : m < 2 ^ 64) : m < fuel := fuel_lt h (by decide)
/-! ### the script -/
theorem lenScr {ns : List Int} {K : Cell → Prop} : WV (bltD .len [scr ns]) K = K (.dat (.int (ns.length : Nat))) := by
  show WV (some (Cell.dat (.int (((ns.map fun n => (PyData.int n, PyData.none)).length : Nat) : Int)))) K = _
  rw [WV_some, List.length_map]
theorem atScr {ns : List Int} {i : Nat} {n : Int} {K : D → Prop} (h : ns[i]? = some n) (k : K (.int n)) : WV (idxD (scr ns) (.int (i : Int))) K := by
  have e : idxD (scr ns) (.int (i : Int)) = some (.int n) := by
    show (atI (ns.map fun n => (PyData.int n, PyData.none)) (i : Int)).map (·.1) = _
    rw [atI_nat (v := (PyData.int n, PyData.none)) (by rw [List.getElem?_map, h]; rfl)]; rfl
  rw [e, WV_some]; exact k
end Lt

/-! Lt, part 18: a module's defs, one behind another. -/
namespace Lt
open PySem L2 PySem.Spec PyProof.Rows
structure OKF (P : Program) (w : World) (K : PySem.W.Frag) (mg : Str → Option Value) (base : Heap) (x : Str) (fn : Fn) (kws : List (Nat × List Str)) : Prop where
  ex : ∃ f fd, FnOk P w K mg base CX0_ fn.lvl f fd fn.ps (spF K fn) ∧ mg x = some (.ref f) ∧ PySem.W.keepIn K (.ref f) = true ∧ Binds K fd fn.ps [] ∧
    ∀ p ∈ kws, KBn K fd fn.ps p.1 p.2 (kwArr .none fn.ps p.2) (kwArr .non fn.ps p.2)
section
variable {P : Program} {w : World} {K : PySem.W.Frag} {mg : Str → Option Value} {base : Heap} {x : Str} {fn : Fn} {kws : List (Nat × List Str)}
theorem OKF.fnm (h : OKF P w K mg base x fn kws) {T : Tab} {j k : Nat} {kws' : List (Str × Nat × List Str)} {ps : List Str} (hT : T.fn j = some fn) (hps : fn.ps = ps) (hl : fn.lvl ≤ k) (hk : (kws'.all fun q => !(q.1 == x) || kws.contains q.2) = true) : FnM P w K mg base T k kws' (x, j, ps) := by
  obtain ⟨f, fd, h1, h2, h3, h4, h5⟩ := h.ex
  subst hps
  refine ⟨⟨fn, f, fd, hT, rfl, h1, hl, h2, h3, h4, fun n ks hm => ?_⟩⟩
  have q := List.all_eq_true.mp hk _ hm
  have q2 : kws.contains (n, ks) = true := by simpa using q
  exact h5 (n, ks) (by simpa using q2)
theorem df_ok2 {qual : Str} {params : Arguments} {body : List Stmt} {scope : Scope} {f : Addr} {fd : FuncData} (F : FunD K x qual params body scope [] [] f fd)
    {N : List Str} {k L : Nat} {T : Tab} {I : Inf} {b : Sms} (hF : fn.F = mkF T b L fn.io) (hL : N.length = L) (S : FnScope N fn.ps scope) (M : Mo P w K mg base T k I) (hN : I.N = N) (hs : I.sc = scope) (hb : cSl (cS 60 I 30) body = b)
    (hp : fn.io = true → b.p0 = true) (hl : fn.lvl = k + 1) : FnOk P w K mg base CX0_ fn.lvl f fd fn.ps (spF K fn) :=
  df_ok F S M hN hs hb hp hl fun cs r _ h => by rw [hF] at h; subst hL; exact mkF_run h
/-- nothing is promised: any level -/
theorem fn_none {f : Addr} {fd : FuncData} {k : Nat} {ps : List Str} {io : Bool} {l : Nat} : FnOk P w K mg base CX0_ k f fd ps (spF K ⟨ps, io, l, fun _ => none⟩) :=
  ⟨fun vs H Q E h => spF_len (fn := ⟨ps, io, l, fun _ => none⟩) vs H Q E h, fun A outer s H args us vs Q E hr e0 hb r h => by
    obtain ⟨Z, cs, c, out, _, _, _, hf, _⟩ := h
    cases hf⟩
theorem all_nil {α : Type} {p : α → Prop} : ∀ x ∈ ([] : List α), p x := fun _ h => absurd h List.not_mem_nil
theorem all_cons {α : Type} {p : α → Prop} {a : α} {l : List α} (h : p a) (r : ∀ x ∈ l, p x) : ∀ x ∈ a :: l, p x := List.forall_mem_cons.mpr ⟨h, r⟩
end
end Lt

/-! IRs of the defs (printed by gen2.py) -/
namespace Df
open PySem Lt
def ir_is_integer : Sms :=
  (.cons (.ret (.and (.isi (.var 0) ["int"]) (.not (.isi (.var 0) ["bool"]))))
  .nil)
def T_is_integer : Tab := tab [] []
def F_is_integer : List Cell → Option (Cell × Cell) := mkF T_is_integer ir_is_integer 1 false
def fn_is_integer : Fn := ⟨["value"], false, 1, F_is_integer⟩
theorem b_is_integer {K : Cell → Cell → Prop} {c0 : Cell} : WF F_is_integer [c0] K = WP (exs T_is_integer fuel ir_is_integer [c0]) fun o ρ => WP (endB false (o, ρ)) K := wf_eq
theorem hF_is_integer : fn_is_integer.F = mkF T_is_integer ir_is_integer 1 false := by kernel_rfl
def ir_is_pair : Sms :=
  (.cons (.ret (.and (.isi (.var 0) ["tuple"]) (.cmp .Eq (.blt .len (.cons (.var 0) .nil)) (.con (.int 2)))))
  .nil)
def T_is_pair : Tab := tab [] []
def F_is_pair : List Cell → Option (Cell × Cell) := mkF T_is_pair ir_is_pair 1 false
def fn_is_pair : Fn := ⟨["value"], false, 1, F_is_pair⟩
theorem b_is_pair {K : Cell → Cell → Prop} {c0 : Cell} : WF F_is_pair [c0] K = WP (exs T_is_pair fuel ir_is_pair [c0]) fun o ρ => WP (endB false (o, ρ)) K := wf_eq
theorem hF_is_pair : fn_is_pair.F = mkF T_is_pair ir_is_pair 1 false := by kernel_rfl
def ir_is_ascending : Sms :=
  (.cons (.ret (.blt .all (.cons (.lc (.cmp .Lt (.idx (.var 0) (.var 1)) (.idx (.var 0) (.bin .Add (.var 1) (.con (.int 1))))) (.n 1) (.rng1 (.bin .Sub (.blt .len (.cons (.var 0) .nil)) (.con (.int 1)))) .no [1]) .nil)))
  .nil)
def T_is_ascending : Tab := tab [] []
def F_is_ascending : List Cell → Option (Cell × Cell) := mkF T_is_ascending ir_is_ascending 2 false
def fn_is_ascending : Fn := ⟨["row"], false, 1, F_is_ascending⟩
theorem b_is_ascending {K : Cell → Cell → Prop} {c0 : Cell} : WF F_is_ascending [c0] K = WP (exs T_is_ascending fuel ir_is_ascending [c0, .emp]) fun o ρ => WP (endB false (o, ρ)) K := wf_eq
theorem hF_is_ascending : fn_is_ascending.F = mkF T_is_ascending ir_is_ascending 2 false := by kernel_rfl
def ir_is_offset : Sms :=
  (.cons (.ret (.and (.call 1 (.cons (.var 0) .nil) [] .nil) (.and (.call 0 (.cons (.idx (.var 0) (.con (.int 0))) .nil) [] .nil) (.call 0 (.cons (.idx (.var 0) (.con (.int 1))) .nil) [] .nil))))
  .nil)
def T_is_offset : Tab := tab [(1, fn_is_pair), (0, fn_is_integer)] []
def F_is_offset : List Cell → Option (Cell × Cell) := mkF T_is_offset ir_is_offset 1 false
def fn_is_offset : Fn := ⟨["told"], false, 2, F_is_offset⟩
theorem b_is_offset {K : Cell → Cell → Prop} {c0 : Cell} : WF F_is_offset [c0] K = WP (exs T_is_offset fuel ir_is_offset [c0]) fun o ρ => WP (endB false (o, ρ)) K := wf_eq
theorem hF_is_offset : fn_is_offset.F = mkF T_is_offset ir_is_offset 1 false := by kernel_rfl
theorem t_is_offset_is_pair : Tab.fn T_is_offset 1 = some fn_is_pair := rfl
theorem k_is_offset_is_pair {es kes : Exs} {ix : List Nat} {ρ : Rho} {Q : Od → Rho → Prop} : WP (ev T_is_offset (.call 1 es ix kes) ρ) Q = WP (evs T_is_offset es ρ) fun us ρ1 => WP (evs T_is_offset kes ρ1) fun ws ρ2 => us.length + ix.length = 1 ∧ WC F_is_pair (us ++ ix.map fun i => ws.getD i (.t .emp)) ρ2 Q := q_callfr t_is_offset_is_pair rfl rfl (by kernel_rfl)
theorem t_is_offset_is_integer : Tab.fn T_is_offset 0 = some fn_is_integer := rfl
theorem k_is_offset_is_integer {es kes : Exs} {ix : List Nat} {ρ : Rho} {Q : Od → Rho → Prop} : WP (ev T_is_offset (.call 0 es ix kes) ρ) Q = WP (evs T_is_offset es ρ) fun us ρ1 => WP (evs T_is_offset kes ρ1) fun ws ρ2 => us.length + ix.length = 1 ∧ WC F_is_integer (us ++ ix.map fun i => ws.getD i (.t .emp)) ρ2 Q := q_callfr t_is_offset_is_integer rfl rfl (by kernel_rfl)
def ir_is_table : Sms :=
  (.cons (.ret (.and (.call 1 (.cons (.var 0) .nil) [] .nil) (.and (.call 4 (.cons (.idx (.var 0) (.con (.int 0))) .nil) [] .nil) (.call 4 (.cons (.idx (.var 0) (.con (.int 1))) .nil) [] .nil))))
  .nil)
def T_is_table : Tab := tab [(1, fn_is_pair), (4, fn_is_offset)] []
def F_is_table : List Cell → Option (Cell × Cell) := mkF T_is_table ir_is_table 1 false
def fn_is_table : Fn := ⟨["told"], false, 3, F_is_table⟩
theorem b_is_table {K : Cell → Cell → Prop} {c0 : Cell} : WF F_is_table [c0] K = WP (exs T_is_table fuel ir_is_table [c0]) fun o ρ => WP (endB false (o, ρ)) K := wf_eq
theorem hF_is_table : fn_is_table.F = mkF T_is_table ir_is_table 1 false := by kernel_rfl
theorem t_is_table_is_pair : Tab.fn T_is_table 1 = some fn_is_pair := rfl
theorem k_is_table_is_pair {es kes : Exs} {ix : List Nat} {ρ : Rho} {Q : Od → Rho → Prop} : WP (ev T_is_table (.call 1 es ix kes) ρ) Q = WP (evs T_is_table es ρ) fun us ρ1 => WP (evs T_is_table kes ρ1) fun ws ρ2 => us.length + ix.length = 1 ∧ WC F_is_pair (us ++ ix.map fun i => ws.getD i (.t .emp)) ρ2 Q := q_callfr t_is_table_is_pair rfl rfl (by kernel_rfl)
theorem t_is_table_is_offset : Tab.fn T_is_table 4 = some fn_is_offset := rfl
theorem k_is_table_is_offset {es kes : Exs} {ix : List Nat} {ρ : Rho} {Q : Od → Rho → Prop} : WP (ev T_is_table (.call 4 es ix kes) ρ) Q = WP (evs T_is_table es ρ) fun us ρ1 => WP (evs T_is_table kes ρ1) fun ws ρ2 => us.length + ix.length = 1 ∧ WC F_is_offset (us ++ ix.map fun i => ws.getD i (.t .emp)) ρ2 Q := q_callfr t_is_table_is_offset rfl rfl (by kernel_rfl)
def ir_determinant_of : Sms :=
  (.cons (.ret (.bin .Sub (.bin .Mult (.idx (.idx (.var 0) (.con (.int 0))) (.con (.int 0))) (.idx (.idx (.var 0) (.con (.int 1))) (.con (.int 1)))) (.bin .Mult (.idx (.idx (.var 0) (.con (.int 0))) (.con (.int 1))) (.idx (.idx (.var 0) (.con (.int 1))) (.con (.int 0))))))
  .nil)
def T_determinant_of : Tab := tab [] []
def F_determinant_of : List Cell → Option (Cell × Cell) := mkF T_determinant_of ir_determinant_of 1 false
def fn_determinant_of : Fn := ⟨["table"], false, 1, F_determinant_of⟩
theorem b_determinant_of {K : Cell → Cell → Prop} {c0 : Cell} : WF F_determinant_of [c0] K = WP (exs T_determinant_of fuel ir_determinant_of [c0]) fun o ρ => WP (endB false (o, ρ)) K := wf_eq
theorem hF_determinant_of : fn_determinant_of.F = mkF T_determinant_of ir_determinant_of 1 false := by kernel_rfl
def ir_times_of : Sms :=
  (.cons (.asg (.t [(.t [(.n 2), (.n 3)]), (.t [(.n 4), (.n 5)])]) (.var 0))
  (.cons (.ret (.tup (.cons (.bin .Add (.bin .Mult (.var 2) (.idx (.var 1) (.con (.int 0)))) (.bin .Mult (.var 3) (.idx (.var 1) (.con (.int 1))))) (.cons (.bin .Add (.bin .Mult (.var 4) (.idx (.var 1) (.con (.int 0)))) (.bin .Mult (.var 5) (.idx (.var 1) (.con (.int 1))))) .nil))))
  .nil))
def T_times_of : Tab := tab [] []
def F_times_of : List Cell → Option (Cell × Cell) := mkF T_times_of ir_times_of 6 false
def fn_times_of : Fn := ⟨["table", "offset"], false, 1, F_times_of⟩
theorem b_times_of {K : Cell → Cell → Prop} {c0 c1 : Cell} : WF F_times_of [c0, c1] K = WP (exs T_times_of fuel ir_times_of [c0, c1, .emp, .emp, .emp, .emp]) fun o ρ => WP (endB false (o, ρ)) K := wf_eq
theorem hF_times_of : fn_times_of.F = mkF T_times_of ir_times_of 6 false := by kernel_rfl
def ir_plus : Sms :=
  (.cons (.ret (.tup (.cons (.bin .Add (.idx (.var 0) (.con (.int 0))) (.idx (.var 1) (.con (.int 0)))) (.cons (.bin .Add (.idx (.var 0) (.con (.int 1))) (.idx (.var 1) (.con (.int 1)))) .nil))))
  .nil)
def T_plus : Tab := tab [] []
def F_plus : List Cell → Option (Cell × Cell) := mkF T_plus ir_plus 2 false
def fn_plus : Fn := ⟨["one", "other"], false, 1, F_plus⟩
theorem b_plus {K : Cell → Cell → Prop} {c0 c1 : Cell} : WF F_plus [c0, c1] K = WP (exs T_plus fuel ir_plus [c0, c1]) fun o ρ => WP (endB false (o, ρ)) K := wf_eq
theorem hF_plus : fn_plus.F = mkF T_plus ir_plus 2 false := by kernel_rfl
def ir_is_growing : Sms :=
  (.cons (.ite (.not (.call 6 (.cons (.var 0) .nil) [] .nil)) (.cons (.ret (.con (.bool false)))
  .nil) .nil)
  (.cons (.par [1, 2] (.cons (.call 8 (.cons (.var 0) .nil) [] .nil) (.cons (.bin .Add (.idx (.idx (.var 0) (.con (.int 0))) (.con (.int 0))) (.idx (.idx (.var 0) (.con (.int 1))) (.con (.int 1)))) .nil)))
  (.cons (.ite (.cmp .GtE (.var 1) (.con (.int 2))) (.cons (.ret (.chn .LtE .LtE (.neg (.var 1)) (.var 2) (.var 1)))
  .nil) .nil)
  (.cons (.ret (.and (.cmp .LtE (.var 1) (.neg (.con (.int 2)))) (.chn .LtE .LtE (.bin .Add (.var 1) (.con (.int 2))) (.var 2) (.bin .Sub (.neg (.var 1)) (.con (.int 2))))))
  .nil))))
def T_is_growing : Tab := tab [(6, fn_is_table), (8, fn_determinant_of)] []
def F_is_growing : List Cell → Option (Cell × Cell) := mkF T_is_growing ir_is_growing 3 false
def fn_is_growing : Fn := ⟨["told"], false, 4, F_is_growing⟩
theorem b_is_growing {K : Cell → Cell → Prop} {c0 : Cell} : WF F_is_growing [c0] K = WP (exs T_is_growing fuel ir_is_growing [c0, .emp, .emp]) fun o ρ => WP (endB false (o, ρ)) K := wf_eq
theorem hF_is_growing : fn_is_growing.F = mkF T_is_growing ir_is_growing 3 false := by kernel_rfl
theorem t_is_growing_is_table : Tab.fn T_is_growing 6 = some fn_is_table := rfl
theorem k_is_growing_is_table {es kes : Exs} {ix : List Nat} {ρ : Rho} {Q : Od → Rho → Prop} : WP (ev T_is_growing (.call 6 es ix kes) ρ) Q = WP (evs T_is_growing es ρ) fun us ρ1 => WP (evs T_is_growing kes ρ1) fun ws ρ2 => us.length + ix.length = 1 ∧ WC F_is_table (us ++ ix.map fun i => ws.getD i (.t .emp)) ρ2 Q := q_callfr t_is_growing_is_table rfl rfl (by kernel_rfl)
theorem t_is_growing_determinant_of : Tab.fn T_is_growing 8 = some fn_determinant_of := rfl
theorem k_is_growing_determinant_of {es kes : Exs} {ix : List Nat} {ρ : Rho} {Q : Od → Rho → Prop} : WP (ev T_is_growing (.call 8 es ix kes) ρ) Q = WP (evs T_is_growing es ρ) fun us ρ1 => WP (evs T_is_growing kes ρ1) fun ws ρ2 => us.length + ix.length = 1 ∧ WC F_determinant_of (us ++ ix.map fun i => ws.getD i (.t .emp)) ρ2 Q := q_callfr t_is_growing_determinant_of rfl rfl (by kernel_rfl)
def ir_is_copy : Sms :=
  (.cons (.ret (.and (.call 1 (.cons (.var 0) .nil) [] .nil) (.and (.call 4 (.cons (.idx (.var 0) (.con (.int 0))) .nil) [] .nil) (.and (.call 0 (.cons (.idx (.var 0) (.con (.int 1))) .nil) [] .nil) (.chn .LtE .Lt (.con (.int 0)) (.idx (.var 0) (.con (.int 1))) (.var 1))))))
  .nil)
def T_is_copy : Tab := tab [(1, fn_is_pair), (4, fn_is_offset), (0, fn_is_integer)] []
def F_is_copy : List Cell → Option (Cell × Cell) := mkF T_is_copy ir_is_copy 2 false
def fn_is_copy : Fn := ⟨["told", "many"], false, 3, F_is_copy⟩
theorem b_is_copy {K : Cell → Cell → Prop} {c0 c1 : Cell} : WF F_is_copy [c0, c1] K = WP (exs T_is_copy fuel ir_is_copy [c0, c1]) fun o ρ => WP (endB false (o, ρ)) K := wf_eq
theorem hF_is_copy : fn_is_copy.F = mkF T_is_copy ir_is_copy 2 false := by kernel_rfl
theorem t_is_copy_is_pair : Tab.fn T_is_copy 1 = some fn_is_pair := rfl
theorem k_is_copy_is_pair {es kes : Exs} {ix : List Nat} {ρ : Rho} {Q : Od → Rho → Prop} : WP (ev T_is_copy (.call 1 es ix kes) ρ) Q = WP (evs T_is_copy es ρ) fun us ρ1 => WP (evs T_is_copy kes ρ1) fun ws ρ2 => us.length + ix.length = 1 ∧ WC F_is_pair (us ++ ix.map fun i => ws.getD i (.t .emp)) ρ2 Q := q_callfr t_is_copy_is_pair rfl rfl (by kernel_rfl)
theorem t_is_copy_is_offset : Tab.fn T_is_copy 4 = some fn_is_offset := rfl
theorem k_is_copy_is_offset {es kes : Exs} {ix : List Nat} {ρ : Rho} {Q : Od → Rho → Prop} : WP (ev T_is_copy (.call 4 es ix kes) ρ) Q = WP (evs T_is_copy es ρ) fun us ρ1 => WP (evs T_is_copy kes ρ1) fun ws ρ2 => us.length + ix.length = 1 ∧ WC F_is_offset (us ++ ix.map fun i => ws.getD i (.t .emp)) ρ2 Q := q_callfr t_is_copy_is_offset rfl rfl (by kernel_rfl)
theorem t_is_copy_is_integer : Tab.fn T_is_copy 0 = some fn_is_integer := rfl
theorem k_is_copy_is_integer {es kes : Exs} {ix : List Nat} {ρ : Rho} {Q : Od → Rho → Prop} : WP (ev T_is_copy (.call 0 es ix kes) ρ) Q = WP (evs T_is_copy es ρ) fun us ρ1 => WP (evs T_is_copy kes ρ1) fun ws ρ2 => us.length + ix.length = 1 ∧ WC F_is_integer (us ++ ix.map fun i => ws.getD i (.t .emp)) ρ2 Q := q_callfr t_is_copy_is_integer rfl rfl (by kernel_rfl)
def ir_is_state : Sms :=
  (.cons (.ite (.or (.not (.isi (.var 0) ["tuple"])) (.or (.cmp .Eq (.blt .len (.cons (.var 0) .nil)) (.con (.int 0))) (.not (.blt .all (.cons (.lc (.call 50 (.cons (.var 2) (.cons (.var 1) .nil)) [] .nil) (.n 2) (.seq (.var 0)) .no [2]) .nil))))) (.cons (.ret (.con (.bool false)))
  .nil) .nil)
  (.cons (.ret (.call 49 (.cons (.var 0) .nil) [] .nil))
  .nil))
def T_is_state : Tab := tab [(49, fn_is_ascending), (50, fn_is_copy)] []
def F_is_state : List Cell → Option (Cell × Cell) := mkF T_is_state ir_is_state 3 false
def fn_is_state : Fn := ⟨["told", "many"], false, 4, F_is_state⟩
theorem b_is_state {K : Cell → Cell → Prop} {c0 c1 : Cell} : WF F_is_state [c0, c1] K = WP (exs T_is_state fuel ir_is_state [c0, c1, .emp]) fun o ρ => WP (endB false (o, ρ)) K := wf_eq
theorem hF_is_state : fn_is_state.F = mkF T_is_state ir_is_state 3 false := by kernel_rfl
theorem t_is_state_is_ascending : Tab.fn T_is_state 49 = some fn_is_ascending := rfl
theorem k_is_state_is_ascending {es kes : Exs} {ix : List Nat} {ρ : Rho} {Q : Od → Rho → Prop} : WP (ev T_is_state (.call 49 es ix kes) ρ) Q = WP (evs T_is_state es ρ) fun us ρ1 => WP (evs T_is_state kes ρ1) fun ws ρ2 => us.length + ix.length = 1 ∧ WC F_is_ascending (us ++ ix.map fun i => ws.getD i (.t .emp)) ρ2 Q := q_callfr t_is_state_is_ascending rfl rfl (by kernel_rfl)
theorem t_is_state_is_copy : Tab.fn T_is_state 50 = some fn_is_copy := rfl
theorem k_is_state_is_copy {es kes : Exs} {ix : List Nat} {ρ : Rho} {Q : Od → Rho → Prop} : WP (ev T_is_state (.call 50 es ix kes) ρ) Q = WP (evs T_is_state es ρ) fun us ρ1 => WP (evs T_is_state kes ρ1) fun ws ρ2 => us.length + ix.length = 2 ∧ WC F_is_copy (us ++ ix.map fun i => ws.getD i (.t .emp)) ρ2 Q := q_callfr t_is_state_is_copy rfl rfl (by kernel_rfl)
def ir_is_kit : Sms :=
  (.cons (.ite (.or (.not (.call 1 (.cons (.var 0) .nil) [] .nil)) (.or (.not (.call 9 (.cons (.idx (.var 0) (.con (.int 0))) .nil) [] .nil)) (.or (.not (.isi (.idx (.var 0) (.con (.int 1))) ["tuple"])) (.cmp .Eq (.blt .len (.cons (.idx (.var 0) (.con (.int 1))) .nil)) (.con (.int 0)))))) (.cons (.ret (.con (.bool false)))
  .nil) .nil)
  (.cons (.ret (.blt .all (.cons (.lc (.call 51 (.cons (.var 1) (.cons (.blt .len (.cons (.idx (.var 0) (.con (.int 1))) .nil)) .nil)) [] .nil) (.n 1) (.seq (.idx (.var 0) (.con (.int 1)))) .no [1]) .nil)))
  .nil))
def T_is_kit : Tab := tab [(1, fn_is_pair), (9, fn_is_growing), (51, fn_is_state)] []
def F_is_kit : List Cell → Option (Cell × Cell) := mkF T_is_kit ir_is_kit 2 false
def fn_is_kit : Fn := ⟨["told"], false, 5, F_is_kit⟩
theorem b_is_kit {K : Cell → Cell → Prop} {c0 : Cell} : WF F_is_kit [c0] K = WP (exs T_is_kit fuel ir_is_kit [c0, .emp]) fun o ρ => WP (endB false (o, ρ)) K := wf_eq
theorem hF_is_kit : fn_is_kit.F = mkF T_is_kit ir_is_kit 2 false := by kernel_rfl
theorem t_is_kit_is_pair : Tab.fn T_is_kit 1 = some fn_is_pair := rfl
theorem k_is_kit_is_pair {es kes : Exs} {ix : List Nat} {ρ : Rho} {Q : Od → Rho → Prop} : WP (ev T_is_kit (.call 1 es ix kes) ρ) Q = WP (evs T_is_kit es ρ) fun us ρ1 => WP (evs T_is_kit kes ρ1) fun ws ρ2 => us.length + ix.length = 1 ∧ WC F_is_pair (us ++ ix.map fun i => ws.getD i (.t .emp)) ρ2 Q := q_callfr t_is_kit_is_pair rfl rfl (by kernel_rfl)
theorem t_is_kit_is_growing : Tab.fn T_is_kit 9 = some fn_is_growing := rfl
theorem k_is_kit_is_growing {es kes : Exs} {ix : List Nat} {ρ : Rho} {Q : Od → Rho → Prop} : WP (ev T_is_kit (.call 9 es ix kes) ρ) Q = WP (evs T_is_kit es ρ) fun us ρ1 => WP (evs T_is_kit kes ρ1) fun ws ρ2 => us.length + ix.length = 1 ∧ WC F_is_growing (us ++ ix.map fun i => ws.getD i (.t .emp)) ρ2 Q := q_callfr t_is_kit_is_growing rfl rfl (by kernel_rfl)
theorem t_is_kit_is_state : Tab.fn T_is_kit 51 = some fn_is_state := rfl
theorem k_is_kit_is_state {es kes : Exs} {ix : List Nat} {ρ : Rho} {Q : Od → Rho → Prop} : WP (ev T_is_kit (.call 51 es ix kes) ρ) Q = WP (evs T_is_kit es ρ) fun us ρ1 => WP (evs T_is_kit kes ρ1) fun ws ρ2 => us.length + ix.length = 2 ∧ WC F_is_state (us ++ ix.map fun i => ws.getD i (.t .emp)) ρ2 Q := q_callfr t_is_kit_is_state rfl rfl (by kernel_rfl)
def ir_check_kit : Sms :=
  (.cons (.ite (.not (.call 52 (.cons (.var 0) .nil) [] .nil)) (.cons .nev
  .nil) .nil)
  .nil)
def T_check_kit : Tab := tab [(52, fn_is_kit)] []
def F_check_kit : List Cell → Option (Cell × Cell) := mkF T_check_kit ir_check_kit 1 false
def fn_check_kit : Fn := ⟨["kit"], false, 6, F_check_kit⟩
theorem b_check_kit {K : Cell → Cell → Prop} {c0 : Cell} : WF F_check_kit [c0] K = WP (exs T_check_kit fuel ir_check_kit [c0]) fun o ρ => WP (endB false (o, ρ)) K := wf_eq
theorem hF_check_kit : fn_check_kit.F = mkF T_check_kit ir_check_kit 1 false := by kernel_rfl
theorem t_check_kit_is_kit : Tab.fn T_check_kit 52 = some fn_is_kit := rfl
theorem k_check_kit_is_kit {es kes : Exs} {ix : List Nat} {ρ : Rho} {Q : Od → Rho → Prop} : WP (ev T_check_kit (.call 52 es ix kes) ρ) Q = WP (evs T_check_kit es ρ) fun us ρ1 => WP (evs T_check_kit kes ρ1) fun ws ρ2 => us.length + ix.length = 1 ∧ WC F_is_kit (us ++ ix.map fun i => ws.getD i (.t .emp)) ρ2 Q := q_callfr t_check_kit_is_kit rfl rfl (by kernel_rfl)
def ir_check_state : Sms :=
  (.cons (.ite (.or (.not (.call 0 (.cons (.var 1) .nil) [] .nil)) (.not (.chn .LtE .Lt (.con (.int 0)) (.var 1) (.blt .len (.cons (.idx (.var 0) (.con (.int 1))) .nil))))) (.cons .nev
  .nil) .nil)
  .nil)
def T_check_state : Tab := tab [(0, fn_is_integer)] []
def F_check_state : List Cell → Option (Cell × Cell) := mkF T_check_state ir_check_state 2 false
def fn_check_state : Fn := ⟨["kit", "state"], false, 2, F_check_state⟩
theorem b_check_state {K : Cell → Cell → Prop} {c0 c1 : Cell} : WF F_check_state [c0, c1] K = WP (exs T_check_state fuel ir_check_state [c0, c1]) fun o ρ => WP (endB false (o, ρ)) K := wf_eq
theorem hF_check_state : fn_check_state.F = mkF T_check_state ir_check_state 2 false := by kernel_rfl
theorem t_check_state_is_integer : Tab.fn T_check_state 0 = some fn_is_integer := rfl
theorem k_check_state_is_integer {es kes : Exs} {ix : List Nat} {ρ : Rho} {Q : Od → Rho → Prop} : WP (ev T_check_state (.call 0 es ix kes) ρ) Q = WP (evs T_check_state es ρ) fun us ρ1 => WP (evs T_check_state kes ρ1) fun ws ρ2 => us.length + ix.length = 1 ∧ WC F_is_integer (us ++ ix.map fun i => ws.getD i (.t .emp)) ρ2 Q := q_callfr t_check_state_is_integer rfl rfl (by kernel_rfl)
def ir_is_row : Sms :=
  (.cons (.ret (.and (.isi (.var 0) ["tuple"]) (.blt .all (.cons (.lc (.and (.call 0 (.cons (.var 1) .nil) [] .nil) (.cmp .GtE (.var 1) (.con (.int 0)))) (.n 1) (.seq (.var 0)) .no [1]) .nil))))
  .nil)
def T_is_row : Tab := tab [(0, fn_is_integer)] []
def F_is_row : List Cell → Option (Cell × Cell) := mkF T_is_row ir_is_row 2 false
def fn_is_row : Fn := ⟨["told"], false, 2, F_is_row⟩
theorem b_is_row {K : Cell → Cell → Prop} {c0 : Cell} : WF F_is_row [c0] K = WP (exs T_is_row fuel ir_is_row [c0, .emp]) fun o ρ => WP (endB false (o, ρ)) K := wf_eq
theorem hF_is_row : fn_is_row.F = mkF T_is_row ir_is_row 2 false := by kernel_rfl
theorem t_is_row_is_integer : Tab.fn T_is_row 0 = some fn_is_integer := rfl
theorem k_is_row_is_integer {es kes : Exs} {ix : List Nat} {ρ : Rho} {Q : Od → Rho → Prop} : WP (ev T_is_row (.call 0 es ix kes) ρ) Q = WP (evs T_is_row es ρ) fun us ρ1 => WP (evs T_is_row kes ρ1) fun ws ρ2 => us.length + ix.length = 1 ∧ WC F_is_integer (us ++ ix.map fun i => ws.getD i (.t .emp)) ρ2 Q := q_callfr t_is_row_is_integer rfl rfl (by kernel_rfl)
def ir_walked : Sms :=
  (.cons (.set 3 (.tup (.cons (.con (.int 0)) (.cons (.con (.int 0)) .nil))))
  (.cons (.for_ (.n 4) (.seq (.var 2)) (.cons (.set 5 (.idx (.idx (.var 0) (.con (.int 1))) (.var 1)))
  (.cons (.ite (.cmp .GtE (.var 4) (.blt .len (.cons (.var 5) .nil))) (.cons (.ret (.con .none))
  .nil) .nil)
  (.cons (.asg (.t [(.n 6), (.n 1)]) (.idx (.var 5) (.var 4)))
  (.cons (.set 3 (.call 62 (.cons (.call 13 (.cons (.idx (.var 0) (.con (.int 0))) (.cons (.var 3) .nil)) [] .nil) (.cons (.var 6) .nil)) [] .nil))
  .nil)))))
  (.cons (.ret (.tup (.cons (.var 1) (.cons (.var 3) .nil))))
  .nil)))
def T_walked : Tab := tab [(62, fn_plus), (13, fn_times_of)] []
def F_walked : List Cell → Option (Cell × Cell) := mkF T_walked ir_walked 7 false
def fn_walked : Fn := ⟨["kit", "state", "walk"], false, 2, F_walked⟩
theorem b_walked {K : Cell → Cell → Prop} {c0 c1 c2 : Cell} : WF F_walked [c0, c1, c2] K = WP (exs T_walked fuel ir_walked [c0, c1, c2, .emp, .emp, .emp, .emp]) fun o ρ => WP (endB false (o, ρ)) K := wf_eq
theorem hF_walked : fn_walked.F = mkF T_walked ir_walked 7 false := by kernel_rfl
theorem t_walked_plus : Tab.fn T_walked 62 = some fn_plus := rfl
theorem k_walked_plus {es kes : Exs} {ix : List Nat} {ρ : Rho} {Q : Od → Rho → Prop} : WP (ev T_walked (.call 62 es ix kes) ρ) Q = WP (evs T_walked es ρ) fun us ρ1 => WP (evs T_walked kes ρ1) fun ws ρ2 => us.length + ix.length = 2 ∧ WC F_plus (us ++ ix.map fun i => ws.getD i (.t .emp)) ρ2 Q := q_callfr t_walked_plus rfl rfl (by kernel_rfl)
theorem t_walked_times_of : Tab.fn T_walked 13 = some fn_times_of := rfl
theorem k_walked_times_of {es kes : Exs} {ix : List Nat} {ρ : Rho} {Q : Od → Rho → Prop} : WP (ev T_walked (.call 13 es ix kes) ρ) Q = WP (evs T_walked es ρ) fun us ρ1 => WP (evs T_walked kes ρ1) fun ws ρ2 => us.length + ix.length = 2 ∧ WC F_times_of (us ++ ix.map fun i => ws.getD i (.t .emp)) ρ2 Q := q_callfr t_walked_times_of rfl rfl (by kernel_rfl)
def ir_has_walk : Sms :=
  (.cons (.ret (.and (.call 65 (.cons (.var 2) .nil) [] .nil) (.cmp .IsNot (.call 66 (.cons (.var 0) (.cons (.var 1) (.cons (.var 2) .nil))) [] .nil) (.con .none))))
  .nil)
def T_has_walk : Tab := tab [(65, fn_is_row), (66, fn_walked)] []
def F_has_walk : List Cell → Option (Cell × Cell) := mkF T_has_walk ir_has_walk 3 false
def fn_has_walk : Fn := ⟨["kit", "state", "told"], false, 3, F_has_walk⟩
theorem b_has_walk {K : Cell → Cell → Prop} {c0 c1 c2 : Cell} : WF F_has_walk [c0, c1, c2] K = WP (exs T_has_walk fuel ir_has_walk [c0, c1, c2]) fun o ρ => WP (endB false (o, ρ)) K := wf_eq
theorem hF_has_walk : fn_has_walk.F = mkF T_has_walk ir_has_walk 3 false := by kernel_rfl
theorem t_has_walk_is_row : Tab.fn T_has_walk 65 = some fn_is_row := rfl
theorem k_has_walk_is_row {es kes : Exs} {ix : List Nat} {ρ : Rho} {Q : Od → Rho → Prop} : WP (ev T_has_walk (.call 65 es ix kes) ρ) Q = WP (evs T_has_walk es ρ) fun us ρ1 => WP (evs T_has_walk kes ρ1) fun ws ρ2 => us.length + ix.length = 1 ∧ WC F_is_row (us ++ ix.map fun i => ws.getD i (.t .emp)) ρ2 Q := q_callfr t_has_walk_is_row rfl rfl (by kernel_rfl)
theorem t_has_walk_walked : Tab.fn T_has_walk 66 = some fn_walked := rfl
theorem k_has_walk_walked {es kes : Exs} {ix : List Nat} {ρ : Rho} {Q : Od → Rho → Prop} : WP (ev T_has_walk (.call 66 es ix kes) ρ) Q = WP (evs T_has_walk es ρ) fun us ρ1 => WP (evs T_has_walk kes ρ1) fun ws ρ2 => us.length + ix.length = 3 ∧ WC F_walked (us ++ ix.map fun i => ws.getD i (.t .emp)) ρ2 Q := q_callfr t_has_walk_walked rfl rfl (by kernel_rfl)
def ir_has_address : Sms :=
  (.cons (.ite (.or (.not (.call 1 (.cons (.var 2) .nil) [] .nil)) (.or (.not (.call 65 (.cons (.idx (.var 2) (.con (.int 0))) .nil) [] .nil)) (.or (.not (.call 65 (.cons (.idx (.var 2) (.con (.int 1))) .nil) [] .nil)) (.cmp .Eq (.blt .len (.cons (.idx (.var 2) (.con (.int 1))) .nil)) (.con (.int 0)))))) (.cons (.ret (.con (.bool false)))
  .nil) .nil)
  (.cons (.set 3 (.call 66 (.cons (.var 0) (.cons (.var 1) (.cons (.idx (.var 2) (.con (.int 0))) .nil))) [] .nil))
  (.cons (.ite (.cmp .Is (.var 3) (.con .none)) (.cons (.ret (.con (.bool false)))
  .nil) .nil)
  (.cons (.set 4 (.call 66 (.cons (.var 0) (.cons (.idx (.var 3) (.con (.int 0))) (.cons (.idx (.var 2) (.con (.int 1))) .nil))) [] .nil))
  (.cons (.ret (.and (.cmp .IsNot (.var 4) (.con .none)) (.cmp .Eq (.idx (.var 4) (.con (.int 0))) (.idx (.var 3) (.con (.int 0))))))
  .nil)))))
def T_has_address : Tab := tab [(66, fn_walked), (1, fn_is_pair), (65, fn_is_row)] []
def F_has_address : List Cell → Option (Cell × Cell) := mkF T_has_address ir_has_address 5 false
def fn_has_address : Fn := ⟨["kit", "state", "told"], false, 3, F_has_address⟩
theorem b_has_address {K : Cell → Cell → Prop} {c0 c1 c2 : Cell} : WF F_has_address [c0, c1, c2] K = WP (exs T_has_address fuel ir_has_address [c0, c1, c2, .emp, .emp]) fun o ρ => WP (endB false (o, ρ)) K := wf_eq
theorem hF_has_address : fn_has_address.F = mkF T_has_address ir_has_address 5 false := by kernel_rfl
theorem t_has_address_walked : Tab.fn T_has_address 66 = some fn_walked := rfl
theorem k_has_address_walked {es kes : Exs} {ix : List Nat} {ρ : Rho} {Q : Od → Rho → Prop} : WP (ev T_has_address (.call 66 es ix kes) ρ) Q = WP (evs T_has_address es ρ) fun us ρ1 => WP (evs T_has_address kes ρ1) fun ws ρ2 => us.length + ix.length = 3 ∧ WC F_walked (us ++ ix.map fun i => ws.getD i (.t .emp)) ρ2 Q := q_callfr t_has_address_walked rfl rfl (by kernel_rfl)
theorem t_has_address_is_pair : Tab.fn T_has_address 1 = some fn_is_pair := rfl
theorem k_has_address_is_pair {es kes : Exs} {ix : List Nat} {ρ : Rho} {Q : Od → Rho → Prop} : WP (ev T_has_address (.call 1 es ix kes) ρ) Q = WP (evs T_has_address es ρ) fun us ρ1 => WP (evs T_has_address kes ρ1) fun ws ρ2 => us.length + ix.length = 1 ∧ WC F_is_pair (us ++ ix.map fun i => ws.getD i (.t .emp)) ρ2 Q := q_callfr t_has_address_is_pair rfl rfl (by kernel_rfl)
theorem t_has_address_is_row : Tab.fn T_has_address 65 = some fn_is_row := rfl
theorem k_has_address_is_row {es kes : Exs} {ix : List Nat} {ρ : Rho} {Q : Od → Rho → Prop} : WP (ev T_has_address (.call 65 es ix kes) ρ) Q = WP (evs T_has_address es ρ) fun us ρ1 => WP (evs T_has_address kes ρ1) fun ws ρ2 => us.length + ix.length = 1 ∧ WC F_is_row (us ++ ix.map fun i => ws.getD i (.t .emp)) ρ2 Q := q_callfr t_has_address_is_row rfl rfl (by kernel_rfl)
def ir_is_walk : Sms :=
  (.cons (.exp (.call 63 (.cons (.var 0) .nil) [] .nil))
  (.cons (.exp (.call 64 (.cons (.var 0) (.cons (.var 1) .nil)) [] .nil))
  (.cons (.ret (.call 67 (.cons (.var 0) (.cons (.var 1) (.cons (.var 2) .nil))) [] .nil))
  .nil)))
def T_is_walk : Tab := tab [(63, fn_check_kit), (64, fn_check_state), (67, fn_has_walk)] []
def F_is_walk : List Cell → Option (Cell × Cell) := mkF T_is_walk ir_is_walk 3 false
def fn_is_walk : Fn := ⟨["kit", "state", "told"], false, 7, F_is_walk⟩
theorem b_is_walk {K : Cell → Cell → Prop} {c0 c1 c2 : Cell} : WF F_is_walk [c0, c1, c2] K = WP (exs T_is_walk fuel ir_is_walk [c0, c1, c2]) fun o ρ => WP (endB false (o, ρ)) K := wf_eq
theorem hF_is_walk : fn_is_walk.F = mkF T_is_walk ir_is_walk 3 false := by kernel_rfl
theorem t_is_walk_check_kit : Tab.fn T_is_walk 63 = some fn_check_kit := rfl
theorem k_is_walk_check_kit {es kes : Exs} {ix : List Nat} {ρ : Rho} {Q : Od → Rho → Prop} : WP (ev T_is_walk (.call 63 es ix kes) ρ) Q = WP (evs T_is_walk es ρ) fun us ρ1 => WP (evs T_is_walk kes ρ1) fun ws ρ2 => us.length + ix.length = 1 ∧ WC F_check_kit (us ++ ix.map fun i => ws.getD i (.t .emp)) ρ2 Q := q_callfr t_is_walk_check_kit rfl rfl (by kernel_rfl)
theorem t_is_walk_check_state : Tab.fn T_is_walk 64 = some fn_check_state := rfl
theorem k_is_walk_check_state {es kes : Exs} {ix : List Nat} {ρ : Rho} {Q : Od → Rho → Prop} : WP (ev T_is_walk (.call 64 es ix kes) ρ) Q = WP (evs T_is_walk es ρ) fun us ρ1 => WP (evs T_is_walk kes ρ1) fun ws ρ2 => us.length + ix.length = 2 ∧ WC F_check_state (us ++ ix.map fun i => ws.getD i (.t .emp)) ρ2 Q := q_callfr t_is_walk_check_state rfl rfl (by kernel_rfl)
theorem t_is_walk_has_walk : Tab.fn T_is_walk 67 = some fn_has_walk := rfl
theorem k_is_walk_has_walk {es kes : Exs} {ix : List Nat} {ρ : Rho} {Q : Od → Rho → Prop} : WP (ev T_is_walk (.call 67 es ix kes) ρ) Q = WP (evs T_is_walk es ρ) fun us ρ1 => WP (evs T_is_walk kes ρ1) fun ws ρ2 => us.length + ix.length = 3 ∧ WC F_has_walk (us ++ ix.map fun i => ws.getD i (.t .emp)) ρ2 Q := q_callfr t_is_walk_has_walk rfl rfl (by kernel_rfl)
def ir_is_address : Sms :=
  (.cons (.exp (.call 63 (.cons (.var 0) .nil) [] .nil))
  (.cons (.exp (.call 64 (.cons (.var 0) (.cons (.var 1) .nil)) [] .nil))
  (.cons (.ret (.call 68 (.cons (.var 0) (.cons (.var 1) (.cons (.var 2) .nil))) [] .nil))
  .nil)))
def T_is_address : Tab := tab [(63, fn_check_kit), (64, fn_check_state), (68, fn_has_address)] []
def F_is_address : List Cell → Option (Cell × Cell) := mkF T_is_address ir_is_address 3 false
def fn_is_address : Fn := ⟨["kit", "state", "told"], false, 7, F_is_address⟩
theorem b_is_address {K : Cell → Cell → Prop} {c0 c1 c2 : Cell} : WF F_is_address [c0, c1, c2] K = WP (exs T_is_address fuel ir_is_address [c0, c1, c2]) fun o ρ => WP (endB false (o, ρ)) K := wf_eq
theorem hF_is_address : fn_is_address.F = mkF T_is_address ir_is_address 3 false := by kernel_rfl
theorem t_is_address_check_kit : Tab.fn T_is_address 63 = some fn_check_kit := rfl
theorem k_is_address_check_kit {es kes : Exs} {ix : List Nat} {ρ : Rho} {Q : Od → Rho → Prop} : WP (ev T_is_address (.call 63 es ix kes) ρ) Q = WP (evs T_is_address es ρ) fun us ρ1 => WP (evs T_is_address kes ρ1) fun ws ρ2 => us.length + ix.length = 1 ∧ WC F_check_kit (us ++ ix.map fun i => ws.getD i (.t .emp)) ρ2 Q := q_callfr t_is_address_check_kit rfl rfl (by kernel_rfl)
theorem t_is_address_check_state : Tab.fn T_is_address 64 = some fn_check_state := rfl
theorem k_is_address_check_state {es kes : Exs} {ix : List Nat} {ρ : Rho} {Q : Od → Rho → Prop} : WP (ev T_is_address (.call 64 es ix kes) ρ) Q = WP (evs T_is_address es ρ) fun us ρ1 => WP (evs T_is_address kes ρ1) fun ws ρ2 => us.length + ix.length = 2 ∧ WC F_check_state (us ++ ix.map fun i => ws.getD i (.t .emp)) ρ2 Q := q_callfr t_is_address_check_state rfl rfl (by kernel_rfl)
theorem t_is_address_has_address : Tab.fn T_is_address 68 = some fn_has_address := rfl
theorem k_is_address_has_address {es kes : Exs} {ix : List Nat} {ρ : Rho} {Q : Od → Rho → Prop} : WP (ev T_is_address (.call 68 es ix kes) ρ) Q = WP (evs T_is_address es ρ) fun us ρ1 => WP (evs T_is_address kes ρ1) fun ws ρ2 => us.length + ix.length = 3 ∧ WC F_has_address (us ++ ix.map fun i => ws.getD i (.t .emp)) ρ2 Q := q_callfr t_is_address_has_address rfl rfl (by kernel_rfl)
def ir_ends : Sms :=
  (.cons (.exp (.call 63 (.cons (.var 0) .nil) [] .nil))
  (.cons (.exp (.call 64 (.cons (.var 0) (.cons (.var 1) .nil)) [] .nil))
  (.cons (.ite (.not (.call 67 (.cons (.var 0) (.cons (.var 1) (.cons (.var 2) .nil))) [] .nil)) (.cons .nev
  .nil) .nil)
  (.cons (.ret (.call 66 (.cons (.var 0) (.cons (.var 1) (.cons (.var 2) .nil))) [] .nil))
  .nil))))
def T_ends : Tab := tab [(63, fn_check_kit), (64, fn_check_state), (66, fn_walked), (67, fn_has_walk)] []
def F_ends : List Cell → Option (Cell × Cell) := mkF T_ends ir_ends 3 false
def fn_ends : Fn := ⟨["kit", "state", "walk"], false, 7, F_ends⟩
theorem b_ends {K : Cell → Cell → Prop} {c0 c1 c2 : Cell} : WF F_ends [c0, c1, c2] K = WP (exs T_ends fuel ir_ends [c0, c1, c2]) fun o ρ => WP (endB false (o, ρ)) K := wf_eq
theorem hF_ends : fn_ends.F = mkF T_ends ir_ends 3 false := by kernel_rfl
theorem t_ends_check_kit : Tab.fn T_ends 63 = some fn_check_kit := rfl
theorem k_ends_check_kit {es kes : Exs} {ix : List Nat} {ρ : Rho} {Q : Od → Rho → Prop} : WP (ev T_ends (.call 63 es ix kes) ρ) Q = WP (evs T_ends es ρ) fun us ρ1 => WP (evs T_ends kes ρ1) fun ws ρ2 => us.length + ix.length = 1 ∧ WC F_check_kit (us ++ ix.map fun i => ws.getD i (.t .emp)) ρ2 Q := q_callfr t_ends_check_kit rfl rfl (by kernel_rfl)
theorem t_ends_check_state : Tab.fn T_ends 64 = some fn_check_state := rfl
theorem k_ends_check_state {es kes : Exs} {ix : List Nat} {ρ : Rho} {Q : Od → Rho → Prop} : WP (ev T_ends (.call 64 es ix kes) ρ) Q = WP (evs T_ends es ρ) fun us ρ1 => WP (evs T_ends kes ρ1) fun ws ρ2 => us.length + ix.length = 2 ∧ WC F_check_state (us ++ ix.map fun i => ws.getD i (.t .emp)) ρ2 Q := q_callfr t_ends_check_state rfl rfl (by kernel_rfl)
theorem t_ends_walked : Tab.fn T_ends 66 = some fn_walked := rfl
theorem k_ends_walked {es kes : Exs} {ix : List Nat} {ρ : Rho} {Q : Od → Rho → Prop} : WP (ev T_ends (.call 66 es ix kes) ρ) Q = WP (evs T_ends es ρ) fun us ρ1 => WP (evs T_ends kes ρ1) fun ws ρ2 => us.length + ix.length = 3 ∧ WC F_walked (us ++ ix.map fun i => ws.getD i (.t .emp)) ρ2 Q := q_callfr t_ends_walked rfl rfl (by kernel_rfl)
theorem t_ends_has_walk : Tab.fn T_ends 67 = some fn_has_walk := rfl
theorem k_ends_has_walk {es kes : Exs} {ix : List Nat} {ρ : Rho} {Q : Od → Rho → Prop} : WP (ev T_ends (.call 67 es ix kes) ρ) Q = WP (evs T_ends es ρ) fun us ρ1 => WP (evs T_ends kes ρ1) fun ws ρ2 => us.length + ix.length = 3 ∧ WC F_has_walk (us ++ ix.map fun i => ws.getD i (.t .emp)) ρ2 Q := q_callfr t_ends_has_walk rfl rfl (by kernel_rfl)
def ir_walks : Sms :=
  (.cons (.exp (.call 63 (.cons (.var 0) .nil) [] .nil))
  (.cons (.exp (.call 64 (.cons (.var 0) (.cons (.var 1) .nil)) [] .nil))
  (.cons (.ite (.or (.not (.call 0 (.cons (.var 2) .nil) [] .nil)) (.cmp .Lt (.var 2) (.con (.int 0)))) (.cons .nev
  .nil) .nil)
  (.cons (.set 3 (.lst (.cons (.tup (.cons (.tup .nil) (.cons (.var 1) .nil))) .nil)))
  (.cons (.for_ (.n 4) (.rng1 (.var 2)) (.cons (.set 5 (.lst .nil))
  (.cons (.for_ (.t [(.n 6), (.n 7)]) (.seq (.var 3)) (.cons (.exp (.mth .extend (.var 5) (.cons (.lc (.tup (.cons (.bin .Add (.var 6) (.tup (.cons (.var 8) .nil))) (.cons (.idx (.var 9) (.con (.int 1))) .nil))) (.t [(.n 8), (.n 9)]) (.enm (.idx (.idx (.var 0) (.con (.int 1))) (.var 7))) .no [8, 9]) .nil)))
  .nil))
  (.cons (.set 3 (.var 5))
  .nil))))
  (.cons (.ret (.lc (.var 6) (.t [(.n 6), (.n 7)]) (.seq (.var 3)) .no [6, 7]))
  .nil))))))
def T_walks : Tab := tab [(63, fn_check_kit), (64, fn_check_state), (0, fn_is_integer)] []
def F_walks : List Cell → Option (Cell × Cell) := mkF T_walks ir_walks 10 false
def fn_walks : Fn := ⟨["kit", "state", "n"], false, 7, F_walks⟩
theorem b_walks {K : Cell → Cell → Prop} {c0 c1 c2 : Cell} : WF F_walks [c0, c1, c2] K = WP (exs T_walks fuel ir_walks [c0, c1, c2, .emp, .emp, .emp, .emp, .emp, .emp, .emp]) fun o ρ => WP (endB false (o, ρ)) K := wf_eq
theorem hF_walks : fn_walks.F = mkF T_walks ir_walks 10 false := by kernel_rfl
theorem t_walks_check_kit : Tab.fn T_walks 63 = some fn_check_kit := rfl
theorem k_walks_check_kit {es kes : Exs} {ix : List Nat} {ρ : Rho} {Q : Od → Rho → Prop} : WP (ev T_walks (.call 63 es ix kes) ρ) Q = WP (evs T_walks es ρ) fun us ρ1 => WP (evs T_walks kes ρ1) fun ws ρ2 => us.length + ix.length = 1 ∧ WC F_check_kit (us ++ ix.map fun i => ws.getD i (.t .emp)) ρ2 Q := q_callfr t_walks_check_kit rfl rfl (by kernel_rfl)
theorem t_walks_check_state : Tab.fn T_walks 64 = some fn_check_state := rfl
theorem k_walks_check_state {es kes : Exs} {ix : List Nat} {ρ : Rho} {Q : Od → Rho → Prop} : WP (ev T_walks (.call 64 es ix kes) ρ) Q = WP (evs T_walks es ρ) fun us ρ1 => WP (evs T_walks kes ρ1) fun ws ρ2 => us.length + ix.length = 2 ∧ WC F_check_state (us ++ ix.map fun i => ws.getD i (.t .emp)) ρ2 Q := q_callfr t_walks_check_state rfl rfl (by kernel_rfl)
theorem t_walks_is_integer : Tab.fn T_walks 0 = some fn_is_integer := rfl
theorem k_walks_is_integer {es kes : Exs} {ix : List Nat} {ρ : Rho} {Q : Od → Rho → Prop} : WP (ev T_walks (.call 0 es ix kes) ρ) Q = WP (evs T_walks es ρ) fun us ρ1 => WP (evs T_walks kes ρ1) fun ws ρ2 => us.length + ix.length = 1 ∧ WC F_is_integer (us ++ ix.map fun i => ws.getD i (.t .emp)) ρ2 Q := q_callfr t_walks_is_integer rfl rfl (by kernel_rfl)
def ir_law_deck : Sms :=
  (.cons (.set 2 (.con (.int 0)))
  (.cons (.ite (.cmp .Lt (.var 1) (.blt .len (.cons (.var 0) .nil))) (.cons (.set 2 (.idx (.var 0) (.var 1)))
  .nil) .nil)
  (.cons (.set 3 (.bin .Mod (.blt .int (.cons (.bin .Add (.bin .Add (.var 2) (.bin .Mult (.con (.int 7919)) (.var 1))) (.con (.int 104729))) .nil)) (.con (.int 2305843009213693951))))
  (.cons (.set 3 (.bin .Mod (.blt .int (.cons (.bin .Add (.bin .Add (.bin .Mult (.bin .Mult (.var 3) (.var 3)) (.var 3)) (.bin .Mult (.con (.int 31)) (.var 1))) (.con (.int 7))) .nil)) (.con (.int 2305843009213693951))))
  (.cons (.ite (.cmp .Lt (.var 2) (.bin .Pow (.con (.int 10)) (.con (.int 18)))) (.cons (.ret (.lst (.cons (.con (.int 0)) (.cons (.var 3) .nil))))
  .nil) .nil)
  (.cons (.ret (.lst (.cons (.bin .Sub (.var 2) (.bin .Pow (.con (.int 10)) (.con (.int 18)))) (.cons (.var 3) .nil))))
  .nil))))))
def T_law_deck : Tab := tab [] []
def F_law_deck : List Cell → Option (Cell × Cell) := mkF T_law_deck ir_law_deck 4 false
def fn_law_deck : Fn := ⟨["script", "at"], false, 1, F_law_deck⟩
theorem b_law_deck {K : Cell → Cell → Prop} {c0 c1 : Cell} : WF F_law_deck [c0, c1] K = WP (exs T_law_deck fuel ir_law_deck [c0, c1, .emp, .emp]) fun o ρ => WP (endB false (o, ρ)) K := wf_eq
theorem hF_law_deck : fn_law_deck.F = mkF T_law_deck ir_law_deck 4 false := by kernel_rfl
def ir_law_take : Sms :=
  (.cons (.ite (.cmp .Gt (.idx (.var 0) (.con (.int 0))) (.con (.int 0))) (.cons (.set 2 (.bin .Mod (.blt .int (.cons (.idx (.var 0) (.con (.int 0))) .nil)) (.var 1)))
  (.cons (.put 0 (.con (.int 0)) (.bin .FloorDiv (.idx (.var 0) (.con (.int 0))) (.var 1)))
  (.cons (.ret (.var 2))
  .nil))) .nil)
  (.cons (.put 0 (.con (.int 1)) (.bin .Mod (.blt .int (.cons (.bin .Add (.bin .Mult (.idx (.var 0) (.con (.int 1))) (.con (.int 6364136223846793005))) (.con (.int 1442695040888963407))) .nil)) (.bin .Pow (.con (.int 2)) (.con (.int 64)))))
  (.cons (.ret (.bin .Mod (.bin .FloorDiv (.idx (.var 0) (.con (.int 1))) (.bin .Pow (.con (.int 2)) (.con (.int 33)))) (.var 1)))
  .nil)))
def T_law_take : Tab := tab [] []
def F_law_take : List Cell → Option (Cell × Cell) := mkF T_law_take ir_law_take 3 true
def fn_law_take : Fn := ⟨["deck", "many"], true, 1, F_law_take⟩
theorem b_law_take {K : Cell → Cell → Prop} {c0 c1 : Cell} : WF F_law_take [c0, c1] K = WP (exs T_law_take fuel ir_law_take [c0, c1, .emp]) fun o ρ => WP (endB true (o, ρ)) K := wf_eq
theorem hF_law_take : fn_law_take.F = mkF T_law_take ir_law_take 3 true := by kernel_rfl
def ir_law_same : Sms :=
  (.cons (.ite (.isi (.var 1) ["tuple", "list"]) (.cons (.ite (.or (.cmp .NotEq (.isi (.var 0) ["tuple"]) (.isi (.var 1) ["tuple"])) (.cmp .NotEq (.isi (.var 0) ["list"]) (.isi (.var 1) ["list"]))) (.cons (.ret (.con (.bool false)))
  .nil) .nil)
  (.cons (.ite (.cmp .NotEq (.blt .len (.cons (.var 0) .nil)) (.blt .len (.cons (.var 1) .nil))) (.cons (.ret (.con (.bool false)))
  .nil) .nil)
  (.cons (.ret (.cmp .Eq (.lc (.var 2) (.n 2) (.rng1 (.blt .len (.cons (.var 1) .nil))) (.so (.not (.call 33 (.cons (.idx (.var 0) (.var 2)) (.cons (.idx (.var 1) (.var 2)) .nil)) [] .nil))) [2]) (.lst .nil)))
  .nil))) .nil)
  (.cons (.ite (.cmp .Is (.var 1) (.con .none)) (.cons (.ret (.cmp .Is (.var 0) (.con .none)))
  .nil) .nil)
  (.cons (.ite (.isi (.var 1) ["str"]) (.cons (.ret (.and (.isi (.var 0) ["str"]) (.cmp .Eq (.var 0) (.var 1))))
  .nil) .nil)
  (.cons (.ite (.or (.isi (.var 1) ["bool"]) (.isi (.var 0) ["bool"])) (.cons (.ret (.and (.isi (.var 1) ["bool"]) (.and (.isi (.var 0) ["bool"]) (.cmp .Eq (.var 0) (.var 1)))))
  .nil) .nil)
  (.cons (.ret (.and (.isi (.var 0) ["int"]) (.cmp .Eq (.var 0) (.var 1))))
  .nil)))))
def T_law_same (f : Fn) : Tab := tab ((33, f) :: []) []
def F_law_same : Nat → List Cell → Option (Cell × Cell)
  | 0 => fun _ => none
  | k + 1 => mkF (T_law_same ⟨["found", "due"], false, k + 1, F_law_same k⟩) ir_law_same 3 false
def fnr_law_same (k : Nat) : Fn := ⟨["found", "due"], false, k + 1, F_law_same k⟩
def fn_law_same : Fn := fnr_law_same 6
theorem b_law_same {k : Nat} {K : Cell → Cell → Prop} {c0 c1 : Cell} : WF (F_law_same (k + 1)) [c0, c1] K = WP (exs (T_law_same (fnr_law_same k)) fuel ir_law_same [c0, c1, .emp]) fun o ρ => WP (endB false (o, ρ)) K := wf_eq
theorem hF_law_same {k : Nat} : (fnr_law_same (k + 1)).F = mkF (T_law_same (fnr_law_same k)) ir_law_same 3 false := rfl
theorem t_law_same_law_same {k : Nat} : Tab.fn (T_law_same (fnr_law_same k)) 33 = some (fnr_law_same k) := rfl
theorem k_law_same_law_same {k : Nat} {es kes : Exs} {ix : List Nat} {ρ : Rho} {Q : Od → Rho → Prop} : WP (ev (T_law_same (fnr_law_same k)) (.call 33 es ix kes) ρ) Q = WP (evs (T_law_same (fnr_law_same k)) es ρ) fun us ρ1 => WP (evs (T_law_same (fnr_law_same k)) kes ρ1) fun ws ρ2 => us.length + ix.length = 2 ∧ WC (F_law_same k) (us ++ ix.map fun i => ws.getD i (.t .emp)) ρ2 Q := q_callfr t_law_same_law_same rfl rfl (by kernel_rfl)
def ir_law_det : Sms :=
  (.cons (.ret (.bin .Sub (.bin .Mult (.idx (.idx (.var 0) (.con (.int 0))) (.con (.int 0))) (.idx (.idx (.var 0) (.con (.int 1))) (.con (.int 1)))) (.bin .Mult (.idx (.idx (.var 0) (.con (.int 0))) (.con (.int 1))) (.idx (.idx (.var 0) (.con (.int 1))) (.con (.int 0))))))
  .nil)
def T_law_det : Tab := tab [] []
def F_law_det : List Cell → Option (Cell × Cell) := mkF T_law_det ir_law_det 1 false
def fn_law_det : Fn := ⟨["grid"], false, 1, F_law_det⟩
theorem b_law_det {K : Cell → Cell → Prop} {c0 : Cell} : WF F_law_det [c0] K = WP (exs T_law_det fuel ir_law_det [c0]) fun o ρ => WP (endB false (o, ρ)) K := wf_eq
theorem hF_law_det : fn_law_det.F = mkF T_law_det ir_law_det 1 false := by kernel_rfl
def ir_law_growing : Sms :=
  (.cons (.par [1, 2] (.cons (.call 34 (.cons (.var 0) .nil) [] .nil) (.cons (.bin .Add (.idx (.idx (.var 0) (.con (.int 0))) (.con (.int 0))) (.idx (.idx (.var 0) (.con (.int 1))) (.con (.int 1)))) .nil)))
  (.cons (.ite (.cmp .Gt (.var 1) (.con (.int 0))) (.cons (.ret (.and (.cmp .Gt (.var 1) (.con (.int 1))) (.cmp .LtE (.blt .abs (.cons (.var 2) .nil)) (.var 1))))
  .nil) .nil)
  (.cons (.ret (.and (.cmp .Lt (.var 1) (.neg (.con (.int 1)))) (.cmp .LtE (.blt .abs (.cons (.var 2) .nil)) (.bin .Sub (.neg (.var 1)) (.con (.int 2))))))
  .nil)))
def T_law_growing : Tab := tab [(34, fn_law_det)] []
def F_law_growing : List Cell → Option (Cell × Cell) := mkF T_law_growing ir_law_growing 3 false
def fn_law_growing : Fn := ⟨["grid"], false, 2, F_law_growing⟩
theorem b_law_growing {K : Cell → Cell → Prop} {c0 : Cell} : WF F_law_growing [c0] K = WP (exs T_law_growing fuel ir_law_growing [c0, .emp, .emp]) fun o ρ => WP (endB false (o, ρ)) K := wf_eq
theorem hF_law_growing : fn_law_growing.F = mkF T_law_growing ir_law_growing 3 false := by kernel_rfl
theorem t_law_growing_law_det : Tab.fn T_law_growing 34 = some fn_law_det := rfl
theorem k_law_growing_law_det {es kes : Exs} {ix : List Nat} {ρ : Rho} {Q : Od → Rho → Prop} : WP (ev T_law_growing (.call 34 es ix kes) ρ) Q = WP (evs T_law_growing es ρ) fun us ρ1 => WP (evs T_law_growing kes ρ1) fun ws ρ2 => us.length + ix.length = 1 ∧ WC F_law_det (us ++ ix.map fun i => ws.getD i (.t .emp)) ρ2 Q := q_callfr t_law_growing_law_det rfl rfl (by kernel_rfl)
def ir_law_grid : Sms :=
  (.cons (.set 1 (.lst (.cons (.tup (.cons (.tup (.cons (.con (.int 2)) (.cons (.con (.int 0)) .nil))) (.cons (.tup (.cons (.con (.int 0)) (.cons (.con (.int 2)) .nil))) .nil))) (.cons (.tup (.cons (.tup (.cons (.con (.int 3)) (.cons (.con (.int 0)) .nil))) (.cons (.tup (.cons (.con (.int 0)) (.cons (.con (.int 3)) .nil))) .nil))) (.cons (.tup (.cons (.tup (.cons (.con (.int 1)) (.cons (.neg (.con (.int 1))) .nil))) (.cons (.tup (.cons (.con (.int 1)) (.cons (.con (.int 1)) .nil))) .nil))) (.cons (.tup (.cons (.tup (.cons (.con (.int 0)) (.cons (.con (.int 2)) .nil))) (.cons (.tup (.cons (.con (.int 1)) (.cons (.con (.int 0)) .nil))) .nil))) (.cons (.tup (.cons (.tup (.cons (.con (.int 0)) (.cons (.neg (.con (.int 2))) .nil))) (.cons (.tup (.cons (.con (.int 1)) (.cons (.con (.int 1)) .nil))) .nil))) (.cons (.tup (.cons (.tup (.cons (.con (.int 2)) (.cons (.con (.int 0)) .nil))) (.cons (.tup (.cons (.con (.int 0)) (.cons (.neg (.con (.int 3))) .nil))) .nil))) .nil))))))))
  (.cons (.set 1 (.bin .Add (.var 1) (.lst (.cons (.tup (.cons (.tup (.cons (.con (.int 0)) (.cons (.neg (.con (.int 3))) .nil))) (.cons (.tup (.cons (.con (.int 2)) (.cons (.con (.int 0)) .nil))) .nil))) (.cons (.tup (.cons (.tup (.cons (.con (.int 1)) (.cons (.con (.int 1)) .nil))) (.cons (.tup (.cons (.neg (.con (.int 1))) (.cons (.con (.int 2)) .nil))) .nil))) (.cons (.tup (.cons (.tup (.cons (.con (.int 2)) (.cons (.con (.int 1)) .nil))) (.cons (.tup (.cons (.con (.int 0)) (.cons (.con (.int 2)) .nil))) .nil))) (.cons (.tup (.cons (.tup (.cons (.neg (.con (.int 1))) (.cons (.neg (.con (.int 2))) .nil))) (.cons (.tup (.cons (.con (.int 1)) (.cons (.neg (.con (.int 1))) .nil))) .nil))) (.cons (.tup (.cons (.tup (.cons (.con (.int 0)) (.cons (.con (.int 3)) .nil))) (.cons (.tup (.cons (.con (.int 1)) (.cons (.neg (.con (.int 1))) .nil))) .nil))) .nil))))))))
  (.cons (.set 2 (.idx (.var 1) (.call 27 (.cons (.var 0) (.cons (.con (.int 11)) .nil)) [] .nil)))
  (.cons (.ite (.cmp .Eq (.call 27 (.cons (.var 0) (.cons (.con (.int 2)) .nil)) [] .nil) (.con (.int 1))) (.cons (.set 3 (.lc (.bin .Sub (.call 27 (.cons (.var 0) (.cons (.con (.int 7)) .nil)) [] .nil) (.con (.int 3))) (.n 4) (.rng1 (.con (.int 4))) .no [4]))
  (.cons (.set 5 (.tup (.cons (.tup (.cons (.idx (.var 3) (.con (.int 0))) (.cons (.idx (.var 3) (.con (.int 1))) .nil))) (.cons (.tup (.cons (.idx (.var 3) (.con (.int 2))) (.cons (.idx (.var 3) (.con (.int 3))) .nil))) .nil))))
  (.cons (.ite (.and (.call 35 (.cons (.var 5) .nil) [] .nil) (.cmp .Lt (.blt .abs (.cons (.call 34 (.cons (.var 5) .nil) [] .nil) .nil)) (.con (.int 10)))) (.cons (.set 2 (.var 5))
  .nil) .nil)
  .nil))) .nil)
  (.cons (.ret (.var 2))
  .nil)))))
def T_law_grid : Tab := tab [(27, fn_law_take), (35, fn_law_growing), (34, fn_law_det)] []
def F_law_grid : List Cell → Option (Cell × Cell) := mkF T_law_grid ir_law_grid 6 true
def fn_law_grid : Fn := ⟨["deck"], true, 3, F_law_grid⟩
theorem b_law_grid {K : Cell → Cell → Prop} {c0 : Cell} : WF F_law_grid [c0] K = WP (exs T_law_grid fuel ir_law_grid [c0, .emp, .emp, .emp, .emp, .emp]) fun o ρ => WP (endB true (o, ρ)) K := wf_eq
theorem hF_law_grid : fn_law_grid.F = mkF T_law_grid ir_law_grid 6 true := by kernel_rfl
theorem t_law_grid_law_take : Tab.fn T_law_grid 27 = some fn_law_take := rfl
theorem k_law_grid_law_take {es kes : Exs} {ix : List Nat} {ρ : Rho} {Q : Od → Rho → Prop} : WP (ev T_law_grid (.call 27 es ix kes) ρ) Q = WP (evs T_law_grid es ρ) fun us ρ1 => WP (evs T_law_grid kes ρ1) fun ws ρ2 => us.length + ix.length = 2 ∧ WCI F_law_take (us ++ ix.map fun i => ws.getD i (.t .emp)) ρ2 Q := q_callio t_law_grid_law_take rfl rfl (by kernel_rfl)
theorem t_law_grid_law_growing : Tab.fn T_law_grid 35 = some fn_law_growing := rfl
theorem k_law_grid_law_growing {es kes : Exs} {ix : List Nat} {ρ : Rho} {Q : Od → Rho → Prop} : WP (ev T_law_grid (.call 35 es ix kes) ρ) Q = WP (evs T_law_grid es ρ) fun us ρ1 => WP (evs T_law_grid kes ρ1) fun ws ρ2 => us.length + ix.length = 1 ∧ WC F_law_growing (us ++ ix.map fun i => ws.getD i (.t .emp)) ρ2 Q := q_callfr t_law_grid_law_growing rfl rfl (by kernel_rfl)
theorem t_law_grid_law_det : Tab.fn T_law_grid 34 = some fn_law_det := rfl
theorem k_law_grid_law_det {es kes : Exs} {ix : List Nat} {ρ : Rho} {Q : Od → Rho → Prop} : WP (ev T_law_grid (.call 34 es ix kes) ρ) Q = WP (evs T_law_grid es ρ) fun us ρ1 => WP (evs T_law_grid kes ρ1) fun ws ρ2 => us.length + ix.length = 1 ∧ WC F_law_det (us ++ ix.map fun i => ws.getD i (.t .emp)) ρ2 Q := q_callfr t_law_grid_law_det rfl rfl (by kernel_rfl)
def ir_law_ahead : Sms :=
  (.cons (.ret (.tup (.cons (.bin .Add (.bin .Mult (.idx (.idx (.var 0) (.con (.int 0))) (.con (.int 0))) (.idx (.var 1) (.con (.int 0)))) (.bin .Mult (.idx (.idx (.var 0) (.con (.int 0))) (.con (.int 1))) (.idx (.var 1) (.con (.int 1))))) (.cons (.bin .Add (.bin .Mult (.idx (.idx (.var 0) (.con (.int 1))) (.con (.int 0))) (.idx (.var 1) (.con (.int 0)))) (.bin .Mult (.idx (.idx (.var 0) (.con (.int 1))) (.con (.int 1))) (.idx (.var 1) (.con (.int 1))))) .nil))))
  .nil)
def T_law_ahead : Tab := tab [] []
def F_law_ahead : List Cell → Option (Cell × Cell) := mkF T_law_ahead ir_law_ahead 2 false
def fn_law_ahead : Fn := ⟨["grid", "away"], false, 1, F_law_ahead⟩
theorem b_law_ahead {K : Cell → Cell → Prop} {c0 c1 : Cell} : WF F_law_ahead [c0, c1] K = WP (exs T_law_ahead fuel ir_law_ahead [c0, c1]) fun o ρ => WP (endB false (o, ρ)) K := wf_eq
theorem hF_law_ahead : fn_law_ahead.F = mkF T_law_ahead ir_law_ahead 2 false := by kernel_rfl
def ir_law_add : Sms :=
  (.cons (.ret (.tup (.cons (.bin .Add (.idx (.var 0) (.con (.int 0))) (.idx (.var 1) (.con (.int 0)))) (.cons (.bin .Add (.idx (.var 0) (.con (.int 1))) (.idx (.var 1) (.con (.int 1)))) .nil))))
  .nil)
def T_law_add : Tab := tab [] []
def F_law_add : List Cell → Option (Cell × Cell) := mkF T_law_add ir_law_add 2 false
def fn_law_add : Fn := ⟨["first", "second"], false, 1, F_law_add⟩
theorem b_law_add {K : Cell → Cell → Prop} {c0 c1 : Cell} : WF F_law_add [c0, c1] K = WP (exs T_law_add fuel ir_law_add [c0, c1]) fun o ρ => WP (endB false (o, ρ)) K := wf_eq
theorem hF_law_add : fn_law_add.F = mkF T_law_add ir_law_add 2 false := by kernel_rfl
def ir_law_gear : Sms :=
  (.cons (.par [5, 6] (.cons (.bin .Add (.con (.int 1)) (.call 27 (.cons (.var 0) (.cons (.var 2) .nil)) [] .nil)) (.cons (.lst .nil) .nil)))
  (.cons (.for_ (.n 7) (.rng1 (.var 5)) (.cons (.set 8 .dnew)
  (.cons (.for_ (.n 9) (.rng1 (.bin .Add (.con (.int 1)) (.call 27 (.cons (.var 0) (.cons (.var 3) .nil)) [] .nil))) (.cons (.set 10 (.tup (.cons (.bin .Sub (.call 27 (.cons (.var 0) (.cons (.bin .Add (.bin .Mult (.con (.int 2)) (.var 4)) (.con (.int 1))) .nil)) [] .nil) (.var 4)) (.cons (.bin .Sub (.call 27 (.cons (.var 0) (.cons (.bin .Add (.bin .Mult (.con (.int 2)) (.var 4)) (.con (.int 1))) .nil)) [] .nil) (.var 4)) .nil))))
  (.cons (.put 8 (.tup (.cons (.var 10) (.cons (.call 27 (.cons (.var 0) (.cons (.var 5) .nil)) [] .nil) .nil))) (.con (.bool true)))
  .nil)))
  (.cons (.exp (.mth .append (.var 6) (.cons (.blt .tuple (.cons (.blt .sorted (.cons (.var 8) .nil)) .nil)) .nil)))
  .nil))))
  (.cons (.ret (.tup (.cons (.var 1) (.cons (.blt .tuple (.cons (.var 6) .nil)) .nil))))
  .nil)))
def T_law_gear : Tab := tab [(27, fn_law_take)] []
def F_law_gear : List Cell → Option (Cell × Cell) := mkF T_law_gear ir_law_gear 11 true
def fn_law_gear : Fn := ⟨["deck", "grid", "spots", "most", "far"], true, 2, F_law_gear⟩
theorem b_law_gear {K : Cell → Cell → Prop} {c0 c1 c2 c3 c4 : Cell} : WF F_law_gear [c0, c1, c2, c3, c4] K = WP (exs T_law_gear fuel ir_law_gear [c0, c1, c2, c3, c4, .emp, .emp, .emp, .emp, .emp, .emp]) fun o ρ => WP (endB true (o, ρ)) K := wf_eq
theorem hF_law_gear : fn_law_gear.F = mkF T_law_gear ir_law_gear 11 true := by kernel_rfl
theorem t_law_gear_law_take : Tab.fn T_law_gear 27 = some fn_law_take := rfl
theorem k_law_gear_law_take {es kes : Exs} {ix : List Nat} {ρ : Rho} {Q : Od → Rho → Prop} : WP (ev T_law_gear (.call 27 es ix kes) ρ) Q = WP (evs T_law_gear es ρ) fun us ρ1 => WP (evs T_law_gear kes ρ1) fun ws ρ2 => us.length + ix.length = 2 ∧ WCI F_law_take (us ++ ix.map fun i => ws.getD i (.t .emp)) ρ2 Q := q_callio t_law_gear_law_take rfl rfl (by kernel_rfl)
def ir_law_gone : Sms :=
  (.cons (.set 3 (.tup (.cons (.con (.int 0)) (.cons (.con (.int 0)) .nil))))
  (.cons (.for_ (.n 4) (.seq (.var 2)) (.cons (.ite (.or (.cmp .Lt (.var 4) (.con (.int 0))) (.cmp .GtE (.var 4) (.blt .len (.cons (.idx (.idx (.var 0) (.con (.int 1))) (.var 1)) .nil)))) (.cons (.ret (.con .none))
  .nil) .nil)
  (.cons (.asg (.t [(.n 5), (.n 1)]) (.idx (.idx (.idx (.var 0) (.con (.int 1))) (.var 1)) (.var 4)))
  (.cons (.set 3 (.call 38 (.cons (.call 37 (.cons (.idx (.var 0) (.con (.int 0))) (.cons (.var 3) .nil)) [] .nil) (.cons (.var 5) .nil)) [] .nil))
  .nil))))
  (.cons (.ret (.tup (.cons (.var 1) (.cons (.var 3) .nil))))
  .nil)))
def T_law_gone : Tab := tab [(38, fn_law_add), (37, fn_law_ahead)] []
def F_law_gone : List Cell → Option (Cell × Cell) := mkF T_law_gone ir_law_gone 6 false
def fn_law_gone : Fn := ⟨["gear", "spot", "path"], false, 2, F_law_gone⟩
theorem b_law_gone {K : Cell → Cell → Prop} {c0 c1 c2 : Cell} : WF F_law_gone [c0, c1, c2] K = WP (exs T_law_gone fuel ir_law_gone [c0, c1, c2, .emp, .emp, .emp]) fun o ρ => WP (endB false (o, ρ)) K := wf_eq
theorem hF_law_gone : fn_law_gone.F = mkF T_law_gone ir_law_gone 6 false := by kernel_rfl
theorem t_law_gone_law_add : Tab.fn T_law_gone 38 = some fn_law_add := rfl
theorem k_law_gone_law_add {es kes : Exs} {ix : List Nat} {ρ : Rho} {Q : Od → Rho → Prop} : WP (ev T_law_gone (.call 38 es ix kes) ρ) Q = WP (evs T_law_gone es ρ) fun us ρ1 => WP (evs T_law_gone kes ρ1) fun ws ρ2 => us.length + ix.length = 2 ∧ WC F_law_add (us ++ ix.map fun i => ws.getD i (.t .emp)) ρ2 Q := q_callfr t_law_gone_law_add rfl rfl (by kernel_rfl)
theorem t_law_gone_law_ahead : Tab.fn T_law_gone 37 = some fn_law_ahead := rfl
theorem k_law_gone_law_ahead {es kes : Exs} {ix : List Nat} {ρ : Rho} {Q : Od → Rho → Prop} : WP (ev T_law_gone (.call 37 es ix kes) ρ) Q = WP (evs T_law_gone es ρ) fun us ρ1 => WP (evs T_law_gone kes ρ1) fun ws ρ2 => us.length + ix.length = 2 ∧ WC F_law_ahead (us ++ ix.map fun i => ws.getD i (.t .emp)) ρ2 Q := q_callfr t_law_gone_law_ahead rfl rfl (by kernel_rfl)
def ir_law_path : Sms :=
  (.cons (.set 4 (.lst .nil))
  (.cons (.for_ (.n 5) (.rng1 (.var 3)) (.cons (.exp (.mth .append (.var 4) (.cons (.call 27 (.cons (.var 0) (.cons (.blt .len (.cons (.idx (.idx (.var 1) (.con (.int 1))) (.var 2)) .nil)) .nil)) [] .nil) .nil)))
  (.cons (.set 2 (.idx (.idx (.idx (.idx (.var 1) (.con (.int 1))) (.var 2)) (.idx (.var 4) (.neg (.con (.int 1))))) (.con (.int 1))))
  .nil)))
  (.cons (.ret (.blt .tuple (.cons (.var 4) .nil)))
  .nil)))
def T_law_path : Tab := tab [(27, fn_law_take)] []
def F_law_path : List Cell → Option (Cell × Cell) := mkF T_law_path ir_law_path 6 true
def fn_law_path : Fn := ⟨["deck", "gear", "spot", "many"], true, 2, F_law_path⟩
theorem b_law_path {K : Cell → Cell → Prop} {c0 c1 c2 c3 : Cell} : WF F_law_path [c0, c1, c2, c3] K = WP (exs T_law_path fuel ir_law_path [c0, c1, c2, c3, .emp, .emp]) fun o ρ => WP (endB true (o, ρ)) K := wf_eq
theorem hF_law_path : fn_law_path.F = mkF T_law_path ir_law_path 6 true := by kernel_rfl
theorem t_law_path_law_take : Tab.fn T_law_path 27 = some fn_law_take := rfl
theorem k_law_path_law_take {es kes : Exs} {ix : List Nat} {ρ : Rho} {Q : Od → Rho → Prop} : WP (ev T_law_path (.call 27 es ix kes) ρ) Q = WP (evs T_law_path es ρ) fun us ρ1 => WP (evs T_law_path kes ρ1) fun ws ρ2 => us.length + ix.length = 2 ∧ WCI F_law_take (us ++ ix.map fun i => ws.getD i (.t .emp)) ρ2 Q := q_callio t_law_path_law_take rfl rfl (by kernel_rfl)
def ir_law_track : Sms :=
  (.cons (.par [3, 4, 5] (.cons (.lst .nil) (.cons (.lst .nil) (.cons (.var 2) .nil))))
  (.cons (.whl (.cmp .NotIn (.var 5) (.var 3)) (.cons (.exp (.mth .append (.var 3) (.cons (.var 5) .nil)))
  (.cons (.exp (.mth .append (.var 4) (.cons (.call 27 (.cons (.var 0) (.cons (.blt .len (.cons (.idx (.idx (.var 1) (.con (.int 1))) (.var 5)) .nil)) .nil)) [] .nil) .nil)))
  (.cons (.set 5 (.idx (.idx (.idx (.idx (.var 1) (.con (.int 1))) (.var 5)) (.idx (.var 4) (.neg (.con (.int 1))))) (.con (.int 1))))
  .nil))))
  (.cons (.set 6 (.mth .index (.var 3) (.cons (.var 5) .nil)))
  (.cons (.ret (.tup (.cons (.blt .tuple (.cons (.slc (.var 4) .no (.so (.var 6))) .nil)) (.cons (.bin .Mult (.blt .tuple (.cons (.slc (.var 4) (.so (.var 6)) .no) .nil)) (.bin .Add (.con (.int 1)) (.call 27 (.cons (.var 0) (.cons (.con (.int 2)) .nil)) [] .nil))) .nil))))
  .nil))))
def T_law_track : Tab := tab [(27, fn_law_take)] []
def F_law_track : List Cell → Option (Cell × Cell) := mkF T_law_track ir_law_track 7 true
def fn_law_track : Fn := ⟨["deck", "gear", "spot"], true, 2, F_law_track⟩
theorem b_law_track {K : Cell → Cell → Prop} {c0 c1 c2 : Cell} : WF F_law_track [c0, c1, c2] K = WP (exs T_law_track fuel ir_law_track [c0, c1, c2, .emp, .emp, .emp, .emp]) fun o ρ => WP (endB true (o, ρ)) K := wf_eq
theorem hF_law_track : fn_law_track.F = mkF T_law_track ir_law_track 7 true := by kernel_rfl
theorem t_law_track_law_take : Tab.fn T_law_track 27 = some fn_law_take := rfl
theorem k_law_track_law_take {es kes : Exs} {ix : List Nat} {ρ : Rho} {Q : Od → Rho → Prop} : WP (ev T_law_track (.call 27 es ix kes) ρ) Q = WP (evs T_law_track es ρ) fun us ρ1 => WP (evs T_law_track kes ρ1) fun ws ρ2 => us.length + ix.length = 2 ∧ WCI F_law_take (us ++ ix.map fun i => ws.getD i (.t .emp)) ρ2 Q := q_callio t_law_track_law_take rfl rfl (by kernel_rfl)
def ir_law_bent_3 : Sms :=
  (.cons (.par [2, 3] (.cons (.call 27 (.cons (.var 0) (.cons (.con (.int 5)) .nil)) [] .nil) (.cons (.call 27 (.cons (.var 0) (.cons (.bin .Add (.blt .len (.cons (.var 1) .nil)) (.con (.int 1))) .nil)) [] .nil) .nil)))
  (.cons (.ite (.or (.cmp .Eq (.var 2) (.con (.int 0))) (.cmp .Eq (.var 1) (.tup .nil))) (.cons (.ret (.bin .Add (.bin .Add (.slc (.var 1) .no (.so (.var 3))) (.tup (.cons (.bin .Sub (.call 27 (.cons (.var 0) (.cons (.con (.int 8)) .nil)) [] .nil) (.con (.int 1))) .nil))) (.slc (.var 1) (.so (.var 3)) .no)))
  .nil) .nil)
  (.cons (.set 3 (.blt .min (.cons (.var 3) (.cons (.bin .Sub (.blt .len (.cons (.var 1) .nil)) (.con (.int 1))) .nil))))
  (.cons (.ite (.cmp .Eq (.var 2) (.con (.int 1))) (.cons (.ret (.bin .Add (.slc (.var 1) .no (.so (.var 3))) (.slc (.var 1) (.so (.bin .Add (.var 3) (.con (.int 1)))) .no)))
  .nil) .nil)
  (.cons (.ret (.bin .Add (.bin .Add (.slc (.var 1) .no (.so (.var 3))) (.tup (.cons (.idx (.lst (.cons (.neg (.con (.int 1))) (.cons (.con (.int 6)) (.cons (.bin .Add (.idx (.var 1) (.var 3)) (.con (.int 1))) (.cons (.call 27 (.cons (.var 0) (.cons (.con (.int 7)) .nil)) [] .nil) .nil))))) (.call 27 (.cons (.var 0) (.cons (.con (.int 4)) .nil)) [] .nil)) .nil))) (.slc (.var 1) (.so (.bin .Add (.var 3) (.con (.int 1)))) .no)))
  .nil)))))
def T_law_bent_3 : Tab := tab [(27, fn_law_take)] []
def F_law_bent_3 : List Cell → Option (Cell × Cell) := mkF T_law_bent_3 ir_law_bent_3 4 true
def fn_law_bent_3 : Fn := ⟨["deck", "path"], true, 2, F_law_bent_3⟩
theorem b_law_bent_3 {K : Cell → Cell → Prop} {c0 c1 : Cell} : WF F_law_bent_3 [c0, c1] K = WP (exs T_law_bent_3 fuel ir_law_bent_3 [c0, c1, .emp, .emp]) fun o ρ => WP (endB true (o, ρ)) K := wf_eq
theorem hF_law_bent_3 : fn_law_bent_3.F = mkF T_law_bent_3 ir_law_bent_3 4 true := by kernel_rfl
theorem t_law_bent_3_law_take : Tab.fn T_law_bent_3 27 = some fn_law_take := rfl
theorem k_law_bent_3_law_take {es kes : Exs} {ix : List Nat} {ρ : Rho} {Q : Od → Rho → Prop} : WP (ev T_law_bent_3 (.call 27 es ix kes) ρ) Q = WP (evs T_law_bent_3 es ρ) fun us ρ1 => WP (evs T_law_bent_3 kes ρ1) fun ws ρ2 => us.length + ix.length = 2 ∧ WCI F_law_take (us ++ ix.map fun i => ws.getD i (.t .emp)) ρ2 Q := q_callio t_law_bent_3_law_take rfl rfl (by kernel_rfl)
def ir_law_is_track : Sms :=
  (.cons (.set 3 (.call 73 (.cons (.var 0) (.cons (.var 1) (.cons (.idx (.var 2) (.con (.int 0))) .nil))) [] .nil))
  (.cons (.ite (.or (.cmp .Is (.var 3) (.con .none)) (.cmp .Eq (.idx (.var 2) (.con (.int 1))) (.tup .nil))) (.cons (.ret (.con (.bool false)))
  .nil) .nil)
  (.cons (.set 4 (.call 73 (.cons (.var 0) (.cons (.idx (.var 3) (.con (.int 0))) (.cons (.idx (.var 2) (.con (.int 1))) .nil))) [] .nil))
  (.cons (.ret (.and (.cmp .IsNot (.var 4) (.con .none)) (.cmp .Eq (.idx (.var 4) (.con (.int 0))) (.idx (.var 3) (.con (.int 0))))))
  .nil))))
def T_law_is_track : Tab := tab [(73, fn_law_gone)] []
def F_law_is_track : List Cell → Option (Cell × Cell) := mkF T_law_is_track ir_law_is_track 5 false
def fn_law_is_track : Fn := ⟨["gear", "spot", "track"], false, 3, F_law_is_track⟩
theorem b_law_is_track {K : Cell → Cell → Prop} {c0 c1 c2 : Cell} : WF F_law_is_track [c0, c1, c2] K = WP (exs T_law_is_track fuel ir_law_is_track [c0, c1, c2, .emp, .emp]) fun o ρ => WP (endB false (o, ρ)) K := wf_eq
theorem hF_law_is_track : fn_law_is_track.F = mkF T_law_is_track ir_law_is_track 5 false := by kernel_rfl
theorem t_law_is_track_law_gone : Tab.fn T_law_is_track 73 = some fn_law_gone := rfl
theorem k_law_is_track_law_gone {es kes : Exs} {ix : List Nat} {ρ : Rho} {Q : Od → Rho → Prop} : WP (ev T_law_is_track (.call 73 es ix kes) ρ) Q = WP (evs T_law_is_track es ρ) fun us ρ1 => WP (evs T_law_is_track kes ρ1) fun ws ρ2 => us.length + ix.length = 3 ∧ WC F_law_gone (us ++ ix.map fun i => ws.getD i (.t .emp)) ρ2 Q := q_callfr t_law_is_track_law_gone rfl rfl (by kernel_rfl)
def ir_law_all : Sms :=
  (.cons (.set 3 (.lst (.cons (.tup (.cons (.tup .nil) (.cons (.var 1) .nil))) .nil)))
  (.cons (.for_ (.n 4) (.rng1 (.var 2)) (.cons (.set 5 (.lst .nil))
  (.cons (.for_ (.t [(.n 6), (.n 7)]) (.seq (.var 3)) (.cons (.exp (.mth .extend (.var 5) (.cons (.lc (.tup (.cons (.bin .Add (.var 6) (.tup (.cons (.var 8) .nil))) (.cons (.idx (.idx (.idx (.idx (.var 0) (.con (.int 1))) (.var 7)) (.var 8)) (.con (.int 1))) .nil))) (.n 8) (.rng1 (.blt .len (.cons (.idx (.idx (.var 0) (.con (.int 1))) (.var 7)) .nil))) .no [8]) .nil)))
  .nil))
  (.cons (.set 3 (.var 5))
  .nil))))
  (.cons (.ret (.lc (.var 6) (.t [(.n 6), (.n 7)]) (.seq (.var 3)) .no [6, 7]))
  .nil)))
def T_law_all : Tab := tab [] []
def F_law_all : List Cell → Option (Cell × Cell) := mkF T_law_all ir_law_all 9 false
def fn_law_all : Fn := ⟨["gear", "spot", "many"], false, 1, F_law_all⟩
theorem b_law_all {K : Cell → Cell → Prop} {c0 c1 c2 : Cell} : WF F_law_all [c0, c1, c2] K = WP (exs T_law_all fuel ir_law_all [c0, c1, c2, .emp, .emp, .emp, .emp, .emp, .emp]) fun o ρ => WP (endB false (o, ρ)) K := wf_eq
theorem hF_law_all : fn_law_all.F = mkF T_law_all ir_law_all 9 false := by kernel_rfl
def ir_law_walks_right : Sms :=
  (.cons (.set 3 (.blt .max (.cons (.lc (.blt .len (.cons (.var 4) .nil)) (.n 4) (.seq (.idx (.var 1) (.con (.int 1)))) .no [4]) .nil)))
  (.cons (.set 5 (.call 27 (.cons (.var 0) (.cons (.idx (.lst (.cons (.con (.int 7)) (.cons (.con (.int 7)) (.cons (.con (.int 7)) (.cons (.con (.int 7)) (.cons (.con (.int 6)) (.cons (.con (.int 5)) (.cons (.con (.int 5)) .nil)))))))) (.var 3)) .nil)) [] .nil))
  (.cons (.set 6 (.call 78 (.cons (.var 1) (.cons (.var 2) (.cons (.var 5) .nil))) [] .nil))
  (.cons (.set 7 (.call 72 (.cons (.var 1) (.cons (.var 2) (.cons (.var 5) .nil))) [] .nil))
  (.cons (.ite (.not (.call 33 (.cons (.var 7) (.cons (.var 6) .nil)) [] .nil)) (.cons (.ret (.con (.bool false)))
  .nil) .nil)
  (.cons (.exp (.mth .append (.var 7) (.cons (.tup (.cons (.con (.int 9)) .nil)) .nil)))
  (.cons (.exp (.mth .reverse (.var 7) .nil))
  (.cons (.ret (.call 33 (.cons (.call 72 .nil [2, 1, 0] (.cons (.var 5) (.cons (.var 2) (.cons (.var 1) .nil)))) (.cons (.var 6) .nil)) [] .nil))
  .nil))))))))
def T_law_walks_right : Tab := tab [(27, fn_law_take), (78, fn_law_all), (72, fn_walks), (33, fn_law_same)] []
def F_law_walks_right : List Cell → Option (Cell × Cell) := mkF T_law_walks_right ir_law_walks_right 8 true
def fn_law_walks_right : Fn := ⟨["deck", "gear", "spot"], true, 8, F_law_walks_right⟩
theorem b_law_walks_right {K : Cell → Cell → Prop} {c0 c1 c2 : Cell} : WF F_law_walks_right [c0, c1, c2] K = WP (exs T_law_walks_right fuel ir_law_walks_right [c0, c1, c2, .emp, .emp, .emp, .emp, .emp]) fun o ρ => WP (endB true (o, ρ)) K := wf_eq
theorem hF_law_walks_right : fn_law_walks_right.F = mkF T_law_walks_right ir_law_walks_right 8 true := by kernel_rfl
theorem t_law_walks_right_law_take : Tab.fn T_law_walks_right 27 = some fn_law_take := rfl
theorem k_law_walks_right_law_take {es kes : Exs} {ix : List Nat} {ρ : Rho} {Q : Od → Rho → Prop} : WP (ev T_law_walks_right (.call 27 es ix kes) ρ) Q = WP (evs T_law_walks_right es ρ) fun us ρ1 => WP (evs T_law_walks_right kes ρ1) fun ws ρ2 => us.length + ix.length = 2 ∧ WCI F_law_take (us ++ ix.map fun i => ws.getD i (.t .emp)) ρ2 Q := q_callio t_law_walks_right_law_take rfl rfl (by kernel_rfl)
theorem t_law_walks_right_law_all : Tab.fn T_law_walks_right 78 = some fn_law_all := rfl
theorem k_law_walks_right_law_all {es kes : Exs} {ix : List Nat} {ρ : Rho} {Q : Od → Rho → Prop} : WP (ev T_law_walks_right (.call 78 es ix kes) ρ) Q = WP (evs T_law_walks_right es ρ) fun us ρ1 => WP (evs T_law_walks_right kes ρ1) fun ws ρ2 => us.length + ix.length = 3 ∧ WC F_law_all (us ++ ix.map fun i => ws.getD i (.t .emp)) ρ2 Q := q_callfr t_law_walks_right_law_all rfl rfl (by kernel_rfl)
theorem t_law_walks_right_walks : Tab.fn T_law_walks_right 72 = some fn_walks := rfl
theorem k_law_walks_right_walks {es kes : Exs} {ix : List Nat} {ρ : Rho} {Q : Od → Rho → Prop} : WP (ev T_law_walks_right (.call 72 es ix kes) ρ) Q = WP (evs T_law_walks_right es ρ) fun us ρ1 => WP (evs T_law_walks_right kes ρ1) fun ws ρ2 => us.length + ix.length = 3 ∧ WC F_walks (us ++ ix.map fun i => ws.getD i (.t .emp)) ρ2 Q := q_callfr t_law_walks_right_walks rfl rfl (by kernel_rfl)
theorem t_law_walks_right_law_same : Tab.fn T_law_walks_right 33 = some fn_law_same := rfl
theorem k_law_walks_right_law_same {es kes : Exs} {ix : List Nat} {ρ : Rho} {Q : Od → Rho → Prop} : WP (ev T_law_walks_right (.call 33 es ix kes) ρ) Q = WP (evs T_law_walks_right es ρ) fun us ρ1 => WP (evs T_law_walks_right kes ρ1) fun ws ρ2 => us.length + ix.length = 2 ∧ WC (F_law_same 6) (us ++ ix.map fun i => ws.getD i (.t .emp)) ρ2 Q := q_callfr t_law_walks_right_law_same rfl rfl (by kernel_rfl)
def ir_law_right : Sms :=
  (.cons (.set 1 (.call 53 (.cons (.var 0) (.cons (.call 36 (.cons (.var 0) .nil) [] .nil) (.cons (.con (.int 4)) (.cons (.idx (.lst (.cons (.con (.int 1)) (.cons (.con (.int 3)) (.cons (.con (.int 6)) .nil)))) (.call 27 (.cons (.var 0) (.cons (.con (.int 3)) .nil)) [] .nil)) (.cons (.con (.int 4)) .nil))))) [] .nil))
  (.cons (.set 2 (.call 27 (.cons (.var 0) (.cons (.blt .len (.cons (.idx (.var 1) (.con (.int 1))) .nil)) .nil)) [] .nil))
  (.cons (.par [3, 4] (.cons (.call 74 (.cons (.var 0) (.cons (.var 1) (.cons (.var 2) (.cons (.call 27 (.cons (.var 0) (.cons (.con (.int 12)) .nil)) [] .nil) .nil)))) [] .nil) (.cons (.call 75 (.cons (.var 0) (.cons (.var 1) (.cons (.var 2) .nil))) [] .nil) .nil)))
  (.cons (.set 5 (.call 73 (.cons (.var 1) (.cons (.var 2) (.cons (.var 3) .nil))) [] .nil))
  (.cons (.ite (.not (.call 33 (.cons (.lst (.cons (.call 71 (.cons (.var 1) (.cons (.var 2) (.cons (.var 3) .nil))) [] .nil) (.cons (.call 71 .nil [2, 1, 0] (.cons (.var 3) (.cons (.var 2) (.cons (.var 1) .nil)))) .nil))) (.cons (.lst (.cons (.var 5) (.cons (.var 5) .nil))) .nil)) [] .nil)) (.cons (.ret (.con (.bool false)))
  .nil) .nil)
  (.cons (.ite (.not (.call 33 (.cons (.lst (.cons (.call 69 (.cons (.var 1) (.cons (.var 2) (.cons (.var 3) .nil))) [] .nil) (.cons (.call 70 (.cons (.var 1) (.cons (.var 2) (.cons (.var 4) .nil))) [] .nil) .nil))) (.cons (.lst (.cons (.con (.bool true)) (.cons (.con (.bool true)) .nil))) .nil)) [] .nil)) (.cons (.ret (.con (.bool false)))
  .nil) .nil)
  (.cons (.for_ (.n 6) (.rng1 (.con (.int 5))) (.cons (.set 7 (.call 76 (.cons (.var 0) (.cons (.var 3) .nil)) [] .nil))
  (.cons (.set 5 (.cmp .IsNot (.call 73 (.cons (.var 1) (.cons (.var 2) (.cons (.var 7) .nil))) [] .nil) (.con .none)))
  (.cons (.ite (.not (.call 33 (.cons (.lst (.cons (.call 69 (.cons (.var 1) (.cons (.var 2) (.cons (.var 7) .nil))) [] .nil) (.cons (.call 69 .nil [2, 1, 0] (.cons (.var 7) (.cons (.var 2) (.cons (.var 1) .nil)))) .nil))) (.cons (.lst (.cons (.var 5) (.cons (.var 5) .nil))) .nil)) [] .nil)) (.cons (.ret (.con (.bool false)))
  .nil) .nil)
  (.cons (.set 8 (.idx (.lst (.cons (.tup (.cons (.call 76 (.cons (.var 0) (.cons (.idx (.var 4) (.con (.int 0))) .nil)) [] .nil) (.cons (.idx (.var 4) (.con (.int 1))) .nil))) (.cons (.tup (.cons (.idx (.var 4) (.con (.int 0))) (.cons (.call 76 (.cons (.var 0) (.cons (.idx (.var 4) (.con (.int 1))) .nil)) [] .nil) .nil))) .nil))) (.call 27 (.cons (.var 0) (.cons (.con (.int 2)) .nil)) [] .nil)))
  (.cons (.set 5 (.call 77 (.cons (.var 1) (.cons (.var 2) (.cons (.var 8) .nil))) [] .nil))
  (.cons (.ite (.not (.call 33 (.cons (.lst (.cons (.call 70 (.cons (.var 1) (.cons (.var 2) (.cons (.var 8) .nil))) [] .nil) (.cons (.call 70 .nil [2, 1, 0] (.cons (.var 8) (.cons (.var 2) (.cons (.var 1) .nil)))) .nil))) (.cons (.lst (.cons (.var 5) (.cons (.var 5) .nil))) .nil)) [] .nil)) (.cons (.ret (.con (.bool false)))
  .nil) .nil)
  .nil)))))))
  (.cons (.ret (.and (.call 33 (.cons (.call 70 (.cons (.var 1) (.cons (.var 2) (.cons (.tup (.cons (.idx (.var 4) (.con (.int 0))) (.cons (.tup .nil) .nil))) .nil))) [] .nil) (.cons (.con (.bool false)) .nil)) [] .nil) (.call 79 (.cons (.var 0) (.cons (.var 1) (.cons (.var 2) .nil))) [] .nil)))
  .nil))))))))
def T_law_right : Tab := tab [(53, fn_law_gear), (27, fn_law_take), (73, fn_law_gone), (36, fn_law_grid), (74, fn_law_path), (75, fn_law_track), (33, fn_law_same), (76, fn_law_bent_3), (77, fn_law_is_track), (79, fn_law_walks_right), (70, fn_is_address), (71, fn_ends), (69, fn_is_walk)] []
def F_law_right : List Cell → Option (Cell × Cell) := mkF T_law_right ir_law_right 9 true
def fn_law_right : Fn := ⟨["deck"], true, 9, F_law_right⟩
theorem b_law_right {K : Cell → Cell → Prop} {c0 : Cell} : WF F_law_right [c0] K = WP (exs T_law_right fuel ir_law_right [c0, .emp, .emp, .emp, .emp, .emp, .emp, .emp, .emp]) fun o ρ => WP (endB true (o, ρ)) K := wf_eq
theorem hF_law_right : fn_law_right.F = mkF T_law_right ir_law_right 9 true := by kernel_rfl
theorem t_law_right_law_gear : Tab.fn T_law_right 53 = some fn_law_gear := rfl
theorem k_law_right_law_gear {es kes : Exs} {ix : List Nat} {ρ : Rho} {Q : Od → Rho → Prop} : WP (ev T_law_right (.call 53 es ix kes) ρ) Q = WP (evs T_law_right es ρ) fun us ρ1 => WP (evs T_law_right kes ρ1) fun ws ρ2 => us.length + ix.length = 5 ∧ WCI F_law_gear (us ++ ix.map fun i => ws.getD i (.t .emp)) ρ2 Q := q_callio t_law_right_law_gear rfl rfl (by kernel_rfl)
theorem t_law_right_law_take : Tab.fn T_law_right 27 = some fn_law_take := rfl
theorem k_law_right_law_take {es kes : Exs} {ix : List Nat} {ρ : Rho} {Q : Od → Rho → Prop} : WP (ev T_law_right (.call 27 es ix kes) ρ) Q = WP (evs T_law_right es ρ) fun us ρ1 => WP (evs T_law_right kes ρ1) fun ws ρ2 => us.length + ix.length = 2 ∧ WCI F_law_take (us ++ ix.map fun i => ws.getD i (.t .emp)) ρ2 Q := q_callio t_law_right_law_take rfl rfl (by kernel_rfl)
theorem t_law_right_law_gone : Tab.fn T_law_right 73 = some fn_law_gone := rfl
theorem k_law_right_law_gone {es kes : Exs} {ix : List Nat} {ρ : Rho} {Q : Od → Rho → Prop} : WP (ev T_law_right (.call 73 es ix kes) ρ) Q = WP (evs T_law_right es ρ) fun us ρ1 => WP (evs T_law_right kes ρ1) fun ws ρ2 => us.length + ix.length = 3 ∧ WC F_law_gone (us ++ ix.map fun i => ws.getD i (.t .emp)) ρ2 Q := q_callfr t_law_right_law_gone rfl rfl (by kernel_rfl)
theorem t_law_right_law_grid : Tab.fn T_law_right 36 = some fn_law_grid := rfl
theorem k_law_right_law_grid {es kes : Exs} {ix : List Nat} {ρ : Rho} {Q : Od → Rho → Prop} : WP (ev T_law_right (.call 36 es ix kes) ρ) Q = WP (evs T_law_right es ρ) fun us ρ1 => WP (evs T_law_right kes ρ1) fun ws ρ2 => us.length + ix.length = 1 ∧ WCI F_law_grid (us ++ ix.map fun i => ws.getD i (.t .emp)) ρ2 Q := q_callio t_law_right_law_grid rfl rfl (by kernel_rfl)
theorem t_law_right_law_path : Tab.fn T_law_right 74 = some fn_law_path := rfl
theorem k_law_right_law_path {es kes : Exs} {ix : List Nat} {ρ : Rho} {Q : Od → Rho → Prop} : WP (ev T_law_right (.call 74 es ix kes) ρ) Q = WP (evs T_law_right es ρ) fun us ρ1 => WP (evs T_law_right kes ρ1) fun ws ρ2 => us.length + ix.length = 4 ∧ WCI F_law_path (us ++ ix.map fun i => ws.getD i (.t .emp)) ρ2 Q := q_callio t_law_right_law_path rfl rfl (by kernel_rfl)
theorem t_law_right_law_track : Tab.fn T_law_right 75 = some fn_law_track := rfl
theorem k_law_right_law_track {es kes : Exs} {ix : List Nat} {ρ : Rho} {Q : Od → Rho → Prop} : WP (ev T_law_right (.call 75 es ix kes) ρ) Q = WP (evs T_law_right es ρ) fun us ρ1 => WP (evs T_law_right kes ρ1) fun ws ρ2 => us.length + ix.length = 3 ∧ WCI F_law_track (us ++ ix.map fun i => ws.getD i (.t .emp)) ρ2 Q := q_callio t_law_right_law_track rfl rfl (by kernel_rfl)
theorem t_law_right_law_same : Tab.fn T_law_right 33 = some fn_law_same := rfl
theorem k_law_right_law_same {es kes : Exs} {ix : List Nat} {ρ : Rho} {Q : Od → Rho → Prop} : WP (ev T_law_right (.call 33 es ix kes) ρ) Q = WP (evs T_law_right es ρ) fun us ρ1 => WP (evs T_law_right kes ρ1) fun ws ρ2 => us.length + ix.length = 2 ∧ WC (F_law_same 6) (us ++ ix.map fun i => ws.getD i (.t .emp)) ρ2 Q := q_callfr t_law_right_law_same rfl rfl (by kernel_rfl)
theorem t_law_right_law_bent_3 : Tab.fn T_law_right 76 = some fn_law_bent_3 := rfl
theorem k_law_right_law_bent_3 {es kes : Exs} {ix : List Nat} {ρ : Rho} {Q : Od → Rho → Prop} : WP (ev T_law_right (.call 76 es ix kes) ρ) Q = WP (evs T_law_right es ρ) fun us ρ1 => WP (evs T_law_right kes ρ1) fun ws ρ2 => us.length + ix.length = 2 ∧ WCI F_law_bent_3 (us ++ ix.map fun i => ws.getD i (.t .emp)) ρ2 Q := q_callio t_law_right_law_bent_3 rfl rfl (by kernel_rfl)
theorem t_law_right_law_is_track : Tab.fn T_law_right 77 = some fn_law_is_track := rfl
theorem k_law_right_law_is_track {es kes : Exs} {ix : List Nat} {ρ : Rho} {Q : Od → Rho → Prop} : WP (ev T_law_right (.call 77 es ix kes) ρ) Q = WP (evs T_law_right es ρ) fun us ρ1 => WP (evs T_law_right kes ρ1) fun ws ρ2 => us.length + ix.length = 3 ∧ WC F_law_is_track (us ++ ix.map fun i => ws.getD i (.t .emp)) ρ2 Q := q_callfr t_law_right_law_is_track rfl rfl (by kernel_rfl)
theorem t_law_right_law_walks_right : Tab.fn T_law_right 79 = some fn_law_walks_right := rfl
theorem k_law_right_law_walks_right {es kes : Exs} {ix : List Nat} {ρ : Rho} {Q : Od → Rho → Prop} : WP (ev T_law_right (.call 79 es ix kes) ρ) Q = WP (evs T_law_right es ρ) fun us ρ1 => WP (evs T_law_right kes ρ1) fun ws ρ2 => us.length + ix.length = 3 ∧ WCI F_law_walks_right (us ++ ix.map fun i => ws.getD i (.t .emp)) ρ2 Q := q_callio t_law_right_law_walks_right rfl rfl (by kernel_rfl)
theorem t_law_right_is_address : Tab.fn T_law_right 70 = some fn_is_address := rfl
theorem k_law_right_is_address {es kes : Exs} {ix : List Nat} {ρ : Rho} {Q : Od → Rho → Prop} : WP (ev T_law_right (.call 70 es ix kes) ρ) Q = WP (evs T_law_right es ρ) fun us ρ1 => WP (evs T_law_right kes ρ1) fun ws ρ2 => us.length + ix.length = 3 ∧ WC F_is_address (us ++ ix.map fun i => ws.getD i (.t .emp)) ρ2 Q := q_callfr t_law_right_is_address rfl rfl (by kernel_rfl)
theorem t_law_right_ends : Tab.fn T_law_right 71 = some fn_ends := rfl
theorem k_law_right_ends {es kes : Exs} {ix : List Nat} {ρ : Rho} {Q : Od → Rho → Prop} : WP (ev T_law_right (.call 71 es ix kes) ρ) Q = WP (evs T_law_right es ρ) fun us ρ1 => WP (evs T_law_right kes ρ1) fun ws ρ2 => us.length + ix.length = 3 ∧ WC F_ends (us ++ ix.map fun i => ws.getD i (.t .emp)) ρ2 Q := q_callfr t_law_right_ends rfl rfl (by kernel_rfl)
theorem t_law_right_is_walk : Tab.fn T_law_right 69 = some fn_is_walk := rfl
theorem k_law_right_is_walk {es kes : Exs} {ix : List Nat} {ρ : Rho} {Q : Od → Rho → Prop} : WP (ev T_law_right (.call 69 es ix kes) ρ) Q = WP (evs T_law_right es ρ) fun us ρ1 => WP (evs T_law_right kes ρ1) fun ws ρ2 => us.length + ix.length = 3 ∧ WC F_is_walk (us ++ ix.map fun i => ws.getD i (.t .emp)) ρ2 Q := q_callfr t_law_right_is_walk rfl rfl (by kernel_rfl)
def ir_law_3 : Sms :=
  (.cons (.for_ (.n 1) (.rng1 (.blt .max (.cons (.con (.int 2)) (.cons (.blt .min (.cons (.blt .len (.cons (.var 0) .nil)) (.cons (.con (.int 12)) .nil))) .nil)))) (.cons (.ite (.not (.call 80 (.cons (.call 26 (.cons (.var 0) (.cons (.var 1) .nil)) [] .nil) .nil) [] .nil)) (.cons (.ret (.con (.bool false)))
  .nil) .nil)
  .nil))
  (.cons (.ret (.con (.bool true)))
  .nil))
def T_law_3 : Tab := tab [(80, fn_law_right), (26, fn_law_deck)] []
def F_law_3 : List Cell → Option (Cell × Cell) := mkF T_law_3 ir_law_3 2 false
def fn_law_3 : Fn := ⟨["script"], false, 10, F_law_3⟩
theorem b_law_3 {K : Cell → Cell → Prop} {c0 : Cell} : WF F_law_3 [c0] K = WP (exs T_law_3 fuel ir_law_3 [c0, .emp]) fun o ρ => WP (endB false (o, ρ)) K := wf_eq
theorem hF_law_3 : fn_law_3.F = mkF T_law_3 ir_law_3 2 false := by kernel_rfl
theorem t_law_3_law_right : Tab.fn T_law_3 80 = some fn_law_right := rfl
theorem k_law_3_law_right {es kes : Exs} {ix : List Nat} {ρ : Rho} {Q : Od → Rho → Prop} : WP (ev T_law_3 (.call 80 es ix kes) ρ) Q = WP (evs T_law_3 es ρ) fun us ρ1 => WP (evs T_law_3 kes ρ1) fun ws ρ2 => us.length + ix.length = 1 ∧ WCI F_law_right (us ++ ix.map fun i => ws.getD i (.t .emp)) ρ2 Q := q_callio t_law_3_law_right rfl rfl (by kernel_rfl)
theorem t_law_3_law_deck : Tab.fn T_law_3 26 = some fn_law_deck := rfl
theorem k_law_3_law_deck {es kes : Exs} {ix : List Nat} {ρ : Rho} {Q : Od → Rho → Prop} : WP (ev T_law_3 (.call 26 es ix kes) ρ) Q = WP (evs T_law_3 es ρ) fun us ρ1 => WP (evs T_law_3 kes ρ1) fun ws ρ2 => us.length + ix.length = 2 ∧ WC F_law_deck (us ++ ix.map fun i => ws.getD i (.t .emp)) ρ2 Q := q_callfr t_law_3_law_deck rfl rfl (by kernel_rfl)
def ir_check_growing : Sms :=
  (.cons (.ite (.not (.call 9 (.cons (.var 0) .nil) [] .nil)) (.cons .nev
  .nil) .nil)
  .nil)
def T_check_growing : Tab := tab [(9, fn_is_growing)] []
def F_check_growing : List Cell → Option (Cell × Cell) := mkF T_check_growing ir_check_growing 1 false
def fn_check_growing : Fn := ⟨["table"], false, 5, F_check_growing⟩
theorem b_check_growing {K : Cell → Cell → Prop} {c0 : Cell} : WF F_check_growing [c0] K = WP (exs T_check_growing fuel ir_check_growing [c0]) fun o ρ => WP (endB false (o, ρ)) K := wf_eq
theorem hF_check_growing : fn_check_growing.F = mkF T_check_growing ir_check_growing 1 false := by kernel_rfl
theorem t_check_growing_is_growing : Tab.fn T_check_growing 9 = some fn_is_growing := rfl
theorem k_check_growing_is_growing {es kes : Exs} {ix : List Nat} {ρ : Rho} {Q : Od → Rho → Prop} : WP (ev T_check_growing (.call 9 es ix kes) ρ) Q = WP (evs T_check_growing es ρ) fun us ρ1 => WP (evs T_check_growing kes ρ1) fun ws ρ2 => us.length + ix.length = 1 ∧ WC F_is_growing (us ++ ix.map fun i => ws.getD i (.t .emp)) ρ2 Q := q_callfr t_check_growing_is_growing rfl rfl (by kernel_rfl)
def ir_product_of_tables : Sms :=
  (.cons (.set 2 (.lst (.cons (.call 13 (.cons (.var 0) (.cons (.tup (.cons (.idx (.idx (.var 1) (.con (.int 0))) (.con (.int 0))) (.cons (.idx (.idx (.var 1) (.con (.int 1))) (.con (.int 0))) .nil))) .nil)) [] .nil) (.cons (.call 13 (.cons (.var 0) (.cons (.tup (.cons (.idx (.idx (.var 1) (.con (.int 0))) (.con (.int 1))) (.cons (.idx (.idx (.var 1) (.con (.int 1))) (.con (.int 1))) .nil))) .nil)) [] .nil) .nil))))
  (.cons (.ret (.tup (.cons (.tup (.cons (.idx (.idx (.var 2) (.con (.int 0))) (.con (.int 0))) (.cons (.idx (.idx (.var 2) (.con (.int 1))) (.con (.int 0))) .nil))) (.cons (.tup (.cons (.idx (.idx (.var 2) (.con (.int 0))) (.con (.int 1))) (.cons (.idx (.idx (.var 2) (.con (.int 1))) (.con (.int 1))) .nil))) .nil))))
  .nil))
def T_product_of_tables : Tab := tab [(13, fn_times_of)] []
def F_product_of_tables : List Cell → Option (Cell × Cell) := mkF T_product_of_tables ir_product_of_tables 3 false
def fn_product_of_tables : Fn := ⟨["one", "other"], false, 2, F_product_of_tables⟩
theorem b_product_of_tables {K : Cell → Cell → Prop} {c0 c1 : Cell} : WF F_product_of_tables [c0, c1] K = WP (exs T_product_of_tables fuel ir_product_of_tables [c0, c1, .emp]) fun o ρ => WP (endB false (o, ρ)) K := wf_eq
theorem hF_product_of_tables : fn_product_of_tables.F = mkF T_product_of_tables ir_product_of_tables 3 false := by kernel_rfl
theorem t_product_of_tables_times_of : Tab.fn T_product_of_tables 13 = some fn_times_of := rfl
theorem k_product_of_tables_times_of {es kes : Exs} {ix : List Nat} {ρ : Rho} {Q : Od → Rho → Prop} : WP (ev T_product_of_tables (.call 13 es ix kes) ρ) Q = WP (evs T_product_of_tables es ρ) fun us ρ1 => WP (evs T_product_of_tables kes ρ1) fun ws ρ2 => us.length + ix.length = 2 ∧ WC F_times_of (us ++ ix.map fun i => ws.getD i (.t .emp)) ρ2 Q := q_callfr t_product_of_tables_times_of rfl rfl (by kernel_rfl)
def ir_has_axes : Sms :=
  (.cons (.ret (.blt .all (.cons (.lc (.cmp .Eq (.mth .count (.var 1) (.cons (.con (.int 0)) .nil)) (.con (.int 1))) (.n 1) (.seq (.var 0)) .no [1]) .nil)))
  .nil)
def T_has_axes : Tab := tab [] []
def F_has_axes : List Cell → Option (Cell × Cell) := mkF T_has_axes ir_has_axes 2 false
def fn_has_axes : Fn := ⟨["table"], false, 1, F_has_axes⟩
theorem b_has_axes {K : Cell → Cell → Prop} {c0 : Cell} : WF F_has_axes [c0] K = WP (exs T_has_axes fuel ir_has_axes [c0, .emp]) fun o ρ => WP (endB false (o, ρ)) K := wf_eq
theorem hF_has_axes : fn_has_axes.F = mkF T_has_axes ir_has_axes 2 false := by kernel_rfl
def ir_axes_of : Sms :=
  (.cons (.set 1 (.glb 0))
  (.cons (.for_ (.n 2) (.rng2 (.con (.int 1)) (.bin .Add (.glb 1) (.con (.int 1)))) (.cons (.set 1 (.call 14 (.cons (.var 0) (.cons (.var 1) .nil)) [] .nil))
  (.cons (.ite (.call 23 (.cons (.var 1) .nil) [] .nil) (.cons (.ret (.var 2))
  .nil) .nil)
  .nil)))
  (.cons (.ret (.con .none))
  .nil)))
def T_axes_of : Tab := tab [(14, fn_product_of_tables), (23, fn_has_axes)] [(0, (.tuple [(.tuple [(.int 1), (.int 0)]), (.tuple [(.int 0), (.int 1)])])), (1, (.int 8))]
def F_axes_of : List Cell → Option (Cell × Cell) := mkF T_axes_of ir_axes_of 3 false
def fn_axes_of : Fn := ⟨["table"], false, 3, F_axes_of⟩
theorem b_axes_of {K : Cell → Cell → Prop} {c0 : Cell} : WF F_axes_of [c0] K = WP (exs T_axes_of fuel ir_axes_of [c0, .emp, .emp]) fun o ρ => WP (endB false (o, ρ)) K := wf_eq
theorem hF_axes_of : fn_axes_of.F = mkF T_axes_of ir_axes_of 3 false := by kernel_rfl
theorem t_axes_of_product_of_tables : Tab.fn T_axes_of 14 = some fn_product_of_tables := rfl
theorem k_axes_of_product_of_tables {es kes : Exs} {ix : List Nat} {ρ : Rho} {Q : Od → Rho → Prop} : WP (ev T_axes_of (.call 14 es ix kes) ρ) Q = WP (evs T_axes_of es ρ) fun us ρ1 => WP (evs T_axes_of kes ρ1) fun ws ρ2 => us.length + ix.length = 2 ∧ WC F_product_of_tables (us ++ ix.map fun i => ws.getD i (.t .emp)) ρ2 Q := q_callfr t_axes_of_product_of_tables rfl rfl (by kernel_rfl)
theorem t_axes_of_has_axes : Tab.fn T_axes_of 23 = some fn_has_axes := rfl
theorem k_axes_of_has_axes {es kes : Exs} {ix : List Nat} {ρ : Rho} {Q : Od → Rho → Prop} : WP (ev T_axes_of (.call 23 es ix kes) ρ) Q = WP (evs T_axes_of es ρ) fun us ρ1 => WP (evs T_axes_of kes ρ1) fun ws ρ2 => us.length + ix.length = 1 ∧ WC F_has_axes (us ++ ix.map fun i => ws.getD i (.t .emp)) ρ2 Q := q_callfr t_axes_of_has_axes rfl rfl (by kernel_rfl)
theorem g_axes_of_UNIT {ρ : Rho} {Q : Od → Rho → Prop} : WP (ev T_axes_of (.glb 0) ρ) Q = Q (.t (.dat (.tuple [(.tuple [(.int 1), (.int 0)]), (.tuple [(.int 0), (.int 1)])]))) ρ := q_glb rfl
theorem g_axes_of_MOST_AXES {ρ : Rho} {Q : Od → Rho → Prop} : WP (ev T_axes_of (.glb 1) ρ) Q = Q (.t (.dat (.int 8))) ρ := q_glb rfl
def ir_axes : Sms :=
  (.cons (.exp (.call 10 (.cons (.var 0) .nil) [] .nil))
  (.cons (.ret (.call 24 (.cons (.var 0) .nil) [] .nil))
  .nil))
def T_axes : Tab := tab [(10, fn_check_growing), (24, fn_axes_of)] []
def F_axes : List Cell → Option (Cell × Cell) := mkF T_axes ir_axes 1 false
def fn_axes : Fn := ⟨["table"], false, 6, F_axes⟩
theorem b_axes {K : Cell → Cell → Prop} {c0 : Cell} : WF F_axes [c0] K = WP (exs T_axes fuel ir_axes [c0]) fun o ρ => WP (endB false (o, ρ)) K := wf_eq
theorem hF_axes : fn_axes.F = mkF T_axes ir_axes 1 false := by kernel_rfl
theorem t_axes_check_growing : Tab.fn T_axes 10 = some fn_check_growing := rfl
theorem k_axes_check_growing {es kes : Exs} {ix : List Nat} {ρ : Rho} {Q : Od → Rho → Prop} : WP (ev T_axes (.call 10 es ix kes) ρ) Q = WP (evs T_axes es ρ) fun us ρ1 => WP (evs T_axes kes ρ1) fun ws ρ2 => us.length + ix.length = 1 ∧ WC F_check_growing (us ++ ix.map fun i => ws.getD i (.t .emp)) ρ2 Q := q_callfr t_axes_check_growing rfl rfl (by kernel_rfl)
theorem t_axes_axes_of : Tab.fn T_axes 24 = some fn_axes_of := rfl
theorem k_axes_axes_of {es kes : Exs} {ix : List Nat} {ρ : Rho} {Q : Od → Rho → Prop} : WP (ev T_axes (.call 24 es ix kes) ρ) Q = WP (evs T_axes es ρ) fun us ρ1 => WP (evs T_axes kes ρ1) fun ws ρ2 => us.length + ix.length = 1 ∧ WC F_axes_of (us ++ ix.map fun i => ws.getD i (.t .emp)) ρ2 Q := q_callfr t_axes_axes_of rfl rfl (by kernel_rfl)
def ir_check_offset : Sms :=
  (.cons (.ite (.not (.call 4 (.cons (.var 0) .nil) [] .nil)) (.cons .nev
  .nil) .nil)
  .nil)
def T_check_offset : Tab := tab [(4, fn_is_offset)] []
def F_check_offset : List Cell → Option (Cell × Cell) := mkF T_check_offset ir_check_offset 1 false
def fn_check_offset : Fn := ⟨["offset"], false, 3, F_check_offset⟩
theorem b_check_offset {K : Cell → Cell → Prop} {c0 : Cell} : WF F_check_offset [c0] K = WP (exs T_check_offset fuel ir_check_offset [c0]) fun o ρ => WP (endB false (o, ρ)) K := wf_eq
theorem hF_check_offset : fn_check_offset.F = mkF T_check_offset ir_check_offset 1 false := by kernel_rfl
theorem t_check_offset_is_offset : Tab.fn T_check_offset 4 = some fn_is_offset := rfl
theorem k_check_offset_is_offset {es kes : Exs} {ix : List Nat} {ρ : Rho} {Q : Od → Rho → Prop} : WP (ev T_check_offset (.call 4 es ix kes) ρ) Q = WP (evs T_check_offset es ρ) fun us ρ1 => WP (evs T_check_offset kes ρ1) fun ws ρ2 => us.length + ix.length = 1 ∧ WC F_is_offset (us ++ ix.map fun i => ws.getD i (.t .emp)) ρ2 Q := q_callfr t_check_offset_is_offset rfl rfl (by kernel_rfl)
def ir_lowest : Sms :=
  (.cons (.set 2 (.blt .gcd (.cons (.var 0) (.cons (.var 1) .nil))))
  (.cons (.ite (.cmp .Lt (.var 1) (.con (.int 0))) (.cons (.set 2 (.neg (.var 2)))
  .nil) .nil)
  (.cons (.ret (.tup (.cons (.bin .FloorDiv (.var 0) (.var 2)) (.cons (.bin .FloorDiv (.var 1) (.var 2)) .nil))))
  .nil)))
def T_lowest : Tab := tab [] []
def F_lowest : List Cell → Option (Cell × Cell) := mkF T_lowest ir_lowest 3 false
def fn_lowest : Fn := ⟨["top", "bottom"], false, 1, F_lowest⟩
theorem b_lowest {K : Cell → Cell → Prop} {c0 c1 : Cell} : WF F_lowest [c0, c1] K = WP (exs T_lowest fuel ir_lowest [c0, c1, .emp]) fun o ρ => WP (endB false (o, ρ)) K := wf_eq
theorem hF_lowest : fn_lowest.F = mkF T_lowest ir_lowest 3 false := by kernel_rfl
def ir_is_number : Sms :=
  (.cons (.ite (.or (.not (.call 1 (.cons (.var 0) .nil) [] .nil)) (.or (.not (.call 0 (.cons (.idx (.var 0) (.con (.int 0))) .nil) [] .nil)) (.or (.not (.call 0 (.cons (.idx (.var 0) (.con (.int 1))) .nil) [] .nil)) (.cmp .Lt (.idx (.var 0) (.con (.int 1))) (.con (.int 1)))))) (.cons (.ret (.con (.bool false)))
  .nil) .nil)
  (.cons (.ret (.cmp .Eq (.call 2 (.cons (.idx (.var 0) (.con (.int 0))) (.cons (.idx (.var 0) (.con (.int 1))) .nil)) [] .nil) (.var 0)))
  .nil))
def T_is_number : Tab := tab [(2, fn_lowest), (1, fn_is_pair), (0, fn_is_integer)] []
def F_is_number : List Cell → Option (Cell × Cell) := mkF T_is_number ir_is_number 1 false
def fn_is_number : Fn := ⟨["told"], false, 2, F_is_number⟩
theorem b_is_number {K : Cell → Cell → Prop} {c0 : Cell} : WF F_is_number [c0] K = WP (exs T_is_number fuel ir_is_number [c0]) fun o ρ => WP (endB false (o, ρ)) K := wf_eq
theorem hF_is_number : fn_is_number.F = mkF T_is_number ir_is_number 1 false := by kernel_rfl
theorem t_is_number_lowest : Tab.fn T_is_number 2 = some fn_lowest := rfl
theorem k_is_number_lowest {es kes : Exs} {ix : List Nat} {ρ : Rho} {Q : Od → Rho → Prop} : WP (ev T_is_number (.call 2 es ix kes) ρ) Q = WP (evs T_is_number es ρ) fun us ρ1 => WP (evs T_is_number kes ρ1) fun ws ρ2 => us.length + ix.length = 2 ∧ WC F_lowest (us ++ ix.map fun i => ws.getD i (.t .emp)) ρ2 Q := q_callfr t_is_number_lowest rfl rfl (by kernel_rfl)
theorem t_is_number_is_pair : Tab.fn T_is_number 1 = some fn_is_pair := rfl
theorem k_is_number_is_pair {es kes : Exs} {ix : List Nat} {ρ : Rho} {Q : Od → Rho → Prop} : WP (ev T_is_number (.call 1 es ix kes) ρ) Q = WP (evs T_is_number es ρ) fun us ρ1 => WP (evs T_is_number kes ρ1) fun ws ρ2 => us.length + ix.length = 1 ∧ WC F_is_pair (us ++ ix.map fun i => ws.getD i (.t .emp)) ρ2 Q := q_callfr t_is_number_is_pair rfl rfl (by kernel_rfl)
theorem t_is_number_is_integer : Tab.fn T_is_number 0 = some fn_is_integer := rfl
theorem k_is_number_is_integer {es kes : Exs} {ix : List Nat} {ρ : Rho} {Q : Od → Rho → Prop} : WP (ev T_is_number (.call 0 es ix kes) ρ) Q = WP (evs T_is_number es ρ) fun us ρ1 => WP (evs T_is_number kes ρ1) fun ws ρ2 => us.length + ix.length = 1 ∧ WC F_is_integer (us ++ ix.map fun i => ws.getD i (.t .emp)) ρ2 Q := q_callfr t_is_number_is_integer rfl rfl (by kernel_rfl)
def ir_is_point : Sms :=
  (.cons (.ret (.and (.call 1 (.cons (.var 0) .nil) [] .nil) (.and (.call 3 (.cons (.idx (.var 0) (.con (.int 0))) .nil) [] .nil) (.call 3 (.cons (.idx (.var 0) (.con (.int 1))) .nil) [] .nil))))
  .nil)
def T_is_point : Tab := tab [(1, fn_is_pair), (3, fn_is_number)] []
def F_is_point : List Cell → Option (Cell × Cell) := mkF T_is_point ir_is_point 1 false
def fn_is_point : Fn := ⟨["told"], false, 3, F_is_point⟩
theorem b_is_point {K : Cell → Cell → Prop} {c0 : Cell} : WF F_is_point [c0] K = WP (exs T_is_point fuel ir_is_point [c0]) fun o ρ => WP (endB false (o, ρ)) K := wf_eq
theorem hF_is_point : fn_is_point.F = mkF T_is_point ir_is_point 1 false := by kernel_rfl
theorem t_is_point_is_pair : Tab.fn T_is_point 1 = some fn_is_pair := rfl
theorem k_is_point_is_pair {es kes : Exs} {ix : List Nat} {ρ : Rho} {Q : Od → Rho → Prop} : WP (ev T_is_point (.call 1 es ix kes) ρ) Q = WP (evs T_is_point es ρ) fun us ρ1 => WP (evs T_is_point kes ρ1) fun ws ρ2 => us.length + ix.length = 1 ∧ WC F_is_pair (us ++ ix.map fun i => ws.getD i (.t .emp)) ρ2 Q := q_callfr t_is_point_is_pair rfl rfl (by kernel_rfl)
theorem t_is_point_is_number : Tab.fn T_is_point 3 = some fn_is_number := rfl
theorem k_is_point_is_number {es kes : Exs} {ix : List Nat} {ρ : Rho} {Q : Od → Rho → Prop} : WP (ev T_is_point (.call 3 es ix kes) ρ) Q = WP (evs T_is_point es ρ) fun us ρ1 => WP (evs T_is_point kes ρ1) fun ws ρ2 => us.length + ix.length = 1 ∧ WC F_is_number (us ++ ix.map fun i => ws.getD i (.t .emp)) ρ2 Q := q_callfr t_is_point_is_number rfl rfl (by kernel_rfl)
def ir_check_point : Sms :=
  (.cons (.ite (.not (.call 5 (.cons (.var 0) .nil) [] .nil)) (.cons .nev
  .nil) .nil)
  .nil)
def T_check_point : Tab := tab [(5, fn_is_point)] []
def F_check_point : List Cell → Option (Cell × Cell) := mkF T_check_point ir_check_point 1 false
def fn_check_point : Fn := ⟨["point"], false, 4, F_check_point⟩
theorem b_check_point {K : Cell → Cell → Prop} {c0 : Cell} : WF F_check_point [c0] K = WP (exs T_check_point fuel ir_check_point [c0]) fun o ρ => WP (endB false (o, ρ)) K := wf_eq
theorem hF_check_point : fn_check_point.F = mkF T_check_point ir_check_point 1 false := by kernel_rfl
theorem t_check_point_is_point : Tab.fn T_check_point 5 = some fn_is_point := rfl
theorem k_check_point_is_point {es kes : Exs} {ix : List Nat} {ρ : Rho} {Q : Od → Rho → Prop} : WP (ev T_check_point (.call 5 es ix kes) ρ) Q = WP (evs T_check_point es ρ) fun us ρ1 => WP (evs T_check_point kes ρ1) fun ws ρ2 => us.length + ix.length = 1 ∧ WC F_is_point (us ++ ix.map fun i => ws.getD i (.t .emp)) ρ2 Q := q_callfr t_check_point_is_point rfl rfl (by kernel_rfl)
def ir_check_table : Sms :=
  (.cons (.ite (.not (.call 6 (.cons (.var 0) .nil) [] .nil)) (.cons .nev
  .nil) .nil)
  .nil)
def T_check_table : Tab := tab [(6, fn_is_table)] []
def F_check_table : List Cell → Option (Cell × Cell) := mkF T_check_table ir_check_table 1 false
def fn_check_table : Fn := ⟨["table"], false, 4, F_check_table⟩
theorem b_check_table {K : Cell → Cell → Prop} {c0 : Cell} : WF F_check_table [c0] K = WP (exs T_check_table fuel ir_check_table [c0]) fun o ρ => WP (endB false (o, ρ)) K := wf_eq
theorem hF_check_table : fn_check_table.F = mkF T_check_table ir_check_table 1 false := by kernel_rfl
theorem t_check_table_is_table : Tab.fn T_check_table 6 = some fn_is_table := rfl
theorem k_check_table_is_table {es kes : Exs} {ix : List Nat} {ρ : Rho} {Q : Od → Rho → Prop} : WP (ev T_check_table (.call 6 es ix kes) ρ) Q = WP (evs T_check_table es ρ) fun us ρ1 => WP (evs T_check_table kes ρ1) fun ws ρ2 => us.length + ix.length = 1 ∧ WC F_is_table (us ++ ix.map fun i => ws.getD i (.t .emp)) ρ2 Q := q_callfr t_check_table_is_table rfl rfl (by kernel_rfl)
def ir_determinant : Sms :=
  (.cons (.exp (.call 7 (.cons (.var 0) .nil) [] .nil))
  (.cons (.ret (.call 8 (.cons (.var 0) .nil) [] .nil))
  .nil))
def T_determinant : Tab := tab [(7, fn_check_table), (8, fn_determinant_of)] []
def F_determinant : List Cell → Option (Cell × Cell) := mkF T_determinant ir_determinant 1 false
def fn_determinant : Fn := ⟨["table"], false, 5, F_determinant⟩
theorem b_determinant {K : Cell → Cell → Prop} {c0 : Cell} : WF F_determinant [c0] K = WP (exs T_determinant fuel ir_determinant [c0]) fun o ρ => WP (endB false (o, ρ)) K := wf_eq
theorem hF_determinant : fn_determinant.F = mkF T_determinant ir_determinant 1 false := by kernel_rfl
theorem t_determinant_check_table : Tab.fn T_determinant 7 = some fn_check_table := rfl
theorem k_determinant_check_table {es kes : Exs} {ix : List Nat} {ρ : Rho} {Q : Od → Rho → Prop} : WP (ev T_determinant (.call 7 es ix kes) ρ) Q = WP (evs T_determinant es ρ) fun us ρ1 => WP (evs T_determinant kes ρ1) fun ws ρ2 => us.length + ix.length = 1 ∧ WC F_check_table (us ++ ix.map fun i => ws.getD i (.t .emp)) ρ2 Q := q_callfr t_determinant_check_table rfl rfl (by kernel_rfl)
theorem t_determinant_determinant_of : Tab.fn T_determinant 8 = some fn_determinant_of := rfl
theorem k_determinant_determinant_of {es kes : Exs} {ix : List Nat} {ρ : Rho} {Q : Od → Rho → Prop} : WP (ev T_determinant (.call 8 es ix kes) ρ) Q = WP (evs T_determinant es ρ) fun us ρ1 => WP (evs T_determinant kes ρ1) fun ws ρ2 => us.length + ix.length = 1 ∧ WC F_determinant_of (us ++ ix.map fun i => ws.getD i (.t .emp)) ρ2 Q := q_callfr t_determinant_determinant_of rfl rfl (by kernel_rfl)
def ir_law_bent_copy : Sms :=
  (.cons (.asg (.t [(.t [(.n 2), (.n 3)]), (.n 4)]) (.var 1))
  (.cons (.set 5 (.lst (.cons (.tup (.cons (.tup (.cons (.var 2) .nil)) (.cons (.var 4) .nil))) (.cons (.tup (.cons (.tup (.cons (.var 2) (.cons (.var 3) (.cons (.con (.int 0)) .nil)))) (.cons (.var 4) .nil))) (.cons (.tup (.cons (.tup (.cons (.var 2) (.cons (.var 3) .nil))) (.cons (.neg (.con (.int 1))) .nil))) (.cons (.tup (.cons (.tup (.cons (.var 2) (.cons (.var 3) .nil))) (.cons (.bin .Add (.var 4) (.con (.int 9))) .nil))) (.cons (.tup (.cons (.var 2) (.cons (.var 3) (.cons (.var 4) .nil)))) (.cons (.tup (.cons (.tup (.cons (.var 2) (.cons (.var 3) .nil))) .nil)) (.cons (.tup (.cons (.tup (.cons (.var 2) (.cons (.var 3) .nil))) (.cons (.var 4) (.cons (.var 4) .nil)))) (.cons (.tup .nil) .nil))))))))))
  (.cons (.set 5 (.bin .Add (.var 5) (.lst (.cons (.var 2) (.cons (.tup (.cons (.var 2) (.cons (.var 3) .nil))) (.cons (.tup (.cons (.var 2) (.cons (.var 4) .nil))) (.cons (.tup (.cons (.tup (.cons (.var 2) (.cons (.var 3) .nil))) (.cons (.tup (.cons (.var 2) (.cons (.var 3) .nil))) .nil))) (.cons (.tup (.cons (.tup (.cons (.var 2) (.cons (.var 3) .nil))) (.cons (.cmp .Eq (.var 4) (.con (.int 0))) .nil))) (.cons (.tup (.cons (.tup (.cons (.var 2) (.cons (.cmp .Eq (.var 3) (.con (.int 0))) .nil))) (.cons (.var 4) .nil))) (.cons (.tup (.cons (.var 4) (.cons (.tup (.cons (.var 2) (.cons (.var 3) .nil))) .nil))) .nil))))))))))
  (.cons (.ret (.idx (.var 5) (.call 27 (.cons (.var 0) (.cons (.con (.int 15)) .nil)) [] .nil)))
  .nil))))
def T_law_bent_copy : Tab := tab [(27, fn_law_take)] []
def F_law_bent_copy : List Cell → Option (Cell × Cell) := mkF T_law_bent_copy ir_law_bent_copy 6 true
def fn_law_bent_copy : Fn := ⟨["deck", "copy"], true, 2, F_law_bent_copy⟩
theorem b_law_bent_copy {K : Cell → Cell → Prop} {c0 c1 : Cell} : WF F_law_bent_copy [c0, c1] K = WP (exs T_law_bent_copy fuel ir_law_bent_copy [c0, c1, .emp, .emp, .emp, .emp]) fun o ρ => WP (endB true (o, ρ)) K := wf_eq
theorem hF_law_bent_copy : fn_law_bent_copy.F = mkF T_law_bent_copy ir_law_bent_copy 6 true := by kernel_rfl
theorem t_law_bent_copy_law_take : Tab.fn T_law_bent_copy 27 = some fn_law_take := rfl
theorem k_law_bent_copy_law_take {es kes : Exs} {ix : List Nat} {ρ : Rho} {Q : Od → Rho → Prop} : WP (ev T_law_bent_copy (.call 27 es ix kes) ρ) Q = WP (evs T_law_bent_copy es ρ) fun us ρ1 => WP (evs T_law_bent_copy kes ρ1) fun ws ρ2 => us.length + ix.length = 2 ∧ WCI F_law_take (us ++ ix.map fun i => ws.getD i (.t .emp)) ρ2 Q := q_callio t_law_bent_copy_law_take rfl rfl (by kernel_rfl)
def ir_law_bent_copies : Sms :=
  (.cons (.par [2, 3] (.cons (.call 27 (.cons (.var 0) (.cons (.con (.int 7)) .nil)) [] .nil) (.cons (.call 27 (.cons (.var 0) (.cons (.blt .len (.cons (.var 1) .nil)) .nil)) [] .nil) .nil)))
  (.cons (.ite (.cmp .Eq (.var 2) (.con (.int 0))) (.cons (.ret (.tup .nil))
  .nil) .nil)
  (.cons (.ite (.cmp .Eq (.var 2) (.con (.int 1))) (.cons (.ret (.bin .Add (.slc (.var 1) .no (.so (.bin .Add (.var 3) (.con (.int 1))))) (.slc (.var 1) (.so (.var 3)) .no)))
  .nil) .nil)
  (.cons (.ite (.cmp .Eq (.var 2) (.con (.int 2))) (.cons (.ret (.rev (.var 1)))
  .nil) .nil)
  (.cons (.ite (.cmp .Eq (.var 2) (.con (.int 3))) (.cons (.ret (.bin .Add (.slc (.var 1) (.so (.var 3)) .no) (.slc (.var 1) .no (.so (.var 3)))))
  .nil) .nil)
  (.cons (.ite (.cmp .Eq (.var 2) (.con (.int 4))) (.cons (.ret (.bin .Add (.slc (.var 1) .no (.so (.var 3))) (.slc (.var 1) (.so (.bin .Add (.var 3) (.con (.int 1)))) .no)))
  .nil) .nil)
  (.cons (.ret (.bin .Add (.bin .Add (.slc (.var 1) .no (.so (.var 3))) (.tup (.cons (.call 54 (.cons (.var 0) (.cons (.idx (.var 1) (.var 3)) .nil)) [] .nil) .nil))) (.slc (.var 1) (.so (.bin .Add (.var 3) (.con (.int 1)))) .no)))
  .nil)))))))
def T_law_bent_copies : Tab := tab [(27, fn_law_take), (54, fn_law_bent_copy)] []
def F_law_bent_copies : List Cell → Option (Cell × Cell) := mkF T_law_bent_copies ir_law_bent_copies 4 true
def fn_law_bent_copies : Fn := ⟨["deck", "copies"], true, 3, F_law_bent_copies⟩
theorem b_law_bent_copies {K : Cell → Cell → Prop} {c0 c1 : Cell} : WF F_law_bent_copies [c0, c1] K = WP (exs T_law_bent_copies fuel ir_law_bent_copies [c0, c1, .emp, .emp]) fun o ρ => WP (endB true (o, ρ)) K := wf_eq
theorem hF_law_bent_copies : fn_law_bent_copies.F = mkF T_law_bent_copies ir_law_bent_copies 4 true := by kernel_rfl
theorem t_law_bent_copies_law_take : Tab.fn T_law_bent_copies 27 = some fn_law_take := rfl
theorem k_law_bent_copies_law_take {es kes : Exs} {ix : List Nat} {ρ : Rho} {Q : Od → Rho → Prop} : WP (ev T_law_bent_copies (.call 27 es ix kes) ρ) Q = WP (evs T_law_bent_copies es ρ) fun us ρ1 => WP (evs T_law_bent_copies kes ρ1) fun ws ρ2 => us.length + ix.length = 2 ∧ WCI F_law_take (us ++ ix.map fun i => ws.getD i (.t .emp)) ρ2 Q := q_callio t_law_bent_copies_law_take rfl rfl (by kernel_rfl)
theorem t_law_bent_copies_law_bent_copy : Tab.fn T_law_bent_copies 54 = some fn_law_bent_copy := rfl
theorem k_law_bent_copies_law_bent_copy {es kes : Exs} {ix : List Nat} {ρ : Rho} {Q : Od → Rho → Prop} : WP (ev T_law_bent_copies (.call 54 es ix kes) ρ) Q = WP (evs T_law_bent_copies es ρ) fun us ρ1 => WP (evs T_law_bent_copies kes ρ1) fun ws ρ2 => us.length + ix.length = 2 ∧ WCI F_law_bent_copy (us ++ ix.map fun i => ws.getD i (.t .emp)) ρ2 Q := q_callio t_law_bent_copies_law_bent_copy rfl rfl (by kernel_rfl)
def ir_law_bent_2 : Sms :=
  (.cons (.asg (.t [(.n 2), (.n 3)]) (.var 1))
  (.cons (.par [4, 5] (.cons (.call 27 (.cons (.var 0) (.cons (.con (.int 7)) .nil)) [] .nil) (.cons (.call 27 (.cons (.var 0) (.cons (.blt .len (.cons (.var 3) .nil)) .nil)) [] .nil) .nil)))
  (.cons (.ite (.cmp .Eq (.var 4) (.con (.int 0))) (.cons (.set 6 (.lc (.bin .Sub (.call 27 (.cons (.var 0) (.cons (.con (.int 7)) .nil)) [] .nil) (.con (.int 3))) (.n 7) (.rng1 (.con (.int 4))) .no [7]))
  (.cons (.ret (.tup (.cons (.tup (.cons (.tup (.cons (.idx (.var 6) (.con (.int 0))) (.cons (.idx (.var 6) (.con (.int 1))) .nil))) (.cons (.tup (.cons (.idx (.var 6) (.con (.int 2))) (.cons (.idx (.var 6) (.con (.int 3))) .nil))) .nil))) (.cons (.var 3) .nil))))
  .nil)) .nil)
  (.cons (.ite (.cmp .Eq (.var 4) (.con (.int 1))) (.cons (.ret (.tup (.cons (.idx (.lst (.cons (.tup (.cons (.tup (.cons (.con (.int 2)) (.cons (.con (.int 0)) .nil))) .nil)) (.cons (.tup (.cons (.tup (.cons (.con (.int 2)) (.cons (.con (.int 0)) .nil))) (.cons (.tup (.cons (.con (.int 0)) (.cons (.con (.int 2)) .nil))) (.cons (.tup (.cons (.con (.int 1)) (.cons (.con (.int 1)) .nil))) .nil)))) (.cons (.tup (.cons (.tup (.cons (.con (.int 2)) (.cons (.con (.int 0)) .nil))) (.cons (.tup (.cons (.con (.int 0)) .nil)) .nil))) (.cons (.tup .nil) .nil))))) (.call 27 (.cons (.var 0) (.cons (.con (.int 4)) .nil)) [] .nil)) (.cons (.var 3) .nil))))
  .nil) .nil)
  (.cons (.ite (.cmp .Eq (.var 4) (.con (.int 2))) (.cons (.set 8 (.lst (.cons (.tup (.cons (.var 2) (.cons (.tup .nil) .nil))) (.cons (.tup (.cons (.var 2) .nil)) (.cons (.tup (.cons (.var 2) (.cons (.var 3) (.cons (.var 3) .nil)))) (.cons (.tup (.cons (.var 2) (.cons (.bin .Add (.slc (.var 3) .no (.so (.var 5))) (.slc (.var 3) (.so (.bin .Add (.var 5) (.con (.int 1)))) .no)) .nil))) (.cons (.tup (.cons (.var 2) (.cons (.idx (.var 3) (.var 5)) .nil))) (.cons (.tup (.cons (.var 2) (.cons (.var 5) .nil))) .nil))))))))
  (.cons (.set 8 (.bin .Add (.var 8) (.lst (.cons (.tup (.cons (.var 5) (.cons (.var 3) .nil))) (.cons (.tup (.cons (.bin .Add (.idx (.var 2) (.con (.int 0))) (.idx (.var 2) (.con (.int 1)))) (.cons (.var 3) .nil))) (.cons (.tup (.cons (.var 3) (.cons (.var 2) .nil))) (.cons (.tup (.cons (.var 2) (.cons (.bin .Add (.slc (.var 3) .no (.so (.var 5))) (.tup (.cons (.var 5) .nil))) .nil))) (.cons (.tup .nil) .nil))))))))
  (.cons (.ret (.idx (.var 8) (.call 27 (.cons (.var 0) (.cons (.con (.int 11)) .nil)) [] .nil)))
  .nil))) .nil)
  (.cons (.ret (.tup (.cons (.var 2) (.cons (.bin .Add (.bin .Add (.slc (.var 3) .no (.so (.var 5))) (.tup (.cons (.call 55 (.cons (.var 0) (.cons (.idx (.var 3) (.var 5)) .nil)) [] .nil) .nil))) (.slc (.var 3) (.so (.bin .Add (.var 5) (.con (.int 1)))) .no)) .nil))))
  .nil))))))
def T_law_bent_2 : Tab := tab [(27, fn_law_take), (55, fn_law_bent_copies)] []
def F_law_bent_2 : List Cell → Option (Cell × Cell) := mkF T_law_bent_2 ir_law_bent_2 9 true
def fn_law_bent_2 : Fn := ⟨["deck", "gear"], true, 4, F_law_bent_2⟩
theorem b_law_bent_2 {K : Cell → Cell → Prop} {c0 c1 : Cell} : WF F_law_bent_2 [c0, c1] K = WP (exs T_law_bent_2 fuel ir_law_bent_2 [c0, c1, .emp, .emp, .emp, .emp, .emp, .emp, .emp]) fun o ρ => WP (endB true (o, ρ)) K := wf_eq
theorem hF_law_bent_2 : fn_law_bent_2.F = mkF T_law_bent_2 ir_law_bent_2 9 true := by kernel_rfl
theorem t_law_bent_2_law_take : Tab.fn T_law_bent_2 27 = some fn_law_take := rfl
theorem k_law_bent_2_law_take {es kes : Exs} {ix : List Nat} {ρ : Rho} {Q : Od → Rho → Prop} : WP (ev T_law_bent_2 (.call 27 es ix kes) ρ) Q = WP (evs T_law_bent_2 es ρ) fun us ρ1 => WP (evs T_law_bent_2 kes ρ1) fun ws ρ2 => us.length + ix.length = 2 ∧ WCI F_law_take (us ++ ix.map fun i => ws.getD i (.t .emp)) ρ2 Q := q_callio t_law_bent_2_law_take rfl rfl (by kernel_rfl)
theorem t_law_bent_2_law_bent_copies : Tab.fn T_law_bent_2 55 = some fn_law_bent_copies := rfl
theorem k_law_bent_2_law_bent_copies {es kes : Exs} {ix : List Nat} {ρ : Rho} {Q : Od → Rho → Prop} : WP (ev T_law_bent_2 (.call 55 es ix kes) ρ) Q = WP (evs T_law_bent_2 es ρ) fun us ρ1 => WP (evs T_law_bent_2 kes ρ1) fun ws ρ2 => us.length + ix.length = 2 ∧ WCI F_law_bent_copies (us ++ ix.map fun i => ws.getD i (.t .emp)) ρ2 Q := q_callio t_law_bent_2_law_bent_copies rfl rfl (by kernel_rfl)
def ir_law_is_whole : Sms :=
  (.cons (.ret (.and (.isi (.var 0) ["int"]) (.not (.isi (.var 0) ["bool"]))))
  .nil)
def T_law_is_whole : Tab := tab [] []
def F_law_is_whole : List Cell → Option (Cell × Cell) := mkF T_law_is_whole ir_law_is_whole 1 false
def fn_law_is_whole : Fn := ⟨["x"], false, 1, F_law_is_whole⟩
theorem b_law_is_whole {K : Cell → Cell → Prop} {c0 : Cell} : WF F_law_is_whole [c0] K = WP (exs T_law_is_whole fuel ir_law_is_whole [c0]) fun o ρ => WP (endB false (o, ρ)) K := wf_eq
theorem hF_law_is_whole : fn_law_is_whole.F = mkF T_law_is_whole ir_law_is_whole 1 false := by kernel_rfl
def ir_law_is_away : Sms :=
  (.cons (.ret (.and (.isi (.var 0) ["tuple"]) (.and (.cmp .Eq (.blt .len (.cons (.var 0) .nil)) (.con (.int 2))) (.cmp .Eq (.lc (.var 1) (.n 1) (.seq (.var 0)) (.so (.not (.call 57 (.cons (.var 1) .nil) [] .nil))) [1]) (.lst .nil)))))
  .nil)
def T_law_is_away : Tab := tab [(57, fn_law_is_whole)] []
def F_law_is_away : List Cell → Option (Cell × Cell) := mkF T_law_is_away ir_law_is_away 2 false
def fn_law_is_away : Fn := ⟨["told_one"], false, 2, F_law_is_away⟩
theorem b_law_is_away {K : Cell → Cell → Prop} {c0 : Cell} : WF F_law_is_away [c0] K = WP (exs T_law_is_away fuel ir_law_is_away [c0, .emp]) fun o ρ => WP (endB false (o, ρ)) K := wf_eq
theorem hF_law_is_away : fn_law_is_away.F = mkF T_law_is_away ir_law_is_away 2 false := by kernel_rfl
theorem t_law_is_away_law_is_whole : Tab.fn T_law_is_away 57 = some fn_law_is_whole := rfl
theorem k_law_is_away_law_is_whole {es kes : Exs} {ix : List Nat} {ρ : Rho} {Q : Od → Rho → Prop} : WP (ev T_law_is_away (.call 57 es ix kes) ρ) Q = WP (evs T_law_is_away es ρ) fun us ρ1 => WP (evs T_law_is_away kes ρ1) fun ws ρ2 => us.length + ix.length = 1 ∧ WC F_law_is_whole (us ++ ix.map fun i => ws.getD i (.t .emp)) ρ2 Q := q_callfr t_law_is_away_law_is_whole rfl rfl (by kernel_rfl)
def ir_law_is_copy : Sms :=
  (.cons (.ite (.or (.not (.isi (.var 0) ["tuple"])) (.or (.cmp .NotEq (.blt .len (.cons (.var 0) .nil)) (.con (.int 2))) (.not (.call 58 (.cons (.idx (.var 0) (.con (.int 0))) .nil) [] .nil)))) (.cons (.ret (.con (.bool false)))
  .nil) .nil)
  (.cons (.ret (.and (.call 57 (.cons (.idx (.var 0) (.con (.int 1))) .nil) [] .nil) (.and (.cmp .LtE (.con (.int 0)) (.idx (.var 0) (.con (.int 1)))) (.cmp .Lt (.idx (.var 0) (.con (.int 1))) (.var 1)))))
  .nil))
def T_law_is_copy : Tab := tab [(57, fn_law_is_whole), (58, fn_law_is_away)] []
def F_law_is_copy : List Cell → Option (Cell × Cell) := mkF T_law_is_copy ir_law_is_copy 2 false
def fn_law_is_copy : Fn := ⟨["copy", "many"], false, 3, F_law_is_copy⟩
theorem b_law_is_copy {K : Cell → Cell → Prop} {c0 c1 : Cell} : WF F_law_is_copy [c0, c1] K = WP (exs T_law_is_copy fuel ir_law_is_copy [c0, c1]) fun o ρ => WP (endB false (o, ρ)) K := wf_eq
theorem hF_law_is_copy : fn_law_is_copy.F = mkF T_law_is_copy ir_law_is_copy 2 false := by kernel_rfl
theorem t_law_is_copy_law_is_whole : Tab.fn T_law_is_copy 57 = some fn_law_is_whole := rfl
theorem k_law_is_copy_law_is_whole {es kes : Exs} {ix : List Nat} {ρ : Rho} {Q : Od → Rho → Prop} : WP (ev T_law_is_copy (.call 57 es ix kes) ρ) Q = WP (evs T_law_is_copy es ρ) fun us ρ1 => WP (evs T_law_is_copy kes ρ1) fun ws ρ2 => us.length + ix.length = 1 ∧ WC F_law_is_whole (us ++ ix.map fun i => ws.getD i (.t .emp)) ρ2 Q := q_callfr t_law_is_copy_law_is_whole rfl rfl (by kernel_rfl)
theorem t_law_is_copy_law_is_away : Tab.fn T_law_is_copy 58 = some fn_law_is_away := rfl
theorem k_law_is_copy_law_is_away {es kes : Exs} {ix : List Nat} {ρ : Rho} {Q : Od → Rho → Prop} : WP (ev T_law_is_copy (.call 58 es ix kes) ρ) Q = WP (evs T_law_is_copy es ρ) fun us ρ1 => WP (evs T_law_is_copy kes ρ1) fun ws ρ2 => us.length + ix.length = 1 ∧ WC F_law_is_away (us ++ ix.map fun i => ws.getD i (.t .emp)) ρ2 Q := q_callfr t_law_is_copy_law_is_away rfl rfl (by kernel_rfl)
def ir_law_is_kit : Sms :=
  (.cons (.ite (.or (.cmp .NotEq (.blt .len (.cons (.var 0) .nil)) (.con (.int 2))) (.or (.not (.isi (.idx (.var 0) (.con (.int 0))) ["tuple"])) (.or (.not (.isi (.idx (.var 0) (.con (.int 1))) ["tuple"])) (.cmp .Eq (.idx (.var 0) (.con (.int 1))) (.tup .nil))))) (.cons (.ret (.con (.bool false)))
  .nil) .nil)
  (.cons (.ite (.or (.cmp .NotEq (.blt .len (.cons (.idx (.var 0) (.con (.int 0))) .nil)) (.con (.int 2))) (.or (.cmp .NotEq (.lc (.var 1) (.n 1) (.seq (.idx (.var 0) (.con (.int 0)))) (.so (.not (.call 58 (.cons (.var 1) .nil) [] .nil))) [1]) (.lst .nil)) (.not (.call 35 (.cons (.idx (.var 0) (.con (.int 0))) .nil) [] .nil)))) (.cons (.ret (.con (.bool false)))
  .nil) .nil)
  (.cons (.for_ (.n 2) (.seq (.idx (.var 0) (.con (.int 1)))) (.cons (.ite (.or (.not (.isi (.var 2) ["tuple"])) (.or (.cmp .Eq (.var 2) (.tup .nil)) (.cmp .NotEq (.lc (.var 3) (.n 3) (.seq (.var 2)) (.so (.not (.call 59 (.cons (.var 3) (.cons (.blt .len (.cons (.idx (.var 0) (.con (.int 1))) .nil)) .nil)) [] .nil))) [3]) (.lst .nil)))) (.cons (.ret (.con (.bool false)))
  .nil) .nil)
  (.cons (.ite (.cmp .NotEq (.lc (.var 4) (.n 4) (.rng2 (.con (.int 1)) (.blt .len (.cons (.var 2) .nil))) (.so (.not (.cmp .Lt (.idx (.var 2) (.bin .Sub (.var 4) (.con (.int 1)))) (.idx (.var 2) (.var 4))))) [4]) (.lst .nil)) (.cons (.ret (.con (.bool false)))
  .nil) .nil)
  .nil)))
  (.cons (.ret (.con (.bool true)))
  .nil))))
def T_law_is_kit : Tab := tab [(35, fn_law_growing), (58, fn_law_is_away), (59, fn_law_is_copy)] []
def F_law_is_kit : List Cell → Option (Cell × Cell) := mkF T_law_is_kit ir_law_is_kit 5 false
def fn_law_is_kit : Fn := ⟨["gear"], false, 4, F_law_is_kit⟩
theorem b_law_is_kit {K : Cell → Cell → Prop} {c0 : Cell} : WF F_law_is_kit [c0] K = WP (exs T_law_is_kit fuel ir_law_is_kit [c0, .emp, .emp, .emp, .emp]) fun o ρ => WP (endB false (o, ρ)) K := wf_eq
theorem hF_law_is_kit : fn_law_is_kit.F = mkF T_law_is_kit ir_law_is_kit 5 false := by kernel_rfl
theorem t_law_is_kit_law_growing : Tab.fn T_law_is_kit 35 = some fn_law_growing := rfl
theorem k_law_is_kit_law_growing {es kes : Exs} {ix : List Nat} {ρ : Rho} {Q : Od → Rho → Prop} : WP (ev T_law_is_kit (.call 35 es ix kes) ρ) Q = WP (evs T_law_is_kit es ρ) fun us ρ1 => WP (evs T_law_is_kit kes ρ1) fun ws ρ2 => us.length + ix.length = 1 ∧ WC F_law_growing (us ++ ix.map fun i => ws.getD i (.t .emp)) ρ2 Q := q_callfr t_law_is_kit_law_growing rfl rfl (by kernel_rfl)
theorem t_law_is_kit_law_is_away : Tab.fn T_law_is_kit 58 = some fn_law_is_away := rfl
theorem k_law_is_kit_law_is_away {es kes : Exs} {ix : List Nat} {ρ : Rho} {Q : Od → Rho → Prop} : WP (ev T_law_is_kit (.call 58 es ix kes) ρ) Q = WP (evs T_law_is_kit es ρ) fun us ρ1 => WP (evs T_law_is_kit kes ρ1) fun ws ρ2 => us.length + ix.length = 1 ∧ WC F_law_is_away (us ++ ix.map fun i => ws.getD i (.t .emp)) ρ2 Q := q_callfr t_law_is_kit_law_is_away rfl rfl (by kernel_rfl)
theorem t_law_is_kit_law_is_copy : Tab.fn T_law_is_kit 59 = some fn_law_is_copy := rfl
theorem k_law_is_kit_law_is_copy {es kes : Exs} {ix : List Nat} {ρ : Rho} {Q : Od → Rho → Prop} : WP (ev T_law_is_kit (.call 59 es ix kes) ρ) Q = WP (evs T_law_is_kit es ρ) fun us ρ1 => WP (evs T_law_is_kit kes ρ1) fun ws ρ2 => us.length + ix.length = 2 ∧ WC F_law_is_copy (us ++ ix.map fun i => ws.getD i (.t .emp)) ρ2 Q := q_callfr t_law_is_kit_law_is_copy rfl rfl (by kernel_rfl)
def ir_law_2 : Sms :=
  (.cons (.for_ (.n 1) (.rng1 (.blt .max (.cons (.con (.int 2)) (.cons (.blt .min (.cons (.blt .len (.cons (.var 0) .nil)) (.cons (.con (.int 20)) .nil))) .nil)))) (.cons (.set 2 (.call 26 (.cons (.var 0) (.cons (.var 1) .nil)) [] .nil))
  (.cons (.set 3 (.call 53 (.cons (.var 2) (.cons (.call 36 (.cons (.var 2) .nil) [] .nil) (.cons (.con (.int 4)) (.cons (.con (.int 6)) (.cons (.idx (.lst (.cons (.con (.int 1)) (.cons (.con (.int 4)) .nil))) (.call 27 (.cons (.var 2) (.cons (.con (.int 2)) .nil)) [] .nil)) .nil))))) [] .nil))
  (.cons (.ite (.not (.call 33 (.cons (.lst (.cons (.call 52 (.cons (.var 3) .nil) [] .nil) (.cons (.call 52 .nil [0] (.cons (.var 3) .nil)) .nil))) (.cons (.lst (.cons (.con (.bool true)) (.cons (.con (.bool true)) .nil))) .nil)) [] .nil)) (.cons (.ret (.con (.bool false)))
  .nil) .nil)
  (.cons (.for_ (.n 4) (.rng1 (.con (.int 8))) (.cons (.set 5 (.call 56 (.cons (.var 2) (.cons (.var 3) .nil)) [] .nil))
  (.cons (.ite (.not (.call 33 (.cons (.lst (.cons (.call 52 (.cons (.var 5) .nil) [] .nil) (.cons (.call 52 .nil [0] (.cons (.var 5) .nil)) .nil))) (.cons (.bin .Mult (.lst (.cons (.call 60 (.cons (.var 5) .nil) [] .nil) .nil)) (.con (.int 2))) .nil)) [] .nil)) (.cons (.ret (.con (.bool false)))
  .nil) .nil)
  .nil)))
  .nil)))))
  (.cons (.ret (.con (.bool true)))
  .nil))
def T_law_2 : Tab := tab [(26, fn_law_deck), (53, fn_law_gear), (36, fn_law_grid), (33, fn_law_same), (56, fn_law_bent_2), (27, fn_law_take), (52, fn_is_kit), (60, fn_law_is_kit)] []
def F_law_2 : List Cell → Option (Cell × Cell) := mkF T_law_2 ir_law_2 6 false
def fn_law_2 : Fn := ⟨["script"], false, 8, F_law_2⟩
theorem b_law_2 {K : Cell → Cell → Prop} {c0 : Cell} : WF F_law_2 [c0] K = WP (exs T_law_2 fuel ir_law_2 [c0, .emp, .emp, .emp, .emp, .emp]) fun o ρ => WP (endB false (o, ρ)) K := wf_eq
theorem hF_law_2 : fn_law_2.F = mkF T_law_2 ir_law_2 6 false := by kernel_rfl
theorem t_law_2_law_deck : Tab.fn T_law_2 26 = some fn_law_deck := rfl
theorem k_law_2_law_deck {es kes : Exs} {ix : List Nat} {ρ : Rho} {Q : Od → Rho → Prop} : WP (ev T_law_2 (.call 26 es ix kes) ρ) Q = WP (evs T_law_2 es ρ) fun us ρ1 => WP (evs T_law_2 kes ρ1) fun ws ρ2 => us.length + ix.length = 2 ∧ WC F_law_deck (us ++ ix.map fun i => ws.getD i (.t .emp)) ρ2 Q := q_callfr t_law_2_law_deck rfl rfl (by kernel_rfl)
theorem t_law_2_law_gear : Tab.fn T_law_2 53 = some fn_law_gear := rfl
theorem k_law_2_law_gear {es kes : Exs} {ix : List Nat} {ρ : Rho} {Q : Od → Rho → Prop} : WP (ev T_law_2 (.call 53 es ix kes) ρ) Q = WP (evs T_law_2 es ρ) fun us ρ1 => WP (evs T_law_2 kes ρ1) fun ws ρ2 => us.length + ix.length = 5 ∧ WCI F_law_gear (us ++ ix.map fun i => ws.getD i (.t .emp)) ρ2 Q := q_callio t_law_2_law_gear rfl rfl (by kernel_rfl)
theorem t_law_2_law_grid : Tab.fn T_law_2 36 = some fn_law_grid := rfl
theorem k_law_2_law_grid {es kes : Exs} {ix : List Nat} {ρ : Rho} {Q : Od → Rho → Prop} : WP (ev T_law_2 (.call 36 es ix kes) ρ) Q = WP (evs T_law_2 es ρ) fun us ρ1 => WP (evs T_law_2 kes ρ1) fun ws ρ2 => us.length + ix.length = 1 ∧ WCI F_law_grid (us ++ ix.map fun i => ws.getD i (.t .emp)) ρ2 Q := q_callio t_law_2_law_grid rfl rfl (by kernel_rfl)
theorem t_law_2_law_same : Tab.fn T_law_2 33 = some fn_law_same := rfl
theorem k_law_2_law_same {es kes : Exs} {ix : List Nat} {ρ : Rho} {Q : Od → Rho → Prop} : WP (ev T_law_2 (.call 33 es ix kes) ρ) Q = WP (evs T_law_2 es ρ) fun us ρ1 => WP (evs T_law_2 kes ρ1) fun ws ρ2 => us.length + ix.length = 2 ∧ WC (F_law_same 6) (us ++ ix.map fun i => ws.getD i (.t .emp)) ρ2 Q := q_callfr t_law_2_law_same rfl rfl (by kernel_rfl)
theorem t_law_2_law_bent_2 : Tab.fn T_law_2 56 = some fn_law_bent_2 := rfl
theorem k_law_2_law_bent_2 {es kes : Exs} {ix : List Nat} {ρ : Rho} {Q : Od → Rho → Prop} : WP (ev T_law_2 (.call 56 es ix kes) ρ) Q = WP (evs T_law_2 es ρ) fun us ρ1 => WP (evs T_law_2 kes ρ1) fun ws ρ2 => us.length + ix.length = 2 ∧ WCI F_law_bent_2 (us ++ ix.map fun i => ws.getD i (.t .emp)) ρ2 Q := q_callio t_law_2_law_bent_2 rfl rfl (by kernel_rfl)
theorem t_law_2_law_take : Tab.fn T_law_2 27 = some fn_law_take := rfl
theorem k_law_2_law_take {es kes : Exs} {ix : List Nat} {ρ : Rho} {Q : Od → Rho → Prop} : WP (ev T_law_2 (.call 27 es ix kes) ρ) Q = WP (evs T_law_2 es ρ) fun us ρ1 => WP (evs T_law_2 kes ρ1) fun ws ρ2 => us.length + ix.length = 2 ∧ WCI F_law_take (us ++ ix.map fun i => ws.getD i (.t .emp)) ρ2 Q := q_callio t_law_2_law_take rfl rfl (by kernel_rfl)
theorem t_law_2_is_kit : Tab.fn T_law_2 52 = some fn_is_kit := rfl
theorem k_law_2_is_kit {es kes : Exs} {ix : List Nat} {ρ : Rho} {Q : Od → Rho → Prop} : WP (ev T_law_2 (.call 52 es ix kes) ρ) Q = WP (evs T_law_2 es ρ) fun us ρ1 => WP (evs T_law_2 kes ρ1) fun ws ρ2 => us.length + ix.length = 1 ∧ WC F_is_kit (us ++ ix.map fun i => ws.getD i (.t .emp)) ρ2 Q := q_callfr t_law_2_is_kit rfl rfl (by kernel_rfl)
theorem t_law_2_law_is_kit : Tab.fn T_law_2 60 = some fn_law_is_kit := rfl
theorem k_law_2_law_is_kit {es kes : Exs} {ix : List Nat} {ρ : Rho} {Q : Od → Rho → Prop} : WP (ev T_law_2 (.call 60 es ix kes) ρ) Q = WP (evs T_law_2 es ρ) fun us ρ1 => WP (evs T_law_2 kes ρ1) fun ws ρ2 => us.length + ix.length = 1 ∧ WC F_law_is_kit (us ++ ix.map fun i => ws.getD i (.t .emp)) ρ2 Q := q_callfr t_law_2_law_is_kit rfl rfl (by kernel_rfl)
def ir_law_gcd : Sms :=
  (.cons (.whl (.cmp .NotEq (.var 1) (.con (.int 0))) (.cons (.par [0, 1] (.cons (.var 1) (.cons (.bin .Mod (.blt .int (.cons (.var 0) .nil)) (.var 1)) .nil)))
  .nil))
  (.cons (.ret (.var 0))
  .nil))
def T_law_gcd : Tab := tab [] []
def F_law_gcd : List Cell → Option (Cell × Cell) := mkF T_law_gcd ir_law_gcd 2 false
def fn_law_gcd : Fn := ⟨["u", "v"], false, 1, F_law_gcd⟩
theorem b_law_gcd {K : Cell → Cell → Prop} {c0 c1 : Cell} : WF F_law_gcd [c0, c1] K = WP (exs T_law_gcd fuel ir_law_gcd [c0, c1]) fun o ρ => WP (endB false (o, ρ)) K := wf_eq
theorem hF_law_gcd : fn_law_gcd.F = mkF T_law_gcd ir_law_gcd 2 false := by kernel_rfl
def ir_law_less : Sms :=
  (.cons (.ret (.cmp .Lt (.bin .Sub (.bin .Mult (.idx (.var 0) (.con (.int 0))) (.idx (.var 1) (.con (.int 1)))) (.bin .Mult (.idx (.var 1) (.con (.int 0))) (.idx (.var 0) (.con (.int 1))))) (.con (.int 0))))
  .nil)
def T_law_less : Tab := tab [] []
def F_law_less : List Cell → Option (Cell × Cell) := mkF T_law_less ir_law_less 2 false
def fn_law_less : Fn := ⟨["u", "v"], false, 1, F_law_less⟩
theorem b_law_less {K : Cell → Cell → Prop} {c0 c1 : Cell} : WF F_law_less [c0, c1] K = WP (exs T_law_less fuel ir_law_less [c0, c1]) fun o ρ => WP (endB false (o, ρ)) K := wf_eq
theorem hF_law_less : fn_law_less.F = mkF T_law_less ir_law_less 2 false := by kernel_rfl
def ir_law_pair : Sms :=
  (.cons (.set 2 (.call 28 (.cons (.blt .abs (.cons (.var 0) .nil)) (.cons (.blt .abs (.cons (.var 1) .nil)) .nil)) [] .nil))
  (.cons (.ite (.cmp .Lt (.var 1) (.con (.int 0))) (.cons (.set 2 (.neg (.var 2)))
  .nil) .nil)
  (.cons (.ret (.tup (.cons (.bin .FloorDiv (.var 0) (.var 2)) (.cons (.bin .FloorDiv (.var 1) (.var 2)) .nil))))
  .nil)))
def T_law_pair : Tab := tab [(28, fn_law_gcd)] []
def F_law_pair : List Cell → Option (Cell × Cell) := mkF T_law_pair ir_law_pair 3 false
def fn_law_pair : Fn := ⟨["upper", "lower"], false, 2, F_law_pair⟩
theorem b_law_pair {K : Cell → Cell → Prop} {c0 c1 : Cell} : WF F_law_pair [c0, c1] K = WP (exs T_law_pair fuel ir_law_pair [c0, c1, .emp]) fun o ρ => WP (endB false (o, ρ)) K := wf_eq
theorem hF_law_pair : fn_law_pair.F = mkF T_law_pair ir_law_pair 3 false := by kernel_rfl
theorem t_law_pair_law_gcd : Tab.fn T_law_pair 28 = some fn_law_gcd := rfl
theorem k_law_pair_law_gcd {es kes : Exs} {ix : List Nat} {ρ : Rho} {Q : Od → Rho → Prop} : WP (ev T_law_pair (.call 28 es ix kes) ρ) Q = WP (evs T_law_pair es ρ) fun us ρ1 => WP (evs T_law_pair kes ρ1) fun ws ρ2 => us.length + ix.length = 2 ∧ WC F_law_gcd (us ++ ix.map fun i => ws.getD i (.t .emp)) ρ2 Q := q_callfr t_law_pair_law_gcd rfl rfl (by kernel_rfl)
def ir_law_plus : Sms :=
  (.cons (.ret (.call 29 (.cons (.bin .Add (.bin .Mult (.idx (.var 0) (.con (.int 0))) (.idx (.var 1) (.con (.int 1)))) (.bin .Mult (.idx (.var 1) (.con (.int 0))) (.idx (.var 0) (.con (.int 1))))) (.cons (.bin .Mult (.idx (.var 0) (.con (.int 1))) (.idx (.var 1) (.con (.int 1)))) .nil)) [] .nil))
  .nil)
def T_law_plus : Tab := tab [(29, fn_law_pair)] []
def F_law_plus : List Cell → Option (Cell × Cell) := mkF T_law_plus ir_law_plus 2 false
def fn_law_plus : Fn := ⟨["u", "v"], false, 3, F_law_plus⟩
theorem b_law_plus {K : Cell → Cell → Prop} {c0 c1 : Cell} : WF F_law_plus [c0, c1] K = WP (exs T_law_plus fuel ir_law_plus [c0, c1]) fun o ρ => WP (endB false (o, ρ)) K := wf_eq
theorem hF_law_plus : fn_law_plus.F = mkF T_law_plus ir_law_plus 2 false := by kernel_rfl
theorem t_law_plus_law_pair : Tab.fn T_law_plus 29 = some fn_law_pair := rfl
theorem k_law_plus_law_pair {es kes : Exs} {ix : List Nat} {ρ : Rho} {Q : Od → Rho → Prop} : WP (ev T_law_plus (.call 29 es ix kes) ρ) Q = WP (evs T_law_plus es ρ) fun us ρ1 => WP (evs T_law_plus kes ρ1) fun ws ρ2 => us.length + ix.length = 2 ∧ WC F_law_pair (us ++ ix.map fun i => ws.getD i (.t .emp)) ρ2 Q := q_callfr t_law_plus_law_pair rfl rfl (by kernel_rfl)
def ir_law_times : Sms :=
  (.cons (.ret (.call 29 (.cons (.bin .Mult (.idx (.var 0) (.con (.int 0))) (.idx (.var 1) (.con (.int 0)))) (.cons (.bin .Mult (.idx (.var 0) (.con (.int 1))) (.idx (.var 1) (.con (.int 1)))) .nil)) [] .nil))
  .nil)
def T_law_times : Tab := tab [(29, fn_law_pair)] []
def F_law_times : List Cell → Option (Cell × Cell) := mkF T_law_times ir_law_times 2 false
def fn_law_times : Fn := ⟨["u", "v"], false, 3, F_law_times⟩
theorem b_law_times {K : Cell → Cell → Prop} {c0 c1 : Cell} : WF F_law_times [c0, c1] K = WP (exs T_law_times fuel ir_law_times [c0, c1]) fun o ρ => WP (endB false (o, ρ)) K := wf_eq
theorem hF_law_times : fn_law_times.F = mkF T_law_times ir_law_times 2 false := by kernel_rfl
theorem t_law_times_law_pair : Tab.fn T_law_times 29 = some fn_law_pair := rfl
theorem k_law_times_law_pair {es kes : Exs} {ix : List Nat} {ρ : Rho} {Q : Od → Rho → Prop} : WP (ev T_law_times (.call 29 es ix kes) ρ) Q = WP (evs T_law_times es ρ) fun us ρ1 => WP (evs T_law_times kes ρ1) fun ws ρ2 => us.length + ix.length = 2 ∧ WC F_law_pair (us ++ ix.map fun i => ws.getD i (.t .emp)) ρ2 Q := q_callfr t_law_times_law_pair rfl rfl (by kernel_rfl)
def ir_power_of : Sms :=
  (.cons (.set 2 (.glb 0))
  (.cons (.for_ (.n 3) (.rng1 (.var 1)) (.cons (.set 2 (.call 14 (.cons (.var 0) (.cons (.var 2) .nil)) [] .nil))
  .nil))
  (.cons (.ret (.var 2))
  .nil)))
def T_power_of : Tab := tab [(14, fn_product_of_tables)] [(0, (.tuple [(.tuple [(.int 1), (.int 0)]), (.tuple [(.int 0), (.int 1)])]))]
def F_power_of : List Cell → Option (Cell × Cell) := mkF T_power_of ir_power_of 4 false
def fn_power_of : Fn := ⟨["table", "n"], false, 3, F_power_of⟩
theorem b_power_of {K : Cell → Cell → Prop} {c0 c1 : Cell} : WF F_power_of [c0, c1] K = WP (exs T_power_of fuel ir_power_of [c0, c1, .emp, .emp]) fun o ρ => WP (endB false (o, ρ)) K := wf_eq
theorem hF_power_of : fn_power_of.F = mkF T_power_of ir_power_of 4 false := by kernel_rfl
theorem t_power_of_product_of_tables : Tab.fn T_power_of 14 = some fn_product_of_tables := rfl
theorem k_power_of_product_of_tables {es kes : Exs} {ix : List Nat} {ρ : Rho} {Q : Od → Rho → Prop} : WP (ev T_power_of (.call 14 es ix kes) ρ) Q = WP (evs T_power_of es ρ) fun us ρ1 => WP (evs T_power_of kes ρ1) fun ws ρ2 => us.length + ix.length = 2 ∧ WC F_product_of_tables (us ++ ix.map fun i => ws.getD i (.t .emp)) ρ2 Q := q_callfr t_power_of_product_of_tables rfl rfl (by kernel_rfl)
theorem g_power_of_UNIT {ρ : Rho} {Q : Od → Rho → Prop} : WP (ev T_power_of (.glb 0) ρ) Q = Q (.t (.dat (.tuple [(.tuple [(.int 1), (.int 0)]), (.tuple [(.int 0), (.int 1)])]))) ρ := q_glb rfl
def ir_power : Sms :=
  (.cons (.exp (.call 7 (.cons (.var 0) .nil) [] .nil))
  (.cons (.ite (.or (.not (.call 0 (.cons (.var 1) .nil) [] .nil)) (.cmp .Lt (.var 1) (.con (.int 0)))) (.cons .nev
  .nil) .nil)
  (.cons (.ret (.call 15 (.cons (.var 0) (.cons (.var 1) .nil)) [] .nil))
  .nil)))
def T_power : Tab := tab [(7, fn_check_table), (15, fn_power_of), (0, fn_is_integer)] []
def F_power : List Cell → Option (Cell × Cell) := mkF T_power ir_power 2 false
def fn_power : Fn := ⟨["table", "n"], false, 5, F_power⟩
theorem b_power {K : Cell → Cell → Prop} {c0 c1 : Cell} : WF F_power [c0, c1] K = WP (exs T_power fuel ir_power [c0, c1]) fun o ρ => WP (endB false (o, ρ)) K := wf_eq
theorem hF_power : fn_power.F = mkF T_power ir_power 2 false := by kernel_rfl
theorem t_power_check_table : Tab.fn T_power 7 = some fn_check_table := rfl
theorem k_power_check_table {es kes : Exs} {ix : List Nat} {ρ : Rho} {Q : Od → Rho → Prop} : WP (ev T_power (.call 7 es ix kes) ρ) Q = WP (evs T_power es ρ) fun us ρ1 => WP (evs T_power kes ρ1) fun ws ρ2 => us.length + ix.length = 1 ∧ WC F_check_table (us ++ ix.map fun i => ws.getD i (.t .emp)) ρ2 Q := q_callfr t_power_check_table rfl rfl (by kernel_rfl)
theorem t_power_power_of : Tab.fn T_power 15 = some fn_power_of := rfl
theorem k_power_power_of {es kes : Exs} {ix : List Nat} {ρ : Rho} {Q : Od → Rho → Prop} : WP (ev T_power (.call 15 es ix kes) ρ) Q = WP (evs T_power es ρ) fun us ρ1 => WP (evs T_power kes ρ1) fun ws ρ2 => us.length + ix.length = 2 ∧ WC F_power_of (us ++ ix.map fun i => ws.getD i (.t .emp)) ρ2 Q := q_callfr t_power_power_of rfl rfl (by kernel_rfl)
theorem t_power_is_integer : Tab.fn T_power 0 = some fn_is_integer := rfl
theorem k_power_is_integer {es kes : Exs} {ix : List Nat} {ρ : Rho} {Q : Od → Rho → Prop} : WP (ev T_power (.call 0 es ix kes) ρ) Q = WP (evs T_power es ρ) fun us ρ1 => WP (evs T_power kes ρ1) fun ws ρ2 => us.length + ix.length = 1 ∧ WC F_is_integer (us ++ ix.map fun i => ws.getD i (.t .emp)) ρ2 Q := q_callfr t_power_is_integer rfl rfl (by kernel_rfl)
def ir_product : Sms :=
  (.cons (.exp (.call 7 (.cons (.var 0) .nil) [] .nil))
  (.cons (.exp (.call 7 (.cons (.var 1) .nil) [] .nil))
  (.cons (.ret (.call 14 (.cons (.var 0) (.cons (.var 1) .nil)) [] .nil))
  .nil)))
def T_product : Tab := tab [(7, fn_check_table), (14, fn_product_of_tables)] []
def F_product : List Cell → Option (Cell × Cell) := mkF T_product ir_product 2 false
def fn_product : Fn := ⟨["one", "other"], false, 5, F_product⟩
theorem b_product {K : Cell → Cell → Prop} {c0 c1 : Cell} : WF F_product [c0, c1] K = WP (exs T_product fuel ir_product [c0, c1]) fun o ρ => WP (endB false (o, ρ)) K := wf_eq
theorem hF_product : fn_product.F = mkF T_product ir_product 2 false := by kernel_rfl
theorem t_product_check_table : Tab.fn T_product 7 = some fn_check_table := rfl
theorem k_product_check_table {es kes : Exs} {ix : List Nat} {ρ : Rho} {Q : Od → Rho → Prop} : WP (ev T_product (.call 7 es ix kes) ρ) Q = WP (evs T_product es ρ) fun us ρ1 => WP (evs T_product kes ρ1) fun ws ρ2 => us.length + ix.length = 1 ∧ WC F_check_table (us ++ ix.map fun i => ws.getD i (.t .emp)) ρ2 Q := q_callfr t_product_check_table rfl rfl (by kernel_rfl)
theorem t_product_product_of_tables : Tab.fn T_product 14 = some fn_product_of_tables := rfl
theorem k_product_product_of_tables {es kes : Exs} {ix : List Nat} {ρ : Rho} {Q : Od → Rho → Prop} : WP (ev T_product (.call 14 es ix kes) ρ) Q = WP (evs T_product es ρ) fun us ρ1 => WP (evs T_product kes ρ1) fun ws ρ2 => us.length + ix.length = 2 ∧ WC F_product_of_tables (us ++ ix.map fun i => ws.getD i (.t .emp)) ρ2 Q := q_callfr t_product_product_of_tables rfl rfl (by kernel_rfl)
def ir_solved : Sms :=
  (.cons (.asg (.t [(.t [(.n 2), (.n 3)]), (.t [(.n 4), (.n 5)])]) (.var 0))
  (.cons (.asg (.t [(.t [(.n 6), (.n 7)]), (.t [(.n 8), (.n 9)])]) (.var 1))
  (.cons (.set 10 (.bin .Mult (.bin .Mult (.call 8 (.cons (.var 0) .nil) [] .nil) (.var 7)) (.var 9)))
  (.cons (.ret (.tup (.cons (.call 2 (.cons (.bin .Sub (.bin .Mult (.bin .Mult (.var 5) (.var 6)) (.var 9)) (.bin .Mult (.bin .Mult (.var 3) (.var 8)) (.var 7))) (.cons (.var 10) .nil)) [] .nil) (.cons (.call 2 (.cons (.bin .Sub (.bin .Mult (.bin .Mult (.var 2) (.var 8)) (.var 7)) (.bin .Mult (.bin .Mult (.var 4) (.var 6)) (.var 9))) (.cons (.var 10) .nil)) [] .nil) .nil))))
  .nil))))
def T_solved : Tab := tab [(2, fn_lowest), (8, fn_determinant_of)] []
def F_solved : List Cell → Option (Cell × Cell) := mkF T_solved ir_solved 11 false
def fn_solved : Fn := ⟨["table", "point"], false, 2, F_solved⟩
theorem b_solved {K : Cell → Cell → Prop} {c0 c1 : Cell} : WF F_solved [c0, c1] K = WP (exs T_solved fuel ir_solved [c0, c1, .emp, .emp, .emp, .emp, .emp, .emp, .emp, .emp, .emp]) fun o ρ => WP (endB false (o, ρ)) K := wf_eq
theorem hF_solved : fn_solved.F = mkF T_solved ir_solved 11 false := by kernel_rfl
theorem t_solved_lowest : Tab.fn T_solved 2 = some fn_lowest := rfl
theorem k_solved_lowest {es kes : Exs} {ix : List Nat} {ρ : Rho} {Q : Od → Rho → Prop} : WP (ev T_solved (.call 2 es ix kes) ρ) Q = WP (evs T_solved es ρ) fun us ρ1 => WP (evs T_solved kes ρ1) fun ws ρ2 => us.length + ix.length = 2 ∧ WC F_lowest (us ++ ix.map fun i => ws.getD i (.t .emp)) ρ2 Q := q_callfr t_solved_lowest rfl rfl (by kernel_rfl)
theorem t_solved_determinant_of : Tab.fn T_solved 8 = some fn_determinant_of := rfl
theorem k_solved_determinant_of {es kes : Exs} {ix : List Nat} {ρ : Rho} {Q : Od → Rho → Prop} : WP (ev T_solved (.call 8 es ix kes) ρ) Q = WP (evs T_solved es ρ) fun us ρ1 => WP (evs T_solved kes ρ1) fun ws ρ2 => us.length + ix.length = 1 ∧ WC F_determinant_of (us ++ ix.map fun i => ws.getD i (.t .emp)) ρ2 Q := q_callfr t_solved_determinant_of rfl rfl (by kernel_rfl)
def ir_times : Sms :=
  (.cons (.exp (.call 7 (.cons (.var 0) .nil) [] .nil))
  (.cons (.exp (.call 11 (.cons (.var 1) .nil) [] .nil))
  (.cons (.ret (.call 13 (.cons (.var 0) (.cons (.var 1) .nil)) [] .nil))
  .nil)))
def T_times : Tab := tab [(7, fn_check_table), (11, fn_check_offset), (13, fn_times_of)] []
def F_times : List Cell → Option (Cell × Cell) := mkF T_times ir_times 2 false
def fn_times : Fn := ⟨["table", "offset"], false, 5, F_times⟩
theorem b_times {K : Cell → Cell → Prop} {c0 c1 : Cell} : WF F_times [c0, c1] K = WP (exs T_times fuel ir_times [c0, c1]) fun o ρ => WP (endB false (o, ρ)) K := wf_eq
theorem hF_times : fn_times.F = mkF T_times ir_times 2 false := by kernel_rfl
theorem t_times_check_table : Tab.fn T_times 7 = some fn_check_table := rfl
theorem k_times_check_table {es kes : Exs} {ix : List Nat} {ρ : Rho} {Q : Od → Rho → Prop} : WP (ev T_times (.call 7 es ix kes) ρ) Q = WP (evs T_times es ρ) fun us ρ1 => WP (evs T_times kes ρ1) fun ws ρ2 => us.length + ix.length = 1 ∧ WC F_check_table (us ++ ix.map fun i => ws.getD i (.t .emp)) ρ2 Q := q_callfr t_times_check_table rfl rfl (by kernel_rfl)
theorem t_times_check_offset : Tab.fn T_times 11 = some fn_check_offset := rfl
theorem k_times_check_offset {es kes : Exs} {ix : List Nat} {ρ : Rho} {Q : Od → Rho → Prop} : WP (ev T_times (.call 11 es ix kes) ρ) Q = WP (evs T_times es ρ) fun us ρ1 => WP (evs T_times kes ρ1) fun ws ρ2 => us.length + ix.length = 1 ∧ WC F_check_offset (us ++ ix.map fun i => ws.getD i (.t .emp)) ρ2 Q := q_callfr t_times_check_offset rfl rfl (by kernel_rfl)
theorem t_times_times_of : Tab.fn T_times 13 = some fn_times_of := rfl
theorem k_times_times_of {es kes : Exs} {ix : List Nat} {ρ : Rho} {Q : Od → Rho → Prop} : WP (ev T_times (.call 13 es ix kes) ρ) Q = WP (evs T_times es ρ) fun us ρ1 => WP (evs T_times kes ρ1) fun ws ρ2 => us.length + ix.length = 2 ∧ WC F_times_of (us ++ ix.map fun i => ws.getD i (.t .emp)) ρ2 Q := q_callfr t_times_times_of rfl rfl (by kernel_rfl)
def ir_trace : Sms :=
  (.cons (.exp (.call 7 (.cons (.var 0) .nil) [] .nil))
  (.cons (.ret (.bin .Add (.idx (.idx (.var 0) (.con (.int 0))) (.con (.int 0))) (.idx (.idx (.var 0) (.con (.int 1))) (.con (.int 1)))))
  .nil))
def T_trace : Tab := tab [(7, fn_check_table)] []
def F_trace : List Cell → Option (Cell × Cell) := mkF T_trace ir_trace 1 false
def fn_trace : Fn := ⟨["table"], false, 5, F_trace⟩
theorem b_trace {K : Cell → Cell → Prop} {c0 : Cell} : WF F_trace [c0] K = WP (exs T_trace fuel ir_trace [c0]) fun o ρ => WP (endB false (o, ρ)) K := wf_eq
theorem hF_trace : fn_trace.F = mkF T_trace ir_trace 1 false := by kernel_rfl
theorem t_trace_check_table : Tab.fn T_trace 7 = some fn_check_table := rfl
theorem k_trace_check_table {es kes : Exs} {ix : List Nat} {ρ : Rho} {Q : Od → Rho → Prop} : WP (ev T_trace (.call 7 es ix kes) ρ) Q = WP (evs T_trace es ρ) fun us ρ1 => WP (evs T_trace kes ρ1) fun ws ρ2 => us.length + ix.length = 1 ∧ WC F_check_table (us ++ ix.map fun i => ws.getD i (.t .emp)) ρ2 Q := q_callfr t_trace_check_table rfl rfl (by kernel_rfl)
def ir_undone : Sms :=
  (.cons (.exp (.call 10 (.cons (.var 0) .nil) [] .nil))
  (.cons (.exp (.call 12 (.cons (.var 1) .nil) [] .nil))
  (.cons (.ret (.call 16 (.cons (.var 0) (.cons (.var 1) .nil)) [] .nil))
  .nil)))
def T_undone : Tab := tab [(10, fn_check_growing), (12, fn_check_point), (16, fn_solved)] []
def F_undone : List Cell → Option (Cell × Cell) := mkF T_undone ir_undone 2 false
def fn_undone : Fn := ⟨["table", "point"], false, 6, F_undone⟩
theorem b_undone {K : Cell → Cell → Prop} {c0 c1 : Cell} : WF F_undone [c0, c1] K = WP (exs T_undone fuel ir_undone [c0, c1]) fun o ρ => WP (endB false (o, ρ)) K := wf_eq
theorem hF_undone : fn_undone.F = mkF T_undone ir_undone 2 false := by kernel_rfl
theorem t_undone_check_growing : Tab.fn T_undone 10 = some fn_check_growing := rfl
theorem k_undone_check_growing {es kes : Exs} {ix : List Nat} {ρ : Rho} {Q : Od → Rho → Prop} : WP (ev T_undone (.call 10 es ix kes) ρ) Q = WP (evs T_undone es ρ) fun us ρ1 => WP (evs T_undone kes ρ1) fun ws ρ2 => us.length + ix.length = 1 ∧ WC F_check_growing (us ++ ix.map fun i => ws.getD i (.t .emp)) ρ2 Q := q_callfr t_undone_check_growing rfl rfl (by kernel_rfl)
theorem t_undone_check_point : Tab.fn T_undone 12 = some fn_check_point := rfl
theorem k_undone_check_point {es kes : Exs} {ix : List Nat} {ρ : Rho} {Q : Od → Rho → Prop} : WP (ev T_undone (.call 12 es ix kes) ρ) Q = WP (evs T_undone es ρ) fun us ρ1 => WP (evs T_undone kes ρ1) fun ws ρ2 => us.length + ix.length = 1 ∧ WC F_check_point (us ++ ix.map fun i => ws.getD i (.t .emp)) ρ2 Q := q_callfr t_undone_check_point rfl rfl (by kernel_rfl)
theorem t_undone_solved : Tab.fn T_undone 16 = some fn_solved := rfl
theorem k_undone_solved {es kes : Exs} {ix : List Nat} {ρ : Rho} {Q : Od → Rho → Prop} : WP (ev T_undone (.call 16 es ix kes) ρ) Q = WP (evs T_undone es ρ) fun us ρ1 => WP (evs T_undone kes ρ1) fun ws ρ2 => us.length + ix.length = 2 ∧ WC F_solved (us ++ ix.map fun i => ws.getD i (.t .emp)) ρ2 Q := q_callfr t_undone_solved rfl rfl (by kernel_rfl)
end Df
/-! Data of tables, bounds. -/
namespace Df
open PySem Lt
abbrev dP (x y : Int) : D := .tuple [.int x, .int y]
structure Tb where
  a : Int
  b : Int
  c : Int
  d : Int
  deriving DecidableEq
abbrev dT (t : Tb) : D := .tuple [.tuple [.int t.a, .int t.b], .tuple [.int t.c, .int t.d]]
/-- below 2 ^ n in size -/
def B (n : Nat) (i : Int) : Prop := i.natAbs < 2 ^ n
theorem B.mono {n m : Nat} {i : Int} (h : B n i) (k : n ≤ m) : B m i := Nat.lt_of_lt_of_le h (Nat.pow_le_pow_right (by decide) k)
theorem B.neg {n : Nat} {i : Int} (h : B n i) : B n (-i) := by unfold B at *; rwa [Int.natAbs_neg]
theorem B.mul {n m : Nat} {i j : Int} (h : B n i) (k : B m j) : B (n + m) (i * j) := by
  unfold B at *
  rw [Int.natAbs_mul, Nat.pow_add]
  rcases Nat.eq_zero_or_pos j.natAbs with e | e
  · rw [e, Nat.mul_zero]; exact Nat.mul_pos (Nat.two_pow_pos n) (Nat.two_pow_pos m)
  · exact Nat.lt_of_lt_of_le (Nat.mul_lt_mul_of_pos_right h e) (Nat.mul_le_mul_left _ (Nat.le_of_lt k))
theorem B.add {n : Nat} {i j : Int} (h : B n i) (k : B n j) : B (n + 1) (i + j) := by
  unfold B at *
  rw [Nat.pow_succ]
  omega
theorem B.sub {n : Nat} {i j : Int} (h : B n i) (k : B n j) : B (n + 1) (i - j) := by
  unfold B at *
  rw [Nat.pow_succ]
  omega
theorem B.ofLe {n : Nat} {i : Int} (m : Nat) (h : i.natAbs ≤ m) (k : m < 2 ^ n) : B n i := Nat.lt_of_le_of_lt h k
theorem B.mulOk {n m : Nat} {i j : Int} (h : B n i) (k : B m j) (l : n + m ≤ 900000) : mulOk i j = true := by
  unfold Lt.mulOk
  have l1 : i.natAbs.log2 ≤ n := by
    by_cases z : i.natAbs = 0
    · rw [z]; exact Nat.zero_le _
    · exact Nat.le_of_lt ((Nat.log2_lt z).mpr h)
  have l2 : j.natAbs.log2 ≤ m := by
    by_cases z : j.natAbs = 0
    · rw [z]; exact Nat.zero_le _
    · exact Nat.le_of_lt ((Nat.log2_lt z).mpr k)
  have : i.natAbs.log2 + j.natAbs.log2 < 1000000 := by omega
  rw [decide_eq_true this, Bool.or_true]
theorem B.divOk {n : Nat} {j : Int} (h : B n j) (h0 : j ≠ 0) (l : n ≤ 8999) : divOk j = true := by
  unfold Lt.divOk
  have l1 : j.natAbs.log2 < 9000 := by
    have := (Nat.log2_lt (n := j.natAbs) (k := n) (by omega)).mpr h
    omega
  rw [decide_eq_true l1, decide_eq_true h0]; rfl
theorem B.zero {n : Nat} : B n 0 := Nat.two_pow_pos n
theorem B.one {n : Nat} : B (n + 1) 1 := by
  unfold B
  exact Nat.one_lt_two_pow (by omega)
theorem B.ediv {n : Nat} {i j : Int} (h : B n i) : B n (i / j) := Nat.lt_of_le_of_lt (Int.natAbs_ediv_le_natAbs i j) h
/-- a table's entries -/
structure TB (n : Nat) (t : Tb) : Prop where
  a : B n t.a
  b : B n t.b
  c : B n t.c
  d : B n t.d
theorem TB.mono {n m : Nat} {t : Tb} (h : TB n t) (k : n ≤ m) : TB m t := ⟨h.a.mono k, h.b.mono k, h.c.mono k, h.d.mono k⟩
def Tb.det (t : Tb) : Int := t.a * t.d - t.b * t.c
def Tb.tr (t : Tb) : Int := t.a + t.d
def Tb.mul (s t : Tb) : Tb := ⟨s.a * t.a + s.b * t.c, s.a * t.b + s.b * t.d, s.c * t.a + s.d * t.c, s.c * t.b + s.d * t.d⟩
def Tb.one : Tb := ⟨1, 0, 0, 1⟩
def Tb.pow (t : Tb) : Nat → Tb
  | 0 => .one
  | n + 1 => t.mul (t.pow n)
theorem TB.mul {n m : Nat} {s t : Tb} (h : TB n s) (k : TB m t) : TB (n + m + 1) (s.mul t) := ⟨(h.a.mul k.a).add (h.b.mul k.c), (h.a.mul k.b).add (h.b.mul k.d), (h.c.mul k.a).add (h.d.mul k.c), (h.c.mul k.b).add (h.d.mul k.d)⟩
theorem TB.one {n : Nat} : TB (n + 1) Tb.one := ⟨B.one, B.zero, B.zero, B.one⟩
theorem TB.pow {n : Nat} {t : Tb} (h : TB n t) : ∀ k, TB (k * (n + 1) + 1) (t.pow k)
  | 0 => by rw [Nat.zero_mul]; exact TB.one
  | k + 1 => (TB.mul h (TB.pow h k)).mono (by rw [Nat.add_mul]; omega)
theorem TB.det {n : Nat} {t : Tb} (h : TB n t) : B (n + n + 1) t.det := (h.a.mul h.d).sub (h.b.mul h.c)
/-- it grows -/
def Tb.grow (t : Tb) : Bool := (decide (2 ≤ t.det) && (decide (-t.det ≤ t.tr) && decide (t.tr ≤ t.det))) || (decide (t.det ≤ -2) && (decide (t.det + 2 ≤ t.tr) && decide (t.tr ≤ -t.det - 2)))
theorem Tb.grow_iff {t : Tb} : t.grow = true ↔ (2 ≤ t.det ∧ -t.det ≤ t.a + t.d ∧ t.a + t.d ≤ t.det) ∨ (t.det ≤ -2 ∧ t.det + 2 ≤ t.a + t.d ∧ t.a + t.d ≤ -t.det - 2) := by
  unfold Tb.grow
  simp only [Bool.or_eq_true, Bool.and_eq_true, decide_eq_true_eq]
  rfl
/-! ### values, by their form -/
def isInt : D → Bool
  | .int _ => true
  | _ => false
def isPair : D → Bool
  | .tuple [_, _] => true
  | _ => false
def isOff : D → Bool
  | .tuple [x, y] => isInt x && isInt y
  | _ => false
def isTab : D → Bool
  | .tuple [x, y] => isOff x && isOff y
  | _ => false
theorem isInt_ok {v : D} (h : isInt v = true) : ∃ i, v = .int i := by
  cases v <;> first | exact ⟨_, rfl⟩ | cases h
theorem isPair_ok {v : D} (h : isPair v = true) : ∃ x y, v = .tuple [x, y] := by
  unfold isPair at h
  split at h
  · exact ⟨_, _, rfl⟩
  · cases h
theorem isOff_ok {v : D} (h : isOff v = true) : ∃ x y, v = dP x y := by
  unfold isOff at h
  split at h
  · obtain ⟨h1, h2⟩ := Bool.and_eq_true_iff.mp h
    obtain ⟨x, rfl⟩ := isInt_ok h1
    obtain ⟨y, rfl⟩ := isInt_ok h2
    exact ⟨x, y, rfl⟩
  · cases h
theorem isTab_ok {v : D} (h : isTab v = true) : ∃ t, v = dT t := by
  unfold isTab at h
  split at h
  · obtain ⟨h1, h2⟩ := Bool.and_eq_true_iff.mp h
    obtain ⟨a, b, rfl⟩ := isOff_ok h1
    obtain ⟨c, d, rfl⟩ := isOff_ok h2
    exact ⟨⟨a, b, c, d⟩, rfl⟩
  · cases h
theorem isTab_dT {t : Tb} : isTab (dT t) = true := rfl
theorem isOff_dP {x y : Int} : isOff (dP x y) = true := rfl
/-- a tuple is of two, or its length is another one -/
theorem two_cases (xs : List D) : (∃ x y, xs = [x, y]) ∨ ((xs.length : Int) ≠ 2 ∧ isPair (.tuple xs) = false ∧ isOff (.tuple xs) = false ∧ isTab (.tuple xs) = false) := by
  match xs with
  | [x, y] => exact .inl ⟨x, y, rfl⟩
  | [] => exact .inr ⟨by decide, rfl, rfl, rfl⟩
  | [x] => exact .inr ⟨by simp, rfl, rfl, rfl⟩
  | x :: y :: z :: r => exact .inr ⟨by simp only [List.length_cons]; omega, rfl, rfl, rfl⟩
end Df

/-! What the defs of tables.py and fresh.py give. -/
namespace Df
open PySem Lt
variable {K : Cell → Cell → Prop}
theorem wf_is_integer {v : D} (hv : noDict v = true) (k : K (.dat (.bool (isInt v))) .emp) : WF F_is_integer [.dat v] K := by
  rw [b_is_integer]
  cases v <;> first | (simp only [↓ir_is_integer, ↓RUN, POST]; exact k) | cases hv
theorem wf_is_pair {v : D} (hv : noDict v = true) (k : K (.dat (.bool (isPair v))) .emp) : WF F_is_pair [.dat v] K := by
  rw [b_is_pair]
  cases v with
  | tuple xs =>
    simp only [↓ir_is_pair, ↓RUN, POST]
    rcases two_cases xs with ⟨x, y, rfl⟩ | ⟨h, h2, _⟩
    · exact k
    · rw [decide_eq_false h, ← h2]; exact k
  | dict _ => cases hv
  | _ => simp only [↓ir_is_pair, ↓RUN, POST]; exact k
theorem pairNot {v : D} (hp : isPair v ≠ true) : isOff v = false ∧ isTab v = false := by
  cases v with
  | tuple xs =>
    rcases two_cases xs with ⟨x, y, rfl⟩ | ⟨h, h2, h3, h4⟩
    · exact absurd rfl hp
    · exact ⟨h3, h4⟩
  | _ => exact ⟨rfl, rfl⟩
/-- no dict, two deep -/
def noD2 : D → Bool
  | .tuple xs => xs.all noDict
  | .dict _ => false
  | _ => true
def noD3 : D → Bool
  | .tuple xs => xs.all noD2
  | .dict _ => false
  | _ => true
theorem noD2_1 {v : D} (h : noD2 v = true) : noDict v = true := by cases v <;> first | rfl | cases h
theorem noD3_1 {v : D} (h : noD3 v = true) : noDict v = true := by cases v <;> first | rfl | cases h
theorem wf_is_offset {v : D} (hv : noD2 v = true) (k : K (.dat (.bool (isOff v))) .emp) : WF F_is_offset [.dat v] K := by
  rw [b_is_offset]
  simp only [↓ir_is_offset, ↓RUN, POST, ↓k_is_offset_is_pair, ↓k_is_offset_is_integer]
  refine wf_is_pair (noD2_1 hv) ?_
  by_cases hp : isPair v = true
  · obtain ⟨x, y, rfl⟩ := isPair_ok hp
    have hv' : noDict x = true ∧ noDict y = true := by simpa [noD2] using hv
    simp only [↓RUN, POST, show isPair (.tuple [x, y]) = true from rfl]
    refine wf_is_integer hv'.1 ?_
    simp only [↓RUN, POST]
    cases h1 : isInt x
    · simp only [↓RUN, POST]
      simpa only [isOff, h1, Bool.false_and] using k
    · simp only [↓RUN, POST]
      refine wf_is_integer hv'.2 ?_
      simp only [↓RUN, POST]
      simpa only [isOff, h1, Bool.true_and] using k
  · rw [(pairNot hp).1] at k
    simp only [↓RUN, POST, Bool.eq_false_iff.mpr hp]
    exact k
theorem wf_is_table {v : D} (hv : noD3 v = true) (k : K (.dat (.bool (isTab v))) .emp) : WF F_is_table [.dat v] K := by
  rw [b_is_table]
  simp only [↓ir_is_table, ↓RUN, POST, ↓k_is_table_is_pair, ↓k_is_table_is_offset]
  refine wf_is_pair (noD3_1 hv) ?_
  by_cases hp : isPair v = true
  · obtain ⟨x, y, rfl⟩ := isPair_ok hp
    have hv' : noD2 x = true ∧ noD2 y = true := by simpa [noD3] using hv
    simp only [↓RUN, POST, show isPair (.tuple [x, y]) = true from rfl]
    refine wf_is_offset hv'.1 ?_
    simp only [↓RUN, POST]
    cases h1 : isOff x
    · simp only [↓RUN, POST]
      simpa only [isTab, h1, Bool.false_and] using k
    · simp only [↓RUN, POST]
      refine wf_is_offset hv'.2 ?_
      simp only [↓RUN, POST]
      simpa only [isTab, h1, Bool.true_and] using k
  · rw [(pairNot hp).2] at k
    simp only [↓RUN, POST, Bool.eq_false_iff.mpr hp]
    exact k
theorem wf_determinant_of {t : Tb} {n : Nat} (h : TB n t) (hn : n ≤ 400000) (k : K (.dat (.int t.det)) .emp) : WF F_determinant_of [.dat (dT t)] K := by
  rw [b_determinant_of]
  simp only [↓ir_determinant_of, ↓RUN, POST]
  exact ⟨h.a.mulOk h.d (by omega), h.b.mulOk h.c (by omega), k⟩
theorem wf_times_of {t : Tb} {x y : Int} {n m : Nat} (h : TB n t) (hx : B m x) (hy : B m y) (hn : n + m ≤ 900000) (k : K (.dat (dP (t.a * x + t.b * y) (t.c * x + t.d * y))) .emp) : WF F_times_of [.dat (dT t), .dat (dP x y)] K := by
  rw [b_times_of]
  simp only [↓ir_times_of, ↓RUN, POST]
  exact ⟨h.a.mulOk hx hn, h.b.mulOk hy hn, h.c.mulOk hx hn, h.d.mulOk hy hn, k⟩
theorem wf_product_of_tables {s t : Tb} {n m : Nat} (h : TB n s) (h' : TB m t) (hn : n + m ≤ 900000) (k : K (.dat (dT (s.mul t))) .emp) : WF F_product_of_tables [.dat (dT s), .dat (dT t)] K := by
  rw [b_product_of_tables]
  simp only [↓ir_product_of_tables, ↓RUN, POST, ↓k_product_of_tables_times_of]
  refine wf_times_of h h'.a h'.c hn ?_
  simp only [↓RUN, POST, ↓k_product_of_tables_times_of]
  refine wf_times_of h h'.b h'.d hn ?_
  simp only [↓RUN, POST]
  exact k
theorem wf_power_of {t : Tb} {n : Nat} {m : Nat} (h : TB n t) (hn : m * (n + 1) + n + 1 ≤ 900000) (hm : m ≤ 100000) (k : K (.dat (dT (t.pow m))) .emp) : WF F_power_of [.dat (dT t), .dat (.int (m : Int))] K := by
  rw [b_power_of]
  simp only [↓ir_power_of, ↓RUN, POST, ↓g_power_of_UNIT]
  refine rng1 (by omega) ?_
  refine fo_range (fun i ρ => ∃ c, ρ = [.dat (dT t), .dat (.int (m : Int)), .dat (dT (t.pow i)), c]) ⟨_, rfl⟩ (fun i ρ hi hI => ?_) fun ρ hI => ?_
  · obtain ⟨c, rfl⟩ := hI
    simp only [↓RUN, POST, ↓k_power_of_product_of_tables]
    refine wf_product_of_tables h (TB.pow h i) ?_ ?_
    · have : i * (n + 1) ≤ m * (n + 1) := Nat.mul_le_mul_right _ (by omega)
      omega
    · try simp only [↓RUN, POST]
      exact ⟨_, rfl⟩
  · obtain ⟨c, rfl⟩ := hI
    simp only [↓RUN, POST]
    exact k
/-- the number p by q, in lowest terms -/
def lowT (p q : Int) : Int := if q < 0 then -(p / (Int.gcd p q : Int)) else p / (Int.gcd p q : Int)
def lowB (p q : Int) : Int := if q < 0 then -(q / (Int.gcd p q : Int)) else q / (Int.gcd p q : Int)
theorem gcd_pos {p q : Int} (h : q ≠ 0) : 0 < (Int.gcd p q : Int) := by
  have := Int.gcd_pos_of_ne_zero_right p h
  omega
theorem B.gcd {n : Nat} {p q : Int} (h : B n q) (h0 : q ≠ 0) : B n (Int.gcd p q : Int) := by
  have h1 : Int.gcd p q ≤ q.natAbs := Nat.le_of_dvd (by omega) (Nat.gcd_dvd_right ..)
  show (Int.gcd p q : Int).natAbs < _
  have h2 : q.natAbs < 2 ^ n := h
  omega
theorem fdiv_pos {p g : Int} (h : 0 < g) : p.fdiv g = p / g := Int.fdiv_eq_ediv_of_nonneg _ (by omega)
theorem fdiv_neg {p g : Int} (h : 0 < g) (hd : g ∣ p) : p.fdiv (-g) = -(p / g) := by
  obtain ⟨k, rfl⟩ := hd
  rw [Int.mul_ediv_cancel_left _ (by omega), show g * k = (-g) * (-k) by rw [Int.neg_mul_neg], Int.mul_fdiv_cancel_left _ (by omega)]
theorem wf_lowest {p q : Int} {n : Nat} (h0 : q ≠ 0) (hq : B n q) (hn : n ≤ 8999) (k : K (.dat (dP (lowT p q) (lowB p q))) .emp) : WF F_lowest [.dat (.int p), .dat (.int q)] K := by
  have gp := gcd_pos (p := p) h0
  have e : ((Nat.gcd p.natAbs q.natAbs : Nat) : Int) = (Int.gcd p q : Int) := rfl
  rw [b_lowest]
  simp only [↓ir_lowest, ↓RUN, POST, e]
  refine IT.dec (fun hz => ?_) fun hz => ?_
  · refine ⟨(hq.gcd h0).neg.divOk (by omega) hn, (hq.gcd h0).neg.divOk (by omega) hn, ?_⟩
    rw [fdiv_neg gp (Int.gcd_dvd_left ..), fdiv_neg gp (Int.gcd_dvd_right ..)]
    simpa only [lowT, lowB, if_pos hz] using k
  · refine ⟨(hq.gcd h0).divOk (by omega) hn, (hq.gcd h0).divOk (by omega) hn, ?_⟩
    rw [fdiv_pos gp, fdiv_pos gp]
    simpa only [lowT, lowB, if_neg hz] using k
/-- a number -/
def numB (p q : Int) : Bool := decide (1 ≤ q) && decide (Int.gcd p q = 1)
theorem low_num {p q : Int} (h : 1 ≤ q) : (lowT p q = p ∧ lowB p q = q) ↔ Int.gcd p q = 1 := by
  have gp := gcd_pos (p := p) (q := q) (by omega)
  unfold lowT lowB
  rw [if_neg (by omega), if_neg (by omega)]
  constructor
  · rintro ⟨_, h2⟩
    have := Int.ediv_mul_cancel (Int.gcd_dvd_right p q)
    rw [h2] at this
    have h3 : q * (Int.gcd p q : Int) = q * 1 := by rw [this, Int.mul_one]
    have := Int.eq_of_mul_eq_mul_left (by omega) h3
    omega
  · intro h1
    rw [h1]; simp
theorem eqv_pair {p q r s : Int} : PyData.eqv (dP p q) (dP r s) = (decide (p = r) && decide (q = s)) := by
  simp [PyData.eqv, PyData.eqvAll]
  by_cases h : p = r <;> by_cases h' : q = s <;> simp [h, h']
def isNum : D → Bool
  | .tuple [.int p, .int q] => numB p q
  | _ => false
theorem isNum_off {v : D} (h : isOff v = false) : isNum v = false := by
  unfold isNum
  split
  · cases h
  · rfl
theorem wf_is_number {v : D} (hv : noD2 v = true) (hb : ∀ p q, v = dP p q → B 8999 q) (k : K (.dat (.bool (isNum v))) .emp) : WF F_is_number [.dat v] K := by
  rw [b_is_number]
  simp only [↓ir_is_number, ↓RUN, POST, ↓k_is_number_is_pair, ↓k_is_number_is_integer, ↓k_is_number_lowest]
  refine wf_is_pair (noD2_1 hv) ?_
  by_cases hp : isPair v = true
  · obtain ⟨x, y, rfl⟩ := isPair_ok hp
    have hv' : noDict x = true ∧ noDict y = true := by simpa [noD2] using hv
    simp only [↓RUN, POST, show isPair (.tuple [x, y]) = true from rfl]
    refine wf_is_integer hv'.1 ?_
    simp only [↓RUN, POST]
    cases h1 : isInt x
    · simp only [↓RUN, POST]
      simpa only [isNum_off (v := .tuple [x, y]) (by simp [isOff, h1])] using k
    · simp only [↓RUN, POST]
      refine wf_is_integer hv'.2 ?_
      simp only [↓RUN, POST]
      cases h2 : isInt y
      · simp only [↓RUN, POST]
        simpa only [isNum_off (v := .tuple [x, y]) (by simp [isOff, h2])] using k
      · obtain ⟨p, rfl⟩ := isInt_ok h1
        obtain ⟨q, rfl⟩ := isInt_ok h2
        simp only [↓RUN, POST]
        by_cases hq : q < 1
        · simp only [decide_eq_true hq, ↓RUN, POST]
          have : isNum (dP p q) = false := by simp [isNum, numB]; omega
          rwa [this] at k
        · simp only [decide_eq_false hq, ↓RUN, POST]
          refine wf_lowest (by omega) (hb p q rfl) (by omega) ?_
          simp only [↓RUN, POST]
          refine p_eqD rfl rfl ?_
          rw [eqv_pair]
          have : (decide (lowT p q = p) && decide (lowB p q = q)) = isNum (dP p q) := by
            rw [← Bool.decide_and]
            show _ = (decide (1 ≤ q) && decide (Int.gcd p q = 1))
            rw [decide_eq_true (show 1 ≤ q by omega), Bool.true_and]
            exact decide_eq_decide.mpr (low_num (by omega))
          rw [this]; exact k
  · have : isNum v = false := isNum_off (pairNot hp).1
    rw [this] at k
    simp only [↓RUN, POST, Bool.eq_false_iff.mpr hp]
    exact k
end Df

namespace Df
open PySem Lt
variable {K : Cell → Cell → Prop}
theorem numB_B {p q : Int} (h : numB p q = true) : 1 ≤ q ∧ Int.gcd p q = 1 := by simpa [numB] using h
abbrev dQ (p q r s : Int) : D := .tuple [.tuple [.int p, .int q], .tuple [.int r, .int s]]
theorem wf_is_point {p q r s : Int} (h1 : numB p q = true) (h2 : numB r s = true) (hq : B 8999 q) (hs : B 8999 s) (k : K (.dat (.bool true)) .emp) : WF F_is_point [.dat (dQ p q r s)] K := by
  rw [b_is_point]
  simp only [↓ir_is_point, ↓RUN, POST, ↓k_is_point_is_pair, ↓k_is_point_is_number]
  refine wf_is_pair rfl ?_
  simp only [↓RUN, POST, show isPair (dQ p q r s) = true from rfl]
  refine wf_is_number rfl (fun p' q' e => by cases e; exact hq) ?_
  simp only [↓RUN, POST, show isNum (dP p q) = true from h1]
  refine wf_is_number rfl (fun p' q' e => by cases e; exact hs) ?_
  simp only [↓RUN, POST, show isNum (dP r s) = true from h2]
  exact k
theorem wf_check_table {t : Tb} (k : K (.dat .none) .emp) : WF F_check_table [.dat (dT t)] K := by
  rw [b_check_table]
  simp only [↓ir_check_table, ↓RUN, POST, ↓k_check_table_is_table]
  refine wf_is_table rfl ?_
  simp only [↓RUN, POST, isTab_dT]
  exact k
theorem wf_check_offset {x y : Int} (k : K (.dat .none) .emp) : WF F_check_offset [.dat (dP x y)] K := by
  rw [b_check_offset]
  simp only [↓ir_check_offset, ↓RUN, POST, ↓k_check_offset_is_offset]
  refine wf_is_offset rfl ?_
  simp only [↓RUN, POST, isOff_dP]
  exact k
theorem wf_check_point {p q r s : Int} (h1 : numB p q = true) (h2 : numB r s = true) (hq : B 8999 q) (hs : B 8999 s) (k : K (.dat .none) .emp) : WF F_check_point [.dat (dQ p q r s)] K := by
  rw [b_check_point]
  simp only [↓ir_check_point, ↓RUN, POST, ↓k_check_point_is_point]
  refine wf_is_point h1 h2 hq hs ?_
  simp only [↓RUN, POST]
  exact k
/-- the table that a value is -/
def tabOf : D → Tb
  | .tuple [.tuple [.int a, .int b], .tuple [.int c, .int d]] => ⟨a, b, c, d⟩
  | _ => .one
def isGrow (v : D) : Bool := isTab v && (tabOf v).grow
theorem isGrow_dT {t : Tb} : isGrow (dT t) = t.grow := by simp [isGrow, tabOf, isTab_dT]
theorem wf_is_growing {v : D} {n : Nat} (hv : noD3 v = true) (hb : ∀ t, v = dT t → TB n t) (hn : n ≤ 400000) (k : K (.dat (.bool (isGrow v))) .emp) : WF F_is_growing [.dat v] K := by
  rw [b_is_growing]
  simp only [↓ir_is_growing, ↓RUN, POST, ↓k_is_growing_is_table, ↓k_is_growing_determinant_of]
  refine wf_is_table hv ?_
  cases ht : isTab v
  · simp only [↓RUN, POST]
    simpa only [isGrow, ht, Bool.false_and] using k
  · obtain ⟨t, rfl⟩ := isTab_ok ht
    simp only [↓RUN, POST]
    refine wf_determinant_of (hb t rfl) hn ?_
    simp only [↓RUN, POST]
    rw [isGrow_dT] at k
    have e : ∀ b, (t.grow = true ↔ b = true) → K (.dat (.bool b)) .emp := fun b h => (Bool.eq_iff_iff.mpr h) ▸ k
    refine IT.dec (fun h1 => e _ ?_) fun h1 => e _ ?_
    all_goals
      rw [Tb.grow_iff]
      simp only [Bool.and_eq_true, decide_eq_true_eq]
      omega
theorem wf_growing {t : Tb} {n : Nat} (hb : TB n t) (hn : n ≤ 400000) (k : K (.dat (.bool t.grow)) .emp) : WF F_is_growing [.dat (dT t)] K :=
  wf_is_growing rfl (fun t' e => by cases t; cases t'; cases e; exact hb) hn (by rw [isGrow_dT]; exact k)
theorem wf_check_growing {t : Tb} {n : Nat} (hg : t.grow = true) (hb : TB n t) (hn : n ≤ 400000) (k : K (.dat .none) .emp) : WF F_check_growing [.dat (dT t)] K := by
  rw [b_check_growing]
  simp only [↓ir_check_growing, ↓RUN, POST, ↓k_check_growing_is_growing]
  refine wf_growing hb hn ?_
  simp only [↓RUN, POST, hg]
  exact k
theorem wf_determinant {t : Tb} {n : Nat} (h : TB n t) (hn : n ≤ 400000) (k : K (.dat (.int t.det)) .emp) : WF F_determinant [.dat (dT t)] K := by
  rw [b_determinant]
  simp only [↓ir_determinant, ↓RUN, POST, ↓k_determinant_check_table, ↓k_determinant_determinant_of]
  refine wf_check_table ?_
  try simp only [↓RUN, POST]
  refine wf_determinant_of h hn ?_
  try simp only [↓RUN, POST]
  exact k
theorem wf_trace {t : Tb} (k : K (.dat (.int t.tr)) .emp) : WF F_trace [.dat (dT t)] K := by
  rw [b_trace]
  simp only [↓ir_trace, ↓RUN, POST, ↓k_trace_check_table]
  refine wf_check_table ?_
  try simp only [↓RUN, POST]
  exact k
theorem wf_times {t : Tb} {x y : Int} {n m : Nat} (h : TB n t) (hx : B m x) (hy : B m y) (hn : n + m ≤ 900000) (k : K (.dat (dP (t.a * x + t.b * y) (t.c * x + t.d * y))) .emp) : WF F_times [.dat (dT t), .dat (dP x y)] K := by
  rw [b_times]
  simp only [↓ir_times, ↓RUN, POST, ↓k_times_check_table, ↓k_times_check_offset, ↓k_times_times_of]
  refine wf_check_table ?_
  try simp only [↓RUN, POST]
  refine wf_check_offset ?_
  try simp only [↓RUN, POST]
  refine wf_times_of h hx hy hn ?_
  try simp only [↓RUN, POST]
  exact k
theorem wf_product {s t : Tb} {n m : Nat} (h : TB n s) (h' : TB m t) (hn : n + m ≤ 900000) (k : K (.dat (dT (s.mul t))) .emp) : WF F_product [.dat (dT s), .dat (dT t)] K := by
  rw [b_product]
  simp only [↓ir_product, ↓RUN, POST, ↓k_product_check_table, ↓k_product_product_of_tables]
  refine wf_check_table ?_
  try simp only [↓RUN, POST]
  refine wf_check_table ?_
  try simp only [↓RUN, POST]
  refine wf_product_of_tables h h' hn ?_
  try simp only [↓RUN, POST]
  exact k
theorem wf_power {t : Tb} {n : Nat} {m : Nat} (h : TB n t) (hn : m * (n + 1) + n + 1 ≤ 900000) (hm : m ≤ 100000) (k : K (.dat (dT (t.pow m))) .emp) : WF F_power [.dat (dT t), .dat (.int (m : Int))] K := by
  rw [b_power]
  simp only [↓ir_power, ↓RUN, POST, ↓k_power_check_table, ↓k_power_is_integer, ↓k_power_power_of]
  refine wf_check_table ?_
  try simp only [↓RUN, POST]
  refine wf_is_integer rfl ?_
  simp only [↓RUN, POST, show isInt (.int (m : Int)) = true from rfl, decide_eq_false (show ¬ (m : Int) < 0 by omega)]
  refine wf_power_of h hn hm ?_
  try simp only [↓RUN, POST]
  exact k
/-- the point that a table takes to a point -/
structure Pt where
  x : Int
  bx : Int
  y : Int
  yb : Int
abbrev dPt (p : Pt) : D := .tuple [.tuple [.int p.x, .int p.bx], .tuple [.int p.y, .int p.yb]]
structure PB (n : Nat) (p : Pt) : Prop where
  x : B n p.x
  bx : B n p.bx
  y : B n p.y
  yb : B n p.yb
  px : numB p.x p.bx = true
  py : numB p.y p.yb = true
theorem PB.hx {n : Nat} {p : Pt} (h : PB n p) : 1 ≤ p.bx := (numB_B h.px).1
theorem PB.hy {n : Nat} {p : Pt} (h : PB n p) : 1 ≤ p.yb := (numB_B h.py).1
def solX (t : Tb) (p : Pt) : Int := t.d * p.x * p.yb - t.b * p.y * p.bx
def solY (t : Tb) (p : Pt) : Int := t.a * p.y * p.bx - t.c * p.x * p.yb
def solB (t : Tb) (p : Pt) : Int := t.det * p.bx * p.yb
def sol (t : Tb) (p : Pt) : Pt := ⟨lowT (solX t p) (solB t p), lowB (solX t p) (solB t p), lowT (solY t p) (solB t p), lowB (solY t p) (solB t p)⟩
theorem solB_ne {t : Tb} {p : Pt} {m : Nat} (hd : t.det ≠ 0) (h : PB m p) : solB t p ≠ 0 := by
  have h1 := h.hx
  have h2 := h.hy
  exact Int.mul_ne_zero (Int.mul_ne_zero hd (by omega)) (by omega)
theorem wf_solved {t : Tb} {p : Pt} {n m : Nat} (h : TB n t) (hd : t.det ≠ 0) (hp : PB m p) (hn : n + n + 1 + m + m ≤ 8999) (k : K (.dat (dPt (sol t p))) .emp) : WF F_solved [.dat (dT t), .dat (dPt p)] K := by
  have h0 := solB_ne hd hp
  have hB : B (n + n + 1 + m + m) (solB t p) := ((h.det.mul hp.bx).mul hp.yb)
  rw [b_solved]
  simp only [↓ir_solved, ↓RUN, POST, ↓k_solved_determinant_of, ↓k_solved_lowest]
  refine wf_determinant_of h (by omega) ?_
  try simp only [↓RUN, POST]
  refine ⟨h.det.mulOk hp.bx (by omega), (h.det.mul hp.bx).mulOk hp.yb (by omega), h.d.mulOk hp.x (by omega), (h.d.mul hp.x).mulOk hp.yb (by omega), h.b.mulOk hp.y (by omega), (h.b.mul hp.y).mulOk hp.bx (by omega), ?_⟩
  refine wf_lowest h0 hB (by omega) ?_
  try simp only [↓RUN, POST]
  refine ⟨h.a.mulOk hp.y (by omega), (h.a.mul hp.y).mulOk hp.bx (by omega), h.c.mulOk hp.x (by omega), (h.c.mul hp.x).mulOk hp.yb (by omega), ?_⟩
  refine wf_lowest h0 hB (by omega) ?_
  try simp only [↓RUN, POST]
  exact k
theorem wf_undone {t : Tb} {p : Pt} {n m : Nat} (h : TB n t) (hg : t.grow = true) (hd : t.det ≠ 0) (hp : PB m p) (hn : n + n + 1 + m + m ≤ 8999) (k : K (.dat (dPt (sol t p))) .emp) : WF F_undone [.dat (dT t), .dat (dPt p)] K := by
  rw [b_undone]
  simp only [↓ir_undone, ↓RUN, POST, ↓k_undone_check_growing, ↓k_undone_check_point, ↓k_undone_solved]
  refine wf_check_growing hg h (by omega) ?_
  try simp only [↓RUN, POST]
  refine wf_check_point hp.px hp.py (hp.bx.mono (by omega)) (hp.yb.mono (by omega)) ?_
  try simp only [↓RUN, POST]
  refine wf_solved h hd hp hn ?_
  try simp only [↓RUN, POST]
  exact k
/-- it takes the axes to the axes -/
def one0 (x y : Int) : Bool := decide ((if x = 0 then 1 else 0) + (if y = 0 then 1 else 0) = (1 : Nat))
def Tb.ax (t : Tb) : Bool := one0 t.a t.b && one0 t.c t.d
theorem cnt2 {x y : Int} : ([PyData.int x, PyData.int y].countP fun z => PyData.eqv z (.int 0)) = (if x = 0 then 1 else 0) + (if y = 0 then 1 else 0) := by
  simp only [List.countP_cons, List.countP_nil, eqv_int, decide_eq_true_eq]
  omega
theorem shp2 {x y z : Int} : (SeqAt.shaped (.tuple [.int x, .int y]) && SeqAt.shaped (.int z)) = true := rfl
theorem wf_has_axes {t : Tb} (k : K (.dat (.bool t.ax)) .emp) : WF F_has_axes [.dat (dT t)] K := by
  rw [b_has_axes]
  simp only [↓ir_has_axes, ↓RUN, POST]
  refine ⟨rfl, rfl, f_all (bs := [_, _]) rfl ?_⟩
  rw [cnt2, cnt2]
  have e : ([decide ((((if t.a = 0 then 1 else 0) + (if t.b = 0 then 1 else 0) : Nat) : Int) = 1), decide ((((if t.c = 0 then 1 else 0) + (if t.d = 0 then 1 else 0) : Nat) : Int) = 1)].all id) = t.ax := by
    simp only [List.all_cons, List.all_nil, id, Bool.and_true, Tb.ax, one0]
    congr 1 <;> exact decide_eq_decide.mpr (by omega)
  rw [e]
  exact k
def Tb.axFrom (t : Tb) : Nat → Nat → Option Nat
  | _, 0 => none
  | j, m + 1 => if (t.pow j).ax then some j else t.axFrom (j + 1) m
/-- the least power to 8 that takes the axes to the axes -/
def Tb.axes (t : Tb) : Option Nat := t.axFrom 1 8
def dO : Option Nat → D
  | none => .none
  | some j => .int (j : Int)
theorem axFrom_step {t : Tb} {j m : Nat} : t.axFrom j (m + 1) = if (t.pow j).ax then some j else t.axFrom (j + 1) m := rfl
theorem wf_axes_of {t : Tb} {n : Nat} (h : TB n t) (hn : n ≤ 10000) (k : K (.dat (dO t.axes)) .emp) : WF F_axes_of [.dat (dT t)] K := by
  rw [b_axes_of]
  simp only [↓ir_axes_of, ↓RUN, POST, ↓g_axes_of_UNIT, ↓g_axes_of_MOST_AXES]
  refine rng2 (by decide) ?_
  show WP (forL _ _ (rngL 1 8) _) _
  refine fo_range (fun i ρ => (∃ c, ρ = [.dat (dT t), .dat (dT (t.pow i)), c]) ∧ t.axes = t.axFrom (i + 1) (8 - i)) ⟨⟨_, rfl⟩, rfl⟩ (fun i ρ hi hI => ?_) fun ρ hI => ?_
  · obtain ⟨⟨c, rfl⟩, hx⟩ := hI
    simp only [↓RUN, POST, ↓k_axes_of_product_of_tables, ↓k_axes_of_has_axes]
    have hi' : i * (n + 1) ≤ 8 * (n + 1) := Nat.mul_le_mul_right _ (by omega)
    refine wf_product_of_tables h (TB.pow h i) (by omega) ?_
    try simp only [↓RUN, POST]
    refine wf_has_axes (t := t.pow (i + 1)) ?_
    try simp only [↓RUN, POST]
    rw [show 8 - i = (8 - (i + 1)) + 1 by omega, axFrom_step] at hx
    cases ha : (t.pow (i + 1)).ax
    · simp only [↓RUN, POST]
      rw [ha, if_neg Bool.false_ne_true] at hx
      exact ⟨⟨_, rfl⟩, hx⟩
    · simp only [↓RUN, POST]
      rw [ha, if_pos rfl] at hx
      rw [hx] at k
      have e : ((i + 1 : Nat) : Int) = 1 + (i : Int) := by omega
      simpa only [dO, e] using k
  · obtain ⟨⟨c, rfl⟩, hx⟩ := hI
    simp only [↓RUN, POST]
    rw [hx] at k
    exact k
theorem wf_axes {t : Tb} {n : Nat} (h : TB n t) (hg : t.grow = true) (hn : n ≤ 10000) (k : K (.dat (dO t.axes)) .emp) : WF F_axes [.dat (dT t)] K := by
  rw [b_axes]
  simp only [↓ir_axes, ↓RUN, POST, ↓k_axes_check_growing, ↓k_axes_axes_of]
  refine wf_check_growing hg h (by omega) ?_
  try simp only [↓RUN, POST]
  refine wf_axes_of h hn ?_
  try simp only [↓RUN, POST]
  exact k
end Df

/-! What the laws' own first defs give. -/
namespace Df
open PySem Lt
variable {K : Cell → Cell → Prop}
/-- a deck's two numbers -/
def Dk (p q : Int) : Prop := 0 ≤ p ∧ 0 ≤ q ∧ q < 18446744073709551616
abbrev dk (p q : Int) : Cell := .own [.int p, .int q]
theorem mulOk_l {i j : Int} (h : i.natAbs < 2 ^ 64) : mulOk i j = true := mulOk_small h
theorem mulOk_r {i j : Int} (h : j.natAbs < 2 ^ 64) : mulOk i j = true := mulOk_smallR h
theorem fmod_lt {a m : Int} (h : 0 < m) : 0 ≤ a.fmod m ∧ a.fmod m < m := by
  rw [Int.fmod_eq_emod_of_nonneg _ (by omega)]
  exact ⟨Int.emod_nonneg _ (by omega), Int.emod_lt_of_pos _ h⟩
theorem fdiv_nn {a m : Int} (h : 0 < m) (h0 : 0 ≤ a) : 0 ≤ a.fdiv m := by
  rw [fdiv_pos h]
  exact Int.ediv_nonneg h0 (by omega)
theorem wf_law_deck {ns : List Int} {i : Nat} (ha : i < 1000) (k : ∀ p q, Dk p q → K (dk p q) .emp) : WF F_law_deck [.dat (scr ns), .dat (.int (i : Int))] K := by
  rw [b_law_deck]
  simp only [↓ir_law_deck, ↓RUN, POST, ↓lenScr]
  have m1 : mulOk 7919 (i : Int) = true := mulOk_l (by decide)
  have m2 : mulOk 31 (i : Int) = true := mulOk_l (by decide)
  have m3 : ∀ a b : Int, mulOk (a.fmod 2305843009213693951) b = true := fun a b => by
    have := fmod_lt (a := a) (m := 2305843009213693951) (by decide)
    exact mulOk_l (by omega)
  have m4 : ∀ a b : Int, mulOk b (a.fmod 2305843009213693951) = true := fun a b => by
    have := fmod_lt (a := a) (m := 2305843009213693951) (by decide)
    exact mulOk_r (by omega)
  have fin : ∀ a b : Int, 0 ≤ a → K (dk a (b.fmod 2305843009213693951)) .emp := fun a b h => by
    have := fmod_lt (a := b) (m := 2305843009213693951) (by decide)
    exact k _ _ ⟨h, this.1, by omega⟩
  refine IT.dec (fun h => ?_) fun h => ?_
  · have hl : i < ns.length := by omega
    refine atScr (List.getElem?_eq_getElem hl) ?_
    simp only [↓RUN, POST, m1, m2, m3, m4]
    refine ⟨by decide, by decide, IT.dec (fun h2 => fin _ _ (by decide)) fun h2 => fin _ _ (by omega)⟩
  · simp only [↓RUN, POST, m1, m2, m3, m4]
    refine ⟨by decide, by decide, IT.dec (fun h2 => fin _ _ (by decide)) fun h2 => fin _ _ (by omega)⟩
theorem wf_law_take {p q m : Int} (hd : Dk p q) (h0 : 0 < m) (hm : B 8000 m) (k : ∀ r p' q', Dk p' q' → 0 ≤ r → r < m → K (.dat (.int r)) (dk p' q')) : WF F_law_take [dk p q, .dat (.int m)] K := by
  obtain ⟨d1, d2, d3⟩ := hd
  rw [b_law_take]
  simp only [↓ir_law_take, ↓RUN, POST]
  refine IT.dec (fun h => ⟨by omega, hm.divOk (by omega) (by omega), ?_⟩) fun h => ?_
  · have := fmod_lt (a := p) h0
    exact k _ _ _ ⟨fdiv_nn h0 d1, d2, d3⟩ this.1 this.2
  · have e := fmod_lt (a := q * 6364136223846793005 + 1442695040888963407) (m := 18446744073709551616) (by decide)
    refine ⟨mulOk_r (by decide), by decide, by decide, by omega, ?_⟩
    have := fmod_lt (a := ((q * 6364136223846793005 + 1442695040888963407).fmod 18446744073709551616).fdiv 8589934592) h0
    exact k _ _ _ ⟨d1, e.1, e.2⟩ this.1 this.2
theorem wf_law_gcd {u v : Nat} (hv : (v : Int).natAbs < 2 ^ 90000) (k : K (.dat (.int (Nat.gcd u v : Nat))) .emp) : WF F_law_gcd [.dat (.int (u : Int)), .dat (.int (v : Int))] K := by
  rw [b_law_gcd]
  simp only [↓ir_law_gcd, ↓RUN, POST]
  refine wh_inv (fun m ρ => ∃ u' v' : Nat, ρ = [.dat (.int (u' : Int)), .dat (.int (v' : Int))] ∧ m = v' ∧ Nat.gcd u' v' = Nat.gcd u v) v (fuel_lt (by rwa [Int.natAbs_natCast] at hv) (by decide)) ⟨u, v, rfl, rfl, rfl⟩ fun m ρ hI => ?_
  obtain ⟨u', v', rfl, rfl, hg⟩ := hI
  try simp only [↓RUN, POST]
  cases hz : decide ((m : Int) = 0)
  · have hz' : m ≠ 0 := fun z => by rw [z] at hz; simp at hz
    try simp only [↓RUN, POST]
    refine ⟨by omega, u' % m, Nat.mod_lt _ (by omega), m, u' % m, ?_, rfl, ?_⟩
    · rw [Int.fmod_eq_emod_of_nonneg _ (by omega)]; rfl
    · rw [← hg, Nat.gcd_comm u' m, Nat.gcd_rec m u', Nat.gcd_comm]
  · have hz' : m = 0 := by simpa using hz
    subst hz'
    try simp only [↓RUN, POST]
    rw [← hg, Nat.gcd_zero_right] at k
    exact k
theorem abs_nat {i : Int} : (if i < 0 then -i else i) = ((i.natAbs : Nat) : Int) := by split <;> omega
theorem wf_law_pair {p q : Int} {n : Nat} (h0 : q ≠ 0) (hq : B n q) (hn : n ≤ 8999) (k : K (.dat (dP (lowT p q) (lowB p q))) .emp) : WF F_law_pair [.dat (.int p), .dat (.int q)] K := by
  have gp := gcd_pos (p := p) h0
  have e : ((Nat.gcd p.natAbs q.natAbs : Nat) : Int) = (Int.gcd p q : Int) := rfl
  rw [b_law_pair]
  simp only [↓ir_law_pair, ↓RUN, POST, ↓k_law_pair_law_gcd, abs_nat]
  refine wf_law_gcd ?_ ?_
  · have h2 : q.natAbs < 2 ^ n := hq
    have : (2 : Nat) ^ n ≤ 2 ^ 90000 := Nat.pow_le_pow_right (by decide) (by omega)
    rw [Int.natAbs_natCast]; exact Nat.lt_of_lt_of_le h2 this
  · simp only [↓RUN, POST, e]
    refine IT.dec (fun hz => ?_) fun hz => ?_
    · refine ⟨(hq.gcd h0).neg.divOk (by omega) hn, (hq.gcd h0).neg.divOk (by omega) hn, ?_⟩
      rw [fdiv_neg gp (Int.gcd_dvd_left ..), fdiv_neg gp (Int.gcd_dvd_right ..)]
      simpa only [lowT, lowB, if_pos hz] using k
    · refine ⟨(hq.gcd h0).divOk (by omega) hn, (hq.gcd h0).divOk (by omega) hn, ?_⟩
      rw [fdiv_pos gp, fdiv_pos gp]
      simpa only [lowT, lowB, if_neg hz] using k
theorem wf_law_plus {p q r s : Int} {l n : Nat} (hp : B l p) (hq : B n q) (hr : B l r) (hs : B n s) (h0 : q ≠ 0) (h1 : s ≠ 0) (hn : n + n ≤ 8999) (hl : l + n ≤ 800000) (k : K (.dat (dP (lowT (p * s + r * q) (q * s)) (lowB (p * s + r * q) (q * s)))) .emp) : WF F_law_plus [.dat (dP p q), .dat (dP r s)] K := by
  rw [b_law_plus]
  simp only [↓ir_law_plus, ↓RUN, POST, ↓k_law_plus_law_pair]
  refine ⟨hp.mulOk hs (by omega), hr.mulOk hq (by omega), hq.mulOk hs (by omega), ?_⟩
  refine wf_law_pair (Int.mul_ne_zero h0 h1) (hq.mul hs) hn ?_
  try simp only [↓RUN, POST]
  exact k
theorem wf_law_times {p q r s : Int} {l n : Nat} (hp : B l p) (hq : B n q) (hr : B l r) (hs : B n s) (h0 : q ≠ 0) (h1 : s ≠ 0) (hn : n + n ≤ 8999) (hl : l + l ≤ 800000) (k : K (.dat (dP (lowT (p * r) (q * s)) (lowB (p * r) (q * s)))) .emp) : WF F_law_times [.dat (dP p q), .dat (dP r s)] K := by
  rw [b_law_times]
  simp only [↓ir_law_times, ↓RUN, POST, ↓k_law_times_law_pair]
  refine ⟨hp.mulOk hr (by omega), hq.mulOk hs (by omega), ?_⟩
  refine wf_law_pair (Int.mul_ne_zero h0 h1) (hq.mul hs) hn ?_
  try simp only [↓RUN, POST]
  exact k
theorem wf_law_less {p q r s : Int} {n : Nat} (hp : B n p) (hq : B n q) (hr : B n r) (hs : B n s) (hn : n + n ≤ 800000) (k : K (.dat (.bool (decide (p * s - r * q < 0)))) .emp) : WF F_law_less [.dat (dP p q), .dat (dP r s)] K := by
  rw [b_law_less]
  simp only [↓ir_law_less, ↓RUN, POST]
  exact ⟨hp.mulOk hs (by omega), hr.mulOk hq (by omega), k⟩
theorem wf_law_det {t : Tb} {n : Nat} (h : TB n t) (hn : n ≤ 400000) (k : K (.dat (.int t.det)) .emp) : WF F_law_det [.dat (dT t)] K := by
  rw [b_law_det]
  simp only [↓ir_law_det, ↓RUN, POST]
  exact ⟨h.a.mulOk h.d (by omega), h.b.mulOk h.c (by omega), k⟩
theorem wf_law_growing {t : Tb} {n : Nat} (h : TB n t) (hn : n ≤ 400000) (k : K (.dat (.bool t.grow)) .emp) : WF F_law_growing [.dat (dT t)] K := by
  rw [b_law_growing]
  simp only [↓ir_law_growing, ↓RUN, POST, ↓k_law_growing_law_det]
  refine wf_law_det h hn ?_
  simp only [↓RUN, POST, abs_nat]
  have e : ∀ b, (t.grow = true ↔ b = true) → K (.dat (.bool b)) .emp := fun b h => (Bool.eq_iff_iff.mpr h) ▸ k
  refine IT.dec (fun h1 => e _ ?_) fun h1 => e _ ?_
  all_goals
    rw [Tb.grow_iff]
    simp only [Bool.and_eq_true, decide_eq_true_eq]
    omega
theorem wf_law_ahead {t : Tb} {x y : Int} {n m : Nat} (h : TB n t) (hx : B m x) (hy : B m y) (hn : n + m ≤ 900000) (k : K (.dat (dP (t.a * x + t.b * y) (t.c * x + t.d * y))) .emp) : WF F_law_ahead [.dat (dT t), .dat (dP x y)] K := by
  rw [b_law_ahead]
  simp only [↓ir_law_ahead, ↓RUN, POST]
  exact ⟨h.a.mulOk hx hn, h.b.mulOk hy hn, h.c.mulOk hx hn, h.d.mulOk hy hn, k⟩
theorem wf_law_add {x y z w : Int} (k : K (.dat (dP (x + z) (y + w))) .emp) : WF F_law_add [.dat (dP x y), .dat (dP z w)] K := by
  rw [b_law_add]
  simp only [↓ir_law_add, ↓RUN, POST]
  exact k
/-! ### the same -/
mutual
/-- a value of few levels -/
def smOk : Nat → D → Bool
  | k, .list xs => smOks k xs && decide (xs.length ≤ 1000000)
  | k, .tuple xs => smOks k xs && decide (xs.length ≤ 1000000)
  | _, .dict _ => false
  | _, .none => true
  | _, .bool _ => true
  | _, .int _ => true
  | _, .str _ => true
def smOks : Nat → List D → Bool
  | _, [] => true
  | 0, _ :: _ => false
  | k + 1, x :: xs => smOk k x && smOks (k + 1) xs
end
theorem smOks_mem {k : Nat} : ∀ {xs : List D}, smOks (k + 1) xs = true → ∀ x ∈ xs, smOk k x = true
  | [], _, x, h => by cases h
  | y :: ys, h, x, hx => by
    obtain ⟨h1, h2⟩ := Bool.and_eq_true_iff.mp (show (smOk k y && smOks (k + 1) ys) = true from h)
    rcases List.mem_cons.mp hx with e | e
    · rw [e]; exact h1
    · exact smOks_mem h2 x e
theorem smOks_zero : ∀ {xs : List D}, smOks 0 xs = true → xs = []
  | [], _ => rfl
  | _ :: _, h => by cases h
theorem same_seq {k : Nat} {xs : List D} (ih : ∀ x ∈ xs, ∀ {K : Cell → Cell → Prop}, K (.dat (.bool true)) .emp → WF (F_law_same k) [.dat x, .dat x] K) {d : D} (hd : d = .list xs ∨ d = .tuple xs) {Q : List D → Rho → Prop} (hQ : ∀ ρ2, backR [.dat d, .dat d, .emp] ρ2 [2] = [.dat d, .dat d, .emp] → Q [] ρ2) :
    WP (lcLoop (lcTurn (T_law_same (fnr_law_same k)) (.var 2) (.n 2) (.so (.not (.call 33 (.cons (.idx (.var 0) (.var 2)) (.cons (.idx (.var 1) (.var 2)) .nil)) [] .nil)))) [2] (rngL 0 xs.length) [.dat d, .dat d, .emp]) Q := by
  refine lc_pure (fun _ => none) (fun e he => ?_) fun ρ2 hb _ => ?_
  · obtain ⟨i, hi, rfl⟩ := List.mem_map.mp he
    have hi' : i < xs.length := List.mem_range.mp hi
    have hx : xs[i]? = some xs[i] := List.getElem?_eq_getElem hi'
    rw [lc_turn]
    simp only [↓RUN, POST, Int.zero_add, ↓k_law_same_law_same]
    rcases hd with rfl | rfl
    · refine ixLn hx (ixLn hx ?_)
      try simp only [↓RUN, POST]
      refine ih _ (List.getElem_mem hi') ?_
      try simp only [↓RUN, POST]
    · refine ixTn hx (ixTn hx ?_)
      try simp only [↓RUN, POST]
      refine ih _ (List.getElem_mem hi') ?_
      try simp only [↓RUN, POST]
  · have : (rngL 0 xs.length).filterMap (fun _ => (none : Option D)) = [] := List.filterMap_eq_nil_iff.mpr fun _ _ => rfl
    rw [this]; exact hQ ρ2 hb
theorem same_one {k : Nat} {d : D} {K : Cell → Cell → Prop} (ih : ∀ xs, (d = .list xs ∨ d = .tuple xs) → xs.length ≤ 1000000 ∧ ∀ x ∈ xs, ∀ {K : Cell → Cell → Prop}, K (.dat (.bool true)) .emp → WF (F_law_same k) [.dat x, .dat x] K) (hn : noDict d = true) (hK : K (.dat (.bool true)) .emp) : WF (F_law_same (k + 1)) [.dat d, .dat d] K := by
  rw [b_law_same]
  cases d with
  | list xs =>
    obtain ⟨h1, h2⟩ := ih xs (.inl rfl)
    simp only [↓ir_law_same, ↓RUN, POST]
    refine rng1 (by omega) ?_
    refine same_seq h2 (.inl rfl) fun ρ2 hb => ?_
    refine p_eqD rfl rfl ?_
    exact hK
  | tuple xs =>
    obtain ⟨h1, h2⟩ := ih xs (.inr rfl)
    simp only [↓ir_law_same, ↓RUN, POST]
    refine rng1 (by omega) ?_
    refine same_seq h2 (.inr rfl) fun ρ2 hb => ?_
    refine p_eqD rfl rfl ?_
    exact hK
  | dict _ => cases hn
  | str s =>
    simp only [↓ir_law_same, ↓RUN, POST]
    exact hK
  | _ => simp only [↓ir_law_same, ↓RUN, POST]; exact hK
theorem wf_law_same : ∀ {k : Nat} {d : D} {K : Cell → Cell → Prop}, smOk k d = true → K (.dat (.bool true)) .emp → WF (F_law_same (k + 1)) [.dat d, .dat d] K := by
  intro k
  induction k with
  | zero =>
    intro d K hd hK
    refine same_one (fun xs e => ?_) (by cases d <;> first | rfl | cases hd) hK
    have h : smOks 0 xs = true ∧ decide (xs.length ≤ 1000000) = true := by
      rcases e with rfl | rfl <;> exact Bool.and_eq_true_iff.mp hd
    cases smOks_zero h.1
    exact ⟨by decide, fun x hx => by cases hx⟩
  | succ k ih =>
    intro d K hd hK
    refine same_one (fun xs e => ?_) (by cases d <;> first | rfl | cases hd) hK
    have h : smOks (k + 1) xs = true ∧ decide (xs.length ≤ 1000000) = true := by
      rcases e with rfl | rfl <;> exact Bool.and_eq_true_iff.mp hd
    exact ⟨by simpa using h.2, fun x hx {K} hK => ih (smOks_mem h.1 x hx) hK⟩
/-- an item of a list of tables at a drawn place -/
theorem ix_tabs {ts : List Tb} {r : Int} {Q : D → Prop} (h0 : 0 ≤ r) (h1 : r < ts.length) (k : ∀ t ∈ ts, Q (dT t)) : WV (idxD (.list (ts.map fun t => dT t)) (.int r)) Q := by
  obtain ⟨i, rfl⟩ := Int.eq_ofNat_of_zero_le h0
  have hi : i < ts.length := by omega
  exact ixLn (d := dT ts[i]) (by simp [hi]) (k _ (List.getElem_mem hi))
def grids : List Tb := [⟨2, 0, 0, 2⟩, ⟨3, 0, 0, 3⟩, ⟨1, -1, 1, 1⟩, ⟨0, 2, 1, 0⟩, ⟨0, -2, 1, 1⟩, ⟨2, 0, 0, -3⟩, ⟨0, -3, 2, 0⟩, ⟨1, 1, -1, 2⟩, ⟨2, 1, 0, 2⟩, ⟨-1, -2, 1, -1⟩, ⟨0, 3, 1, -1⟩]
/-- what the drawn tables are -/
structure Grid (t : Tb) : Prop where
  g : t.grow = true
  a : -3 ≤ t.a ∧ t.a ≤ 3
  b : -3 ≤ t.b ∧ t.b ≤ 3
  c : -3 ≤ t.c ∧ t.c ≤ 3
  d : -3 ≤ t.d ∧ t.d ≤ 3
  h : -9 ≤ t.det ∧ t.det ≤ 9
theorem Grid.tb {t : Tb} (h : Grid t) : TB 2 t := by
  have ⟨_, a, b, c, d, _⟩ := h
  refine ⟨?_, ?_, ?_, ?_⟩ <;> (show Int.natAbs _ < 4; omega)
theorem grids_ok : ∀ t ∈ grids, Grid t := by
  intro t h
  have : t.grow = true ∧ (-3 ≤ t.a ∧ t.a ≤ 3) ∧ (-3 ≤ t.b ∧ t.b ≤ 3) ∧ (-3 ≤ t.c ∧ t.c ≤ 3) ∧ (-3 ≤ t.d ∧ t.d ≤ 3) ∧ -9 ≤ t.det ∧ t.det ≤ 9 := by
    revert t; unfold grids; decide
  exact ⟨this.1, this.2.1, this.2.2.1, this.2.2.2.1, this.2.2.2.2.1, this.2.2.2.2.2⟩
theorem two_lt {m n : Nat} (h : m < 2 ^ 64) (k : 64 ≤ n := by decide) : m < 2 ^ n := Nat.lt_of_lt_of_le h (Nat.pow_le_pow_right (by decide) k)
theorem B_small {n : Nat} {i : Int} (m : Nat) (h : -(m : Int) ≤ i ∧ i ≤ m) (k : m < 2 ^ n) : B n i := by
  unfold B
  omega
theorem Grid.of {a b c d : Int} (g : Tb.grow ⟨a, b, c, d⟩ = true) (ha : -3 ≤ a ∧ a ≤ 3) (hb : -3 ≤ b ∧ b ≤ 3) (hc : -3 ≤ c ∧ c ≤ 3) (hd : -3 ≤ d ∧ d ≤ 3) (h : -9 ≤ Tb.det ⟨a, b, c, d⟩ ∧ Tb.det ⟨a, b, c, d⟩ ≤ 9) : Grid ⟨a, b, c, d⟩ := ⟨g, ha, hb, hc, hd, h⟩
theorem wf_law_grid {p q : Int} (hd : Dk p q) (k : ∀ t p' q', Dk p' q' → Grid t → K (.dat (dT t)) (dk p' q')) : WF F_law_grid [dk p q] K := by
  rw [b_law_grid]
  simp only [↓ir_law_grid, ↓RUN, POST, ↓k_law_grid_law_take]
  refine ⟨by decide, ?_⟩
  refine wf_law_take hd (by decide) (B_small 11 (by decide) (two_lt (by decide))) fun r p1 q1 d1 r0 r1 => ?_
  simp only [↓RUN, POST, ↓k_law_grid_law_take]
  refine ix_tabs (ts := grids) r0 (by exact r1) fun t ht => ?_
  have gt := grids_ok t ht
  try simp only [↓RUN, POST, ↓k_law_grid_law_take]
  refine wf_law_take d1 (by decide) (B_small 2 (by decide) (two_lt (by decide))) fun r p2 q2 d2 r0 r1 => ?_
  try simp only [↓RUN, POST, ↓k_law_grid_law_take]
  refine IT.dec (fun hr => ?_) fun hr => ?_
  · simp only [↓RUN, POST, ↓k_law_grid_law_take, ↓rng1_4]
    refine wf_law_take d2 (by decide) (B_small 7 (by decide) (two_lt (by decide))) fun a p3 q3 d3 a0 a1 => ?_
    try simp only [↓RUN, POST, ↓k_law_grid_law_take]
    refine wf_law_take d3 (by decide) (B_small 7 (by decide) (two_lt (by decide))) fun b p4 q4 d4 b0 b1 => ?_
    try simp only [↓RUN, POST, ↓k_law_grid_law_take]
    refine wf_law_take d4 (by decide) (B_small 7 (by decide) (two_lt (by decide))) fun c p5 q5 d5 c0 c1 => ?_
    try simp only [↓RUN, POST, ↓k_law_grid_law_take]
    refine wf_law_take d5 (by decide) (B_small 7 (by decide) (two_lt (by decide))) fun d p6 q6 d6 e0 e1 => ?_
    simp only [↓RUN, POST, ↓k_law_grid_law_growing, ↓k_law_grid_law_det]
    have ha : -3 ≤ a - 3 ∧ a - 3 ≤ 3 := by omega
    have hb : -3 ≤ b - 3 ∧ b - 3 ≤ 3 := by omega
    have hc : -3 ≤ c - 3 ∧ c - 3 ≤ 3 := by omega
    have hd : -3 ≤ d - 3 ∧ d - 3 ≤ 3 := by omega
    generalize a - 3 = a at *
    generalize b - 3 = b at *
    generalize c - 3 = c at *
    generalize d - 3 = d at *
    have tb : TB 2 ⟨a, b, c, d⟩ := ⟨B_small 3 ha (by decide), B_small 3 hb (by decide), B_small 3 hc (by decide), B_small 3 hd (by decide)⟩
    refine wf_law_growing (t := ⟨a, b, c, d⟩) tb (by decide) ?_
    try simp only [↓RUN, POST]
    cases hg : Tb.grow ⟨a, b, c, d⟩
    · try simp only [↓RUN, POST]
      exact k t _ _ d6 gt
    · try simp only [↓RUN, POST]
      refine wf_law_det (t := ⟨a, b, c, d⟩) tb (by decide) ?_
      simp only [↓RUN, POST, abs_nat]
      refine IT.dec (fun hh => ?_) fun hh => ?_
      · try simp only [↓RUN, POST]
        exact k ⟨a, b, c, d⟩ _ _ d6 (Grid.of hg ha hb hc hd (by omega))
      · try simp only [↓RUN, POST]
        exact k t _ _ d6 gt
  · try simp only [↓RUN, POST]
    exact k t _ _ d2 gt
end Df

/-! Kits: what their defs give. -/
namespace Df
open PySem Lt
variable {K : Cell → Cell → Prop}
/-- a copy: its place, its goal -/
structure Cp where
  x : Int
  y : Int
  g : Int
  deriving DecidableEq
abbrev dC (c : Cp) : D := .tuple [dP c.x c.y, .int c.g]
def Cp.lt (a b : Cp) : Bool := decide (a.x < b.x) || (decide (a.x = b.x) && (decide (a.y < b.y) || (decide (a.y = b.y) && decide (a.g < b.g))))
theorem dC_lt {a b : Cp} : PySem.W.dataLt (dC a) (dC b) = a.lt b := by
  unfold PySem.W.dataLt Cp.lt
  simp only [PySem.W.keyToks, PySem.W.keyToksAll, List.cons_append, List.append_nil, List.nil_append, PyProof.Rows.lex_cons]
  have il : ∀ a b : Int, PyProof.Rows.itemLt (.inl a) (.inl b) = decide (a < b) := fun _ _ => rfl
  simp only [PyProof.Rows.lexLt, il, Int.lt_irrefl, decide_false, Bool.false_or, Bool.not_false, Bool.true_and, Bool.and_false, Bool.or_false]
  rw [Bool.eq_iff_iff]
  simp only [Bool.or_eq_true, Bool.and_eq_true, decide_eq_true_eq, Bool.not_eq_true', decide_eq_false_iff_not]
  grind
theorem dC_alike {a b : Cp} : PySem.W.alike (dC a) (dC b) = true := rfl
theorem dC_shaped {a : Cp} : SeqAt.shaped (dC a) = true := rfl
theorem p_ltC {a b : Cp} {K : Bool → Prop} : WV (cmpD .Lt (dC a) (dC b)) K = K (a.lt b) := by
  show WV (if (PySem.W.alike (dC a) (dC b) && SeqAt.shaped (dC a) && SeqAt.shaped (dC b)) = true then some (PySem.W.dataLt (dC a) (dC b)) else none) K = _
  rw [if_pos (show (PySem.W.alike (dC a) (dC b) && SeqAt.shaped (dC a) && SeqAt.shaped (dC b)) = true from rfl), WV_some, dC_lt]
/-- one after another -/
def ascC (cs : List Cp) : Bool := (List.range (cs.length - 1)).all fun k => (cs.getD k ⟨0, 0, 0⟩).lt (cs.getD (k + 1) ⟨0, 0, 0⟩)
theorem C_at {cs : List Cp} {i : Nat} (h : i < cs.length) : (cs.map fun c => dC c)[i]? = some (dC (cs.getD i ⟨0, 0, 0⟩)) := by
  rw [List.getElem?_map, List.getElem?_eq_getElem h, List.getD_eq_getElem?_getD, List.getElem?_eq_getElem h]; rfl
theorem wf_is_ascending {cs : List Cp} (hl : cs.length ≤ 1000) (k : K (.dat (.bool (ascC cs))) .emp) : WF F_is_ascending [.dat (.tuple (cs.map fun c => dC c))] K := by
  rw [b_is_ascending]
  simp only [↓ir_is_ascending, ↓RUN, POST, List.length_map]
  refine rng1' (by omega) (by omega) ?_
  refine lc_map (fun d => match d with
    | .int i => .bool ((cs.getD i.toNat ⟨0, 0, 0⟩).lt (cs.getD (i.toNat + 1) ⟨0, 0, 0⟩))
    | _ => .none) (fun d hd => ?_) fun ρ2 hb => ?_
  · obtain ⟨i, hi, rfl⟩ := List.mem_map.mp hd
    have hi' : i < cs.length - 1 := by
      have := List.mem_range.mp hi
      omega
    rw [lc_turn]
    simp only [↓RUN, POST, Int.zero_add]
    have e1 : ((i : Int) + 1) = ((i + 1 : Nat) : Int) := by omega
    rw [e1]
    refine ixTn (C_at (by omega)) ?_
    refine ixTn (C_at (by omega)) ?_
    simp only [p_ltC, ↓RUN, POST, Int.toNat_natCast]
  · try simp only [↓RUN, POST]
    refine f_all (bs := (List.range ((cs.length : Int) - 1).toNat).map fun k => (cs.getD k ⟨0, 0, 0⟩).lt (cs.getD (k + 1) ⟨0, 0, 0⟩)) ?_ ?_
    · unfold rngL
      rw [List.map_map, List.map_map]
      refine List.map_congr_left fun i hi => ?_
      simp
    · have e : ((List.range ((cs.length : Int) - 1).toNat).map fun k => (cs.getD k ⟨0, 0, 0⟩).lt (cs.getD (k + 1) ⟨0, 0, 0⟩)).all id = ascC cs := by
        unfold ascC
        rw [show ((cs.length : Int) - 1).toNat = cs.length - 1 by omega, List.all_map]
        rfl
      rw [e]
      exact k
end Df

/-! Kits, part 2: what is_kit answers. -/
namespace Df
open PySem Lt
variable {K : Cell → Cell → Prop}
/-- tuples of ints, True, False, None of at most so many levels -/
inductive Nc : Nat → D → Prop where
  | non {k} : Nc k .none
  | bl {k} (b : Bool) : Nc k (.bool b)
  | int {k} (i : Int) (h : i.natAbs < 2 ^ 64) : Nc k (.int i)
  | tup {k} (xs : List D) (hl : xs.length ≤ 1000) (h : ∀ x ∈ xs, Nc k x) : Nc (k + 1) (.tuple xs)
theorem Nc.mono {k m : Nat} {d : D} (h : Nc k d) (l : k ≤ m) : Nc m d := by
  induction h generalizing m with
  | non => exact .non
  | bl b => exact .bl b
  | int i h => exact .int i h
  | @tup k xs hl h ih =>
    obtain ⟨m, rfl⟩ : ∃ m', m = m' + 1 := ⟨m - 1, by omega⟩
    exact .tup xs hl fun x hx => ih x hx (by omega)
theorem Nc.lay {k : Nat} {d : D} (h : Nc k d) : d.canLay0 = true ∧ d.depth ≤ k := by
  induction h with
  | non => exact ⟨rfl, Nat.zero_le _⟩
  | bl b => exact ⟨rfl, Nat.zero_le _⟩
  | int i h => exact ⟨rfl, Nat.zero_le _⟩
  | @tup k xs hl h ih =>
    clear hl h
    have : PyData.canLayAll0 xs = true ∧ PyData.depthAll xs ≤ k := by
      induction xs with
      | nil => exact ⟨rfl, Nat.zero_le _⟩
      | cons x xs i2 =>
        obtain ⟨a1, a2⟩ := ih x (by simp)
        obtain ⟨b1, b2⟩ := i2 fun y hy => ih y (by simp [hy])
        exact ⟨by rw [PyData.canLayAll0, a1, b1]; rfl, by rw [PyData.depthAll]; omega⟩
    exact ⟨by rw [PyData.canLay0]; exact this.1, by rw [PyData.depth]; omega⟩
theorem Nc.shaped {k : Nat} {d : D} (h : Nc k d) (l : k ≤ 60) : SeqAt.shaped d = true := by
  obtain ⟨h1, h2⟩ := h.lay
  unfold SeqAt.shaped
  rw [h1, decide_eq_true (show d.depth ≤ 64 by omega)]; rfl
theorem Nc.noDict {k : Nat} {d : D} (h : Nc k d) : noDict d = true := by cases h <;> rfl
theorem Nc.noD2 {k : Nat} {d : D} (h : Nc k d) : Df.noD2 d = true := by
  cases h with
  | tup xs hl h => exact List.all_eq_true.mpr fun x hx => (h x hx).noDict
  | _ => rfl
theorem Nc.noD3 {k : Nat} {d : D} (h : Nc k d) : Df.noD3 d = true := by
  cases h with
  | tup xs hl h => exact List.all_eq_true.mpr fun x hx => (h x hx).noD2
  | _ => rfl
theorem Nc.items {k : Nat} {xs : List D} (h : Nc (k + 1) (.tuple xs)) : xs.length ≤ 1000 ∧ ∀ x ∈ xs, Nc k x := by
  cases h with
  | tup xs hl h => exact ⟨hl, h⟩
theorem Nc.int_ {k : Nat} {i : Int} (h : Nc k (.int i)) : i.natAbs < 2 ^ 64 := by cases h; assumption
theorem Nc.tb {k : Nat} {t : Tb} (h : Nc (k + 2) (dT t)) : TB 64 t := by
  obtain ⟨_, h⟩ := h.items
  obtain ⟨_, h1⟩ := (h (dP t.a t.b) (by simp)).items
  obtain ⟨_, h2⟩ := (h (dP t.c t.d) (by simp)).items
  exact ⟨(h1 (.int t.a) (by simp)).int_, (h1 (.int t.b) (by simp)).int_, (h2 (.int t.c) (by simp)).int_, (h2 (.int t.d) (by simp)).int_⟩
/-- the goal is one of so many -/
def goalB (many : Int) : D → Bool
  | .int g => decide (0 ≤ g) && decide (g < many)
  | _ => false
def copyB (many : Int) : D → Bool
  | .tuple [x, y] => isOff x && goalB many y
  | _ => false
def cpOf : D → Cp
  | .tuple [.tuple [.int x, .int y], .int g] => ⟨x, y, g⟩
  | _ => ⟨0, 0, 0⟩
theorem copyB_ok {many : Int} {v : D} (h : copyB many v = true) : ∃ c : Cp, v = dC c ∧ 0 ≤ c.g ∧ c.g < many ∧ cpOf v = c := by
  unfold copyB at h
  split at h
  · rename_i x y
    obtain ⟨h1, h2⟩ := Bool.and_eq_true_iff.mp h
    obtain ⟨a, b, rfl⟩ := isOff_ok h1
    unfold goalB at h2
    split at h2
    · rename_i g
      obtain ⟨h3, h4⟩ := Bool.and_eq_true_iff.mp h2
      exact ⟨⟨a, b, g⟩, rfl, of_decide_eq_true h3, of_decide_eq_true h4, rfl⟩
    · cases h2
  · cases h
theorem copyB_pair {many : Int} {v : D} (h : isPair v = false) : copyB many v = false := by
  unfold copyB
  split
  · cases h
  · rfl
theorem wf_is_copy {k0 : Nat} {v : D} {many : Int} (hv : Nc k0 v) (k : K (.dat (.bool (copyB many v))) .emp) : WF F_is_copy [.dat v, .dat (.int many)] K := by
  rw [b_is_copy]
  simp only [↓ir_is_copy, ↓RUN, POST, ↓k_is_copy_is_pair, ↓k_is_copy_is_offset, ↓k_is_copy_is_integer]
  refine wf_is_pair hv.noDict ?_
  cases hp : isPair v
  · simp only [↓RUN, POST]
    rw [copyB_pair hp] at k
    exact k
  · obtain ⟨x, y, rfl⟩ := isPair_ok hp
    have hk : ∃ k1, k0 = k1 + 1 := by cases hv; exact ⟨_, rfl⟩
    obtain ⟨k1, rfl⟩ := hk
    obtain ⟨_, hi⟩ := hv.items
    have hx := hi x (by simp)
    have hy := hi y (by simp)
    simp only [↓RUN, POST]
    refine wf_is_offset hx.noD2 ?_
    simp only [↓RUN, POST]
    have kk : K (.dat (.bool (isOff x && goalB many y))) .emp := k
    cases ho : isOff x
    · rw [ho, Bool.false_and] at kk
      simp only [↓RUN, POST]
      exact kk
    · rw [ho, Bool.true_and] at kk
      simp only [↓RUN, POST]
      refine wf_is_integer hy.noDict ?_
      simp only [↓RUN, POST]
      cases y with
      | int g =>
        simp only [↓RUN, POST, show isInt (.int g) = true from rfl]
        exact kk
      | _ => simp only [↓RUN, POST, isInt]; exact kk
def stateB (many : Int) : D → Bool
  | .tuple xs => !xs.isEmpty && (xs.all (copyB many) && ascC (xs.map cpOf))
  | _ => false
theorem copies_eq {many : Int} {xs : List D} (h : xs.all (copyB many) = true) : xs = (xs.map cpOf).map fun c => dC c := by
  rw [List.map_map]
  refine (List.map_id xs).symm.trans (List.map_congr_left fun x hx => ?_)
  obtain ⟨c, h1, _, _, h2⟩ := copyB_ok (List.all_eq_true.mp h x hx)
  show x = dC (cpOf x)
  rw [h2]; exact h1
theorem len0 {xs : List D} : decide (((xs.length : Nat) : Int) = 0) = xs.isEmpty := by
  cases xs with
  | nil => rfl
  | cons x r => exact decide_eq_false (by simp only [List.length_cons]; omega)
theorem wf_is_state {k0 : Nat} {v : D} {many : Int} (hv : Nc k0 v) (k : K (.dat (.bool (stateB many v))) .emp) : WF F_is_state [.dat v, .dat (.int many)] K := by
  rw [b_is_state]
  simp only [↓ir_is_state, ↓RUN, POST, ↓k_is_state_is_copy, ↓k_is_state_is_ascending]
  cases hv with
  | tup xs hl hi =>
    rename_i k1
    have kk : K (.dat (.bool (!xs.isEmpty && (xs.all (copyB many) && ascC (xs.map cpOf))))) .emp := k
    simp only [↓RUN, POST, len0]
    cases he : xs.isEmpty
    · rw [he] at kk
      simp only [↓RUN, POST] at kk ⊢
      refine lc_map (fun d => .bool (copyB many d)) (fun d hd => ?_) fun ρ2 hb => ?_
      · rw [lc_turn]
        simp only [↓RUN, POST, ↓k_is_state_is_copy]
        refine wf_is_copy (hi d hd) ?_
        try simp only [↓RUN, POST]
      · try simp only [↓RUN, POST]
        refine f_all (bs := xs.map (copyB many)) (by rw [List.map_map]; rfl) ?_
        have e : (xs.map (copyB many)).all id = xs.all (copyB many) := by rw [List.all_map]; rfl
        simp only [POST] at hb
        rw [e, hb]
        try simp only [↓RUN, POST]
        cases ha : xs.all (copyB many)
        · rw [ha] at kk
          simp only [↓RUN, POST] at kk ⊢
          exact kk
        · rw [ha] at kk
          simp only [↓RUN, POST, ↓k_is_state_is_ascending] at kk ⊢
          rw [copies_eq ha]
          refine wf_is_ascending (by rw [List.length_map]; exact hl) ?_
          try simp only [↓RUN, POST]
          exact kk
    · rw [he] at kk
      simp only [↓RUN, POST] at kk ⊢
      exact kk
  | _ => simp only [↓RUN, POST]; exact k
def kitB : D → Bool
  | .tuple [t, .tuple ss] => isGrow t && (!ss.isEmpty && ss.all (stateB (ss.length : Nat)))
  | _ => false
theorem wf_is_kit {k0 : Nat} {v : D} (hv : Nc (k0 + 3) v) (k : K (.dat (.bool (kitB v))) .emp) : WF F_is_kit [.dat v] K := by
  rw [b_is_kit]
  simp only [↓ir_is_kit, ↓RUN, POST, ↓k_is_kit_is_pair, ↓k_is_kit_is_growing, ↓k_is_kit_is_state]
  refine wf_is_pair hv.noDict ?_
  cases hp : isPair v
  · have e : kitB v = false := by
      unfold kitB
      split
      · cases hp
      · rfl
    rw [e] at k
    simp only [↓RUN, POST]
    exact k
  · obtain ⟨t, s, rfl⟩ := isPair_ok hp
    obtain ⟨_, hi⟩ := hv.items
    have ht := hi t (by simp)
    have hs := hi s (by simp)
    simp only [↓RUN, POST]
    refine wf_is_growing ht.noD3 (fun t' e => by subst e; exact ht.tb) (by decide) ?_
    simp only [↓RUN, POST]
    cases hg : isGrow t
    · have e : kitB (.tuple [t, s]) = false := by
        unfold kitB
        split
        · rename_i e
          cases e
          rw [hg]; rfl
        · rfl
      rw [e] at k
      simp only [↓RUN, POST]
      exact k
    · simp only [↓RUN, POST]
      cases hs with
      | tup ss hl hi2 =>
        have kk : K (.dat (.bool (isGrow t && (!ss.isEmpty && ss.all (stateB (ss.length : Nat)))))) .emp := k
        rw [hg] at kk
        simp only [↓RUN, POST, len0] at kk ⊢
        cases he : ss.isEmpty
        · rw [he] at kk
          simp only [↓RUN, POST] at kk ⊢
          refine lc_map (fun d => .bool (stateB (ss.length : Nat) d)) (fun d hd => ?_) fun ρ2 hb => ?_
          · rw [lc_turn]
            simp only [↓RUN, POST, ↓k_is_kit_is_state]
            refine wf_is_state (hi2 d hd) ?_
            try simp only [↓RUN, POST]
          · try simp only [↓RUN, POST]
            refine f_all (bs := ss.map (stateB (ss.length : Nat))) (by rw [List.map_map]; rfl) ?_
            have e : (ss.map (stateB (ss.length : Nat))).all id = ss.all (stateB (ss.length : Nat)) := by rw [List.all_map]; rfl
            rw [e]
            exact kk
        · rw [he] at kk
          simp only [↓RUN, POST] at kk ⊢
          exact kk
      | _ => simp only [↓RUN, POST]; simpa [kitB] using k
end Df

/-! Kits, part 3: the drawn kits. -/
namespace Df
open PySem Lt
variable {K : Cell → Cell → Prop}
theorem dC_eqv {a b : Cp} : PyData.eqv (dC a) (dC b) = decide (a = b) := by
  cases a; cases b
  simp only [PyData.eqv, PyData.eqvAll, Bool.and_true, Cp.mk.injEq]
  rw [Bool.eq_iff_iff]
  simp [and_assoc]
theorem dC_key {c : Cp} : keyOk (dC c) = true := rfl
abbrev kvC (c : Cp) : D × D := (dC c, .bool true)
def addC (cs : List Cp) (c : Cp) : List Cp := if c ∈ cs then cs else cs ++ [c]
theorem dPut_C {c : Cp} : ∀ {cs : List Cp}, dPut (cs.map fun c => kvC c) (dC c) (.bool true) = (addC cs c).map fun c => kvC c
  | [] => rfl
  | a :: cs => by
    have ih := dPut_C (c := c) (cs := cs)
    rw [List.map_cons]
    show (if PyData.eqv (dC a) (dC c) = true then (dC a, PyData.bool true) :: cs.map (fun c => kvC c) else kvC a :: dPut (cs.map fun c => kvC c) (dC c) (.bool true)) = _
    rw [dC_eqv]
    unfold addC at ih ⊢
    by_cases h : a = c
    · subst h
      rw [if_pos (decide_eq_true rfl), if_pos (by simp)]; rfl
    · rw [decide_eq_false h, if_neg Bool.false_ne_true, ih]
      by_cases h2 : c ∈ cs
      · rw [if_pos h2, if_pos (by simp [h2]), List.map_cons]
      · rw [if_neg h2, if_neg (by simp only [List.mem_cons, not_or]; exact ⟨fun z => h z.symm, h2⟩)]
        rfl
theorem addC_mem {cs : List Cp} {c x : Cp} (h : x ∈ addC cs c) : x ∈ cs ∨ x = c := by
  unfold addC at h
  split at h
  · exact .inl h
  · simpa using h
theorem addC_nd {cs : List Cp} {c : Cp} (h : cs.Nodup) : (addC cs c).Nodup := by
  unfold addC
  split
  · exact h
  · rename_i hn
    exact List.nodup_append.mpr ⟨h, by simp, fun a ha b hb => by
      simp at hb; subst hb
      exact fun z => hn (z ▸ ha)⟩
theorem addC_len {cs : List Cp} {c : Cp} : (addC cs c).length ≤ cs.length + 1 := by
  unfold addC
  split <;> simp
theorem addC_ne {cs : List Cp} {c : Cp} : addC cs c ≠ [] := by
  unfold addC
  split
  · rename_i h
    intro z; rw [z] at h; cases h
  · simp
/-- the order of copies -/
def leC (a b : Cp) : Bool := !b.lt a
theorem leC_trans (a b c : Cp) (h1 : leC a b = true) (h2 : leC b c = true) : leC a c = true := by
  unfold leC Cp.lt at *
  simp only [Bool.not_eq_true', Bool.or_eq_false_iff, Bool.and_eq_false_iff, decide_eq_false_iff_not] at *
  omega
theorem leC_total (a b : Cp) : (leC a b || leC b a) = true := by
  unfold leC Cp.lt
  rw [Bool.or_eq_true]
  simp only [Bool.not_eq_true', Bool.or_eq_false_iff, Bool.and_eq_false_iff, decide_eq_false_iff_not]
  omega
theorem leC_lt {a b : Cp} (h : leC a b = true) (n : a ≠ b) : a.lt b = true := by
  unfold leC Cp.lt at *
  simp only [Bool.not_eq_true', Bool.or_eq_false_iff, Bool.and_eq_false_iff, decide_eq_false_iff_not, Bool.or_eq_true, Bool.and_eq_true, decide_eq_true_eq] at *
  have : ¬ (a.x = b.x ∧ a.y = b.y ∧ a.g = b.g) := fun ⟨h1, h2, h3⟩ => n (by cases a; cases b; simp_all)
  omega
theorem sortD_C {cs : List Cp} : sortD (cs.map fun c => dC c) = (cs.mergeSort leC).map fun c => dC c := by
  unfold sortD
  refine (List.map_mergeSort fun a _ b _ => ?_).symm
  show leC a b = !PySem.W.dataLt (dC b) (dC a)
  rw [dC_lt]; rfl
theorem asc_of {l : List Cp} (h : l.Pairwise fun a b => a.lt b = true) : ascC l = true := by
  unfold ascC
  rw [List.all_eq_true]
  intro k hk
  have hk' : k < l.length - 1 := List.mem_range.mp hk
  have h1 : k < l.length := by omega
  have h2 : k + 1 < l.length := by omega
  rw [List.getD_eq_getElem?_getD, List.getD_eq_getElem?_getD, List.getElem?_eq_getElem h1, List.getElem?_eq_getElem h2]
  exact List.pairwise_iff_getElem.mp h k (k + 1) h1 h2 (Nat.lt_succ_self k)
theorem sorted_asc {cs : List Cp} (h : cs.Nodup) : ascC (cs.mergeSort leC) = true := by
  refine asc_of ?_
  have s : (cs.mergeSort leC).Pairwise fun a b => leC a b = true := List.pairwise_mergeSort leC_trans leC_total cs
  have n : (cs.mergeSort leC).Pairwise (· ≠ ·) := (List.mergeSort_perm cs leC).nodup_iff.mpr h
  exact List.Pairwise.imp₂ (fun a b h1 h2 => leC_lt h1 h2) s n
theorem sortOk_C {cs : List Cp} (h : cs.length ≤ 1000) : sortOk (cs.map fun c => dC c) = true := by
  unfold sortOk
  simp only [Bool.and_eq_true, List.all_eq_true, decide_eq_true_eq, Bool.or_eq_true, List.mem_map, List.length_map]
  refine ⟨?_, ?_, .inl ?_, by omega⟩
  · rintro _ ⟨a, _, rfl⟩ _ ⟨b, _, rfl⟩
    rfl
  · rintro _ ⟨a, _, rfl⟩
    exact ⟨rfl, by show (2 : Nat) ≤ 60; decide⟩
  · rintro _ ⟨a, _, rfl⟩
    rfl
/-- a copy of a drawn kit -/
def COk (many far : Int) (c : Cp) : Prop := -far ≤ c.x ∧ c.x ≤ far ∧ -far ≤ c.y ∧ c.y ≤ far ∧ 0 ≤ c.g ∧ c.g < many
structure LOk (many most far : Int) (l : List Cp) : Prop where
  ne : l ≠ []
  len : (l.length : Int) ≤ most
  asc : ascC l = true
  ok : ∀ c ∈ l, COk many far c
abbrev dS (l : List Cp) : D := .tuple (l.map fun c => dC c)
abbrev dG (t : Tb) (ls : List (List Cp)) : D := .tuple [dT t, .tuple (ls.map fun l => dS l)]
theorem wf_law_gear {p q : Int} {t : Tb} {spots most far : Int} (hd : Dk p q) (hs : 0 < spots ∧ spots ≤ 100) (hm : 0 < most ∧ most ≤ 100) (hf : 0 ≤ far ∧ far ≤ 1000000)
    (k : ∀ ls p' q', Dk p' q' → ls ≠ [] → (ls.length : Int) ≤ spots → (∀ l ∈ ls, LOk ls.length most far l) → K (.dat (dG t ls)) (dk p' q')) : WF F_law_gear [dk p q, .dat (dT t), .dat (.int spots), .dat (.int most), .dat (.int far)] K := by
  rw [b_law_gear]
  simp only [↓ir_law_gear, ↓RUN, POST, ↓k_law_gear_law_take]
  refine wf_law_take hd hs.1 (B_small 100 (by omega) (two_lt (by decide))) fun r p1 q1 d1 r0 r1 => ?_
  try simp only [↓RUN, POST]
  refine rng1' (by omega) (by omega) ?_
  have hmany : ∃ m : Nat, 1 + r = (m : Int) ∧ 0 < m ∧ (m : Int) ≤ spots := ⟨(1 + r).toNat, by omega, by omega, by omega⟩
  obtain ⟨m, em, m0, m1⟩ := hmany
  rw [em, Int.toNat_natCast]
  refine fo_range (fun i ρ => ∃ p q ls c7 c8 c9 c10, ρ = [dk p q, .dat (dT t), .dat (.int spots), .dat (.int most), .dat (.int far), .dat (.int (m : Int)), .own (ls.map fun l => dS l), c7, c8, c9, c10] ∧ Dk p q ∧ ls.length = i ∧ ∀ l ∈ ls, LOk m most far l) ⟨_, _, [], _, _, _, _, rfl, d1, rfl, by simp⟩ (fun i ρ hi hI => ?_) fun ρ hI => ?_
  · obtain ⟨p, q, ls, c7, c8, c9, c10, rfl, hd, hl, hok⟩ := hI
    simp only [↓RUN, POST, ↓k_law_gear_law_take]
    refine wf_law_take hd hm.1 (B_small 100 (by omega) (two_lt (by decide))) fun r p1 q1 d1 r0 r1 => ?_
    try simp only [↓RUN, POST]
    refine rng1' (by omega) (by omega) ?_
    refine fo_range (fun j ρ => ∃ p q cs c7 c9 c10, ρ = [dk p q, .dat (dT t), .dat (.int spots), .dat (.int most), .dat (.int far), .dat (.int (m : Int)), .own (ls.map fun l => dS l), c7, .dic (cs.map fun c => kvC c), c9, c10] ∧ Dk p q ∧ cs.Nodup ∧ cs.length ≤ j ∧ (0 < j → cs ≠ []) ∧ ∀ c ∈ cs, COk m far c) ⟨_, _, [], _, _, _, rfl, d1, List.nodup_nil, Nat.le_refl _, fun z => absurd z (by decide), by simp⟩ (fun j ρ hj hJ => ?_) fun ρ hJ => ?_
    · obtain ⟨p, q, cs, c7, c9, c10, rfl, hd, hn, hcl, hne, hc⟩ := hJ
      simp only [↓RUN, POST, ↓k_law_gear_law_take]
      have mo : mulOk 2 far = true := mulOk_l (by decide)
      simp only [mo, POST]
      have hb : B 8000 (2 * far + 1) := B_small 3000000 (by omega) (two_lt (by decide))
      refine wf_law_take hd (by omega) hb fun a p2 q2 d2 a0 a1 => ?_
      try simp only [↓RUN, POST, mo]
      refine wf_law_take d2 (by omega) hb fun b p3 q3 d3 b0 b1 => ?_
      try simp only [↓RUN, POST]
      refine wf_law_take d3 (by omega) (B_small 100 (by omega) (two_lt (by decide))) fun g p4 q4 d4 g0 g1 => ?_
      try simp only [↓RUN, POST]
      have hx : -far ≤ a - far ∧ a - far ≤ far := by omega
      have hy : -far ≤ b - far ∧ b - far ≤ far := by omega
      generalize a - far = x at *
      generalize b - far = y at *
      have e := dPut_C (c := ⟨x, y, g⟩) (cs := cs)
      refine ⟨?_, p4, q4, addC cs ⟨x, y, g⟩, c7, .dat (.int (0 + (j : Nat))), .dat (dP x y), by rw [← e], d4, addC_nd hn, ?_, fun _ => addC_ne, fun c hc' => ?_⟩
      · rw [List.length_map, decide_eq_true (show cs.length < 16777215 by omega)]
        exact Bool.and_eq_true_iff.mpr ⟨dC_key (c := ⟨x, y, g⟩), rfl⟩
      · have := addC_len (cs := cs) (c := ⟨x, y, g⟩)
        omega
      · rcases addC_mem hc' with h | rfl
        · exact hc c h
        · exact ⟨hx.1, hx.2, hy.1, hy.2, g0, g1⟩
    · obtain ⟨p, q, cs, c7, c9, c10, rfl, hd, hn, hcl, hne, hc⟩ := hJ
      try simp only [↓RUN, POST]
      have e1 : ((cs.map fun c => kvC c).map fun x => x.fst) = cs.map fun c => dC c := by rw [List.map_map]; rfl
      have hlen : (cs.length : Int) ≤ most := by omega
      rw [e1, sortD_C]
      refine ⟨sortOk_C (by omega), by rw [List.length_map]; omega, p, q, ls ++ [cs.mergeSort leC], c7, .dic (cs.map fun c => kvC c), c9, c10, by rw [List.map_append]; rfl, hd, by simp [hl], fun l hl' => ?_⟩
      rcases List.mem_append.mp hl' with h | h
      · exact hok l h
      · rw [List.mem_singleton] at h
        subst h
        have hp := List.mergeSort_perm cs leC
        refine ⟨fun z => hne (by omega) ?_, by rw [hp.length_eq]; exact hlen, sorted_asc hn, fun c hc' => hc c (hp.mem_iff.mp hc')⟩
        have := hp.length_eq
        rw [z] at this
        exact List.eq_nil_of_length_eq_zero this.symm
  · obtain ⟨p, q, ls, c7, c8, c9, c10, rfl, hd, hl, hok⟩ := hI
    simp only [↓RUN, POST]
    refine k ls _ _ hd (fun z => ?_) (by omega) ?_
    · rw [z] at hl; simp at hl; omega
    · rw [hl]; exact hok
end Df

/-! The defs of the law k02: its own judge of kits. -/
namespace Df
open PySem Lt
variable {K : Cell → Cell → Prop}
theorem lst_shaped {k : Nat} {l : List D} (h : ∀ x ∈ l, Nc k x) (hk : k ≤ 50) : SeqAt.shaped (.list l) = true := by
  have : PyData.canLayAll0 l = true ∧ PyData.depthAll l ≤ k := by
    induction l with
    | nil => exact ⟨rfl, Nat.zero_le _⟩
    | cons x xs i2 =>
      obtain ⟨a1, a2⟩ := (h x (by simp)).lay
      obtain ⟨b1, b2⟩ := i2 fun y hy => h y (by simp [hy])
      exact ⟨by rw [PyData.canLayAll0, a1, b1]; rfl, by rw [PyData.depthAll]; omega⟩
  unfold SeqAt.shaped
  rw [Bool.and_eq_true, decide_eq_true_eq, PyData.canLay0, PyData.depth]
  exact ⟨this.1, by omega⟩
theorem eqE {l : List D} : PyData.eqv (.list l) (.list []) = l.isEmpty := by cases l <;> simp [PyData.eqv, PyData.eqvAll]
theorem eqT {l : List D} : PyData.eqv (.tuple l) (.tuple []) = l.isEmpty := by cases l <;> simp [PyData.eqv, PyData.eqvAll]
theorem wf_law_is_whole {v : D} (hv : noDict v = true) (k : K (.dat (.bool (isInt v))) .emp) : WF F_law_is_whole [.dat v] K := by
  rw [b_law_is_whole]
  cases v <;> first | (simp only [↓ir_law_is_whole, ↓RUN, POST]; exact k) | cases hv
theorem nope {f : D → Bool} {l : List D} : (l.filterMap fun d => if f d then none else some d).isEmpty = l.all f := by
  induction l with
  | nil => rfl
  | cons x l ih =>
    rw [List.filterMap_cons, List.all_cons]
    cases h : f x
    · simp
    · simpa using ih
theorem nope_mem {f : D → Bool} {l : List D} {k : Nat} (h : ∀ x ∈ l, Nc k x) : ∀ x ∈ l.filterMap (fun d => if f d then none else some d), Nc k x := by
  intro x hx
  obtain ⟨y, hy, e⟩ := List.mem_filterMap.mp hx
  split at e
  · cases e
  · cases e; exact h _ hy
theorem isOff_tup {x y : D} : isOff (.tuple [x, y]) = (isInt x && isInt y) := rfl
theorem wf_law_is_away {k0 : Nat} {v : D} (hv : Nc k0 v) (hk : k0 ≤ 40) (k : K (.dat (.bool (isOff v))) .emp) : WF F_law_is_away [.dat v] K := by
  rw [b_law_is_away]
  simp only [↓ir_law_is_away, ↓RUN, POST, ↓k_law_is_away_law_is_whole]
  cases hv with
  | tup xs hl hi =>
    simp only [↓RUN, POST]
    refine ANDK.cut (fun h => ?_) fun h => ?_
    · refine lc_pure (fun d => if isInt d then none else some d) (fun d hd => ?_) fun ρ2 hb _ => ?_
      · rw [lc_turn]
        simp only [↓RUN, POST, ↓k_law_is_away_law_is_whole]
        refine wf_law_is_whole (hi d hd).noDict ?_
        try simp only [↓RUN, POST]
        cases isInt d
        · simp only [↓RUN, POST]; rfl
        · simp only [↓RUN, POST]; rfl
      · try simp only [↓RUN, POST]
        refine p_eqD (lst_shaped (nope_mem hi) (by omega)) rfl ?_
        rw [eqE, nope]
        rcases two_cases xs with ⟨x, y, rfl⟩ | ⟨h', _⟩
        · simpa [isOff_tup] using k
        · exact absurd (of_decide_eq_true h) h'
    · rcases two_cases xs with ⟨x, y, rfl⟩ | ⟨h', h2, h3, h4⟩
      · cases h
      · rw [h3] at k
        exact k
  | _ => simp only [↓RUN, POST]; exact k
theorem wf_law_is_copy {k0 : Nat} {v : D} {many : Int} (hv : Nc k0 v) (hk : k0 ≤ 40) (k : K (.dat (.bool (copyB many v))) .emp) : WF F_law_is_copy [.dat v, .dat (.int many)] K := by
  rw [b_law_is_copy]
  simp only [↓ir_law_is_copy, ↓RUN, POST, ↓k_law_is_copy_law_is_whole, ↓k_law_is_copy_law_is_away]
  cases hv with
  | tup xs hl hi =>
    rename_i k1
    simp only [↓RUN, POST]
    rcases two_cases xs with ⟨x, y, rfl⟩ | ⟨h, h2, h3, h4⟩
    · simp only [↓RUN, POST, show decide (((1 + 1 : Nat) : Int) = 2) = true from rfl]
      have hx := hi x (by simp)
      have hy := hi y (by simp)
      refine wf_law_is_away hx (by omega) ?_
      have kk : K (.dat (.bool (isOff x && goalB many y))) .emp := k
      try simp only [↓RUN, POST]
      cases ho : isOff x
      · rw [ho, Bool.false_and] at kk
        simp only [↓RUN, POST]
        exact kk
      · rw [ho, Bool.true_and] at kk
        simp only [↓RUN, POST, ↓k_law_is_copy_law_is_whole]
        refine wf_law_is_whole hy.noDict ?_
        try simp only [↓RUN, POST]
        cases y with
        | int g =>
          simp only [↓RUN, POST, show isInt (.int g) = true from rfl]
          exact kk
        | _ => simp only [↓RUN, POST, isInt]; exact kk
    · rw [decide_eq_false h]
      rw [copyB_pair h2] at k
      simp only [↓RUN, POST]
      exact k
  | _ => simp only [↓RUN, POST]; exact k
theorem C_at' {cs : List Cp} {i : Nat} (h : i < cs.length) : (cs.map fun c => dC c)[i]? = some (dC (cs.getD i ⟨0, 0, 0⟩)) := C_at h
theorem emp_app {α : Type} {a b : List α} : (a ++ b).isEmpty = (a.isEmpty && b.isEmpty) := by cases a <;> simp
theorem asc_list {cs : List Cp} : ((rngL 1 ((cs.length : Int) - 1).toNat).filterMap fun d => match d with
    | .int j => if (cs.getD (j.toNat - 1) ⟨0, 0, 0⟩).lt (cs.getD j.toNat ⟨0, 0, 0⟩) then none else some d
    | _ => none).isEmpty = ascC cs := by
  unfold rngL ascC
  rw [show ((cs.length : Int) - 1).toNat = cs.length - 1 by omega]
  generalize cs.length - 1 = n
  induction n with
  | zero => rfl
  | succ n ih =>
    rw [List.range_succ, List.map_append, List.filterMap_append, emp_app, ih, List.all_append]
    congr 1
    have e1 : ((1 : Int) + (n : Nat)).toNat - 1 = n := by omega
    have e2 : ((1 : Int) + (n : Nat)).toNat = n + 1 := by omega
    simp only [List.map_cons, List.map_nil, List.filterMap_cons, List.filterMap_nil, List.all_cons, List.all_nil, Bool.and_true, e1, e2, Nat.add_sub_cancel]
    cases (cs.getD n ⟨0, 0, 0⟩).lt (cs.getD (n + 1) ⟨0, 0, 0⟩) <;> rfl
theorem wf_law_is_kit {k0 : Nat} {vs : List D} (hv : Nc (k0 + 3) (.tuple vs)) (hk : k0 ≤ 30) (k : K (.dat (.bool (kitB (.tuple vs)))) .emp) : WF F_law_is_kit [.dat (.tuple vs)] K := by
  rw [b_law_is_kit]
  simp only [↓ir_law_is_kit, ↓RUN, POST, ↓k_law_is_kit_law_is_away, ↓k_law_is_kit_law_growing, ↓k_law_is_kit_law_is_copy]
  rcases two_cases vs with ⟨t, s, rfl⟩ | ⟨h, h2, _⟩
  rotate_left
  · have e : kitB (.tuple vs) = false := by
      unfold kitB
      split
      · rename_i e; cases e; cases h2
      · rfl
    rw [e] at k
    rw [decide_eq_false h]
    simp only [↓RUN, POST]
    exact k
  obtain ⟨_, hi⟩ := hv.items
  have ht := hi t (by simp)
  have hs := hi s (by simp)
  have kt : (∀ rs, t ≠ .tuple rs) → kitB (.tuple [t, s]) = false := fun h => by
    unfold kitB
    split
    · rename_i e
      cases e
      have : isGrow t = false := by
        cases t <;> first | rfl | exact absurd rfl (h _)
      rw [this]; rfl
    · rfl
  have ks : (∀ ss, s ≠ .tuple ss) → kitB (.tuple [t, s]) = false := fun h => by
    unfold kitB
    split
    · rename_i e
      cases e
      exact absurd rfl (h _)
    · rfl
  simp only [↓RUN, POST, show decide (((1 + 1 : Nat) : Int) = 2) = true from rfl]
  by_cases htt : ∃ rs, t = .tuple rs
  rotate_left
  · have e := kt fun rs z => htt ⟨rs, z⟩
    rw [e] at k
    cases ht <;> first | (simp only [↓RUN, POST]; exact k) | exact absurd ⟨_, rfl⟩ htt
  obtain ⟨rs, rfl⟩ := htt
  simp only [↓RUN, POST]
  by_cases hss : ∃ ss, s = .tuple ss
  rotate_left
  · have e := ks fun rs z => hss ⟨rs, z⟩
    rw [e] at k
    cases hs <;> first | (simp only [↓RUN, POST]; exact k) | exact absurd ⟨_, rfl⟩ hss
  obtain ⟨ss, rfl⟩ := hss
  simp only [↓RUN, POST]
  have kk : K (.dat (.bool (isGrow (.tuple rs) && (!ss.isEmpty && ss.all (stateB (ss.length : Nat)))))) .emp := k
  clear k kt ks
  refine p_eqD (hs.shaped (by omega)) rfl ?_
  rw [eqT]
  cases he : ss.isEmpty
  rotate_left
  · rw [he, Bool.not_true, Bool.false_and, Bool.and_false] at kk
    simp only [↓RUN, POST]
    exact kk
  rw [he, Bool.not_false, Bool.true_and] at kk
  simp only [↓RUN, POST, ↓k_law_is_kit_law_is_away, ↓k_law_is_kit_law_growing]
  obtain ⟨_, hr⟩ := ht.items
  refine ORK.cut (fun h => ?_) fun h => ?_
  · have : isGrow (.tuple rs) = false := by
      rcases two_cases rs with ⟨a, b, rfl⟩ | ⟨_, _, _, h4⟩
      · cases h
      · unfold isGrow; rw [h4]; rfl
    rw [this] at kk
    simp only [↓RUN, POST]
    exact kk
  refine lc_pure (fun d => if isOff d then none else some d) (fun d hd => ?_) fun ρ2 hb _ => ?_
  · rw [lc_turn]
    simp only [↓RUN, POST, ↓k_law_is_kit_law_is_away]
    refine wf_law_is_away (hr d hd) (by omega) ?_
    try simp only [↓RUN, POST]
    cases isOff d
    · simp only [↓RUN, POST]; rfl
    · simp only [↓RUN, POST]; rfl
  simp only [POST] at hb
  try simp only [↓RUN, POST]
  rw [hb]
  refine p_neD (lst_shaped (nope_mem hr) (by omega)) rfl ?_
  rw [eqE, nope]
  cases ho : rs.all isOff
  · have : isGrow (.tuple rs) = false := by
      rcases two_cases rs with ⟨a, b, rfl⟩ | ⟨_, _, _, h4⟩
      · have e : isTab (.tuple [a, b]) = (isOff a && isOff b) := rfl
        unfold isGrow
        rw [e]
        have : (isOff a && isOff b) = false := by simpa using ho
        rw [this]; rfl
      · unfold isGrow; rw [h4]; rfl
    rw [this] at kk
    simp only [↓RUN, POST]
    exact kk
  have htab : ∃ t', (PyData.tuple rs : D) = dT t' := by
    rcases two_cases rs with ⟨a, b, rfl⟩ | ⟨h', _⟩
    · refine isTab_ok ?_
      show (isOff a && isOff b) = true
      simpa using ho
    · exfalso
      have : decide (((rs.length : Nat) : Int) = 2) = true := by simpa using h
      exact h' (of_decide_eq_true this)
  obtain ⟨t', et⟩ := htab
  cases et
  rw [isGrow_dT] at kk
  simp only [↓RUN, POST, ↓k_law_is_kit_law_growing]
  refine wf_law_growing ht.tb (by decide) ?_
  try simp only [↓RUN, POST]
  cases hg : t'.grow
  · rw [hg, Bool.false_and] at kk
    simp only [↓RUN, POST]
    exact kk
  rw [hg, Bool.true_and] at kk
  simp only [↓RUN, POST, ↓k_law_is_kit_law_is_copy]
  obtain ⟨hsl, hsi⟩ := hs.items
  refine fo_inv (fun i ρ => (∃ c1 c2 c3 c4, ρ = [.dat (.tuple [dT t', .tuple ss]), c1, c2, c3, c4]) ∧ ∀ d ∈ ss.take i, stateB (ss.length : Nat) d = true) ⟨⟨_, _, _, _, rfl⟩, by simp⟩ (fun i d ρ hd hI => ?_) fun ρ hI => ?_
  · obtain ⟨⟨c1, c2, c3, c4, rfl⟩, hI⟩ := hI
    have hm : d ∈ ss := List.mem_of_getElem? hd
    have hn := hsi d hm
    have bad : stateB (ss.length : Nat) d = false → K (.dat (.bool false)) .emp := fun h => by
      have : ss.all (stateB (ss.length : Nat)) = false := List.all_eq_false.mpr ⟨d, hm, by rw [h]; exact Bool.false_ne_true⟩
      rwa [this] at kk
    have good : stateB (ss.length : Nat) d = true → ∀ d' ∈ ss.take (i + 1), stateB (ss.length : Nat) d' = true := fun h d' hd' => by
      rw [List.take_succ, hd] at hd'
      rcases List.mem_append.mp hd' with h' | h'
      · exact hI d' h'
      · simp at h'; rw [h']; exact h
    simp only [↓RUN, POST, ↓k_law_is_kit_law_is_copy]
    by_cases hdt : ∃ xs, d = .tuple xs
    rotate_left
    · have : stateB (ss.length : Nat) d = false := by
        cases hn <;> first | rfl | exact absurd ⟨_, rfl⟩ hdt
      cases hn <;> first | (simp only [↓RUN, POST]; exact bad this) | exact absurd ⟨_, rfl⟩ hdt
    obtain ⟨xs, rfl⟩ := hdt
    simp only [↓RUN, POST]
    refine p_eqD (hn.shaped (by omega)) rfl ?_
    rw [eqT]
    cases he2 : xs.isEmpty
    rotate_left
    · simp only [↓RUN, POST]
      refine bad ?_
      show (!xs.isEmpty && _) = false
      rw [he2]; rfl
    simp only [↓RUN, POST, ↓k_law_is_kit_law_is_copy]
    obtain ⟨hxl, hxi⟩ : xs.length ≤ 1000 ∧ ∃ k1, k1 ≤ 40 ∧ ∀ x ∈ xs, Nc k1 x := by
      cases hn with
      | tup _ hl h => exact ⟨hl, _, by omega, h⟩
    obtain ⟨k1, hk1, hxi⟩ := hxi
    refine lc_pure (fun d => if copyB (ss.length : Nat) d then none else some d) (fun d hd => ?_) fun ρ2 hb _ => ?_
    · rw [lc_turn]
      simp only [↓RUN, POST, ↓k_law_is_kit_law_is_copy]
      refine wf_law_is_copy (hxi d hd) hk1 ?_
      try simp only [↓RUN, POST]
      cases copyB (ss.length : Nat) d
      · simp only [↓RUN, POST]; rfl
      · simp only [↓RUN, POST]; rfl
    simp only [POST] at hb
    try simp only [↓RUN, POST]
    rw [hb]
    refine p_neD (lst_shaped (nope_mem hxi) (by omega)) rfl ?_
    rw [eqE, nope]
    cases hc : xs.all (copyB (ss.length : Nat))
    · simp only [↓RUN, POST]
      refine bad ?_
      show (!xs.isEmpty && (xs.all (copyB (ss.length : Nat)) && _)) = false
      rw [hc]; simp
    simp only [↓RUN, POST]
    have ex := copies_eq hc
    have sv : stateB (ss.length : Nat) (.tuple xs) = ascC (xs.map cpOf) := by
      show (!xs.isEmpty && (xs.all (copyB (ss.length : Nat)) && ascC (xs.map cpOf))) = _
      rw [he2, hc]; rfl
    obtain ⟨cs, hcs⟩ : ∃ cs, cs = xs.map cpOf := ⟨_, rfl⟩
    rw [← hcs] at ex sv
    clear hcs
    subst ex
    rw [List.length_map] at hxl ⊢
    rw [sv] at bad good
    refine rng2 (by omega) ?_
    refine lc_pure (fun d => match d with
      | .int j => if (cs.getD (j.toNat - 1) ⟨0, 0, 0⟩).lt (cs.getD j.toNat ⟨0, 0, 0⟩) then none else some d
      | _ => none) (fun d hd => ?_) fun ρ2 hb _ => ?_
    · obtain ⟨j, hj, rfl⟩ := List.mem_map.mp hd
      have hj' : j < cs.length - 1 := by
        have := List.mem_range.mp hj
        omega
      rw [lc_turn]
      simp only [↓RUN, POST]
      have e1 : (1 + (j : Int) - 1) = ((j : Nat) : Int) := by omega
      have e2 : (1 + (j : Int)) = ((j + 1 : Nat) : Int) := by omega
      rw [e1, e2]
      refine ixTn (C_at (by omega)) ?_
      refine ixTn (C_at (by omega)) ?_
      simp only [p_ltC, ↓RUN, POST, Int.toNat_natCast, Nat.add_sub_cancel]
      cases (cs.getD j ⟨0, 0, 0⟩).lt (cs.getD (j + 1) ⟨0, 0, 0⟩)
      · simp only [↓RUN, POST]; rfl
      · simp only [↓RUN, POST]; rfl
    simp only [POST] at hb
    try simp only [↓RUN, POST]
    rw [hb]
    have sh : ∀ x ∈ (rngL 1 ((cs.length : Int) - 1).toNat).filterMap (fun d => match d with
      | .int j => if (cs.getD (j.toNat - 1) ⟨0, 0, 0⟩).lt (cs.getD j.toNat ⟨0, 0, 0⟩) then none else some d
      | _ => none), Nc 0 x := fun x hx => by
      obtain ⟨y, hy, e⟩ := List.mem_filterMap.mp hx
      obtain ⟨j, hj, rfl⟩ := List.mem_map.mp hy
      have := List.mem_range.mp hj
      simp only at e
      split at e
      · cases e
      · cases e
        exact .int _ (by omega)
    refine p_neD (lst_shaped sh (by omega)) rfl ?_
    rw [eqE, asc_list]
    cases ha : ascC cs
    · simp only [↓RUN, POST]
      exact bad ha
    · simp only [↓RUN, POST]
      exact ⟨⟨_, _, _, _, rfl⟩, good ha⟩
  · obtain ⟨⟨c1, c2, c3, c4, rfl⟩, hI⟩ := hI
    simp only [↓RUN, POST]
    have : ss.all (stateB (ss.length : Nat)) = true := by
      rw [List.take_length] at hI
      exact List.all_eq_true.mpr hI
    rw [this] at kk
    exact kk
end Df

/-! The defs of the law k02: bent kits, the law. -/
namespace Df
open PySem Lt
variable {K : Cell → Cell → Prop}
theorem Nc.nil {k : Nat} : Nc (k + 1) (.tuple []) := .tup _ (by decide) fun x h => by cases h
theorem Nc.t1 {k : Nat} {a : D} (ha : Nc k a) : Nc (k + 1) (.tuple [a]) := .tup _ (by simp) fun x h => by
  simp only [List.mem_cons, List.not_mem_nil, or_false] at h
  rw [h]; exact ha
theorem Nc.t2 {k : Nat} {a b : D} (ha : Nc k a) (hb : Nc k b) : Nc (k + 1) (.tuple [a, b]) := .tup _ (by simp) fun x h => by
  simp only [List.mem_cons, List.not_mem_nil, or_false] at h
  rcases h with rfl | rfl <;> assumption
theorem Nc.t3 {k : Nat} {a b c : D} (ha : Nc k a) (hb : Nc k b) (hc : Nc k c) : Nc (k + 1) (.tuple [a, b, c]) := .tup _ (by simp) fun x h => by
  simp only [List.mem_cons, List.not_mem_nil, or_false] at h
  rcases h with rfl | rfl | rfl <;> assumption
theorem Nc.app {k : Nat} {xs ys : List D} (ha : Nc (k + 1) (.tuple xs)) (hb : Nc (k + 1) (.tuple ys)) (hl : xs.length + ys.length ≤ 1000) : Nc (k + 1) (.tuple (xs ++ ys)) := by
  refine .tup _ (by rw [List.length_append]; exact hl) fun x h => ?_
  rcases List.mem_append.mp h with h | h
  · exact ha.items.2 x h
  · exact hb.items.2 x h
theorem cut_sub {xs : List D} {lo hi : Option Int} : (∀ x ∈ cutD xs lo hi, x ∈ xs) ∧ (cutD xs lo hi).length ≤ xs.length := by
  unfold cutD
  refine ⟨fun x h => List.mem_of_mem_drop (List.mem_of_mem_take h), ?_⟩
  rw [List.length_take, List.length_drop]
  omega
theorem Nc.cut {k : Nat} {xs : List D} {lo hi : Option Int} (h : Nc (k + 1) (.tuple xs)) : Nc (k + 1) (.tuple (cutD xs lo hi)) := by
  have c := cut_sub (xs := xs) (lo := lo) (hi := hi)
  exact .tup _ (Nat.le_trans c.2 h.items.1) fun x hx => h.items.2 x (c.1 x hx)
theorem slc_t {xs : List D} {lo hi : Option Int} {K : Cell → Prop} : WV (slcD (.tuple xs) lo hi) K = K (.dat (.tuple (cutD xs lo hi))) := WV_some
theorem ix_mem2 {xs : List D} {P : D → Prop} {r : Int} {Q : D → Prop} (h0 : 0 ≤ r) (h1 : r < xs.length) (hp : ∀ x ∈ xs, P x) (k : ∀ x, P x → Q x) : WV (idxD (.list xs) (.int r)) Q := by
  obtain ⟨i, rfl⟩ := Int.eq_ofNat_of_zero_le h0
  have hi : i < xs.length := by omega
  exact ixLn (List.getElem?_eq_getElem hi) (k _ (hp _ (List.getElem_mem hi)))
theorem ix_memT {xs : List D} {P : D → Prop} {r : Int} {Q : D → Prop} (h0 : 0 ≤ r) (h1 : r < xs.length) (hp : ∀ x ∈ xs, P x) (k : ∀ x, P x → Q x) : WV (idxD (.tuple xs) (.int r)) Q := by
  obtain ⟨i, rfl⟩ := Int.eq_ofNat_of_zero_le h0
  have hi : i < xs.length := by omega
  exact ixTn (List.getElem?_eq_getElem hi) (k _ (hp _ (List.getElem_mem hi)))
/-- small numbers of a copy -/
def CSm (c : Cp) : Prop := c.x.natAbs < 2 ^ 40 ∧ c.y.natAbs < 2 ^ 40 ∧ c.g.natAbs < 2 ^ 40
theorem wf_law_bent_copy {p q : Int} {c : Cp} (hd : Dk p q) (hc : CSm c) (k : ∀ d p' q', Dk p' q' → Nc 3 d → K (.dat d) (dk p' q')) : WF F_law_bent_copy [dk p q, .dat (dC c)] K := by
  rw [b_law_bent_copy]
  simp only [↓ir_law_bent_copy, ↓RUN, POST, ↓k_law_bent_copy_law_take]
  refine ⟨by decide, ?_⟩
  refine wf_law_take hd (by decide) (B_small 15 (by decide) (two_lt (by decide))) fun r p1 q1 d1 r0 r1 => ?_
  try simp only [↓RUN, POST]
  obtain ⟨hx, hy, hg⟩ := hc
  have nx : ∀ {k}, Nc k (.int c.x) := fun {k} => .int _ (by omega)
  have ny : ∀ {k}, Nc k (.int c.y) := fun {k} => .int _ (by omega)
  have ng : ∀ {k}, Nc k (.int c.g) := fun {k} => .int _ (by omega)
  have ng9 : ∀ {k}, Nc k (.int (c.g + 9)) := fun {k} => .int _ (by omega)
  have n0 : ∀ {k}, Nc k (.int 0) := fun {k} => .int _ (by decide)
  have n1 : ∀ {k}, Nc k (.int (-1)) := fun {k} => .int _ (by decide)
  have nb : ∀ {k b}, Nc k (.bool b) := fun {k b} => .bl b
  refine ix_mem2 (P := Nc 3) r0 (by exact r1) ?_ fun d hd => k d _ _ d1 hd
  intro d hd
  simp only [List.mem_cons, List.mem_append, List.cons_append, List.nil_append, List.not_mem_nil, or_false] at hd
  rcases hd with rfl | rfl | rfl | rfl | rfl | rfl | rfl | rfl | rfl | rfl | rfl | rfl | rfl | rfl | rfl
  all_goals repeat first
    | exact nx
    | exact ny
    | exact ng
    | exact ng9
    | exact n0
    | exact n1
    | exact nb
    | exact Nc.nil
    | refine Nc.t1 ?_
    | refine Nc.t2 ?_ ?_
    | refine Nc.t3 ?_ ?_ ?_
theorem CSm.nc {c : Cp} {k : Nat} (h : CSm c) : Nc (k + 2) (dC c) := .t2 (.t2 (.int _ (Nat.lt_trans h.1 (by decide))) (.int _ (Nat.lt_trans h.2.1 (by decide)))) (.int _ (Nat.lt_trans h.2.2 (by decide)))
theorem nc_dS {l : List Cp} {k : Nat} (hl : l.length ≤ 200) (h : ∀ c ∈ l, CSm c) : Nc (k + 3) (dS l) := .tup _ (by rw [List.length_map]; omega) fun x hx => by
  obtain ⟨c, hc, rfl⟩ := List.mem_map.mp hx
  exact (h c hc).nc
theorem wf_law_bent_copies {p q : Int} {l : List Cp} (hd : Dk p q) (hn : l ≠ []) (hl : l.length ≤ 200) (hc : ∀ c ∈ l, CSm c) (k : ∀ d p' q', Dk p' q' → Nc 4 d → K (.dat d) (dk p' q')) : WF F_law_bent_copies [dk p q, .dat (dS l)] K := by
  have n4 : Nc 4 (dS l) := nc_dS hl hc
  have hpos : 0 < l.length := Nat.pos_of_ne_zero fun z => hn (List.eq_nil_of_length_eq_zero z)
  have cl : ∀ {lo hi}, (cutD (l.map fun c => dC c) lo hi).length ≤ l.length := fun {lo hi} => by
    have := (cut_sub (xs := l.map fun c => dC c) (lo := lo) (hi := hi)).2
    rw [List.length_map] at this
    exact this
  rw [b_law_bent_copies]
  simp only [↓ir_law_bent_copies, ↓RUN, POST, ↓k_law_bent_copies_law_take, ↓k_law_bent_copies_law_bent_copy]
  refine wf_law_take hd (by decide) (B_small 7 (by decide) (two_lt (by decide))) fun way p1 q1 d1 w0 w1 => ?_
  try simp only [↓RUN, POST, List.length_map]
  refine wf_law_take d1 (by omega) (B_small 200 (by omega) (two_lt (by decide))) fun at_ p2 q2 d2 a0 a1 => ?_
  try simp only [↓RUN, POST]
  have cat : ∀ {lo hi lo' hi'}, (cutD (l.map fun c => dC c) lo hi).length + (cutD (l.map fun c => dC c) lo' hi').length ≤ 16777216 ∧ Nc 4 (.tuple (cutD (l.map fun c => dC c) lo hi ++ cutD (l.map fun c => dC c) lo' hi')) := fun {lo hi lo' hi'} => by
    have h1 := cl (lo := lo) (hi := hi)
    have h2 := cl (lo := lo') (hi := hi')
    exact ⟨by omega, n4.cut.app n4.cut (by omega)⟩
  refine IT.dec (fun _ => k _ _ _ d2 .nil) fun _ => ?_
  try simp only [↓RUN, POST]
  refine IT.dec (fun _ => ?_) fun _ => ?_
  · simp only [↓RUN, POST, slc_t]
    exact ⟨cat.1, k _ _ _ d2 cat.2⟩
  try simp only [↓RUN, POST]
  refine IT.dec (fun _ => ?_) fun _ => ?_
  · try simp only [↓RUN, POST]
    exact k _ _ _ d2 (.tup _ (by rw [List.length_reverse, List.length_map]; omega) fun x hx => n4.items.2 x (List.mem_reverse.mp hx))
  try simp only [↓RUN, POST]
  refine IT.dec (fun _ => ?_) fun _ => ?_
  · simp only [↓RUN, POST, slc_t]
    exact ⟨cat.1, k _ _ _ d2 cat.2⟩
  try simp only [↓RUN, POST]
  refine IT.dec (fun _ => ?_) fun _ => ?_
  · simp only [↓RUN, POST, slc_t]
    exact ⟨cat.1, k _ _ _ d2 cat.2⟩
  simp only [↓RUN, POST, slc_t, ↓k_law_bent_copies_law_take, ↓k_law_bent_copies_law_bent_copy]
  refine ix_memT (P := fun d => ∃ c, d = dC c ∧ CSm c) a0 (by rw [List.length_map]; exact a1) (fun x hx => ?_) fun x hx => ?_
  · obtain ⟨c, h, rfl⟩ := List.mem_map.mp hx
    exact ⟨c, rfl, hc c h⟩
  obtain ⟨c, rfl, h⟩ := hx
  try simp only [↓RUN, POST]
  refine wf_law_bent_copy d2 h fun d p3 q3 d3 hnc => ?_
  simp only [↓RUN, POST, slc_t]
  have h1 := cl (lo := none) (hi := some at_)
  have h2 := cl (lo := some (at_ + 1)) (hi := none)
  refine ⟨by omega, by rw [List.length_append]; simp only [List.length_cons, List.length_nil]; omega, k _ _ _ d3 ?_⟩
  refine (n4.cut.app (.t1 hnc) (by simp only [List.length_cons, List.length_nil]; omega)).app n4.cut (by rw [List.length_append]; simp only [List.length_cons, List.length_nil]; omega)
structure GSm (ls : List (List Cp)) : Prop where
  ne : ls ≠ []
  len : ls.length ≤ 100
  ok : ∀ l ∈ ls, l ≠ [] ∧ l.length ≤ 200 ∧ ∀ c ∈ l, CSm c
theorem nc_lists {ls : List (List Cp)} {k : Nat} (h : GSm ls) : Nc (k + 4) (.tuple (ls.map fun l => dS l)) := .tup _ (by rw [List.length_map]; have := h.len; omega) fun x hx => by
  obtain ⟨l, hl, rfl⟩ := List.mem_map.mp hx
  exact nc_dS (h.ok l hl).2.1 (h.ok l hl).2.2
theorem nc_grid {t : Tb} {k : Nat} (h : Grid t) : Nc (k + 2) (dT t) := by
  have ⟨_, a, b, c, d, _⟩ := h
  exact .t2 (.t2 (.int _ (by omega)) (.int _ (by omega))) (.t2 (.int _ (by omega)) (.int _ (by omega)))
theorem wf_law_bent_2 {p q : Int} {t : Tb} {ls : List (List Cp)} (hd : Dk p q) (ht : Grid t) (hg : GSm ls) (k : ∀ vs p' q', Dk p' q' → Nc 6 (.tuple vs) → K (.dat (.tuple vs)) (dk p' q')) : WF F_law_bent_2 [dk p q, .dat (dG t ls)] K := by
  have nl : ∀ {k}, Nc (k + 4) (.tuple (ls.map fun l => dS l)) := fun {k} => nc_lists hg
  have nt : ∀ {k}, Nc (k + 2) (dT t) := fun {k} => nc_grid ht
  have hpos : 0 < ls.length := Nat.pos_of_ne_zero fun z => hg.ne (List.eq_nil_of_length_eq_zero z)
  have hlen := hg.len
  have cl : ∀ {lo hi}, (cutD (ls.map fun l => dS l) lo hi).length ≤ ls.length := fun {lo hi} => by
    have := (cut_sub (xs := ls.map fun l => dS l) (lo := lo) (hi := hi)).2
    rw [List.length_map] at this
    exact this
  rw [b_law_bent_2]
  simp only [↓ir_law_bent_2, ↓RUN, POST, ↓k_law_bent_2_law_take, ↓k_law_bent_2_law_bent_copies]
  refine wf_law_take hd (by decide) (B_small 7 (by decide) (two_lt (by decide))) fun way p1 q1 d1 w0 w1 => ?_
  try simp only [↓RUN, POST, List.length_map]
  refine wf_law_take d1 (by omega) (B_small 200 (by omega) (two_lt (by decide))) fun at_ p2 q2 d2 a0 a1 => ?_
  try simp only [↓RUN, POST]
  refine IT.dec (fun _ => ?_) fun _ => ?_
  · simp only [↓RUN, POST, ↓k_law_bent_2_law_take, ↓rng1_4]
    refine wf_law_take d2 (by decide) (B_small 7 (by decide) (two_lt (by decide))) fun a p3 q3 d3 a0 a1 => ?_
    try simp only [↓RUN, POST, ↓k_law_bent_2_law_take]
    refine wf_law_take d3 (by decide) (B_small 7 (by decide) (two_lt (by decide))) fun b p4 q4 d4 b0 b1 => ?_
    try simp only [↓RUN, POST, ↓k_law_bent_2_law_take]
    refine wf_law_take d4 (by decide) (B_small 7 (by decide) (two_lt (by decide))) fun c p5 q5 d5 c0 c1 => ?_
    try simp only [↓RUN, POST, ↓k_law_bent_2_law_take]
    refine wf_law_take d5 (by decide) (B_small 7 (by decide) (two_lt (by decide))) fun d p6 q6 d6 e0 e1 => ?_
    try simp only [↓RUN, POST]
    have sm : ∀ {k} {i : Int}, 0 ≤ i → i < 7 → Nc k (.int (i - 3)) := fun {k i} h1 h2 => .int _ (by omega)
    exact k _ _ _ d6 (.t2 (.t2 (.t2 (sm a0 a1) (sm b0 b1)) (.t2 (sm c0 c1) (sm e0 e1))) nl)
  try simp only [↓RUN, POST]
  refine IT.dec (fun _ => ?_) fun _ => ?_
  · try simp only [↓RUN, POST, ↓k_law_bent_2_law_take]
    refine wf_law_take d2 (by decide) (B_small 7 (by decide) (two_lt (by decide))) fun a p3 q3 d3 a0 a1 => ?_
    try simp only [↓RUN, POST]
    refine ix_mem2 (P := Nc 5) a0 (by exact a1) ?_ fun d hd => ?_
    · intro d hd
      simp only [List.mem_cons, List.not_mem_nil, or_false] at hd
      have n0 : ∀ {k}, Nc k (.int 0) := fun {k} => .int _ (by decide)
      have n1 : ∀ {k}, Nc k (.int 1) := fun {k} => .int _ (by decide)
      have n2 : ∀ {k}, Nc k (.int 2) := fun {k} => .int _ (by decide)
      rcases hd with rfl | rfl | rfl | rfl
      all_goals repeat first
        | exact n0
        | exact n1
        | exact n2
        | exact Nc.nil
        | refine Nc.t1 ?_
        | refine Nc.t2 ?_ ?_
        | refine Nc.t3 ?_ ?_ ?_
    try simp only [↓RUN, POST]
    exact k _ _ _ d3 (.t2 hd nl)
  try simp only [↓RUN, POST]
  have na : ∀ {k}, Nc k (.int at_) := fun {k} => .int _ (by omega)
  have item : ∀ x ∈ ls.map (fun l => dS l), ∃ l ∈ ls, x = dS l := fun x hx => by
    obtain ⟨l, hl, rfl⟩ := List.mem_map.mp hx
    exact ⟨l, hl, rfl⟩
  have h1 := cl (lo := none) (hi := some at_)
  have h2 := cl (lo := some (at_ + 1)) (hi := none)
  have a1' : at_ < (ls.map fun l => dS l).length := by rw [List.length_map]; exact a1
  refine IT.dec (fun _ => ?_) fun _ => ?_
  · simp only [↓RUN, POST, slc_t, ↓k_law_bent_2_law_take]
    refine ⟨by omega, ?_⟩
    refine ix_memT a0 a1' item fun x hx => ?_
    obtain ⟨l, hl, rfl⟩ := hx
    have nx : ∀ {k}, Nc (k + 3) (dS l) := fun {k} => nc_dS (hg.ok l hl).2.1 (hg.ok l hl).2.2
    try simp only [↓RUN, POST, slc_t, ↓k_law_bent_2_law_take]
    refine ⟨by decide, by omega, by decide, ?_⟩
    refine wf_law_take d2 (by decide) (B_small 11 (by decide) (two_lt (by decide))) fun a p3 q3 d3 b0 b1 => ?_
    try simp only [↓RUN, POST]
    refine ix_mem2 (P := fun d => ∃ vs, d = .tuple vs ∧ Nc 6 d) b0 (by exact b1) ?_ fun d hd => ?_
    · intro d hd
      simp only [List.mem_cons, List.not_mem_nil, or_false] at hd
      have cc : ∀ {k}, Nc (k + 4) (.tuple (cutD (ls.map fun l => dS l) none (some at_) ++ cutD (ls.map fun l => dS l) (some (at_ + 1)) none)) := fun {k} => nl.cut.app nl.cut (by omega)
      have c1 : ∀ {k}, Nc (k + 4) (.tuple (cutD (ls.map fun l => dS l) none (some at_) ++ [.int at_])) := fun {k} => nl.cut.app (.t1 na) (by simp only [List.length_cons, List.length_nil]; omega)
      have ⟨_, ga, gb, gc, gd, _⟩ := ht
      have c4 : Nc 5 (.tuple [.int t.a, .int t.b, .int t.c, .int t.d]) := .tup _ (by simp) fun x hx => by
        simp only [List.mem_cons, List.not_mem_nil, or_false] at hx
        rcases hx with rfl | rfl | rfl | rfl <;> exact .int _ (by omega)
      rcases hd with rfl | rfl | rfl | rfl | rfl | rfl | rfl | rfl | rfl | rfl | rfl
      all_goals refine ⟨_, rfl, ?_⟩
      all_goals repeat first
        | exact nl
        | exact nt
        | exact nx
        | exact na
        | exact cc
        | exact c1
        | exact c4
        | exact Nc.nil
        | refine Nc.t1 ?_
        | refine Nc.t2 ?_ ?_
        | refine Nc.t3 ?_ ?_ ?_
    obtain ⟨vs, rfl, hv⟩ := hd
    try simp only [↓RUN, POST]
    exact k _ _ _ d3 hv
  · simp only [↓RUN, POST, slc_t, ↓k_law_bent_2_law_take, ↓k_law_bent_2_law_bent_copies]
    refine ix_memT a0 a1' item fun x hx => ?_
    obtain ⟨l, hl, rfl⟩ := hx
    try simp only [↓RUN, POST, slc_t, ↓k_law_bent_2_law_take, ↓k_law_bent_2_law_bent_copies]
    obtain ⟨g1, g2, g3⟩ := hg.ok l hl
    refine wf_law_bent_copies d2 g1 g2 g3 fun d p3 q3 d3 hnc => ?_
    try simp only [↓RUN, POST, slc_t]
    have hnc' : Nc 4 d := hnc
    refine ⟨by omega, by rw [List.length_append]; simp only [List.length_cons, List.length_nil]; omega, k _ _ _ d3 ?_⟩
    exact .t2 nt (((nl (k := 1)).cut.app (.t1 hnc') (by simp only [List.length_cons, List.length_nil]; omega)).app (nl (k := 1)).cut (by rw [List.length_append]; simp only [List.length_cons, List.length_nil]; omega))
theorem LOk.sm {m most far : Int} {l : List Cp} (h : LOk m most far l) (hm : m ≤ 100) (hf : far ≤ 1000000) : ∀ c ∈ l, CSm c := fun c hc => by
  obtain ⟨h1, h2, h3, h4, h5, h6⟩ := h.ok c hc
  exact ⟨by omega, by omega, by omega⟩
theorem gear_sm {ls : List (List Cp)} {most far : Int} (hn : ls ≠ []) (hl : ls.length ≤ 100) (hm : most ≤ 200) (hf : far ≤ 1000000) (h : ∀ l ∈ ls, LOk ls.length most far l) : GSm ls :=
  ⟨hn, hl, fun l hl' => ⟨(h l hl').ne, by have := (h l hl').len; omega, (h l hl').sm (by omega) hf⟩⟩
theorem copyB_dC {c : Cp} {m : Int} (h : 0 ≤ c.g ∧ c.g < m) : copyB m (dC c) = true := by
  show (true && (decide (0 ≤ c.g) && decide (c.g < m))) = true
  rw [decide_eq_true h.1, decide_eq_true h.2]; rfl
/-- a drawn kit is one -/
theorem gear_kit {t : Tb} {ls : List (List Cp)} {most far : Int} (ht : Grid t) (hn : ls ≠ []) (h : ∀ l ∈ ls, LOk ls.length most far l) : kitB (dG t ls) = true := by
  show (isGrow (dT t) && (!(ls.map fun l => dS l).isEmpty && (ls.map fun l => dS l).all (stateB ((ls.map fun l => dS l).length : Nat)))) = true
  rw [isGrow_dT, ht.g, List.length_map, Bool.true_and, Bool.and_eq_true]
  refine ⟨?_, ?_⟩
  · cases ls with
    | nil => exact absurd rfl hn
    | cons _ _ => rfl
  · rw [List.all_map, List.all_eq_true]
    intro l hl
    have L := h l hl
    show (!(l.map fun c => dC c).isEmpty && ((l.map fun c => dC c).all (copyB (ls.length : Nat)) && ascC ((l.map fun c => dC c).map cpOf))) = true
    have e : (l.map fun c => dC c).map cpOf = l := by
      rw [List.map_map]
      exact (List.map_congr_left fun c _ => rfl).trans (List.map_id l)
    rw [e, L.asc, Bool.and_true, Bool.and_eq_true]
    refine ⟨?_, ?_⟩
    · cases l with
      | nil => exact absurd rfl L.ne
      | cons _ _ => rfl
    · rw [List.all_map, List.all_eq_true]
      intro c hc
      obtain ⟨_, _, _, _, h5, h6⟩ := L.ok c hc
      exact copyB_dC ⟨h5, h6⟩
theorem gear_nc {t : Tb} {ls : List (List Cp)} {k : Nat} (ht : Grid t) (hg : GSm ls) : Nc (k + 5) (dG t ls) := .t2 (nc_grid ht) (nc_lists hg)
theorem turns_eq2 {l : Nat} {c : Int} (h : 0 ≤ c) (hc : c < 1000) : ∃ m : Nat, (if (if c < (l : Int) then c else (l : Int)) > 2 then (if c < (l : Int) then c else (l : Int)) else 2) = (m : Int) ∧ m < 1000 := by
  refine ⟨(if (if c < (l : Int) then c else (l : Int)) > 2 then (if c < (l : Int) then c else (l : Int)) else 2).toNat, ?_, ?_⟩ <;> split <;> split <;> omega
theorem wf_law_2 {ns : List Int} (k : K (.dat (.bool true)) .emp) : WF F_law_2 [.dat (scr ns)] K := by
  rw [b_law_2]
  simp only [↓ir_law_2, ↓RUN, POST, ↓lenScr]
  obtain ⟨m, hm, hm'⟩ := turns_eq2 (l := ns.length) (c := 20) (by decide) (by decide)
  rw [hm]
  refine rng1 (by omega) ?_
  refine fo_range (fun i ρ => ∃ a b c d e, ρ = [.dat (scr ns), a, b, c, d, e]) ⟨_, _, _, _, _, rfl⟩ (fun i ρ hi hI => ?_) fun ρ hI => ?_
  · obtain ⟨a, b, c, d, e, rfl⟩ := hI
    simp only [↓RUN, POST, Int.zero_add, ↓k_law_2_law_deck, ↓k_law_2_law_gear, ↓k_law_2_law_grid, ↓k_law_2_law_take, ↓k_law_2_law_same, ↓k_law_2_is_kit, ↓k_law_2_law_bent_2, ↓k_law_2_law_is_kit]
    refine wf_law_deck (by omega) fun p q dk0 => ?_
    try simp only [↓RUN, POST]
    refine wf_law_grid dk0 fun t p1 q1 d1 ht => ?_
    try simp only [↓RUN, POST]
    refine wf_law_take d1 (by decide) (B_small 2 (by decide) (two_lt (by decide))) fun r p2 q2 d2 r0 r1 => ?_
    try simp only [↓RUN, POST]
    refine ix_mem2 (P := fun d => ∃ f : Int, d = .int f ∧ 0 ≤ f ∧ f ≤ 10) r0 (by exact r1) ?_ fun d hd => ?_
    · intro x hx
      simp only [List.mem_cons, List.not_mem_nil, or_false] at hx
      rcases hx with rfl | rfl <;> exact ⟨_, rfl, by decide, by decide⟩
    obtain ⟨far, rfl, f0, f1⟩ := hd
    try simp only [↓RUN, POST]
    refine wf_law_gear d2 ⟨by decide, by decide⟩ ⟨by decide, by decide⟩ ⟨f0, by omega⟩ fun ls p3 q3 d3 hn hl hok => ?_
    have hg : GSm ls := gear_sm hn (by omega) (by decide) (by omega) hok
    have kb := gear_kit ht hn hok
    try simp only [↓RUN, POST]
    refine wf_is_kit (k0 := 3) (gear_nc (k := 1) ht hg) ?_
    try simp only [↓RUN, POST]
    refine wf_is_kit (k0 := 3) (gear_nc (k := 1) ht hg) ?_
    rw [kb]
    try simp only [↓RUN, POST]
    refine wf_law_same (k := 5) rfl ?_
    try simp only [↓RUN, POST]
    refine rng1 (m := 8) (by decide) ?_
    refine fo_range (fun j ρ => ∃ p q d e, ρ = [.dat (scr ns), .dat (.int (i : Nat)), dk p q, .dat (dG t ls), d, e] ∧ Dk p q) ⟨_, _, _, _, rfl, d3⟩ (fun j ρ hj hJ => ?_) fun ρ hJ => ?_
    · obtain ⟨p, q, d, e, rfl, dd⟩ := hJ
      simp only [↓RUN, POST, Int.zero_add, ↓k_law_2_law_same, ↓k_law_2_is_kit, ↓k_law_2_law_bent_2, ↓k_law_2_law_is_kit]
      refine wf_law_bent_2 dd ht hg fun vs p4 q4 d4 hv => ?_
      try simp only [↓RUN, POST]
      refine wf_is_kit (k0 := 3) hv ?_
      try simp only [↓RUN, POST]
      refine wf_is_kit (k0 := 3) hv ?_
      try simp only [↓RUN, POST]
      refine wf_law_is_kit (k0 := 3) hv (by decide) ?_
      have fl : ∀ x : D, (List.replicate (Int.toNat 2) [x]).flatten = [x, x] := fun _ => rfl
      simp only [↓RUN, POST, o_mulL, fl]
      refine ⟨⟨by decide, by decide, by decide⟩, ?_⟩
      refine wf_law_same (k := 5) rfl ?_
      try simp only [↓RUN, POST]
      exact ⟨_, _, _, _, rfl, d4⟩
    · obtain ⟨p, q, d, e, rfl, dd⟩ := hJ
      try simp only [↓RUN, POST]
      exact ⟨_, _, _, _, _, rfl⟩
  · obtain ⟨a, b, c, d, e, rfl⟩ := hI
    try simp only [↓RUN, POST]
    exact k
end Df

/-! Walks through a drawn kit. -/
namespace Df
open PySem Lt
variable {K : Cell → Cell → Prop}
/-- a drawn kit -/
structure KG (t : Tb) (ls : List (List Cp)) : Prop where
  g : Grid t
  ne : ls ≠ []
  len : ls.length ≤ 100
  st : ∀ l ∈ ls, l ≠ [] ∧ l.length ≤ 100
  goal : ∀ l ∈ ls, ∀ c ∈ l, 0 ≤ c.g ∧ c.g < ls.length
  far : ∀ l ∈ ls, ∀ c ∈ l, -16 ≤ c.x ∧ c.x ≤ 16 ∧ -16 ≤ c.y ∧ c.y ≤ 16
  kit : kitB (dG t ls) = true
  nc : Nc 6 (dG t ls)
def stAt (ls : List (List Cp)) (s : Int) : List Cp := ls.getD s.toNat []
def cpAt (ls : List (List Cp)) (s a : Int) : Option Cp := if 0 ≤ a then (stAt ls s)[a.toNat]? else none
abbrev Off := Int × Int
def goS (t : Tb) (o : Off) (c : Cp) : Off := (t.a * o.1 + t.b * o.2 + c.x, t.c * o.1 + t.d * o.2 + c.y)
def walkG (t : Tb) (ls : List (List Cp)) : Int → Off → List Int → Option (Int × Off)
  | s, o, [] => some (s, o)
  | s, o, a :: r => (cpAt ls s a).bind fun c => walkG t ls c.g (goS t o c) r
def dEnd : Option (Int × Off) → D
  | none => .none
  | some (s, o) => .tuple [.int s, dP o.1 o.2]
abbrev dW (ps : List Int) : D := .tuple (ps.map .int)
theorem st_mem {ls : List (List Cp)} {s : Int} (h0 : 0 ≤ s) (h1 : s < ls.length) : stAt ls s ∈ ls := by
  unfold stAt
  have h : s.toNat < ls.length := by omega
  rw [List.getD_eq_getElem?_getD, List.getElem?_eq_getElem h]
  exact List.getElem_mem h
theorem ix_st {ls : List (List Cp)} {s : Int} {Q : D → Prop} (h0 : 0 ≤ s) (h1 : s < ls.length) (k : Q (dS (stAt ls s))) : WV (idxD (.tuple (ls.map fun l => dS l)) (.int s)) Q := by
  obtain ⟨i, rfl⟩ := Int.eq_ofNat_of_zero_le h0
  have hi : i < ls.length := by omega
  refine ixTn (d := dS (stAt ls (i : Int))) ?_ k
  unfold stAt
  rw [List.getElem?_map, List.getElem?_eq_getElem hi, List.getD_eq_getElem?_getD, Int.toNat_natCast, List.getElem?_eq_getElem hi]; rfl
theorem cp_mem {ls : List (List Cp)} {s a : Int} {c : Cp} (h : cpAt ls s a = some c) : c ∈ stAt ls s ∧ 0 ≤ a ∧ a < (stAt ls s).length := by
  unfold cpAt at h
  split at h
  · have := List.getElem?_eq_some_iff.mp h
    obtain ⟨h1, h2⟩ := this
    exact ⟨List.mem_of_getElem? h, by assumption, by omega⟩
  · cases h
theorem cp_in {ls : List (List Cp)} {s a : Int} (h0 : 0 ≤ a) (h1 : a < (stAt ls s).length) : ∃ c, cpAt ls s a = some c := by
  unfold cpAt
  rw [if_pos h0]
  exact ⟨_, List.getElem?_eq_getElem (by omega)⟩
theorem cp_out {ls : List (List Cp)} {s a : Int} (h : a < 0 ∨ (stAt ls s).length ≤ a) : cpAt ls s a = none := by
  unfold cpAt
  split
  · exact List.getElem?_eq_none (by omega)
  · rfl
theorem ix_cp {ls : List (List Cp)} {s a : Int} {c : Cp} {Q : D → Prop} (h : cpAt ls s a = some c) (k : Q (dC c)) : WV (idxD (.tuple ((stAt ls s).map fun c => dC c)) (.int a)) Q := by
  obtain ⟨_, h0, h1⟩ := cp_mem h
  obtain ⟨i, rfl⟩ := Int.eq_ofNat_of_zero_le h0
  refine ixTn (d := dC c) ?_ k
  unfold cpAt at h
  rw [if_pos h0, Int.toNat_natCast] at h
  rw [List.getElem?_map, h]; rfl
theorem wf_plus {x y z w : Int} (k : K (.dat (dP (x + z) (y + w))) .emp) : WF F_plus [.dat (dP x y), .dat (dP z w)] K := by
  rw [b_plus]
  simp only [↓ir_plus, ↓RUN, POST]
  exact k
theorem wf_check_kit {t : Tb} {ls : List (List Cp)} (h : KG t ls) (k : K (.dat .none) .emp) : WF F_check_kit [.dat (dG t ls)] K := by
  rw [b_check_kit]
  simp only [↓ir_check_kit, ↓RUN, POST, ↓k_check_kit_is_kit]
  refine wf_is_kit (k0 := 3) h.nc ?_
  rw [h.kit]
  simp only [↓RUN, POST]
  exact k
theorem wf_check_state {t : Tb} {ls : List (List Cp)} {s : Int} (h0 : 0 ≤ s) (h1 : s < ls.length) (k : K (.dat .none) .emp) : WF F_check_state [.dat (dG t ls), .dat (.int s)] K := by
  rw [b_check_state]
  simp only [↓ir_check_state, ↓RUN, POST, ↓k_check_state_is_integer]
  refine wf_is_integer rfl ?_
  simp only [↓RUN, POST, show isInt (.int s) = true from rfl, decide_eq_true h0, List.length_map, decide_eq_true h1]
  exact k
/-- the numbers of a walk -/
def OB (n : Nat) (o : Off) : Prop := B n o.1 ∧ B n o.2
theorem OB.go {n : Nat} {t : Tb} {o : Off} {c : Cp} (h : OB n o) (g : Grid t) (hx : -16 ≤ c.x ∧ c.x ≤ 16) (hy : -16 ≤ c.y ∧ c.y ≤ 16) (hn : 5 ≤ n) : OB (n + 4) (goS t o c) := by
  have b5 : ∀ i : Int, -16 ≤ i ∧ i ≤ 16 → B (n + 3) i := fun i hi => (B_small 16 hi (show 16 < 2 ^ 5 by decide)).mono (by omega)
  have tb := g.tb
  have e : ∀ i j : Int, B 2 i → B n j → B (n + 2) (i * j) := fun i j h1 h2 => (h1.mul h2).mono (by omega)
  exact ⟨((e _ _ tb.a h.1).add (e _ _ tb.b h.2)).add (b5 _ hx), ((e _ _ tb.c h.1).add (e _ _ tb.d h.2)).add (b5 _ hy)⟩
theorem wf_walked {t : Tb} {ls : List (List Cp)} {s : Int} {ps : List Int} (G : KG t ls) (h0 : 0 ≤ s) (h1 : s < ls.length) (hl : ps.length ≤ 1000) (hp : ∀ p ∈ ps, 0 ≤ p) (k : K (.dat (dEnd (walkG t ls s (0, 0) ps))) .emp) : WF F_walked [.dat (dG t ls), .dat (.int s), .dat (dW ps)] K := by
  rw [b_walked]
  simp only [↓ir_walked, ↓RUN, POST, ↓k_walked_times_of, ↓k_walked_plus]
  refine fo_inv (fun i ρ => ∃ s' o c4 c5 c6, ρ = [.dat (dG t ls), .dat (.int s'), .dat (dW ps), .dat (dP o.1 o.2), c4, c5, c6] ∧ 0 ≤ s' ∧ s' < ls.length ∧ OB (4 * i + 5) o ∧ walkG t ls s (0, 0) ps = walkG t ls s' o (ps.drop i)) ⟨s, (0, 0), _, _, _, rfl, h0, h1, ⟨B.zero, B.zero⟩, rfl⟩ (fun i d ρ hd hI => ?_) fun ρ hI => ?_
  · obtain ⟨s', o, c4, c5, c6, rfl, g0, g1, ob, he⟩ := hI
    rw [List.getElem?_map] at hd
    obtain ⟨a, ha, rfl⟩ := mpd hd
    have hlt : i < ps.length := (List.getElem?_eq_some_iff.mp ha).1
    have ea : ps[i] = a := (List.getElem?_eq_some_iff.mp ha).2
    rw [List.drop_eq_getElem_cons hlt, ea] at he
    have ha0 : 0 ≤ a := hp a (List.mem_of_getElem? ha)
    simp only [↓RUN, POST, ↓k_walked_times_of, ↓k_walked_plus]
    refine ix_st g0 g1 ?_
    try simp only [↓RUN, POST, List.length_map]
    refine IT.dec (fun h => ?_) fun h => ?_
    · have : walkG t ls s (0, 0) ps = none := by
        rw [he]
        show (cpAt ls s' a).bind _ = none
        rw [cp_out (.inr (by omega))]; rfl
      rw [this] at k
      try simp only [↓RUN, POST]
      exact k
    · obtain ⟨c, hc⟩ := cp_in (ls := ls) (s := s') ha0 (by omega)
      obtain ⟨m1, _⟩ := cp_mem hc
      have ml := st_mem g0 g1
      obtain ⟨f1, f2, f3, f4⟩ := G.far _ ml c m1
      obtain ⟨e1, e2⟩ := G.goal _ ml c m1
      try simp only [↓RUN, POST]
      refine ix_cp hc ?_
      try simp only [↓RUN, POST, ↓k_walked_times_of, ↓k_walked_plus]
      refine wf_times_of G.g.tb ob.1 ob.2 (by omega) ?_
      try simp only [↓RUN, POST, ↓k_walked_times_of, ↓k_walked_plus]
      refine wf_plus ?_
      try simp only [↓RUN, POST]
      refine ⟨c.g, goS t o c, _, _, _, rfl, e1, e2, ?_, ?_⟩
      · have := ob.go G.g ⟨f1, f2⟩ ⟨f3, f4⟩ (by omega)
        rw [show 4 * (i + 1) + 5 = 4 * i + 5 + 4 by omega]; exact this
      · rw [he]
        show (cpAt ls s' a).bind _ = _
        rw [hc]; rfl
  · obtain ⟨s', o, c4, c5, c6, rfl, g0, g1, ob, he⟩ := hI
    rw [List.length_map, List.drop_length] at he
    try simp only [↓RUN, POST]
    rw [he] at k
    exact k
/-- a walk's own numbers: small ones -/
def PsOk (ps : List Int) : Prop := ps.length ≤ 200 ∧ ∀ p ∈ ps, p.natAbs < 2 ^ 60
theorem wf_law_gone {t : Tb} {ls : List (List Cp)} {s : Int} {ps : List Int} (G : KG t ls) (h0 : 0 ≤ s) (h1 : s < ls.length) (hl : ps.length ≤ 1000) (k : K (.dat (dEnd (walkG t ls s (0, 0) ps))) .emp) : WF F_law_gone [.dat (dG t ls), .dat (.int s), .dat (dW ps)] K := by
  rw [b_law_gone]
  simp only [↓ir_law_gone, ↓RUN, POST, ↓k_law_gone_law_ahead, ↓k_law_gone_law_add]
  refine fo_inv (fun i ρ => ∃ s' o c4 c5, ρ = [.dat (dG t ls), .dat (.int s'), .dat (dW ps), .dat (dP o.1 o.2), c4, c5] ∧ 0 ≤ s' ∧ s' < ls.length ∧ OB (4 * i + 5) o ∧ walkG t ls s (0, 0) ps = walkG t ls s' o (ps.drop i)) ⟨s, (0, 0), _, _, rfl, h0, h1, ⟨B.zero, B.zero⟩, rfl⟩ (fun i d ρ hd hI => ?_) fun ρ hI => ?_
  · obtain ⟨s', o, c4, c5, rfl, g0, g1, ob, he⟩ := hI
    rw [List.getElem?_map] at hd
    obtain ⟨a, ha, rfl⟩ := mpd hd
    have hlt : i < ps.length := (List.getElem?_eq_some_iff.mp ha).1
    have ea : ps[i] = a := (List.getElem?_eq_some_iff.mp ha).2
    rw [List.drop_eq_getElem_cons hlt, ea] at he
    have bad : (a < 0 ∨ ((stAt ls s').length : Int) ≤ a) → K (.dat .none) .emp := fun h => by
      have : walkG t ls s (0, 0) ps = none := by
        rw [he]
        show (cpAt ls s' a).bind _ = none
        rw [cp_out h]; rfl
      rw [this] at k
      exact k
    simp only [↓RUN, POST, ↓k_law_gone_law_ahead, ↓k_law_gone_law_add]
    refine ORK.cut (fun h => ?_) fun h => ?_
    · try simp only [↓RUN, POST]
      exact bad (.inl (of_decide_eq_true h))
    have ha0 : ¬ a < 0 := of_decide_eq_false h
    refine ix_st g0 g1 ?_
    try simp only [↓RUN, POST, List.length_map]
    refine IT.dec (fun h => ?_) fun h => ?_
    · try simp only [↓RUN, POST]
      exact bad (.inr (by omega))
    · obtain ⟨c, hc⟩ := cp_in (ls := ls) (s := s') (show 0 ≤ a by omega) (by omega)
      obtain ⟨m1, _⟩ := cp_mem hc
      have ml := st_mem g0 g1
      obtain ⟨f1, f2, f3, f4⟩ := G.far _ ml c m1
      obtain ⟨e1, e2⟩ := G.goal _ ml c m1
      try simp only [↓RUN, POST]
      refine ix_st g0 g1 ?_
      try simp only [↓RUN, POST]
      refine ix_cp hc ?_
      try simp only [↓RUN, POST, ↓k_law_gone_law_ahead, ↓k_law_gone_law_add]
      refine wf_law_ahead G.g.tb ob.1 ob.2 (by omega) ?_
      try simp only [↓RUN, POST, ↓k_law_gone_law_ahead, ↓k_law_gone_law_add]
      refine wf_law_add ?_
      try simp only [↓RUN, POST]
      refine ⟨c.g, goS t o c, _, _, rfl, e1, e2, ?_, ?_⟩
      · have := ob.go G.g ⟨f1, f2⟩ ⟨f3, f4⟩ (by omega)
        rw [show 4 * (i + 1) + 5 = 4 * i + 5 + 4 by omega]; exact this
      · rw [he]
        show (cpAt ls s' a).bind _ = _
        rw [hc]; rfl
  · obtain ⟨s', o, c4, c5, rfl, g0, g1, ob, he⟩ := hI
    rw [List.length_map, List.drop_length] at he
    try simp only [↓RUN, POST]
    rw [he] at k
    exact k
end Df

/-! Walks and addresses: what may be walked. -/
namespace Df
open PySem Lt
variable {K : Cell → Cell → Prop}
def rowB (ps : List Int) : Bool := ps.all fun p => decide (p ≥ 0)
theorem rowB_no {t : Tb} {ls : List (List Cp)} : ∀ {ps : List Int} {s : Int} {o : Off}, rowB ps = false → walkG t ls s o ps = none
  | [], s, o, h => by cases h
  | a :: r, s, o, h => by
    show (cpAt ls s a).bind _ = none
    by_cases ha : a < 0
    · rw [cp_out (.inl ha)]; rfl
    · have h' : rowB r = false := by
        unfold rowB at h ⊢
        rw [List.all_cons, decide_eq_true (show a ≥ 0 by omega), Bool.true_and] at h
        exact h
      cases cpAt ls s a with
      | none => rfl
      | some c => exact rowB_no h'
theorem walk_at {t : Tb} {ls : List (List Cp)} (G : KG t ls) : ∀ {ps : List Int} {s s' : Int} {o o' : Off}, 0 ≤ s → s < ls.length → walkG t ls s o ps = some (s', o') → 0 ≤ s' ∧ s' < ls.length
  | [], s, s', o, o', h0, h1, h => by cases (show some (s, o) = some (s', o') from h); exact ⟨h0, h1⟩
  | a :: r, s, s', o, o', h0, h1, h => by
    have h' : (cpAt ls s a).bind (fun c => walkG t ls c.g (goS t o c) r) = some (s', o') := h
    cases hc : cpAt ls s a with
    | none => rw [hc] at h'; cases h'
    | some c =>
      rw [hc] at h'
      obtain ⟨e1, e2⟩ := G.goal _ (st_mem h0 h1) c (cp_mem hc).1
      exact walk_at G e1 e2 h'
theorem wf_is_row {ps : List Int} (k : K (.dat (.bool (rowB ps))) .emp) : WF F_is_row [.dat (dW ps)] K := by
  rw [b_is_row]
  simp only [↓ir_is_row, ↓RUN, POST, ↓k_is_row_is_integer]
  refine lc_map (fun d => match d with
    | .int p => .bool (decide (p ≥ 0))
    | _ => .none) (fun d hd => ?_) fun ρ2 hb => ?_
  · obtain ⟨p, hp, rfl⟩ := List.mem_map.mp hd
    rw [lc_turn]
    simp only [↓RUN, POST, ↓k_is_row_is_integer]
    refine wf_is_integer rfl ?_
    simp only [↓RUN, POST, show isInt (.int p) = true from rfl]
  · try simp only [↓RUN, POST]
    refine f_all (bs := ps.map fun p => decide (p ≥ 0)) (by rw [List.map_map, List.map_map]; rfl) ?_
    have e : (ps.map fun p => decide (p ≥ 0)).all id = rowB ps := by unfold rowB; rw [List.all_map]; rfl
    rw [e]
    try simp only [↓RUN, POST]
    exact k
theorem rowB_all {ps : List Int} (h : rowB ps = true) : ∀ p ∈ ps, 0 ≤ p := fun p hp => of_decide_eq_true (List.all_eq_true.mp h p hp)
def okW (t : Tb) (ls : List (List Cp)) (s : Int) (ps : List Int) : Bool := (walkG t ls s (0, 0) ps).isSome
theorem wf_has_walk {t : Tb} {ls : List (List Cp)} {s : Int} {ps : List Int} (G : KG t ls) (h0 : 0 ≤ s) (h1 : s < ls.length) (hl : ps.length ≤ 1000) (k : K (.dat (.bool (okW t ls s ps))) .emp) : WF F_has_walk [.dat (dG t ls), .dat (.int s), .dat (dW ps)] K := by
  rw [b_has_walk]
  simp only [↓ir_has_walk, ↓RUN, POST, ↓k_has_walk_is_row, ↓k_has_walk_walked]
  refine wf_is_row ?_
  try simp only [↓RUN, POST]
  cases hr : rowB ps
  · have : okW t ls s ps = false := by unfold okW; rw [rowB_no hr]; rfl
    rw [this] at k
    simp only [↓RUN, POST]
    exact k
  · simp only [↓RUN, POST, ↓k_has_walk_walked]
    refine wf_walked G h0 h1 hl (rowB_all hr) ?_
    unfold okW at k
    cases hw : walkG t ls s (0, 0) ps with
    | none =>
      rw [hw] at k
      simp only [dEnd, ↓RUN, POST]
      exact k
    | some q =>
      rw [hw] at k
      simp only [dEnd, ↓RUN, POST]
      exact k
/-- it is an address -/
def okA (t : Tb) (ls : List (List Cp)) (s : Int) (a b : List Int) : Bool := match walkG t ls s (0, 0) a with
  | none => false
  | some (s1, _) => !b.isEmpty && (match walkG t ls s1 (0, 0) b with
    | none => false
    | some (s2, _) => decide (s2 = s1))
theorem wf_has_address {t : Tb} {ls : List (List Cp)} {s : Int} {a b : List Int} (G : KG t ls) (h0 : 0 ≤ s) (h1 : s < ls.length) (hl : a.length ≤ 1000) (hl2 : b.length ≤ 1000) (k : K (.dat (.bool (okA t ls s a b))) .emp) : WF F_has_address [.dat (dG t ls), .dat (.int s), .dat (.tuple [dW a, dW b])] K := by
  rw [b_has_address]
  simp only [↓ir_has_address, ↓RUN, POST, ↓k_has_address_is_pair, ↓k_has_address_is_row, ↓k_has_address_walked]
  refine wf_is_pair rfl ?_
  simp only [↓RUN, POST, show isPair (.tuple [dW a, dW b]) = true from rfl]
  refine wf_is_row ?_
  unfold okA at k
  cases hr : rowB a
  · rw [rowB_no hr] at k
    simp only [↓RUN, POST]
    exact k
  simp only [↓RUN, POST]
  refine wf_is_row ?_
  have nob : (rowB b = false ∨ b.isEmpty = true) → K (.dat (.bool false)) .emp := fun h => by
    cases hw : walkG t ls s (0, 0) a with
    | none => rw [hw] at k; exact k
    | some q =>
      obtain ⟨s1, o1⟩ := q
      rw [hw] at k
      have k' : K (.dat (.bool (!b.isEmpty && (match walkG t ls s1 (0, 0) b with
        | none => false
        | some (s2, _) => decide (s2 = s1))))) .emp := k
      rcases h with h | h
      · rw [rowB_no h] at k'
        simpa using k'
      · rw [h] at k'
        exact k'
  cases hr2 : rowB b
  · simp only [↓RUN, POST]
    exact nob (.inl hr2)
  simp only [↓RUN, POST, List.length_map]
  refine IT.dec (fun h => ?_) fun h => ?_
  · try simp only [↓RUN, POST]
    exact nob (.inr (by cases b <;> first | rfl | (simp at h; omega)))
  try simp only [↓RUN, POST, ↓k_has_address_walked]
  refine wf_walked G h0 h1 hl (rowB_all hr) ?_
  cases hw : walkG t ls s (0, 0) a with
  | none =>
    rw [hw] at k
    simp only [dEnd, ↓RUN, POST]
    exact k
  | some q =>
    obtain ⟨s1, o1⟩ := q
    obtain ⟨g0, g1⟩ := walk_at G h0 h1 hw
    rw [hw] at k
    simp only [dEnd, ↓RUN, POST, ↓k_has_address_walked]
    refine wf_walked G g0 g1 hl2 (rowB_all hr2) ?_
    have hb : b.isEmpty = false := by cases b <;> first | (exact absurd rfl h) | rfl
    have k' : K (.dat (.bool (!b.isEmpty && (match walkG t ls s1 (0, 0) b with
        | none => false
        | some (s2, _) => decide (s2 = s1))))) .emp := k
    clear k
    have k := k'
    rw [hb] at k
    cases hw2 : walkG t ls s1 (0, 0) b with
    | none =>
      rw [hw2] at k
      simp only [dEnd, ↓RUN, POST]
      exact k
    | some q2 =>
      obtain ⟨s2, o2⟩ := q2
      rw [hw2] at k
      simp only [dEnd, ↓RUN, POST]
      simpa using k
theorem wf_is_walk {t : Tb} {ls : List (List Cp)} {s : Int} {ps : List Int} (G : KG t ls) (h0 : 0 ≤ s) (h1 : s < ls.length) (hl : ps.length ≤ 1000) (k : K (.dat (.bool (okW t ls s ps))) .emp) : WF F_is_walk [.dat (dG t ls), .dat (.int s), .dat (dW ps)] K := by
  rw [b_is_walk]
  simp only [↓ir_is_walk, ↓RUN, POST, ↓k_is_walk_check_kit, ↓k_is_walk_check_state, ↓k_is_walk_has_walk]
  refine wf_check_kit G ?_
  try simp only [↓RUN, POST]
  refine wf_check_state h0 h1 ?_
  try simp only [↓RUN, POST]
  refine wf_has_walk G h0 h1 hl ?_
  try simp only [↓RUN, POST]
  exact k
theorem wf_is_address {t : Tb} {ls : List (List Cp)} {s : Int} {a b : List Int} (G : KG t ls) (h0 : 0 ≤ s) (h1 : s < ls.length) (hl : a.length ≤ 1000) (hl2 : b.length ≤ 1000) (k : K (.dat (.bool (okA t ls s a b))) .emp) : WF F_is_address [.dat (dG t ls), .dat (.int s), .dat (.tuple [dW a, dW b])] K := by
  rw [b_is_address]
  simp only [↓ir_is_address, ↓RUN, POST, ↓k_is_address_check_kit, ↓k_is_address_check_state, ↓k_is_address_has_address]
  refine wf_check_kit G ?_
  try simp only [↓RUN, POST]
  refine wf_check_state h0 h1 ?_
  try simp only [↓RUN, POST]
  refine wf_has_address G h0 h1 hl hl2 ?_
  try simp only [↓RUN, POST]
  exact k
theorem walk_row {t : Tb} {ls : List (List Cp)} {s : Int} {o : Off} {ps : List Int} (h : (walkG t ls s o ps).isSome = true) : rowB ps = true := by
  cases hr : rowB ps
  · rw [rowB_no hr] at h; cases h
  · rfl
theorem wf_ends {t : Tb} {ls : List (List Cp)} {s : Int} {ps : List Int} (G : KG t ls) (h0 : 0 ≤ s) (h1 : s < ls.length) (hl : ps.length ≤ 1000) (hw : okW t ls s ps = true) (k : K (.dat (dEnd (walkG t ls s (0, 0) ps))) .emp) : WF F_ends [.dat (dG t ls), .dat (.int s), .dat (dW ps)] K := by
  rw [b_ends]
  simp only [↓ir_ends, ↓RUN, POST, ↓k_ends_check_kit, ↓k_ends_check_state, ↓k_ends_has_walk, ↓k_ends_walked]
  refine wf_check_kit G ?_
  try simp only [↓RUN, POST]
  refine wf_check_state h0 h1 ?_
  try simp only [↓RUN, POST]
  refine wf_has_walk G h0 h1 hl ?_
  rw [hw]
  try simp only [↓RUN, POST]
  refine wf_walked G h0 h1 hl (rowB_all (walk_row hw)) ?_
  try simp only [↓RUN, POST]
  exact k
theorem dW_shaped {b : List Int} : SeqAt.shaped (dW b) = true := by
  have : PyData.canLayAll0 (b.map .int) = true ∧ PyData.depthAll (b.map .int) = 0 := by
    induction b with
    | nil => exact ⟨rfl, rfl⟩
    | cons x r ih =>
      rw [List.map_cons, PyData.canLayAll0, PyData.depthAll, ih.1, ih.2]
      exact ⟨rfl, rfl⟩
  unfold SeqAt.shaped
  rw [Bool.and_eq_true, decide_eq_true_eq, PyData.canLay0, PyData.depth, this.2]
  exact ⟨this.1, by decide⟩
theorem dW_eqv {b : List Int} : PyData.eqv (dW b) (.tuple []) = b.isEmpty := by cases b <;> simp [PyData.eqv, PyData.eqvAll]
theorem law_track_is {t : Tb} {ls : List (List Cp)} {s : Int} {a b : List Int} (G : KG t ls) (h0 : 0 ≤ s) (h1 : s < ls.length) (hl : a.length ≤ 1000) (hl2 : b.length ≤ 1000) (k : K (.dat (.bool (okA t ls s a b))) .emp) : WF F_law_is_track [.dat (dG t ls), .dat (.int s), .dat (.tuple [dW a, dW b])] K := by
  rw [b_law_is_track]
  simp only [↓ir_law_is_track, ↓RUN, POST, ↓k_law_is_track_law_gone]
  refine wf_law_gone G h0 h1 hl ?_
  unfold okA at k
  cases hw : walkG t ls s (0, 0) a with
  | none =>
    rw [hw] at k
    simp only [dEnd, ↓RUN, POST]
    exact k
  | some q =>
    obtain ⟨s1, o1⟩ := q
    obtain ⟨g0, g1⟩ := walk_at G h0 h1 hw
    rw [hw] at k
    have k' : K (.dat (.bool (!b.isEmpty && (match walkG t ls s1 (0, 0) b with
        | none => false
        | some (s2, _) => decide (s2 = s1))))) .emp := k
    clear k
    have k := k'
    simp only [dEnd, ↓RUN, POST, ↓k_law_is_track_law_gone]
    refine p_eqD dW_shaped rfl ?_
    rw [dW_eqv]
    cases hb : b.isEmpty
    · rw [hb] at k
      simp only [↓RUN, POST, ↓k_law_is_track_law_gone]
      refine wf_law_gone G g0 g1 hl2 ?_
      cases hw2 : walkG t ls s1 (0, 0) b with
      | none =>
        rw [hw2] at k
        simp only [dEnd, ↓RUN, POST]
        exact k
      | some q2 =>
        obtain ⟨s2, o2⟩ := q2
        rw [hw2] at k
        simp only [dEnd, ↓RUN, POST]
        simpa using k
    · rw [hb] at k
      try simp only [↓RUN, POST]
      exact k
end Df

/-! Drawn walks. -/
namespace Df
open PySem Lt
variable {K : Cell → Cell → Prop}
theorem walk_snoc {t : Tb} {ls : List (List Cp)} {a : Int} : ∀ {ps : List Int} {s : Int} {o : Off}, walkG t ls s o (ps ++ [a]) = (walkG t ls s o ps).bind fun q => (cpAt ls q.1 a).map fun c => (c.g, goS t q.2 c)
  | [], s, o => by
    show (cpAt ls s a).bind (fun c => some (c.g, goS t o c)) = (cpAt ls s a).map _
    cases cpAt ls s a <;> rfl
  | b :: r, s, o => by
    show (cpAt ls s b).bind (fun c => walkG t ls c.g (goS t o c) (r ++ [a])) = ((cpAt ls s b).bind fun c => walkG t ls c.g (goS t o c) r).bind _
    cases cpAt ls s b with
    | none => rfl
    | some c => exact walk_snoc
theorem ix_last {xs : List D} {x : D} {Q : D → Prop} (k : Q x) : WV (idxD (.list (xs ++ [x])) (.int (-1))) Q := by
  have e : idxD (.list (xs ++ [x])) (.int (-1)) = some x := by
    show L2.atI (xs ++ [x]) (-1) = some x
    exact L2.atI_last _ _
  rw [e, WV_some]; exact k
theorem wf_law_path {p q : Int} {t : Tb} {ls : List (List Cp)} {s many : Int} (G : KG t ls) (hd : Dk p q) (h0 : 0 ≤ s) (h1 : s < ls.length) (m0 : 0 ≤ many) (m1 : many ≤ 100) (k : ∀ ps p' q', Dk p' q' → (ps.length : Int) = many → okW t ls s ps = true → (∀ a ∈ ps, 0 ≤ a ∧ a < 100) → K (.dat (dW ps)) (dk p' q')) : WF F_law_path [dk p q, .dat (dG t ls), .dat (.int s), .dat (.int many)] K := by
  rw [b_law_path]
  simp only [↓ir_law_path, ↓RUN, POST, ↓k_law_path_law_take]
  refine rng1' (by omega) (by omega) ?_
  refine fo_range (fun i ρ => ∃ p q s' o ps c5, ρ = [dk p q, .dat (dG t ls), .dat (.int s'), .dat (.int many), .own (ps.map .int), c5] ∧ Dk p q ∧ 0 ≤ s' ∧ s' < ls.length ∧ ps.length = i ∧ walkG t ls s (0, 0) ps = some (s', o) ∧ ∀ a ∈ ps, 0 ≤ a ∧ a < 100) ⟨p, q, s, (0, 0), [], _, rfl, hd, h0, h1, rfl, rfl, by simp⟩ (fun i ρ hi hI => ?_) fun ρ hI => ?_
  · obtain ⟨p, q, s', o, ps, c5, rfl, hd, g0, g1, hl, hw, hb⟩ := hI
    simp only [↓RUN, POST, ↓k_law_path_law_take]
    have ml := st_mem g0 g1
    obtain ⟨ne, len⟩ := G.st _ ml
    have hpos : 0 < (stAt ls s').length := Nat.pos_of_ne_zero fun z => ne (List.eq_nil_of_length_eq_zero z)
    refine ix_st g0 g1 ?_
    try simp only [↓RUN, POST, List.length_map]
    refine wf_law_take hd (by omega) (B_small 100 (by omega) (two_lt (by decide))) fun a p1 q1 d1 a0 a1 => ?_
    try simp only [↓RUN, POST, List.length_map]
    refine ⟨by omega, ?_⟩
    refine ix_st g0 g1 ?_
    try simp only [↓RUN, POST]
    refine ix_last ?_
    try simp only [↓RUN, POST]
    obtain ⟨c, hc⟩ := cp_in (ls := ls) (s := s') a0 a1
    obtain ⟨e1, e2⟩ := G.goal _ ml c (cp_mem hc).1
    refine ix_cp hc ?_
    try simp only [↓RUN, POST]
    refine ⟨p1, q1, c.g, goS t o c, ps ++ [a], _, by rw [List.map_append]; rfl, d1, e1, e2, by simp [hl], ?_, fun b hb' => ?_⟩
    · rw [walk_snoc, hw]
      show (cpAt ls s' a).map _ = _
      rw [hc]; rfl
    · rcases List.mem_append.mp hb' with h | h
      · exact hb b h
      · rw [List.mem_singleton] at h
        subst h
        exact ⟨a0, by omega⟩
  · obtain ⟨p, q, s', o, ps, c5, rfl, hd, g0, g1, hl, hw, hb⟩ := hI
    try simp only [↓RUN, POST]
    exact k ps _ _ hd (by omega) (by unfold okW; rw [hw]; rfl) hb
def cutI (ps : List Int) (lo hi : Option Int) : List Int := (ps.drop (HT.sIx ps.length 0 lo)).take (HT.sIx ps.length ps.length hi - HT.sIx ps.length 0 lo)
theorem cut_map {ps : List Int} {lo hi : Option Int} : cutD (ps.map .int) lo hi = (cutI ps lo hi).map .int := by
  unfold cutD cutI
  rw [List.length_map, List.map_take, List.map_drop]
theorem cutI_sub {ps : List Int} {lo hi : Option Int} : (∀ x ∈ cutI ps lo hi, x ∈ ps) ∧ (cutI ps lo hi).length ≤ ps.length := by
  unfold cutI
  refine ⟨fun x h => List.mem_of_mem_drop (List.mem_of_mem_take h), ?_⟩
  rw [List.length_take, List.length_drop]
  omega
theorem slc_w {ps : List Int} {lo hi : Option Int} {K : Cell → Prop} : WV (slcD (dW ps) lo hi) K = K (.dat (dW (cutI ps lo hi))) := by
  show WV (some (Cell.dat (.tuple (cutD (ps.map .int) lo hi)))) K = _
  rw [WV_some, cut_map]
theorem ix_w {ps : List Int} {r : Int} {Q : D → Prop} (h0 : 0 ≤ r) (h1 : r < ps.length) (k : ∀ a ∈ ps, Q (.int a)) : WV (idxD (dW ps) (.int r)) Q := by
  obtain ⟨i, rfl⟩ := Int.eq_ofNat_of_zero_le h0
  have hi : i < ps.length := by omega
  exact ixTn (d := .int ps[i]) (by rw [List.getElem?_map, List.getElem?_eq_getElem hi]; rfl) (k _ (List.getElem_mem hi))
theorem ix_memL {xs : List D} {P : D → Prop} {r : Int} {Q : D → Prop} (h0 : 0 ≤ r) (h1 : r < xs.length) (hp : ∀ x ∈ xs, P x) (k : ∀ x, P x → Q x) : WV (idxD (.list xs) (.int r)) Q := by
  obtain ⟨i, rfl⟩ := Int.eq_ofNat_of_zero_le h0
  have hi : i < xs.length := by omega
  exact ixLn (List.getElem?_eq_getElem hi) (k _ (hp _ (List.getElem_mem hi)))
/-- a row of few small numbers -/
structure SmW (n : Nat) (ps : List Int) : Prop where
  len : ps.length ≤ n
  sm : ∀ a ∈ ps, -1000 ≤ a ∧ a ≤ 1000
theorem wf_law_bent_3 {p q : Int} {ps : List Int} (hd : Dk p q) (h : SmW 300 ps) (hs : ∀ a ∈ ps, a ≤ 900) (k : ∀ ps' p' q', Dk p' q' → SmW 700 ps' → K (.dat (dW ps')) (dk p' q')) : WF F_law_bent_3 [dk p q, .dat (dW ps)] K := by
  have hl := h.len
  have cl : ∀ {lo hi}, (cutI ps lo hi).length ≤ ps.length := fun {lo hi} => cutI_sub.2
  rw [b_law_bent_3]
  simp only [↓ir_law_bent_3, ↓RUN, POST, ↓k_law_bent_3_law_take]
  refine wf_law_take hd (by decide) (B_small 7 (by decide) (two_lt (by decide))) fun way p1 q1 d1 w0 w1 => ?_
  try simp only [↓RUN, POST, List.length_map]
  refine wf_law_take d1 (by omega) (B_small 700 (by omega) (two_lt (by decide))) fun at_ p2 q2 d2 a0 a1 => ?_
  try simp only [↓RUN, POST]
  have mid : ∀ {lo hi lo' hi'} {x : Int}, -1000 ≤ x ∧ x ≤ 1000 → SmW 700 (cutI ps lo hi ++ [x] ++ cutI ps lo' hi') := fun {lo hi lo' hi' x} hx => by
    have h1 := cl (lo := lo) (hi := hi)
    have h2 := cl (lo := lo') (hi := hi')
    refine ⟨by simp only [List.length_append, List.length_cons, List.length_nil]; omega, fun a ha => ?_⟩
    rcases List.mem_append.mp ha with ha | ha
    · rcases List.mem_append.mp ha with ha | ha
      · exact h.sm a (cutI_sub.1 a ha)
      · rw [List.mem_singleton] at ha; rw [ha]; exact hx
    · exact h.sm a (cutI_sub.1 a ha)
  have ins : ∀ {lo hi lo' hi'} {x : Int} {p' q' : Int}, Dk p' q' → (-1000 ≤ x ∧ x ≤ 1000) → K (.dat (.tuple ((cutI ps lo hi).map .int ++ [.int x] ++ (cutI ps lo' hi').map .int))) (dk p' q') := fun {lo hi lo' hi' x p' q'} hd' hx => by
    have := k (cutI ps lo hi ++ [x] ++ cutI ps lo' hi') p' q' hd' (mid hx)
    rw [show dW (cutI ps lo hi ++ [x] ++ cutI ps lo' hi') = .tuple ((cutI ps lo hi).map .int ++ [.int x] ++ (cutI ps lo' hi').map .int) by show PyData.tuple _ = _; rw [List.map_append, List.map_append]; rfl] at this
    exact this
  have ln1 : ∀ {lo hi}, ((cutI ps lo hi).map PyData.int).length + 1 ≤ 16777216 := fun {lo hi} => by
    have h1 := cl (lo := lo) (hi := hi)
    rw [List.length_map]
    omega
  have ln2 : ∀ {lo hi lo' hi'} {x : D}, ((cutI ps lo hi).map PyData.int ++ [x]).length + ((cutI ps lo' hi').map PyData.int).length ≤ 16777216 := fun {lo hi lo' hi' x} => by
    have h1 := cl (lo := lo) (hi := hi)
    have h2 := cl (lo := lo') (hi := hi')
    simp only [List.length_append, List.length_cons, List.length_nil, List.length_map]
    omega
  refine ORK.cut (fun h1 => ?_) fun h1 => ?_
  · try simp only [↓RUN, POST, slc_w, ↓k_law_bent_3_law_take]
    refine wf_law_take d2 (by decide) (B_small 8 (by decide) (two_lt (by decide))) fun x p3 q3 d3 x0 x1 => ?_
    try simp only [↓RUN, POST, slc_w, ↓k_law_bent_3_law_take]
    exact ⟨ln1, ln2, ins d3 (by omega)⟩
  try simp only [↓RUN, POST]
  refine p_eqD dW_shaped rfl ?_
  rw [dW_eqv]
  cases he : ps.isEmpty
  rotate_left
  · try simp only [↓RUN, POST, slc_w, ↓k_law_bent_3_law_take]
    refine wf_law_take d2 (by decide) (B_small 8 (by decide) (two_lt (by decide))) fun x p3 q3 d3 x0 x1 => ?_
    try simp only [↓RUN, POST, slc_w, ↓k_law_bent_3_law_take]
    exact ⟨ln1, ln2, ins d3 (by omega)⟩
  have hpos : 0 < ps.length := by
    cases ps with
    | nil => cases he
    | cons _ _ => simp
  try simp only [↓RUN, POST, slc_w, List.length_map]
  have hat : ∃ r : Int, (if (ps.length : Int) - 1 < at_ then (ps.length : Int) - 1 else at_) = r ∧ 0 ≤ r ∧ r < ps.length := ⟨_, rfl, by split <;> omega, by split <;> omega⟩
  obtain ⟨r, er, r0, r1⟩ := hat
  simp only [er]
  refine IT.dec (fun _ => ?_) fun _ => ?_
  · try simp only [↓RUN, POST, slc_w]
    have c1 := cl (lo := none) (hi := some r)
    have c2 := cl (lo := some (r + 1)) (hi := none)
    refine ⟨by omega, ?_⟩
    have := k (cutI ps none (some r) ++ cutI ps (some (r + 1)) none) p2 q2 d2 ⟨by rw [List.length_append]; omega, fun a ha => by
      rcases List.mem_append.mp ha with ha | ha
      · exact h.sm a (cutI_sub.1 a ha)
      · exact h.sm a (cutI_sub.1 a ha)⟩
    rw [show dW (cutI ps none (some r) ++ cutI ps (some (r + 1)) none) = .tuple ((cutI ps none (some r)).map .int ++ (cutI ps (some (r + 1)) none).map .int) by show PyData.tuple _ = _; rw [List.map_append]] at this
    exact this
  · try simp only [↓RUN, POST, slc_w, ↓k_law_bent_3_law_take]
    refine ix_w r0 r1 fun a ha => ?_
    try simp only [↓RUN, POST, slc_w, ↓k_law_bent_3_law_take]
    refine wf_law_take d2 (by decide) (B_small 8 (by decide) (two_lt (by decide))) fun x p3 q3 d3 x0 x1 => ?_
    try simp only [↓RUN, POST, slc_w, ↓k_law_bent_3_law_take]
    refine wf_law_take d3 (by decide) (B_small 8 (by decide) (two_lt (by decide))) fun y p4 q4 d4 y0 y1 => ?_
    try simp only [↓RUN, POST, slc_w, ↓k_law_bent_3_law_take]
    have sa := h.sm a ha
    have sb := hs a ha
    refine ix_memL (P := fun d => ∃ z : Int, d = .int z ∧ -1000 ≤ z ∧ z ≤ 1000) y0 (by exact y1) (fun z hz => ?_) fun z hz => ?_
    · simp only [List.mem_cons, List.not_mem_nil, or_false] at hz
      rcases hz with rfl | rfl | rfl | rfl <;> exact ⟨_, rfl, by omega, by omega⟩
    obtain ⟨z, rfl, z0, z1⟩ := hz
    try simp only [↓RUN, POST, slc_w]
    have l1 := ln1 (lo := none) (hi := some r)
    rw [List.length_map] at l1
    exact ⟨l1, ln2, ins d4 ⟨z0, z1⟩⟩
end Df

/-! Drawn tracks: towards law_track. -/
namespace Df
open PySem Lt
variable {K : Cell → Cell → Prop}
theorem dL_shaped {b : List Int} : SeqAt.shaped (.list (b.map .int)) = true := by
  have h : SeqAt.shaped (dW b) = true := dW_shaped
  unfold SeqAt.shaped at h ⊢
  have e1 : (PyData.list (b.map .int)).canLay0 = (dW b).canLay0 := by rw [PyData.canLay0, PyData.canLay0]
  have e2 : (PyData.list (b.map .int)).depth = (dW b).depth := by rw [PyData.depth, PyData.depth]
  rw [e1, e2]
  exact h
theorem any_int {seen : List Int} {x : Int} : ((seen.map PyData.int).any fun z => PyData.eqv z (.int x)) = decide (x ∈ seen) := by
  rw [List.any_map, Bool.eq_iff_iff, List.any_eq_true, decide_eq_true_eq]
  constructor
  · rintro ⟨y, hy, h⟩
    have : y = x := by simpa [PyData.eqv] using h
    rwa [← this]
  · intro h
    exact ⟨x, h, by simp [PyData.eqv]⟩
theorem p_notInW {seen : List Int} {x : Int} {K : Bool → Prop} : WV (cmpD .NotIn (.int x) (.list (seen.map .int))) K = K (!decide (x ∈ seen)) := by
  show WV ((if (SeqAt.shaped (.int x) && SeqAt.shaped (.list (seen.map .int))) = true then some ((seen.map PyData.int).any fun z => PyData.eqv z (.int x)) else none).map (!·)) K = _
  rw [if_pos (by rw [dL_shaped]; rfl), any_int]
  exact WV_some
theorem m_indexW {seen : List Int} {x : Int} {K : Cell → Prop} {i : Nat} (h : seen.findIdx? (fun z => decide (z = x)) = some i) : WV (mthD .index (.list (seen.map .int)) [.int x]) K = K (.dat (.int (i : Nat))) := by
  show WV (if (SeqAt.shaped (.list (seen.map .int)) && SeqAt.shaped (.int x)) = true then ((seen.map PyData.int).findIdx? fun z => PyData.eqv z (.int x)).map (fun j : Nat => Cell.dat (.int (j : Nat))) else none) K = _
  have e : ((seen.map PyData.int).findIdx? fun z => PyData.eqv z (.int x)) = some i := by
    rw [List.findIdx?_map, ← h]
    have : ((fun z => PyData.eqv z (PyData.int x)) ∘ PyData.int) = fun z => decide (z = x) := by
      funext z
      show PyData.eqv (.int z) (.int x) = decide (z = x)
      rw [Bool.eq_iff_iff]
      simp [PyData.eqv]
    rw [this]
  rw [if_pos (by rw [dL_shaped]; rfl), e]
  exact WV_some
/-- a walk of two parts -/
theorem walk_app {t : Tb} {ls : List (List Cp)} {b : List Int} : ∀ {a : List Int} {s : Int} {o : Off}, walkG t ls s o (a ++ b) = (walkG t ls s o a).bind fun q => walkG t ls q.1 q.2 b
  | [], s, o => rfl
  | x :: r, s, o => by
    show (cpAt ls s x).bind (fun c => walkG t ls c.g (goS t o c) (r ++ b)) = ((cpAt ls s x).bind fun c => walkG t ls c.g (goS t o c) r).bind _
    cases cpAt ls s x with
    | none => rfl
    | some c => exact walk_app
/-- where a walk leads hangs not on the offset -/
theorem walk_off {t : Tb} {ls : List (List Cp)} : ∀ {a : List Int} {s : Int} {o o' : Off}, (walkG t ls s o a).map (·.1) = (walkG t ls s o' a).map (·.1)
  | [], s, o, o' => rfl
  | x :: r, s, o, o' => by
    show ((cpAt ls s x).bind fun c => walkG t ls c.g (goS t o c) r).map (·.1) = ((cpAt ls s x).bind fun c => walkG t ls c.g (goS t o' c) r).map (·.1)
    cases cpAt ls s x with
    | none => rfl
    | some c => exact walk_off
end Df

/-! Drawn tracks. -/
namespace Df
open PySem Lt
variable {K : Cell → Cell → Prop}
/-- distinct numbers below n are at most n -/
theorem nodup_le {n : Nat} {l : List Int} (h : l.Nodup) (hb : ∀ x ∈ l, 0 ≤ x ∧ x < n) : l.length ≤ n := by
  have hm : (l.map Int.toNat).Nodup := by
    refine List.pairwise_map.mpr (List.Pairwise.imp_of_mem (fun {a b} ha hb' hne => ?_) h)
    have h1 := hb a ha
    have h2 := hb b hb'
    omega
  have hs : l.map Int.toNat ⊆ List.range n := fun x hx => by
    obtain ⟨y, hy, rfl⟩ := List.mem_map.mp hx
    have := hb y hy
    exact List.mem_range.mpr (by omega)
  have := List.Nodup.length_le_of_subset hm hs
  simpa using this
/-- the state of the loop -/
structure TrI (t : Tb) (ls : List (List Cp)) (s : Int) (seen ps : List Int) (here : Int) (o : Off) : Prop where
  nd : seen.Nodup
  bd : ∀ x ∈ seen, 0 ≤ x ∧ x < ls.length
  h0 : 0 ≤ here
  h1 : here < ls.length
  len : ps.length = seen.length
  pre : ∀ i x, seen[i]? = some x → ∃ o, walkG t ls s (0, 0) (ps.take i) = some (x, o)
  all : walkG t ls s (0, 0) ps = some (here, o)
  sm : ∀ a ∈ ps, 0 ≤ a ∧ a < 100
theorem TrI.step {t : Tb} {ls : List (List Cp)} {s : Int} {seen ps : List Int} {here : Int} {o : Off} {a : Int} {c : Cp} (G : KG t ls) (I : TrI t ls s seen ps here o) (hn : here ∉ seen) (a0 : 0 ≤ a) (a1 : a < 100) (hc : cpAt ls here a = some c) : TrI t ls s (seen ++ [here]) (ps ++ [a]) c.g (goS t o c) := by
  obtain ⟨e1, e2⟩ := G.goal _ (st_mem I.h0 I.h1) c (cp_mem hc).1
  refine ⟨List.nodup_append.mpr ⟨I.nd, by simp, fun x hx y hy => ?_⟩, fun x hx => ?_, e1, e2, by simp [I.len], fun i x hx => ?_, ?_, fun b hb => ?_⟩
  · rw [List.mem_singleton] at hy
    subst hy
    exact fun z => hn (z ▸ hx)
  · rcases List.mem_append.mp hx with h | h
    · exact I.bd x h
    · rw [List.mem_singleton] at h
      subst h
      exact ⟨I.h0, I.h1⟩
  · have hlt : i < (seen ++ [here]).length := (List.getElem?_eq_some_iff.mp hx).1
    rw [List.length_append, List.length_singleton] at hlt
    rw [List.take_append_of_le_length (by rw [I.len]; omega)]
    by_cases hi : i < seen.length
    · rw [List.getElem?_append_left hi] at hx
      exact I.pre i x hx
    · have hi' : i = seen.length := by omega
      subst hi'
      rw [List.getElem?_append_right (Nat.le_refl _), Nat.sub_self] at hx
      have : here = x := by simpa using hx
      subst this
      rw [← I.len, List.take_length]
      exact ⟨o, I.all⟩
  · rw [walk_snoc, I.all]
    show (cpAt ls here a).map _ = _
    rw [hc]; rfl
  · rcases List.mem_append.mp hb with h | h
    · exact I.sm b h
    · rw [List.mem_singleton] at h
      subst h
      exact ⟨a0, a1⟩
theorem find_mem {seen : List Int} {x : Int} (h : x ∈ seen) : ∃ i, seen.findIdx? (fun z => decide (z = x)) = some i ∧ seen[i]? = some x := by
  cases hf : seen.findIdx? (fun z => decide (z = x)) with
  | none =>
    have := List.findIdx?_eq_none_iff.mp hf x h
    simp at this
  | some i =>
    obtain ⟨hi, h1, _⟩ := List.findIdx?_eq_some_iff_getElem.mp hf
    refine ⟨i, rfl, ?_⟩
    rw [List.getElem?_eq_getElem hi, of_decide_eq_true h1]
/-- behind the loop: a way to the ring, the ring -/
theorem TrI.done {t : Tb} {ls : List (List Cp)} {s : Int} {seen ps : List Int} {here : Int} {o : Off} {i : Nat} (I : TrI t ls s seen ps here o) (hi : seen[i]? = some here) : ∃ o1 o2, walkG t ls s (0, 0) (ps.take i) = some (here, o1) ∧ walkG t ls here (0, 0) (ps.drop i) = some (here, o2) ∧ ps.drop i ≠ [] := by
  obtain ⟨o1, h1⟩ := I.pre i here hi
  have hlt : i < seen.length := (List.getElem?_eq_some_iff.mp hi).1
  have hall := I.all
  rw [← List.take_append_drop i ps, walk_app, h1] at hall
  have hall' : walkG t ls here o1 (ps.drop i) = some (here, o) := hall
  have := walk_off (t := t) (ls := ls) (a := ps.drop i) (s := here) (o := o1) (o' := (0, 0))
  rw [hall'] at this
  cases hq : walkG t ls here (0, 0) (ps.drop i) with
  | none => rw [hq] at this; cases this
  | some q =>
    rw [hq] at this
    obtain ⟨q1, q2⟩ := q
    cases (show some here = some q1 from this)
    refine ⟨o1, q2, h1, rfl, fun z => ?_⟩
    have : (ps.drop i).length = 0 := by rw [z]; rfl
    rw [List.length_drop, I.len] at this
    omega
theorem slc_l {ps : List Int} {lo hi : Option Int} {K : Cell → Prop} : WV (slcD (.list (ps.map .int)) lo hi) K = K (.own ((cutI ps lo hi).map .int)) := by
  show WV (some (Cell.own (cutD (ps.map .int) lo hi))) K = _
  rw [WV_some, cut_map]
theorem cut_take {ps : List Int} {i : Nat} (h : i ≤ ps.length) : cutI ps none (some (i : Int)) = ps.take i := by
  unfold cutI
  rw [HT.sIx_none, HT.sIx_nat, List.drop_zero, Nat.sub_zero, Nat.min_eq_left h]
theorem cut_drop {ps : List Int} {i : Nat} (h : i ≤ ps.length) : cutI ps (some (i : Int)) none = ps.drop i := by
  unfold cutI
  rw [HT.sIx_none, HT.sIx_nat, Nat.min_eq_left h]
  exact List.take_of_length_le (by rw [List.length_drop]; exact Nat.le_refl _)
def rep (n : Nat) (r : List Int) : List Int := (List.replicate n r).flatten
theorem mul_w {r : List Int} {m : Int} {K : Cell → Prop} (hr : r ≠ []) (hl : r.length ≤ 1000) (h1 : 1 ≤ m) (h2 : m ≤ 100) : WV (binD .Mult (.tuple (r.map .int)) (.int m)) K = K (.dat (dW (rep m.toNat r))) := by
  show WV (if m = 1 then some (Cell.dat (.tuple (r.map .int))) else if 2 ≤ m ∧ m ≤ 1000 ∧ (r.map PyData.int).isEmpty = false ∧ (r.map PyData.int).length ≤ 1000 then some (Cell.dat (.tuple (List.replicate m.toNat (r.map .int)).flatten)) else none) K = _
  by_cases h : m = 1
  · subst h
    rw [if_pos rfl, WV_some]
    have : rep (Int.toNat 1) r = r := by show (List.replicate 1 r).flatten = r; simp
    rw [this]
  · have he : (r.map PyData.int).isEmpty = false := by cases r <;> first | exact absurd rfl hr | rfl
    rw [if_neg h, if_pos ⟨by omega, by omega, he, by rw [List.length_map]; exact hl⟩, WV_some]
    unfold rep dW
    rw [List.map_flatten, List.map_replicate]
theorem rep_walk {t : Tb} {ls : List (List Cp)} {s : Int} {r : List Int} {o : Off} (h : walkG t ls s (0, 0) r = some (s, o)) : ∀ n o', ∃ o2, walkG t ls s o' (rep n r) = some (s, o2)
  | 0, o' => ⟨o', rfl⟩
  | n + 1, o' => by
    have e : rep (n + 1) r = r ++ rep n r := by unfold rep; rw [List.replicate_succ, List.flatten_cons]
    rw [e, walk_app]
    have w := walk_off (t := t) (ls := ls) (a := r) (s := s) (o := (0, 0)) (o' := o')
    rw [h] at w
    cases hq : walkG t ls s o' r with
    | none => rw [hq] at w; cases w
    | some q =>
      rw [hq] at w
      obtain ⟨q1, q2⟩ := q
      cases (show some s = some q1 from w)
      exact rep_walk h n q2
theorem wf_law_track {p q : Int} {t : Tb} {ls : List (List Cp)} {s : Int} (G : KG t ls) (hd : Dk p q) (h0 : 0 ≤ s) (h1 : s < ls.length) (k : ∀ a b p' q', Dk p' q' → a.length ≤ 100 → b.length ≤ 200 → (∀ x ∈ a ++ b, 0 ≤ x ∧ x < 100) → okA t ls s a b = true → K (.dat (.tuple [dW a, dW b])) (dk p' q')) : WF F_law_track [dk p q, .dat (dG t ls), .dat (.int s)] K := by
  rw [b_law_track]
  simp only [↓ir_law_track, ↓RUN, POST, ↓k_law_track_law_take]
  refine wh_inv (fun m ρ => ∃ p q seen ps here o, ρ = [dk p q, .dat (dG t ls), .dat (.int s), .own (seen.map .int), .own (ps.map .int), .dat (.int here), .emp] ∧ Dk p q ∧ TrI t ls s seen ps here o ∧ m + seen.length = ls.length) ls.length (fuel_lt (n := 10) (by have := G.len; omega) (by decide)) ⟨p, q, [], [], s, (0, 0), rfl, hd, ⟨List.nodup_nil, by simp, h0, h1, rfl, by simp, rfl, by simp⟩, rfl⟩ fun m ρ hI => ?_
  obtain ⟨p, q, seen, ps, here, o, rfl, hd, I, hm⟩ := hI
  simp only [↓RUN, POST, ↓k_law_track_law_take, p_notInW]
  refine ⟨fun h => ?_, fun h => ?_⟩
  · have hn : here ∉ seen := by simpa using h
    have hlen := nodup_le (n := ls.length) (l := seen ++ [here]) (List.nodup_append.mpr ⟨I.nd, by simp, fun x hx y hy => by
      rw [List.mem_singleton] at hy
      subst hy
      exact fun z => hn (z ▸ hx)⟩) (fun x hx => by
      rcases List.mem_append.mp hx with h | h
      · exact I.bd x h
      · rw [List.mem_singleton] at h
        subst h
        exact ⟨I.h0, I.h1⟩)
    rw [List.length_append, List.length_singleton] at hlen
    have hG := G.len
    have ml := st_mem I.h0 I.h1
    obtain ⟨ne, len⟩ := G.st _ ml
    have hpos : 0 < (stAt ls here).length := Nat.pos_of_ne_zero fun z => ne (List.eq_nil_of_length_eq_zero z)
    refine ⟨by rw [List.length_map]; omega, ?_⟩
    refine ix_st I.h0 I.h1 ?_
    try simp only [↓RUN, POST, List.length_map]
    refine wf_law_take hd (by omega) (B_small 100 (by omega) (two_lt (by decide))) fun a p1 q1 d1 a0 a1 => ?_
    try simp only [↓RUN, POST, List.length_map]
    refine ⟨by rw [I.len]; omega, ?_⟩
    refine ix_st I.h0 I.h1 ?_
    try simp only [↓RUN, POST]
    refine ix_last ?_
    try simp only [↓RUN, POST]
    obtain ⟨c, hc⟩ := cp_in (ls := ls) (s := here) a0 a1
    refine ix_cp hc ?_
    try simp only [↓RUN, POST]
    exact ⟨m - 1, by omega, p1, q1, seen ++ [here], ps ++ [a], c.g, goS t o c, by rw [List.map_append, List.map_append]; rfl, d1, I.step G hn a0 (by omega) hc, by rw [List.length_append, List.length_singleton]; omega⟩
  · have hs : here ∈ seen := by simpa using h
    obtain ⟨i, hf, hi⟩ := find_mem hs
    have hlt : i < seen.length := (List.getElem?_eq_some_iff.mp hi).1
    have hle : i ≤ ps.length := by rw [I.len]; omega
    rw [m_indexW hf]
    simp only [↓RUN, POST, slc_l, cut_take hle, cut_drop hle, ↓k_law_track_law_take]
    have hlen := nodup_le (n := ls.length) I.nd I.bd
    have hG := G.len
    have hpl : ps.length ≤ 100 := by rw [I.len]; omega
    refine wf_law_take hd (by decide) (B_small 2 (by decide) (two_lt (by decide))) fun r p1 q1 d1 r0 r1 => ?_
    try simp only [↓RUN, POST]
    obtain ⟨o1, o2, w1, w2, w3⟩ := I.done hi
    have hdl : (ps.drop i).length ≤ 100 := by rw [List.length_drop]; omega
    rw [mul_w w3 (by omega) (by omega) (by omega)]
    try simp only [↓RUN, POST]
    obtain ⟨o3, w4⟩ := rep_walk w2 (1 + r).toNat (0, 0)
    have hrep : (rep (1 + r).toNat (ps.drop i)).length = (1 + r).toNat * (ps.drop i).length := by unfold rep; simp
    have hmul : (1 + r).toNat * (ps.drop i).length ≤ 2 * 100 := Nat.mul_le_mul (by omega) hdl
    refine k (ps.take i) (rep (1 + r).toNat (ps.drop i)) _ _ d1 (by rw [List.length_take]; omega) (by rw [hrep]; exact hmul) (fun x hx => ?_) ?_
    · rcases List.mem_append.mp hx with h | h
      · exact I.sm x (List.mem_of_mem_take h)
      · unfold rep at h
        obtain ⟨l, hl, hx'⟩ := List.mem_flatten.mp h
        rw [List.mem_replicate] at hl
        rw [hl.2] at hx'
        exact I.sm x (List.mem_of_mem_drop hx')
    · unfold okA
      rw [w1]
      show (!(rep (1 + r).toNat (ps.drop i)).isEmpty && _) = true
      have hne : (rep (1 + r).toNat (ps.drop i)).isEmpty = false := by
        rw [List.isEmpty_eq_false_iff]
        intro z
        have : (rep (1 + r).toNat (ps.drop i)).length = 0 := by rw [z]; rfl
        rw [hrep] at this
        have h1 : 0 < (1 + r).toNat := by omega
        have h2 : 0 < (ps.drop i).length := Nat.pos_of_ne_zero fun z => w3 (List.eq_nil_of_length_eq_zero z)
        have := Nat.mul_pos h1 h2
        omega
      rw [hne, w4]
      simp
end Df

/-! All walks of a length. -/
namespace Df
open PySem Lt
variable {K : Cell → Cell → Prop}
/-- a walk, where it stands -/
abbrev WS := List Int × Int
abbrev dWS (w : WS) : D := .tuple [dW w.1, .int w.2]
def goalAt (ls : List (List Cp)) (s a : Int) : Int := match cpAt ls s a with
  | some c => c.g
  | none => 0
def nextW (ls : List (List Cp)) (w : WS) : List WS := (List.range (stAt ls w.2).length).map fun a : Nat => (w.1 ++ [(a : Int)], goalAt ls w.2 (a : Nat))
def pathsG (ls : List (List Cp)) (s : Int) : Nat → List WS
  | 0 => [([], s)]
  | n + 1 => (pathsG ls s n).flatMap (nextW ls)
theorem nextW_len {ls : List (List Cp)} {w : WS} : (nextW ls w).length = (stAt ls w.2).length := by simp [nextW]
theorem goalAt_ok {t : Tb} {ls : List (List Cp)} (G : KG t ls) {s a : Int} (h0 : 0 ≤ s) (h1 : s < ls.length) (a0 : 0 ≤ a) (a1 : a < (stAt ls s).length) : 0 ≤ goalAt ls s a ∧ goalAt ls s a < ls.length := by
  obtain ⟨c, hc⟩ := cp_in a0 a1
  unfold goalAt
  rw [hc]
  exact G.goal _ (st_mem h0 h1) c (cp_mem hc).1
theorem paths_ok {t : Tb} {ls : List (List Cp)} (G : KG t ls) {s : Int} (h0 : 0 ≤ s) (h1 : s < ls.length) : ∀ n, ∀ w ∈ pathsG ls s n, 0 ≤ w.2 ∧ w.2 < ls.length ∧ w.1.length = n
  | 0, w, hw => by
    have : w = ([], s) := by simpa [pathsG] using hw
    subst this
    exact ⟨h0, h1, rfl⟩
  | n + 1, w, hw => by
    obtain ⟨v, hv, hw⟩ := List.mem_flatMap.mp (show w ∈ (pathsG ls s n).flatMap (nextW ls) from hw)
    obtain ⟨g0, g1, g2⟩ := paths_ok G h0 h1 n v hv
    obtain ⟨a, ha, rfl⟩ := List.mem_map.mp hw
    have := goalAt_ok G g0 g1 (show (0 : Int) ≤ (a : Nat) by omega) (by have := List.mem_range.mp ha; omega)
    exact ⟨this.1, this.2, by simp [g2]⟩
theorem flat_len {ls : List (List Cp)} {m : Nat} (hm : ∀ l ∈ ls, l.length ≤ m) : ∀ {ws : List WS}, (∀ w ∈ ws, 0 ≤ w.2 ∧ w.2 < ls.length) → (ws.flatMap (nextW ls)).length ≤ ws.length * m
  | [], _ => by simp
  | w :: ws, h => by
    have ih := flat_len hm (ws := ws) fun v hv => h v (by simp [hv])
    obtain ⟨g0, g1⟩ := h w (by simp)
    have := hm _ (st_mem g0 g1)
    rw [List.flatMap_cons, List.length_append, nextW_len, List.length_cons, Nat.add_mul]
    omega
theorem paths_len {t : Tb} {ls : List (List Cp)} {m : Nat} (G : KG t ls) (hm : ∀ l ∈ ls, l.length ≤ m) {s : Int} (h0 : 0 ≤ s) (h1 : s < ls.length) : ∀ n, (pathsG ls s n).length ≤ m ^ n
  | 0 => Nat.le_refl _
  | n + 1 => by
    have ih := paths_len G hm h0 h1 n
    have := flat_len hm (ws := pathsG ls s n) fun w hw => let ⟨a, b, _⟩ := paths_ok G h0 h1 n w hw; ⟨a, b⟩
    rw [Nat.pow_succ]
    exact Nat.le_trans this (Nat.mul_le_mul_right _ ih)
end Df

/-! The defs that tell all walks. -/
namespace Df
open PySem Lt
variable {K : Cell → Cell → Prop}
/-- a list in a slot, owned or frozen -/
def LC (c : Cell) (xs : List D) : Prop := c = .own xs ∨ c = .dat (.list xs)
theorem wf_law_all {t : Tb} {ls : List (List Cp)} {s : Int} {n m : Nat} (G : KG t ls) (hm : ∀ l ∈ ls, l.length ≤ m) (hn : n ≤ 100) (hb : ∀ i ≤ n, m ^ i ≤ 1000000) (h0 : 0 ≤ s) (h1 : s < ls.length) (k : K (.own ((pathsG ls s n).map fun w => dW w.1)) .emp) : WF F_law_all [.dat (dG t ls), .dat (.int s), .dat (.int (n : Nat))] K := by
  rw [b_law_all]
  simp only [↓ir_law_all, ↓RUN, POST]
  refine rng1 (by omega) ?_
  refine fo_range (fun i ρ => ∃ c3 c4 c5 c6 c7 c8, ρ = [.dat (dG t ls), .dat (.int s), .dat (.int (n : Nat)), c3, c4, c5, c6, c7, c8] ∧ LC c3 ((pathsG ls s i).map fun w => dWS w)) ⟨_, _, _, _, _, _, rfl, .inl rfl⟩ (fun i ρ hi hI => ?_) fun ρ hI => ?_
  · obtain ⟨c3, c4, c5, c6, c7, c8, rfl, hc⟩ := hI
    have ok := paths_ok G h0 h1 i
    have pl := paths_len G hm h0 h1 (i + 1)
    have hbi := hb (i + 1) (by omega)
    rcases hc with rfl | rfl
    all_goals
      simp only [↓RUN, POST]
      refine fo_inv (fun j ρ => ∃ c6 c7 c8, ρ = [.dat (dG t ls), .dat (.int s), .dat (.int (n : Nat)), .dat (.list ((pathsG ls s i).map fun w => dWS w)), .dat (.int (0 + (i : Nat))), .own ((((pathsG ls s i).take j).flatMap (nextW ls)).map fun w => dWS w), c6, c7, c8]) ⟨_, _, _, rfl⟩ (fun j d ρ hd hJ => ?_) fun ρ hJ => ?_
      · obtain ⟨c6, c7, c8, rfl⟩ := hJ
        rw [List.getElem?_map] at hd
        obtain ⟨w, hw, rfl⟩ := mpd hd
        obtain ⟨g0, g1, _⟩ := ok w (List.mem_of_getElem? hw)
        simp only [↓RUN, POST]
        refine ix_st g0 g1 ?_
        try simp only [↓RUN, POST, List.length_map]
        have sl := (G.st _ (st_mem g0 g1)).2
        refine rng1 (by omega) ?_
        refine lc_map (fun d => match d with
          | .int a => dWS (w.1 ++ [a], goalAt ls w.2 a)
          | _ => .none) (fun d hd => ?_) fun ρ2 hb2 => ?_
        · obtain ⟨a, ha, rfl⟩ := List.mem_map.mp hd
          have ha' : a < (stAt ls w.2).length := List.mem_range.mp ha
          obtain ⟨c, hc⟩ := cp_in (ls := ls) (s := w.2) (a := (a : Nat)) (by omega) (by omega)
          rw [lc_turn]
          simp only [↓RUN, POST, Int.zero_add]
          have wl := (ok w (List.mem_of_getElem? hw)).2.2
          refine ⟨by rw [List.length_map]; omega, ?_⟩
          refine ix_st g0 g1 ?_
          try simp only [↓RUN, POST]
          refine ix_cp hc ?_
          try simp only [↓RUN, POST]
          unfold goalAt
          simp [hc]
        · simp only [POST] at hb2
          rw [hb2]
          try simp only [↓RUN, POST]
          have et : (pathsG ls s i).take (j + 1) = (pathsG ls s i).take j ++ [w] := by rw [List.take_succ, hw]; rfl
          have eB : (rngL 0 (stAt ls w.2).length).map (fun d => match d with
            | .int a => dWS (w.1 ++ [a], goalAt ls w.2 a)
            | _ => .none) = (nextW ls w).map fun w => dWS w := by
            unfold rngL nextW
            rw [List.map_map, List.map_map]
            refine List.map_congr_left fun a ha => ?_
            simp
          have eA : (((pathsG ls s i).take j).flatMap (nextW ls)).map (fun w => dWS w) ++ (nextW ls w).map (fun w => dWS w) = (((pathsG ls s i).take (j + 1)).flatMap (nextW ls)).map fun w => dWS w := by
            rw [et, List.flatMap_append, List.map_append]
            simp
          rw [eB]
          refine ⟨?_, _, _, _, by rw [eA]⟩
          rw [← List.length_append, eA, List.length_map]
          have h1' := flat_len hm (ws := (pathsG ls s i).take (j + 1)) fun v hv => let ⟨a, b, _⟩ := ok v (List.mem_of_mem_take hv); ⟨a, b⟩
          have h2' : ((pathsG ls s i).take (j + 1)).length ≤ (pathsG ls s i).length := by rw [List.length_take]; omega
          have h3' := paths_len G hm h0 h1 i
          have h4' : ((pathsG ls s i).take (j + 1)).length * m ≤ m ^ i * m := Nat.mul_le_mul_right _ (Nat.le_trans h2' h3')
          rw [← Nat.pow_succ] at h4'
          have : m ^ i.succ ≤ 1000000 := hbi
          omega
      · obtain ⟨c6, c7, c8, rfl⟩ := hJ
        rw [List.length_map, List.take_length]
        simp only [↓RUN, POST]
        exact ⟨_, _, _, _, _, _, rfl, .inr rfl⟩
  · obtain ⟨c3, c4, c5, c6, c7, c8, rfl, hc⟩ := hI
    rcases hc with rfl | rfl
    all_goals
      simp only [↓RUN, POST]
      refine lc_map (fun d => match d with
        | .tuple [x, _] => x
        | _ => .none) (fun d hd => ?_) fun ρ2 hb2 => ?_
      · obtain ⟨w, hw, rfl⟩ := List.mem_map.mp hd
        rw [lc_turn]
        simp only [↓RUN, POST]
      · try simp only [↓RUN, POST]
        rw [List.map_map]
        exact k
end Df

/-! The defs that tell all walks. -/
namespace Df
open PySem Lt
variable {K : Cell → Cell → Prop}
theorem wf_walks {t : Tb} {ls : List (List Cp)} {s : Int} {n m : Nat} (G : KG t ls) (hm : ∀ l ∈ ls, l.length ≤ m) (hn : n ≤ 100) (hb : ∀ i ≤ n, m ^ i ≤ 1000000) (h0 : 0 ≤ s) (h1 : s < ls.length) (k : K (.own ((pathsG ls s n).map fun w => dW w.1)) .emp) : WF F_walks [.dat (dG t ls), .dat (.int s), .dat (.int (n : Nat))] K := by
  rw [b_walks]
  simp only [↓ir_walks, ↓RUN, POST, ↓k_walks_check_kit, ↓k_walks_check_state, ↓k_walks_is_integer]
  refine wf_check_kit G ?_
  try simp only [↓RUN, POST]
  refine wf_check_state h0 h1 ?_
  try simp only [↓RUN, POST]
  refine wf_is_integer rfl ?_
  simp only [↓RUN, POST, show isInt (.int (n : Nat)) = true from rfl, decide_eq_false (show ¬ ((n : Nat) : Int) < 0 by omega)]
  refine rng1 (by omega) ?_
  refine fo_range (fun i ρ => ∃ c3 c4 c5 c6 c7 c8 c9, ρ = [.dat (dG t ls), .dat (.int s), .dat (.int (n : Nat)), c3, c4, c5, c6, c7, c8, c9] ∧ LC c3 ((pathsG ls s i).map fun w => dWS w)) ⟨_, _, _, _, _, _, _, rfl, .inl rfl⟩ (fun i ρ hi hI => ?_) fun ρ hI => ?_
  · obtain ⟨c3, c4, c5, c6, c7, c8, c9, rfl, hc⟩ := hI
    have ok := paths_ok G h0 h1 i
    have pl := paths_len G hm h0 h1 (i + 1)
    have hbi := hb (i + 1) (by omega)
    rcases hc with rfl | rfl
    all_goals
      simp only [↓RUN, POST]
      refine fo_inv (fun j ρ => ∃ c6 c7 c8 c9, ρ = [.dat (dG t ls), .dat (.int s), .dat (.int (n : Nat)), .dat (.list ((pathsG ls s i).map fun w => dWS w)), .dat (.int (0 + (i : Nat))), .own ((((pathsG ls s i).take j).flatMap (nextW ls)).map fun w => dWS w), c6, c7, c8, c9]) ⟨_, _, _, _, rfl⟩ (fun j d ρ hd hJ => ?_) fun ρ hJ => ?_
      · obtain ⟨c6, c7, c8, c9, rfl⟩ := hJ
        rw [List.getElem?_map] at hd
        obtain ⟨w, hw, rfl⟩ := mpd hd
        obtain ⟨g0, g1, _⟩ := ok w (List.mem_of_getElem? hw)
        simp only [↓RUN, POST]
        refine ix_st g0 g1 ?_
        try simp only [↓RUN, POST, List.length_map]
        have sl := (G.st _ (st_mem g0 g1)).2
        refine lc_map (fun d => match d with
          | .tuple [.int a, _] => dWS (w.1 ++ [a], goalAt ls w.2 a)
          | _ => .none) (fun d hd => ?_) fun ρ2 hb2 => ?_
        · obtain ⟨a, ha⟩ := List.mem_iff_getElem?.mp hd
          obtain ⟨x, hx, rfl⟩ := enmD_at ha
          rw [List.getElem?_map] at hx
          obtain ⟨c, hc0, rfl⟩ := mpd hx
          have ha' : a < (stAt ls w.2).length := (List.getElem?_eq_some_iff.mp hc0).1
          have hc : cpAt ls w.2 (a : Nat) = some c := by
            unfold cpAt
            rw [if_pos (by omega), Int.toNat_natCast, hc0]
          rw [lc_turn]
          simp only [↓RUN, POST, Nat.zero_add]
          have wl := (ok w (List.mem_of_getElem? hw)).2.2
          refine ⟨by rw [List.length_map]; omega, ?_⟩
          try simp only [↓RUN, POST]
          unfold goalAt
          simp [hc]
        · simp only [POST] at hb2
          rw [hb2]
          try simp only [↓RUN, POST]
          have et : (pathsG ls s i).take (j + 1) = (pathsG ls s i).take j ++ [w] := by rw [List.take_succ, hw]; rfl
          have eB : (enmD 0 ((stAt ls w.2).map fun c => dC c)).map (fun d => match d with
            | .tuple [.int a, _] => dWS (w.1 ++ [a], goalAt ls w.2 a)
            | _ => .none) = (nextW ls w).map fun w => dWS w := by
            refine List.ext_getElem? fun a => ?_
            rw [List.getElem?_map]
            unfold nextW
            rw [List.map_map, List.getElem?_map]
            by_cases ha : a < (stAt ls w.2).length
            · have hl : a < (enmD 0 ((stAt ls w.2).map fun c => dC c)).length := by rw [enmD_len, List.length_map]; exact ha
              obtain ⟨x, hx, e⟩ := enmD_at (List.getElem?_eq_getElem hl)
              rw [List.getElem?_eq_getElem hl, e, List.getElem?_range ha]
              simp
            · rw [List.getElem?_eq_none (by rw [enmD_len, List.length_map]; omega), List.getElem?_eq_none (by rw [List.length_range]; omega)]
              rfl
          have eA : (((pathsG ls s i).take j).flatMap (nextW ls)).map (fun w => dWS w) ++ (nextW ls w).map (fun w => dWS w) = (((pathsG ls s i).take (j + 1)).flatMap (nextW ls)).map fun w => dWS w := by
            rw [et, List.flatMap_append, List.map_append]
            simp
          rw [eB]
          refine ⟨?_, _, _, _, _, by rw [eA]⟩
          rw [← List.length_append, eA, List.length_map]
          have h1' := flat_len hm (ws := (pathsG ls s i).take (j + 1)) fun v hv => let ⟨a, b, _⟩ := ok v (List.mem_of_mem_take hv); ⟨a, b⟩
          have h2' : ((pathsG ls s i).take (j + 1)).length ≤ (pathsG ls s i).length := by rw [List.length_take]; omega
          have h3' := paths_len G hm h0 h1 i
          have h4' : ((pathsG ls s i).take (j + 1)).length * m ≤ m ^ i * m := Nat.mul_le_mul_right _ (Nat.le_trans h2' h3')
          rw [← Nat.pow_succ] at h4'
          have : m ^ i.succ ≤ 1000000 := hbi
          omega
      · obtain ⟨c6, c7, c8, c9, rfl⟩ := hJ
        rw [List.length_map, List.take_length]
        simp only [↓RUN, POST]
        exact ⟨_, _, _, _, _, _, _, rfl, .inr rfl⟩
  · obtain ⟨c3, c4, c5, c6, c7, c8, c9, rfl, hc⟩ := hI
    rcases hc with rfl | rfl
    all_goals
      simp only [↓RUN, POST]
      refine lc_map (fun d => match d with
        | .tuple [x, _] => x
        | _ => .none) (fun d hd => ?_) fun ρ2 hb2 => ?_
      · obtain ⟨w, hw, rfl⟩ := List.mem_map.mp hd
        rw [lc_turn]
        simp only [↓RUN, POST]
      · try simp only [↓RUN, POST]
        rw [List.map_map]
        exact k
end Df

/-! The law k06. -/
namespace Df
open PySem Lt
variable {K : Cell → Cell → Prop}
theorem f_maxL {xs : List D} {ns : List Int} {m : Int} {Q : Cell → Prop} (h : xs = (m :: ns).map .int) (k : Q (.dat (.int (maxI m ns)))) : WV (bltD .max [.list xs]) Q := by
  refine ⟨_, ?_, k⟩
  subst h
  show (match asInts ((m :: ns).map .int) with
    | some (m :: r) => some (Cell.dat (.int (maxI m r)))
    | _ => none) = _
  rw [asInts_map]
theorem maxI_bd {lo hi : Int} : ∀ {ns : List Int} {m : Int}, lo ≤ m → m ≤ hi → (∀ x ∈ ns, lo ≤ x ∧ x ≤ hi) → lo ≤ maxI m ns ∧ maxI m ns ≤ hi
  | [], m, h1, h2, _ => ⟨h1, h2⟩
  | x :: r, m, h1, h2, h => by
    have hx := h x (by simp)
    unfold maxI
    split
    · exact maxI_bd hx.1 hx.2 fun y hy => h y (by simp [hy])
    · exact maxI_bd h1 h2 fun y hy => h y (by simp [hy])
theorem maxI_ge : ∀ {ns : List Int} {m : Int}, m ≤ maxI m ns ∧ ∀ x ∈ ns, x ≤ maxI m ns
  | [], m => ⟨Int.le_refl _, by simp⟩
  | x :: r, m => by
    unfold maxI
    split
    · obtain ⟨h1, h2⟩ := maxI_ge (ns := r) (m := x)
      exact ⟨by omega, fun y hy => (List.mem_cons.mp hy).elim (fun e => e ▸ h1) (h2 y)⟩
    · obtain ⟨h1, h2⟩ := maxI_ge (ns := r) (m := m)
      exact ⟨h1, fun y hy => (List.mem_cons.mp hy).elim (fun e => by subst e; omega) (h2 y)⟩
theorem smOk_int {k : Nat} {i : Int} : smOk k (.int i) = true := by cases k <;> rfl
theorem smOks_of {k : Nat} : ∀ {xs : List D}, (∀ x ∈ xs, smOk k x = true) → smOks (k + 1) xs = true
  | [], _ => rfl
  | x :: xs, h => by
    show (smOk k x && smOks (k + 1) xs) = true
    rw [h x (by simp), smOks_of fun y hy => h y (by simp [hy])]; rfl
theorem smOk_tup {k : Nat} {xs : List D} (hl : xs.length ≤ 1000000) (h : ∀ x ∈ xs, smOk k x = true) : smOk (k + 1) (.tuple xs) = true := by
  show (smOks (k + 1) xs && decide (xs.length ≤ 1000000)) = true
  rw [smOks_of h, decide_eq_true hl]; rfl
theorem smOk_lst {k : Nat} {xs : List D} (hl : xs.length ≤ 1000000) (h : ∀ x ∈ xs, smOk k x = true) : smOk (k + 1) (.list xs) = true := by
  show (smOks (k + 1) xs && decide (xs.length ≤ 1000000)) = true
  rw [smOks_of h, decide_eq_true hl]; rfl
theorem smOk_w {k : Nat} {ps : List Int} (hl : ps.length ≤ 1000000) : smOk (k + 1) (dW ps) = true := smOk_tup (by rw [List.length_map]; exact hl) fun x hx => by
  obtain ⟨i, _, rfl⟩ := List.mem_map.mp hx
  exact smOk_int
/-- a drawn kit with few copies -/
theorem gear_KG {t : Tb} {ls : List (List Cp)} {most far : Int} (ht : Grid t) (hn : ls ≠ []) (hl : ls.length ≤ 100) (hm : most ≤ 100) (hf : far ≤ 16) (h : ∀ l ∈ ls, LOk ls.length most far l) : KG t ls where
  g := ht
  ne := hn
  len := hl
  st := fun l hl' => ⟨(h l hl').ne, by have := (h l hl').len; omega⟩
  goal := fun l hl' c hc => let ⟨_, _, _, _, h5, h6⟩ := (h l hl').ok c hc; ⟨h5, h6⟩
  far := fun l hl' c hc => by
    obtain ⟨h1, h2, h3, h4, h5, h6⟩ := (h l hl').ok c hc
    omega
  kit := gear_kit ht hn h
  nc := gear_nc (k := 1) ht (gear_sm hn hl (by omega) (by omega) h)
theorem lens_of {ls : List (List Cp)} : (ls.map fun l => dS l).map (fun d => match d with
    | .tuple xs => .int (xs.length : Nat)
    | _ => .none) = (ls.map fun l => (l.length : Int)).map PyData.int := by
  rw [List.map_map, List.map_map]
  refine List.map_congr_left fun l _ => ?_
  simp
def lim (M : Nat) : Nat := if M ≤ 3 then 7 else if M = 4 then 6 else 5
theorem bds {M n : Nat} (h : M ≤ 6) (hn : n < lim M) : ∀ i ≤ n, M ^ i ≤ 1000000 := by
  have : ∀ M, M ≤ 6 → ∀ i ≤ 6, M ^ i ≤ 1000000 := by decide
  exact fun i hi => this M h i (by unfold lim at hn; split at hn <;> (try split at hn) <;> omega)
theorem lim_bd (M : Nat) : 0 < lim M ∧ lim M ≤ 7 := by unfold lim; split <;> (try split) <;> omega
theorem ix_lim {M : Nat} (h : M ≤ 6) {Q : D → Prop} (k : Q (.int ((lim M : Nat) : Int))) : WV (idxD (.list [.int 7, .int 7, .int 7, .int 7, .int 6, .int 5, .int 5]) (.int (M : Int))) Q := by
  have : M = 0 ∨ M = 1 ∨ M = 2 ∨ M = 3 ∨ M = 4 ∨ M = 5 ∨ M = 6 := by omega
  rcases this with rfl | rfl | rfl | rfl | rfl | rfl | rfl <;> exact ⟨_, rfl, k⟩
theorem smOk_paths {t : Tb} {ls : List (List Cp)} {s : Int} {n m : Nat} (G : KG t ls) (hm : ∀ l ∈ ls, l.length ≤ m) (h0 : 0 ≤ s) (h1 : s < ls.length) (hn : n ≤ 100) (hb : m ^ n ≤ 1000000) : smOk 5 (.list ((pathsG ls s n).map fun w => dW w.1)) = true := by
  have pl := paths_len G hm h0 h1 n
  refine smOk_lst (by rw [List.length_map]; omega) fun x hx => ?_
  obtain ⟨w, hw, rfl⟩ := List.mem_map.mp hx
  have := (paths_ok G h0 h1 n w hw).2.2
  exact smOk_w (by omega)
theorem wf_law_walks_right {p q : Int} {t : Tb} {ls : List (List Cp)} {s : Int} (G : KG t ls) (hd : Dk p q) (h0 : 0 ≤ s) (h1 : s < ls.length) (h6 : ∀ l ∈ ls, l.length ≤ 6) (k : ∀ p' q', Dk p' q' → K (.dat (.bool true)) (dk p' q')) : WF F_law_walks_right [dk p q, .dat (dG t ls), .dat (.int s)] K := by
  rw [b_law_walks_right]
  simp only [↓ir_law_walks_right, ↓RUN, POST, ↓k_law_walks_right_law_take, ↓k_law_walks_right_law_all, ↓k_law_walks_right_walks, ↓k_law_walks_right_law_same]
  refine lc_map (fun d => match d with
    | .tuple xs => .int (xs.length : Nat)
    | _ => .none) (fun d hd => ?_) fun ρ2 hb => ?_
  · obtain ⟨l, _, rfl⟩ := List.mem_map.mp hd
    rw [lc_turn]
    simp only [↓RUN, POST]
  · simp only [POST] at hb
    rw [hb, lens_of]
    obtain ⟨l, r, e⟩ := List.exists_cons_of_ne_nil G.ne
    refine f_maxL (m := (l.length : Int)) (ns := r.map fun l => (l.length : Int)) (by rw [e]; rfl) ?_
    have hM : ∃ M : Nat, maxI (l.length : Int) (r.map fun l => (l.length : Int)) = (M : Int) ∧ M ≤ 6 ∧ ∀ l ∈ ls, l.length ≤ M := by
      have hb := maxI_bd (lo := 0) (hi := 6) (ns := r.map fun l => (l.length : Int)) (m := (l.length : Int)) (by omega) (by have := h6 l (by rw [e]; simp); omega) (fun x hx => by
        obtain ⟨y, hy, rfl⟩ := List.mem_map.mp hx
        have := h6 y (by rw [e]; simp [hy])
        omega)
      have hg := maxI_ge (ns := r.map fun l => (l.length : Int)) (m := (l.length : Int))
      refine ⟨(maxI (l.length : Int) (r.map fun l => (l.length : Int))).toNat, by omega, by omega, fun y hy => ?_⟩
      rw [e] at hy
      rcases List.mem_cons.mp hy with rfl | hy
      · omega
      · have := hg.2 _ (List.mem_map.mpr ⟨y, hy, rfl⟩)
        omega
    obtain ⟨M, eM, hM6, hM⟩ := hM
    rw [eM]
    try simp only [↓RUN, POST]
    refine ix_lim hM6 ?_
    have hlim := lim_bd M
    try simp only [↓RUN, POST]
    refine wf_law_take hd (by omega) (B_small 7 (by omega) (two_lt (by decide))) fun n p1 q1 d1 n0 n1 => ?_
    obtain ⟨n, rfl⟩ := Int.eq_ofNat_of_zero_le n0
    have hb := bds hM6 (n := n) (by omega)
    have hn : n ≤ 100 := by omega
    try simp only [↓RUN, POST]
    refine wf_law_all G hM hn hb h0 h1 ?_
    try simp only [↓RUN, POST]
    refine wf_walks G hM hn hb h0 h1 ?_
    try simp only [↓RUN, POST]
    have sm := smOk_paths G hM h0 h1 hn (hb n (Nat.le_refl n))
    have pl := paths_len G hM h0 h1 n
    have hbn := hb n (Nat.le_refl n)
    refine wf_law_same sm ?_
    try simp only [↓RUN, POST]
    refine ⟨by rw [List.length_map]; omega, ?_⟩
    try simp only [↓RUN, POST]
    refine wf_walks G hM hn hb h0 h1 ?_
    try simp only [↓RUN, POST]
    refine wf_law_same sm ?_
    try simp only [↓RUN, POST]
    exact k _ _ d1
end Df

/-! The law k06: its whole. -/
namespace Df
open PySem Lt
variable {K : Cell → Cell → Prop}
theorem smOk_end {k : Nat} {o : Option (Int × Off)} : smOk (k + 2) (dEnd o) = true := by
  cases o with
  | none => rfl
  | some q =>
    obtain ⟨s, o⟩ := q
    refine smOk_tup (by simp) fun x hx => ?_
    simp only [List.mem_cons, List.not_mem_nil, or_false] at hx
    rcases hx with rfl | rfl
    · exact smOk_int
    · refine smOk_tup (by simp) fun x hx => ?_
      simp only [List.mem_cons, List.not_mem_nil, or_false] at hx
      rcases hx with rfl | rfl <;> exact smOk_int
theorem smOk_b2 {k : Nat} {a b : Bool} : smOk (k + 1) (.list [.bool a, .bool b]) = true := by cases k <;> rfl
theorem nonE {o : Option (Int × Off)} : (!isNon (dEnd o)) = o.isSome := by cases o <;> rfl
theorem wf_law_right {p q : Int} (hd : Dk p q) (k : ∀ p' q', Dk p' q' → K (.dat (.bool true)) (dk p' q')) : WF F_law_right [dk p q] K := by
  rw [b_law_right]
  simp only [↓ir_law_right, ↓RUNH, POST, ↓k_law_right_law_gear, ↓k_law_right_law_take, ↓k_law_right_law_gone, ↓k_law_right_law_grid, ↓k_law_right_law_path, ↓k_law_right_law_track, ↓k_law_right_law_same, ↓k_law_right_law_bent_3, ↓k_law_right_law_is_track, ↓k_law_right_law_walks_right, ↓k_law_right_is_address, ↓k_law_right_ends, ↓k_law_right_is_walk]
  refine wf_law_grid hd fun t p1 q1 d1 ht => ?_
  try simp only [↓RUNH, POST, ↓k_law_right_law_gear, ↓k_law_right_law_take, ↓k_law_right_law_gone, ↓k_law_right_law_grid, ↓k_law_right_law_path, ↓k_law_right_law_track, ↓k_law_right_law_same, ↓k_law_right_law_bent_3, ↓k_law_right_law_is_track, ↓k_law_right_law_walks_right, ↓k_law_right_is_address, ↓k_law_right_ends, ↓k_law_right_is_walk]
  refine wf_law_take d1 (by decide) (B_small 3 (by decide) (two_lt (by decide))) fun r p2 q2 d2 r0 r1 => ?_
  try simp only [↓RUNH, POST, ↓k_law_right_law_gear, ↓k_law_right_law_take, ↓k_law_right_law_gone, ↓k_law_right_law_grid, ↓k_law_right_law_path, ↓k_law_right_law_track, ↓k_law_right_law_same, ↓k_law_right_law_bent_3, ↓k_law_right_law_is_track, ↓k_law_right_law_walks_right, ↓k_law_right_is_address, ↓k_law_right_ends, ↓k_law_right_is_walk]
  refine ix_mem2 (P := fun d => ∃ f : Int, d = .int f ∧ 0 < f ∧ f ≤ 6) r0 (by exact r1) ?_ fun d hd => ?_
  · intro x hx
    simp only [List.mem_cons, List.not_mem_nil, or_false] at hx
    rcases hx with rfl | rfl | rfl <;> exact ⟨_, rfl, by decide, by decide⟩
  obtain ⟨most, rfl, f0, f1⟩ := hd
  try simp only [↓RUNH, POST, ↓k_law_right_law_gear, ↓k_law_right_law_take, ↓k_law_right_law_gone, ↓k_law_right_law_grid, ↓k_law_right_law_path, ↓k_law_right_law_track, ↓k_law_right_law_same, ↓k_law_right_law_bent_3, ↓k_law_right_law_is_track, ↓k_law_right_law_walks_right, ↓k_law_right_is_address, ↓k_law_right_ends, ↓k_law_right_is_walk]
  refine wf_law_gear d2 ⟨by decide, by decide⟩ ⟨f0, by omega⟩ ⟨by decide, by decide⟩ fun ls p3 q3 d3 hn hl hok => ?_
  have G : KG t ls := gear_KG ht hn (by omega) (by omega) (by decide) hok
  have h6 : ∀ l ∈ ls, l.length ≤ 6 := fun l hl' => by have := (hok l hl').len; omega
  have hpos : 0 < ls.length := Nat.pos_of_ne_zero fun z => hn (List.eq_nil_of_length_eq_zero z)
  try simp only [↓RUNH, POST, ↓k_law_right_law_gear, ↓k_law_right_law_take, ↓k_law_right_law_gone, ↓k_law_right_law_grid, ↓k_law_right_law_path, ↓k_law_right_law_track, ↓k_law_right_law_same, ↓k_law_right_law_bent_3, ↓k_law_right_law_is_track, ↓k_law_right_law_walks_right, ↓k_law_right_is_address, ↓k_law_right_ends, ↓k_law_right_is_walk]
  try simp only [List.length_map]
  refine wf_law_take d3 (by omega) (B_small 100 (by omega) (two_lt (by decide))) fun s p4 q4 d4 s0 s1 => ?_
  try simp only [↓RUNH, POST, ↓k_law_right_law_gear, ↓k_law_right_law_take, ↓k_law_right_law_gone, ↓k_law_right_law_grid, ↓k_law_right_law_path, ↓k_law_right_law_track, ↓k_law_right_law_same, ↓k_law_right_law_bent_3, ↓k_law_right_law_is_track, ↓k_law_right_law_walks_right, ↓k_law_right_is_address, ↓k_law_right_ends, ↓k_law_right_is_walk]
  refine wf_law_take d4 (by decide) (B_small 12 (by decide) (two_lt (by decide))) fun n p5 q5 d5 n0 n1 => ?_
  try simp only [↓RUNH, POST, ↓k_law_right_law_gear, ↓k_law_right_law_take, ↓k_law_right_law_gone, ↓k_law_right_law_grid, ↓k_law_right_law_path, ↓k_law_right_law_track, ↓k_law_right_law_same, ↓k_law_right_law_bent_3, ↓k_law_right_law_is_track, ↓k_law_right_law_walks_right, ↓k_law_right_is_address, ↓k_law_right_ends, ↓k_law_right_is_walk]
  refine wf_law_path G d5 s0 s1 n0 (by omega) fun ps p6 q6 d6 hpl hps hpb => ?_
  try simp only [↓RUNH, POST, ↓k_law_right_law_gear, ↓k_law_right_law_take, ↓k_law_right_law_gone, ↓k_law_right_law_grid, ↓k_law_right_law_path, ↓k_law_right_law_track, ↓k_law_right_law_same, ↓k_law_right_law_bent_3, ↓k_law_right_law_is_track, ↓k_law_right_law_walks_right, ↓k_law_right_is_address, ↓k_law_right_ends, ↓k_law_right_is_walk]
  refine wf_law_track G d6 s0 s1 fun a b p7 q7 d7 ha hb hab hA => ?_
  try simp only [↓RUNH, POST, ↓k_law_right_law_gear, ↓k_law_right_law_take, ↓k_law_right_law_gone, ↓k_law_right_law_grid, ↓k_law_right_law_path, ↓k_law_right_law_track, ↓k_law_right_law_same, ↓k_law_right_law_bent_3, ↓k_law_right_law_is_track, ↓k_law_right_law_walks_right, ↓k_law_right_is_address, ↓k_law_right_ends, ↓k_law_right_is_walk]
  refine wf_law_gone G s0 s1 (by omega) ?_
  try simp only [↓RUNH, POST, ↓k_law_right_law_gear, ↓k_law_right_law_take, ↓k_law_right_law_gone, ↓k_law_right_law_grid, ↓k_law_right_law_path, ↓k_law_right_law_track, ↓k_law_right_law_same, ↓k_law_right_law_bent_3, ↓k_law_right_law_is_track, ↓k_law_right_law_walks_right, ↓k_law_right_is_address, ↓k_law_right_ends, ↓k_law_right_is_walk]
  refine wf_ends G s0 s1 (by omega) hps ?_
  try simp only [↓RUNH, POST, ↓k_law_right_law_gear, ↓k_law_right_law_take, ↓k_law_right_law_gone, ↓k_law_right_law_grid, ↓k_law_right_law_path, ↓k_law_right_law_track, ↓k_law_right_law_same, ↓k_law_right_law_bent_3, ↓k_law_right_law_is_track, ↓k_law_right_law_walks_right, ↓k_law_right_is_address, ↓k_law_right_ends, ↓k_law_right_is_walk]
  refine wf_ends G s0 s1 (by omega) hps ?_
  try simp only [↓RUNH, POST, ↓k_law_right_law_gear, ↓k_law_right_law_take, ↓k_law_right_law_gone, ↓k_law_right_law_grid, ↓k_law_right_law_path, ↓k_law_right_law_track, ↓k_law_right_law_same, ↓k_law_right_law_bent_3, ↓k_law_right_law_is_track, ↓k_law_right_law_walks_right, ↓k_law_right_is_address, ↓k_law_right_ends, ↓k_law_right_is_walk]
  refine wf_law_same (k := 5) (smOk_lst (by simp) fun x hx => ?_) ?_
  · simp only [List.mem_cons, List.not_mem_nil, or_false] at hx
    rcases hx with rfl | rfl <;> exact smOk_end
  try simp only [↓RUNH, POST, ↓k_law_right_law_gear, ↓k_law_right_law_take, ↓k_law_right_law_gone, ↓k_law_right_law_grid, ↓k_law_right_law_path, ↓k_law_right_law_track, ↓k_law_right_law_same, ↓k_law_right_law_bent_3, ↓k_law_right_law_is_track, ↓k_law_right_law_walks_right, ↓k_law_right_is_address, ↓k_law_right_ends, ↓k_law_right_is_walk]
  refine wf_is_walk G s0 s1 (by omega) ?_
  try simp only [↓RUNH, POST, ↓k_law_right_law_gear, ↓k_law_right_law_take, ↓k_law_right_law_gone, ↓k_law_right_law_grid, ↓k_law_right_law_path, ↓k_law_right_law_track, ↓k_law_right_law_same, ↓k_law_right_law_bent_3, ↓k_law_right_law_is_track, ↓k_law_right_law_walks_right, ↓k_law_right_is_address, ↓k_law_right_ends, ↓k_law_right_is_walk]
  refine wf_is_address G s0 s1 (by omega) (by omega) ?_
  rw [hps, hA]
  try simp only [↓RUNH, POST, ↓k_law_right_law_gear, ↓k_law_right_law_take, ↓k_law_right_law_gone, ↓k_law_right_law_grid, ↓k_law_right_law_path, ↓k_law_right_law_track, ↓k_law_right_law_same, ↓k_law_right_law_bent_3, ↓k_law_right_law_is_track, ↓k_law_right_law_walks_right, ↓k_law_right_is_address, ↓k_law_right_ends, ↓k_law_right_is_walk]
  refine wf_law_same (k := 5) smOk_b2 ?_
  try simp only [↓RUNH, POST, ↓k_law_right_law_gear, ↓k_law_right_law_take, ↓k_law_right_law_gone, ↓k_law_right_law_grid, ↓k_law_right_law_path, ↓k_law_right_law_track, ↓k_law_right_law_same, ↓k_law_right_law_bent_3, ↓k_law_right_law_is_track, ↓k_law_right_law_walks_right, ↓k_law_right_is_address, ↓k_law_right_ends, ↓k_law_right_is_walk]
  refine rng1 (m := 5) (by decide) ?_
  refine fo_range (fun j ρ => ∃ p q c5 c6 c7 c8, ρ = [dk p q, .dat (dG t ls), .dat (.int s), .dat (dW ps), .dat (.tuple [dW a, dW b]), c5, c6, c7, c8] ∧ Dk p q) ⟨_, _, _, _, _, _, rfl, d7⟩ (fun j ρ hj hJ => ?_) fun ρ hJ => ?_
  · obtain ⟨p, q, c5, c6, c7, c8, rfl, dd⟩ := hJ
    try simp only [↓RUNH, POST, ↓k_law_right_law_gear, ↓k_law_right_law_take, ↓k_law_right_law_gone, ↓k_law_right_law_grid, ↓k_law_right_law_path, ↓k_law_right_law_track, ↓k_law_right_law_same, ↓k_law_right_law_bent_3, ↓k_law_right_law_is_track, ↓k_law_right_law_walks_right, ↓k_law_right_is_address, ↓k_law_right_ends, ↓k_law_right_is_walk]
    have smp : SmW 300 ps := ⟨by omega, fun x hx => by have := hpb x hx; omega⟩
    have sma : SmW 300 a := ⟨by omega, fun x hx => by have := hab x (List.mem_append_left _ hx); omega⟩
    have smb : SmW 300 b := ⟨by omega, fun x hx => by have := hab x (List.mem_append_right _ hx); omega⟩
    refine wf_law_bent_3 dd smp (fun x hx => by have := hpb x hx; omega) fun ps' p1 q1 d1 h7 => ?_
    have hl7 := h7.len
    try simp only [↓RUNH, POST, ↓k_law_right_law_gear, ↓k_law_right_law_take, ↓k_law_right_law_gone, ↓k_law_right_law_grid, ↓k_law_right_law_path, ↓k_law_right_law_track, ↓k_law_right_law_same, ↓k_law_right_law_bent_3, ↓k_law_right_law_is_track, ↓k_law_right_law_walks_right, ↓k_law_right_is_address, ↓k_law_right_ends, ↓k_law_right_is_walk]
    refine wf_law_gone G s0 s1 (by omega) ?_
    try simp only [↓RUNH, POST, ↓k_law_right_law_gear, ↓k_law_right_law_take, ↓k_law_right_law_gone, ↓k_law_right_law_grid, ↓k_law_right_law_path, ↓k_law_right_law_track, ↓k_law_right_law_same, ↓k_law_right_law_bent_3, ↓k_law_right_law_is_track, ↓k_law_right_law_walks_right, ↓k_law_right_is_address, ↓k_law_right_ends, ↓k_law_right_is_walk]
    rw [nonE]
    refine wf_is_walk G s0 s1 (by omega) ?_
    try simp only [↓RUNH, POST, ↓k_law_right_law_gear, ↓k_law_right_law_take, ↓k_law_right_law_gone, ↓k_law_right_law_grid, ↓k_law_right_law_path, ↓k_law_right_law_track, ↓k_law_right_law_same, ↓k_law_right_law_bent_3, ↓k_law_right_law_is_track, ↓k_law_right_law_walks_right, ↓k_law_right_is_address, ↓k_law_right_ends, ↓k_law_right_is_walk]
    refine wf_is_walk G s0 s1 (by omega) ?_
    try simp only [↓RUNH, POST, ↓k_law_right_law_gear, ↓k_law_right_law_take, ↓k_law_right_law_gone, ↓k_law_right_law_grid, ↓k_law_right_law_path, ↓k_law_right_law_track, ↓k_law_right_law_same, ↓k_law_right_law_bent_3, ↓k_law_right_law_is_track, ↓k_law_right_law_walks_right, ↓k_law_right_is_address, ↓k_law_right_ends, ↓k_law_right_is_walk]
    refine wf_law_same (k := 5) smOk_b2 ?_
    try simp only [↓RUNH, POST, ↓k_law_right_law_gear, ↓k_law_right_law_take, ↓k_law_right_law_gone, ↓k_law_right_law_grid, ↓k_law_right_law_path, ↓k_law_right_law_track, ↓k_law_right_law_same, ↓k_law_right_law_bent_3, ↓k_law_right_law_is_track, ↓k_law_right_law_walks_right, ↓k_law_right_is_address, ↓k_law_right_ends, ↓k_law_right_is_walk]
    refine wf_law_bent_3 d1 sma (fun x hx => by have := hab x (List.mem_append_left _ hx); omega) fun a' p2 q2 d2 ha' => ?_
    try simp only [↓RUNH, POST, ↓k_law_right_law_gear, ↓k_law_right_law_take, ↓k_law_right_law_gone, ↓k_law_right_law_grid, ↓k_law_right_law_path, ↓k_law_right_law_track, ↓k_law_right_law_same, ↓k_law_right_law_bent_3, ↓k_law_right_law_is_track, ↓k_law_right_law_walks_right, ↓k_law_right_is_address, ↓k_law_right_ends, ↓k_law_right_is_walk]
    refine wf_law_bent_3 d2 smb (fun x hx => by have := hab x (List.mem_append_right _ hx); omega) fun b' p3 q3 d3 hb' => ?_
    have hla := ha'.len
    have hlb := hb'.len
    try simp only [↓RUNH, POST, ↓k_law_right_law_gear, ↓k_law_right_law_take, ↓k_law_right_law_gone, ↓k_law_right_law_grid, ↓k_law_right_law_path, ↓k_law_right_law_track, ↓k_law_right_law_same, ↓k_law_right_law_bent_3, ↓k_law_right_law_is_track, ↓k_law_right_law_walks_right, ↓k_law_right_is_address, ↓k_law_right_ends, ↓k_law_right_is_walk]
    refine wf_law_take d3 (by decide) (B_small 2 (by decide) (two_lt (by decide))) fun r p4 q4 d4 r0 r1 => ?_
    try simp only [↓RUNH, POST, ↓k_law_right_law_gear, ↓k_law_right_law_take, ↓k_law_right_law_gone, ↓k_law_right_law_grid, ↓k_law_right_law_path, ↓k_law_right_law_track, ↓k_law_right_law_same, ↓k_law_right_law_bent_3, ↓k_law_right_law_is_track, ↓k_law_right_law_walks_right, ↓k_law_right_is_address, ↓k_law_right_ends, ↓k_law_right_is_walk]
    refine ix_mem2 (P := fun d => ∃ u v : List Int, d = .tuple [dW u, dW v] ∧ u.length ≤ 1000 ∧ v.length ≤ 1000) r0 (by exact r1) ?_ fun d hd => ?_
    · intro x hx
      simp only [List.mem_cons, List.not_mem_nil, or_false] at hx
      rcases hx with rfl | rfl <;> exact ⟨_, _, rfl, by omega, by omega⟩
    obtain ⟨u, v, rfl, hu, hv⟩ := hd
    try simp only [↓RUNH, POST, ↓k_law_right_law_gear, ↓k_law_right_law_take, ↓k_law_right_law_gone, ↓k_law_right_law_grid, ↓k_law_right_law_path, ↓k_law_right_law_track, ↓k_law_right_law_same, ↓k_law_right_law_bent_3, ↓k_law_right_law_is_track, ↓k_law_right_law_walks_right, ↓k_law_right_is_address, ↓k_law_right_ends, ↓k_law_right_is_walk]
    refine law_track_is G s0 s1 hu hv ?_
    try simp only [↓RUNH, POST, ↓k_law_right_law_gear, ↓k_law_right_law_take, ↓k_law_right_law_gone, ↓k_law_right_law_grid, ↓k_law_right_law_path, ↓k_law_right_law_track, ↓k_law_right_law_same, ↓k_law_right_law_bent_3, ↓k_law_right_law_is_track, ↓k_law_right_law_walks_right, ↓k_law_right_is_address, ↓k_law_right_ends, ↓k_law_right_is_walk]
    refine wf_is_address G s0 s1 hu hv ?_
    try simp only [↓RUNH, POST, ↓k_law_right_law_gear, ↓k_law_right_law_take, ↓k_law_right_law_gone, ↓k_law_right_law_grid, ↓k_law_right_law_path, ↓k_law_right_law_track, ↓k_law_right_law_same, ↓k_law_right_law_bent_3, ↓k_law_right_law_is_track, ↓k_law_right_law_walks_right, ↓k_law_right_is_address, ↓k_law_right_ends, ↓k_law_right_is_walk]
    refine wf_is_address G s0 s1 hu hv ?_
    try simp only [↓RUNH, POST, ↓k_law_right_law_gear, ↓k_law_right_law_take, ↓k_law_right_law_gone, ↓k_law_right_law_grid, ↓k_law_right_law_path, ↓k_law_right_law_track, ↓k_law_right_law_same, ↓k_law_right_law_bent_3, ↓k_law_right_law_is_track, ↓k_law_right_law_walks_right, ↓k_law_right_is_address, ↓k_law_right_ends, ↓k_law_right_is_walk]
    refine wf_law_same (k := 5) smOk_b2 ?_
    try simp only [↓RUNH, POST, ↓k_law_right_law_gear, ↓k_law_right_law_take, ↓k_law_right_law_gone, ↓k_law_right_law_grid, ↓k_law_right_law_path, ↓k_law_right_law_track, ↓k_law_right_law_same, ↓k_law_right_law_bent_3, ↓k_law_right_law_is_track, ↓k_law_right_law_walks_right, ↓k_law_right_is_address, ↓k_law_right_ends, ↓k_law_right_is_walk]
    exact ⟨_, _, _, _, _, _, rfl, d4⟩
  · obtain ⟨p, q, c5, c6, c7, c8, rfl, dd⟩ := hJ
    try simp only [↓RUNH, POST, ↓k_law_right_law_gear, ↓k_law_right_law_take, ↓k_law_right_law_gone, ↓k_law_right_law_grid, ↓k_law_right_law_path, ↓k_law_right_law_track, ↓k_law_right_law_same, ↓k_law_right_law_bent_3, ↓k_law_right_law_is_track, ↓k_law_right_law_walks_right, ↓k_law_right_is_address, ↓k_law_right_ends, ↓k_law_right_is_walk]
    refine wf_is_address (b := []) G s0 s1 (by omega) (by simp) ?_
    have e : okA t ls s a [] = false := by
      unfold okA
      cases walkG t ls s (0, 0) a <;> rfl
    rw [e]
    try simp only [↓RUNH, POST, ↓k_law_right_law_gear, ↓k_law_right_law_take, ↓k_law_right_law_gone, ↓k_law_right_law_grid, ↓k_law_right_law_path, ↓k_law_right_law_track, ↓k_law_right_law_same, ↓k_law_right_law_bent_3, ↓k_law_right_law_is_track, ↓k_law_right_law_walks_right, ↓k_law_right_is_address, ↓k_law_right_ends, ↓k_law_right_is_walk]
    refine wf_law_same (k := 5) rfl ?_
    try simp only [↓RUNH, POST, ↓k_law_right_law_gear, ↓k_law_right_law_take, ↓k_law_right_law_gone, ↓k_law_right_law_grid, ↓k_law_right_law_path, ↓k_law_right_law_track, ↓k_law_right_law_same, ↓k_law_right_law_bent_3, ↓k_law_right_law_is_track, ↓k_law_right_law_walks_right, ↓k_law_right_is_address, ↓k_law_right_ends, ↓k_law_right_is_walk]
    refine wf_law_walks_right G dd s0 s1 h6 fun p1 q1 d1 => ?_
    try simp only [↓RUNH, POST, ↓k_law_right_law_gear, ↓k_law_right_law_take, ↓k_law_right_law_gone, ↓k_law_right_law_grid, ↓k_law_right_law_path, ↓k_law_right_law_track, ↓k_law_right_law_same, ↓k_law_right_law_bent_3, ↓k_law_right_law_is_track, ↓k_law_right_law_walks_right, ↓k_law_right_is_address, ↓k_law_right_ends, ↓k_law_right_is_walk]
    exact k _ _ d1
theorem wf_law_3 {ns : List Int} (k : K (.dat (.bool true)) .emp) : WF F_law_3 [.dat (scr ns)] K := by
  rw [b_law_3]
  simp only [↓ir_law_3, ↓RUNH, POST, ↓lenScr]
  obtain ⟨m, hm, hm'⟩ := turns_eq2 (l := ns.length) (c := 12) (by decide) (by decide)
  rw [hm]
  refine rng1 (by omega) ?_
  refine fo_range (fun i ρ => ∃ a, ρ = [.dat (scr ns), a]) ⟨_, rfl⟩ (fun i ρ hi hI => ?_) fun ρ hI => ?_
  · obtain ⟨a, rfl⟩ := hI
    simp only [↓RUNH, POST, Int.zero_add, ↓k_law_3_law_right, ↓k_law_3_law_deck]
    refine wf_law_deck (by omega) fun p q dk0 => ?_
    try simp only [↓RUNH, POST, ↓k_law_3_law_right, ↓k_law_3_law_deck]
    refine wf_law_right dk0 fun p1 q1 d1 => ?_
    try simp only [↓RUNH, POST, ↓k_law_3_law_right, ↓k_law_3_law_deck]
    exact ⟨_, rfl⟩
  · obtain ⟨a, rfl⟩ := hI
    try simp only [↓RUNH, POST, ↓k_law_3_law_right, ↓k_law_3_law_deck]
    exact k
end Df

namespace Df
open PySem Lt
theorem law_true (ns : List Int) : fn_law_3.F [.dat (scr ns)] = some (.dat (.bool true), .emp) := by
  have h : WF F_law_3 [.dat (scr ns)] fun c o => c = .dat (.bool true) ∧ o = .emp := wf_law_3 ⟨rfl, rfl⟩
  obtain ⟨c, o, e, rfl, rfl⟩ := h
  exact e
end Df

/-! the defs keep their promises (printed by gen2.py) -/
namespace Ok
open PySem PySem.Spec PyProof.Rows L2 Lt Df
def top (i : Nat) : Stmt := PySem.Challenge.pw_wholekits_k06_whole_walks_and_ends.main.body.getD i (.Pass ⟨0, 0, 0, 0⟩)
abbrev s_is_integer : Stmt := top 7
def N_is_integer : List Str := ["value"]
def I_is_integer : Inf := ⟨N_is_integer, defScope s_is_integer, true, [], [], [], ["bool", "int", "isinstance"], false⟩
abbrev s_is_pair : Stmt := top 8
def N_is_pair : List Str := ["value"]
def I_is_pair : Inf := ⟨N_is_pair, defScope s_is_pair, true, [], [], [], ["isinstance", "len", "tuple"], false⟩
abbrev s_is_ascending : Stmt := top 9
def N_is_ascending : List Str := ["row", "k"]
def I_is_ascending : Inf := ⟨N_is_ascending, defScope s_is_ascending, true, [], [], [], ["all", "len", "range"], false⟩
abbrev s_is_offset : Stmt := top 11
def N_is_offset : List Str := ["told"]
def I_is_offset : Inf := ⟨N_is_offset, defScope s_is_offset, true, [("is_pair", 1, ["value"]), ("is_integer", 0, ["value"])], [], [], [], false⟩
abbrev s_is_table : Stmt := top 12
def N_is_table : List Str := ["told"]
def I_is_table : Inf := ⟨N_is_table, defScope s_is_table, true, [("is_pair", 1, ["value"]), ("is_offset", 4, ["told"])], [], [], [], false⟩
abbrev s_determinant_of : Stmt := top 13
def N_determinant_of : List Str := ["table"]
def I_determinant_of : Inf := ⟨N_determinant_of, defScope s_determinant_of, true, [], [], [], [], false⟩
abbrev s_times_of : Stmt := top 14
def N_times_of : List Str := ["table", "offset", "a", "b", "c", "d"]
def I_times_of : Inf := ⟨N_times_of, defScope s_times_of, true, [], [], [], [], false⟩
abbrev s_plus : Stmt := top 15
def N_plus : List Str := ["one", "other"]
def I_plus : Inf := ⟨N_plus, defScope s_plus, true, [], [], [], [], false⟩
abbrev s_is_growing : Stmt := top 16
def N_is_growing : List Str := ["told", "size", "sum_of_ends"]
def I_is_growing : Inf := ⟨N_is_growing, defScope s_is_growing, true, [("is_table", 6, ["told"]), ("determinant_of", 8, ["table"])], [], [], [], false⟩
abbrev s_is_copy : Stmt := top 18
def N_is_copy : List Str := ["told", "many"]
def I_is_copy : Inf := ⟨N_is_copy, defScope s_is_copy, true, [("is_pair", 1, ["value"]), ("is_offset", 4, ["told"]), ("is_integer", 0, ["value"])], [], [], [], false⟩
abbrev s_is_state : Stmt := top 19
def N_is_state : List Str := ["told", "many", "copy"]
def I_is_state : Inf := ⟨N_is_state, defScope s_is_state, true, [("is_ascending", 49, ["row"]), ("is_copy", 50, ["told", "many"])], [], [], ["all", "isinstance", "len", "tuple"], false⟩
abbrev s_is_kit : Stmt := top 20
def N_is_kit : List Str := ["told", "state"]
def I_is_kit : Inf := ⟨N_is_kit, defScope s_is_kit, true, [("is_pair", 1, ["value"]), ("is_growing", 9, ["told"]), ("is_state", 51, ["told", "many"])], [], [], ["all", "isinstance", "len", "tuple"], false⟩
abbrev s_check_kit : Stmt := top 21
def N_check_kit : List Str := ["kit"]
def I_check_kit : Inf := ⟨N_check_kit, defScope s_check_kit, true, [("is_kit", 52, ["told"])], [], [], [], false⟩
abbrev s_check_state : Stmt := top 22
def N_check_state : List Str := ["kit", "state"]
def I_check_state : Inf := ⟨N_check_state, defScope s_check_state, true, [("is_integer", 0, ["value"])], [], [], ["len"], false⟩
abbrev s_is_row : Stmt := top 24
def N_is_row : List Str := ["told", "place"]
def I_is_row : Inf := ⟨N_is_row, defScope s_is_row, true, [("is_integer", 0, ["value"])], [], [], ["all", "isinstance", "tuple"], false⟩
abbrev s_walked : Stmt := top 25
def N_walked : List Str := ["kit", "state", "walk", "offset", "place", "copies", "step"]
def I_walked : Inf := ⟨N_walked, defScope s_walked, true, [("plus", 62, ["one", "other"]), ("times_of", 13, ["table", "offset"])], [], [], ["len"], false⟩
abbrev s_has_walk : Stmt := top 26
def N_has_walk : List Str := ["kit", "state", "told"]
def I_has_walk : Inf := ⟨N_has_walk, defScope s_has_walk, true, [("is_row", 65, ["told"]), ("walked", 66, ["kit", "state", "walk"])], [], [], [], false⟩
abbrev s_has_address : Stmt := top 27
def N_has_address : List Str := ["kit", "state", "told", "first", "last"]
def I_has_address : Inf := ⟨N_has_address, defScope s_has_address, true, [("walked", 66, ["kit", "state", "walk"]), ("is_pair", 1, ["value"]), ("is_row", 65, ["told"])], [], [], ["len"], false⟩
abbrev s_is_walk : Stmt := top 28
def N_is_walk : List Str := ["kit", "state", "told"]
def I_is_walk : Inf := ⟨N_is_walk, defScope s_is_walk, true, [("check_kit", 63, ["kit"]), ("check_state", 64, ["kit", "state"]), ("has_walk", 67, ["kit", "state", "told"])], [], [], [], false⟩
abbrev s_is_address : Stmt := top 29
def N_is_address : List Str := ["kit", "state", "told"]
def I_is_address : Inf := ⟨N_is_address, defScope s_is_address, true, [("check_kit", 63, ["kit"]), ("check_state", 64, ["kit", "state"]), ("has_address", 68, ["kit", "state", "told"])], [], [], [], false⟩
abbrev s_ends : Stmt := top 30
def N_ends : List Str := ["kit", "state", "walk"]
def I_ends : Inf := ⟨N_ends, defScope s_ends, true, [("check_kit", 63, ["kit"]), ("check_state", 64, ["kit", "state"]), ("walked", 66, ["kit", "state", "walk"]), ("has_walk", 67, ["kit", "state", "told"])], [], [], [], false⟩
abbrev s_walks : Stmt := top 31
def N_walks : List Str := ["kit", "state", "n", "found", "_", "longer", "walk", "here", "place", "copy"]
def I_walks : Inf := ⟨N_walks, defScope s_walks, true, [("check_kit", 63, ["kit"]), ("check_state", 64, ["kit", "state"]), ("is_integer", 0, ["value"])], [], [], ["enumerate", "range"], false⟩
abbrev s_law_deck : Stmt := top 33
def N_law_deck : List Str := ["script", "at", "cell", "stir"]
def I_law_deck : Inf := ⟨N_law_deck, defScope s_law_deck, true, [], [], [], ["int", "len"], false⟩
abbrev s_law_take : Stmt := top 34
def N_law_take : List Str := ["deck", "many", "taken"]
def I_law_take : Inf := ⟨N_law_take, defScope s_law_take, true, [], [], [], ["int"], false⟩
abbrev s_law_same : Stmt := top 35
def N_law_same : List Str := ["found", "due", "at"]
def I_law_same : Inf := ⟨N_law_same, defScope s_law_same, true, [("_law_same", 33, ["found", "due"])], [], [], ["bool", "int", "isinstance", "len", "list", "range", "str", "tuple"], false⟩
abbrev s_law_det : Stmt := top 36
def N_law_det : List Str := ["grid"]
def I_law_det : Inf := ⟨N_law_det, defScope s_law_det, true, [], [], [], [], false⟩
abbrev s_law_growing : Stmt := top 37
def N_law_growing : List Str := ["grid", "size", "corners"]
def I_law_growing : Inf := ⟨N_law_growing, defScope s_law_growing, true, [("_law_det", 34, ["grid"])], [], [], ["abs"], false⟩
abbrev s_law_grid : Stmt := top 38
def N_law_grid : List Str := ["deck", "some", "grid", "cells", "j", "drawn"]
def I_law_grid : Inf := ⟨N_law_grid, defScope s_law_grid, true, [("_law_take", 27, ["deck", "many"]), ("_law_growing", 35, ["grid"]), ("_law_det", 34, ["grid"])], [], [], ["abs", "range"], false⟩
abbrev s_law_ahead : Stmt := top 39
def N_law_ahead : List Str := ["grid", "away"]
def I_law_ahead : Inf := ⟨N_law_ahead, defScope s_law_ahead, true, [], [], [], [], false⟩
abbrev s_law_add : Stmt := top 40
def N_law_add : List Str := ["first", "second"]
def I_law_add : Inf := ⟨N_law_add, defScope s_law_add, true, [], [], [], [], false⟩
abbrev s_law_gear : Stmt := top 41
def N_law_gear : List Str := ["deck", "grid", "spots", "most", "far", "many", "found", "j", "rows", "h", "step"]
def I_law_gear : Inf := ⟨N_law_gear, defScope s_law_gear, true, [("_law_take", 27, ["deck", "many"])], [], [], ["range", "sorted", "tuple"], false⟩
abbrev s_law_gone : Stmt := top 42
def N_law_gone : List Str := ["gear", "spot", "path", "away", "at", "step"]
def I_law_gone : Inf := ⟨N_law_gone, defScope s_law_gone, true, [("_law_add", 38, ["first", "second"]), ("_law_ahead", 37, ["grid", "away"])], [], [], ["len"], false⟩
abbrev s_law_path : Stmt := top 43
def N_law_path : List Str := ["deck", "gear", "spot", "many", "found", "turn"]
def I_law_path : Inf := ⟨N_law_path, defScope s_law_path, true, [("_law_take", 27, ["deck", "many"])], [], [], ["len", "range", "tuple"], false⟩
abbrev s_law_track : Stmt := top 44
def N_law_track : List Str := ["deck", "gear", "spot", "seen", "path", "here", "first"]
def I_law_track : Inf := ⟨N_law_track, defScope s_law_track, true, [("_law_take", 27, ["deck", "many"])], [], [], ["len", "tuple"], false⟩
abbrev s_law_bent_3 : Stmt := top 45
def N_law_bent_3 : List Str := ["deck", "path", "way", "at"]
def I_law_bent_3 : Inf := ⟨N_law_bent_3, defScope s_law_bent_3, true, [("_law_take", 27, ["deck", "many"])], [], [], ["len", "min"], false⟩
abbrev s_law_is_track : Stmt := top 46
def N_law_is_track : List Str := ["gear", "spot", "track", "first", "last"]
def I_law_is_track : Inf := ⟨N_law_is_track, defScope s_law_is_track, true, [("_law_gone", 73, ["gear", "spot", "path"])], [], [], [], false⟩
abbrev s_law_all : Stmt := top 47
def N_law_all : List Str := ["gear", "spot", "many", "found", "turn", "longer", "path", "here", "at"]
def I_law_all : Inf := ⟨N_law_all, defScope s_law_all, true, [], [], [], ["len", "range"], false⟩
abbrev s_law_walks_right : Stmt := top 48
def N_law_walks_right : List Str := ["deck", "gear", "spot", "most", "copies", "many", "due", "found"]
def I_law_walks_right : Inf := ⟨N_law_walks_right, defScope s_law_walks_right, true, [("_law_take", 27, ["deck", "many"]), ("_law_all", 78, ["gear", "spot", "many"]), ("walks", 72, ["kit", "state", "n"]), ("_law_same", 33, ["found", "due"])], [("walks", 0, ["n", "state", "kit"])], [], ["len", "max"], false⟩
abbrev s_law_right : Stmt := top 49
def N_law_right : List Str := ["deck", "gear", "spot", "path", "track", "due", "turn", "bent", "other_track"]
def I_law_right : Inf := ⟨N_law_right, defScope s_law_right, true, [("_law_gear", 53, ["deck", "grid", "spots", "most", "far"]), ("_law_take", 27, ["deck", "many"]), ("_law_gone", 73, ["gear", "spot", "path"]), ("_law_grid", 36, ["deck"]), ("_law_path", 74, ["deck", "gear", "spot", "many"]), ("_law_track", 75, ["deck", "gear", "spot"]), ("_law_same", 33, ["found", "due"]), ("_law_bent", 76, ["deck", "path"]), ("_law_is_track", 77, ["gear", "spot", "track"]), ("_law_walks_right", 79, ["deck", "gear", "spot"]), ("is_address", 70, ["kit", "state", "told"]), ("ends", 71, ["kit", "state", "walk"]), ("is_walk", 69, ["kit", "state", "told"])], [("ends", 0, ["walk", "state", "kit"]), ("is_walk", 0, ["told", "state", "kit"]), ("is_address", 0, ["told", "state", "kit"])], [], ["len", "range"], false⟩
abbrev s_law_3 : Stmt := top 50
def N_law_3 : List Str := ["script", "at"]
def I_law_3 : Inf := ⟨N_law_3, defScope s_law_3, true, [("_law_right", 80, ["deck"]), ("_law_deck", 26, ["script", "at"])], [], [], ["len", "max", "min", "range"], false⟩
def d_is_integer : He.DefD := ⟨("is_integer", none), "is_integer", "is_integer", defArgs s_is_integer, defBody s_is_integer, defScope s_is_integer, [], []⟩
def d_is_pair : He.DefD := ⟨("is_pair", none), "is_pair", "is_pair", defArgs s_is_pair, defBody s_is_pair, defScope s_is_pair, [], []⟩
def d_is_ascending : He.DefD := ⟨("is_ascending", none), "is_ascending", "is_ascending", defArgs s_is_ascending, defBody s_is_ascending, defScope s_is_ascending, [], []⟩
def d_is_offset : He.DefD := ⟨("is_offset", none), "is_offset", "is_offset", defArgs s_is_offset, defBody s_is_offset, defScope s_is_offset, [], []⟩
def d_is_table : He.DefD := ⟨("is_table", none), "is_table", "is_table", defArgs s_is_table, defBody s_is_table, defScope s_is_table, [], []⟩
def d_determinant_of : He.DefD := ⟨("determinant_of", none), "determinant_of", "determinant_of", defArgs s_determinant_of, defBody s_determinant_of, defScope s_determinant_of, [], []⟩
def d_times_of : He.DefD := ⟨("times_of", none), "times_of", "times_of", defArgs s_times_of, defBody s_times_of, defScope s_times_of, [], []⟩
def d_plus : He.DefD := ⟨("plus", none), "plus", "plus", defArgs s_plus, defBody s_plus, defScope s_plus, [], []⟩
def d_is_growing : He.DefD := ⟨("is_growing", none), "is_growing", "is_growing", defArgs s_is_growing, defBody s_is_growing, defScope s_is_growing, [], []⟩
def d_is_copy : He.DefD := ⟨("is_copy", none), "is_copy", "is_copy", defArgs s_is_copy, defBody s_is_copy, defScope s_is_copy, [], []⟩
def d_is_state : He.DefD := ⟨("is_state", none), "is_state", "is_state", defArgs s_is_state, defBody s_is_state, defScope s_is_state, [], []⟩
def d_is_kit : He.DefD := ⟨("is_kit", none), "is_kit", "is_kit", defArgs s_is_kit, defBody s_is_kit, defScope s_is_kit, [], []⟩
def d_check_kit : He.DefD := ⟨("check_kit", none), "check_kit", "check_kit", defArgs s_check_kit, defBody s_check_kit, defScope s_check_kit, [], []⟩
def d_check_state : He.DefD := ⟨("check_state", none), "check_state", "check_state", defArgs s_check_state, defBody s_check_state, defScope s_check_state, [], []⟩
def d_is_row : He.DefD := ⟨("is_row", none), "is_row", "is_row", defArgs s_is_row, defBody s_is_row, defScope s_is_row, [], []⟩
def d_walked : He.DefD := ⟨("walked", none), "walked", "walked", defArgs s_walked, defBody s_walked, defScope s_walked, [], []⟩
def d_has_walk : He.DefD := ⟨("has_walk", none), "has_walk", "has_walk", defArgs s_has_walk, defBody s_has_walk, defScope s_has_walk, [], []⟩
def d_has_address : He.DefD := ⟨("has_address", none), "has_address", "has_address", defArgs s_has_address, defBody s_has_address, defScope s_has_address, [], []⟩
def d_is_walk : He.DefD := ⟨("is_walk", none), "is_walk", "is_walk", defArgs s_is_walk, defBody s_is_walk, defScope s_is_walk, [], []⟩
def d_is_address : He.DefD := ⟨("is_address", none), "is_address", "is_address", defArgs s_is_address, defBody s_is_address, defScope s_is_address, [], []⟩
def d_ends : He.DefD := ⟨("ends", none), "ends", "ends", defArgs s_ends, defBody s_ends, defScope s_ends, [], []⟩
def d_walks : He.DefD := ⟨("walks", none), "walks", "walks", defArgs s_walks, defBody s_walks, defScope s_walks, [], []⟩
def d_law_deck : He.DefD := ⟨("_law_deck", none), "_law_deck", "_law_deck", defArgs s_law_deck, defBody s_law_deck, defScope s_law_deck, [], []⟩
def d_law_take : He.DefD := ⟨("_law_take", none), "_law_take", "_law_take", defArgs s_law_take, defBody s_law_take, defScope s_law_take, [], []⟩
def d_law_same : He.DefD := ⟨("_law_same", none), "_law_same", "_law_same", defArgs s_law_same, defBody s_law_same, defScope s_law_same, [], []⟩
def d_law_det : He.DefD := ⟨("_law_det", none), "_law_det", "_law_det", defArgs s_law_det, defBody s_law_det, defScope s_law_det, [], []⟩
def d_law_growing : He.DefD := ⟨("_law_growing", none), "_law_growing", "_law_growing", defArgs s_law_growing, defBody s_law_growing, defScope s_law_growing, [], []⟩
def d_law_grid : He.DefD := ⟨("_law_grid", none), "_law_grid", "_law_grid", defArgs s_law_grid, defBody s_law_grid, defScope s_law_grid, [], []⟩
def d_law_ahead : He.DefD := ⟨("_law_ahead", none), "_law_ahead", "_law_ahead", defArgs s_law_ahead, defBody s_law_ahead, defScope s_law_ahead, [], []⟩
def d_law_add : He.DefD := ⟨("_law_add", none), "_law_add", "_law_add", defArgs s_law_add, defBody s_law_add, defScope s_law_add, [], []⟩
def d_law_gear : He.DefD := ⟨("_law_gear", none), "_law_gear", "_law_gear", defArgs s_law_gear, defBody s_law_gear, defScope s_law_gear, [], []⟩
def d_law_gone : He.DefD := ⟨("_law_gone", none), "_law_gone", "_law_gone", defArgs s_law_gone, defBody s_law_gone, defScope s_law_gone, [], []⟩
def d_law_path : He.DefD := ⟨("_law_path", none), "_law_path", "_law_path", defArgs s_law_path, defBody s_law_path, defScope s_law_path, [], []⟩
def d_law_track : He.DefD := ⟨("_law_track", none), "_law_track", "_law_track", defArgs s_law_track, defBody s_law_track, defScope s_law_track, [], []⟩
def d_law_bent_3 : He.DefD := ⟨("_law_bent", none), "_law_bent", "_law_bent", defArgs s_law_bent_3, defBody s_law_bent_3, defScope s_law_bent_3, [], []⟩
def d_law_is_track : He.DefD := ⟨("_law_is_track", none), "_law_is_track", "_law_is_track", defArgs s_law_is_track, defBody s_law_is_track, defScope s_law_is_track, [], []⟩
def d_law_all : He.DefD := ⟨("_law_all", none), "_law_all", "_law_all", defArgs s_law_all, defBody s_law_all, defScope s_law_all, [], []⟩
def d_law_walks_right : He.DefD := ⟨("_law_walks_right", none), "_law_walks_right", "_law_walks_right", defArgs s_law_walks_right, defBody s_law_walks_right, defScope s_law_walks_right, [], []⟩
def d_law_right : He.DefD := ⟨("_law_right", none), "_law_right", "_law_right", defArgs s_law_right, defBody s_law_right, defScope s_law_right, [], []⟩
def d_law_3 : He.DefD := ⟨("law", none), "law", "law", defArgs s_law_3, defBody s_law_3, defScope s_law_3, [], []⟩
def fnD : List He.DefD := [d_is_integer, d_is_pair, d_is_ascending, d_is_offset, d_is_table, d_determinant_of, d_times_of, d_plus, d_is_growing, d_is_copy, d_is_state, d_is_kit, d_check_kit, d_check_state, d_is_row, d_walked, d_has_walk, d_has_address, d_is_walk, d_is_address, d_ends, d_walks, d_law_deck, d_law_take, d_law_same, d_law_det, d_law_growing, d_law_grid, d_law_ahead, d_law_add, d_law_gear, d_law_gone, d_law_path, d_law_track, d_law_bent_3, d_law_is_track, d_law_all, d_law_walks_right, d_law_right, d_law_3]
def fa : List He.Fa := [.glo "is_integer", .glo "is_pair", .glo "is_ascending", .glo "is_offset", .glo "is_table", .glo "determinant_of", .glo "times_of", .glo "plus", .glo "is_growing", .glo "is_copy", .glo "is_state", .glo "is_kit", .glo "check_kit", .glo "check_state", .glo "is_row", .glo "walked", .glo "has_walk", .glo "has_address", .glo "is_walk", .glo "is_address", .glo "ends", .glo "walks", .glo "_law_deck", .glo "_law_take", .glo "_law_same", .glo "_law_det", .glo "_law_growing", .glo "_law_grid", .glo "_law_ahead", .glo "_law_add", .glo "_law_gear", .glo "_law_gone", .glo "_law_path", .glo "_law_track", .glo "_law_bent", .glo "_law_is_track", .glo "_law_all", .glo "_law_walks_right", .glo "_law_right", .glo "law", .free "abs", .free "all", .free "bool", .free "enumerate", .free "int", .free "isinstance", .free "len", .free "list", .free "max", .free "min", .free "range", .free "sorted", .free "str", .free "tuple"]
def xs : List Xf := []
theorem S_is_integer : FnScope N_is_integer ["value"] (defScope s_is_integer) := ⟨rfl, rfl, rfl, by decide +kernel, rfl, by decide +kernel, by decide +kernel⟩
theorem e_is_integer : cSl (cS 60 I_is_integer 30) (defBody s_is_integer) = ir_is_integer := by kernel_rfl
theorem S_is_pair : FnScope N_is_pair ["value"] (defScope s_is_pair) := ⟨rfl, rfl, rfl, by decide +kernel, rfl, by decide +kernel, by decide +kernel⟩
theorem e_is_pair : cSl (cS 60 I_is_pair 30) (defBody s_is_pair) = ir_is_pair := by kernel_rfl
theorem S_is_ascending : FnScope N_is_ascending ["row"] (defScope s_is_ascending) := ⟨rfl, rfl, rfl, by decide +kernel, rfl, by decide +kernel, by decide +kernel⟩
theorem e_is_ascending : cSl (cS 60 I_is_ascending 30) (defBody s_is_ascending) = ir_is_ascending := by kernel_rfl
theorem S_is_offset : FnScope N_is_offset ["told"] (defScope s_is_offset) := ⟨rfl, rfl, rfl, by decide +kernel, rfl, by decide +kernel, by decide +kernel⟩
theorem e_is_offset : cSl (cS 60 I_is_offset 30) (defBody s_is_offset) = ir_is_offset := by kernel_rfl
theorem S_is_table : FnScope N_is_table ["told"] (defScope s_is_table) := ⟨rfl, rfl, rfl, by decide +kernel, rfl, by decide +kernel, by decide +kernel⟩
theorem e_is_table : cSl (cS 60 I_is_table 30) (defBody s_is_table) = ir_is_table := by kernel_rfl
theorem S_determinant_of : FnScope N_determinant_of ["table"] (defScope s_determinant_of) := ⟨rfl, rfl, rfl, by decide +kernel, rfl, by decide +kernel, by decide +kernel⟩
theorem e_determinant_of : cSl (cS 60 I_determinant_of 30) (defBody s_determinant_of) = ir_determinant_of := by kernel_rfl
theorem S_times_of : FnScope N_times_of ["table", "offset"] (defScope s_times_of) := ⟨rfl, rfl, rfl, by decide +kernel, rfl, by decide +kernel, by decide +kernel⟩
theorem e_times_of : cSl (cS 60 I_times_of 30) (defBody s_times_of) = ir_times_of := by kernel_rfl
theorem S_plus : FnScope N_plus ["one", "other"] (defScope s_plus) := ⟨rfl, rfl, rfl, by decide +kernel, rfl, by decide +kernel, by decide +kernel⟩
theorem e_plus : cSl (cS 60 I_plus 30) (defBody s_plus) = ir_plus := by kernel_rfl
theorem S_is_growing : FnScope N_is_growing ["told"] (defScope s_is_growing) := ⟨rfl, rfl, rfl, by decide +kernel, rfl, by decide +kernel, by decide +kernel⟩
theorem e_is_growing : cSl (cS 60 I_is_growing 30) (defBody s_is_growing) = ir_is_growing := by kernel_rfl
theorem S_is_copy : FnScope N_is_copy ["told", "many"] (defScope s_is_copy) := ⟨rfl, rfl, rfl, by decide +kernel, rfl, by decide +kernel, by decide +kernel⟩
theorem e_is_copy : cSl (cS 60 I_is_copy 30) (defBody s_is_copy) = ir_is_copy := by kernel_rfl
theorem S_is_state : FnScope N_is_state ["told", "many"] (defScope s_is_state) := ⟨rfl, rfl, rfl, by decide +kernel, rfl, by decide +kernel, by decide +kernel⟩
theorem e_is_state : cSl (cS 60 I_is_state 30) (defBody s_is_state) = ir_is_state := by kernel_rfl
theorem S_is_kit : FnScope N_is_kit ["told"] (defScope s_is_kit) := ⟨rfl, rfl, rfl, by decide +kernel, rfl, by decide +kernel, by decide +kernel⟩
theorem e_is_kit : cSl (cS 60 I_is_kit 30) (defBody s_is_kit) = ir_is_kit := by kernel_rfl
theorem S_check_kit : FnScope N_check_kit ["kit"] (defScope s_check_kit) := ⟨rfl, rfl, rfl, by decide +kernel, rfl, by decide +kernel, by decide +kernel⟩
theorem e_check_kit : cSl (cS 60 I_check_kit 30) (defBody s_check_kit) = ir_check_kit := by kernel_rfl
theorem S_check_state : FnScope N_check_state ["kit", "state"] (defScope s_check_state) := ⟨rfl, rfl, rfl, by decide +kernel, rfl, by decide +kernel, by decide +kernel⟩
theorem e_check_state : cSl (cS 60 I_check_state 30) (defBody s_check_state) = ir_check_state := by kernel_rfl
theorem S_is_row : FnScope N_is_row ["told"] (defScope s_is_row) := ⟨rfl, rfl, rfl, by decide +kernel, rfl, by decide +kernel, by decide +kernel⟩
theorem e_is_row : cSl (cS 60 I_is_row 30) (defBody s_is_row) = ir_is_row := by kernel_rfl
theorem S_walked : FnScope N_walked ["kit", "state", "walk"] (defScope s_walked) := ⟨rfl, rfl, rfl, by decide +kernel, rfl, by decide +kernel, by decide +kernel⟩
theorem e_walked : cSl (cS 60 I_walked 30) (defBody s_walked) = ir_walked := by kernel_rfl
theorem S_has_walk : FnScope N_has_walk ["kit", "state", "told"] (defScope s_has_walk) := ⟨rfl, rfl, rfl, by decide +kernel, rfl, by decide +kernel, by decide +kernel⟩
theorem e_has_walk : cSl (cS 60 I_has_walk 30) (defBody s_has_walk) = ir_has_walk := by kernel_rfl
theorem S_has_address : FnScope N_has_address ["kit", "state", "told"] (defScope s_has_address) := ⟨rfl, rfl, rfl, by decide +kernel, rfl, by decide +kernel, by decide +kernel⟩
theorem e_has_address : cSl (cS 60 I_has_address 30) (defBody s_has_address) = ir_has_address := by kernel_rfl
theorem S_is_walk : FnScope N_is_walk ["kit", "state", "told"] (defScope s_is_walk) := ⟨rfl, rfl, rfl, by decide +kernel, rfl, by decide +kernel, by decide +kernel⟩
theorem e_is_walk : cSl (cS 60 I_is_walk 30) (defBody s_is_walk) = ir_is_walk := by kernel_rfl
theorem S_is_address : FnScope N_is_address ["kit", "state", "told"] (defScope s_is_address) := ⟨rfl, rfl, rfl, by decide +kernel, rfl, by decide +kernel, by decide +kernel⟩
theorem e_is_address : cSl (cS 60 I_is_address 30) (defBody s_is_address) = ir_is_address := by kernel_rfl
theorem S_ends : FnScope N_ends ["kit", "state", "walk"] (defScope s_ends) := ⟨rfl, rfl, rfl, by decide +kernel, rfl, by decide +kernel, by decide +kernel⟩
theorem e_ends : cSl (cS 60 I_ends 30) (defBody s_ends) = ir_ends := by kernel_rfl
theorem S_walks : FnScope N_walks ["kit", "state", "n"] (defScope s_walks) := ⟨rfl, rfl, rfl, by decide +kernel, rfl, by decide +kernel, by decide +kernel⟩
theorem e_walks : cSl (cS 60 I_walks 30) (defBody s_walks) = ir_walks := by kernel_rfl
theorem S_law_deck : FnScope N_law_deck ["script", "at"] (defScope s_law_deck) := ⟨rfl, rfl, rfl, by decide +kernel, rfl, by decide +kernel, by decide +kernel⟩
theorem e_law_deck : cSl (cS 60 I_law_deck 30) (defBody s_law_deck) = ir_law_deck := by kernel_rfl
theorem S_law_take : FnScope N_law_take ["deck", "many"] (defScope s_law_take) := ⟨rfl, rfl, rfl, by decide +kernel, rfl, by decide +kernel, by decide +kernel⟩
theorem e_law_take : cSl (cS 60 I_law_take 30) (defBody s_law_take) = ir_law_take := by kernel_rfl
theorem S_law_same : FnScope N_law_same ["found", "due"] (defScope s_law_same) := ⟨rfl, rfl, rfl, by decide +kernel, rfl, by decide +kernel, by decide +kernel⟩
theorem e_law_same : cSl (cS 60 I_law_same 30) (defBody s_law_same) = ir_law_same := by kernel_rfl
theorem S_law_det : FnScope N_law_det ["grid"] (defScope s_law_det) := ⟨rfl, rfl, rfl, by decide +kernel, rfl, by decide +kernel, by decide +kernel⟩
theorem e_law_det : cSl (cS 60 I_law_det 30) (defBody s_law_det) = ir_law_det := by kernel_rfl
theorem S_law_growing : FnScope N_law_growing ["grid"] (defScope s_law_growing) := ⟨rfl, rfl, rfl, by decide +kernel, rfl, by decide +kernel, by decide +kernel⟩
theorem e_law_growing : cSl (cS 60 I_law_growing 30) (defBody s_law_growing) = ir_law_growing := by kernel_rfl
theorem S_law_grid : FnScope N_law_grid ["deck"] (defScope s_law_grid) := ⟨rfl, rfl, rfl, by decide +kernel, rfl, by decide +kernel, by decide +kernel⟩
theorem e_law_grid : cSl (cS 60 I_law_grid 30) (defBody s_law_grid) = ir_law_grid := by kernel_rfl
theorem S_law_ahead : FnScope N_law_ahead ["grid", "away"] (defScope s_law_ahead) := ⟨rfl, rfl, rfl, by decide +kernel, rfl, by decide +kernel, by decide +kernel⟩
theorem e_law_ahead : cSl (cS 60 I_law_ahead 30) (defBody s_law_ahead) = ir_law_ahead := by kernel_rfl
theorem S_law_add : FnScope N_law_add ["first", "second"] (defScope s_law_add) := ⟨rfl, rfl, rfl, by decide +kernel, rfl, by decide +kernel, by decide +kernel⟩
theorem e_law_add : cSl (cS 60 I_law_add 30) (defBody s_law_add) = ir_law_add := by kernel_rfl
theorem S_law_gear : FnScope N_law_gear ["deck", "grid", "spots", "most", "far"] (defScope s_law_gear) := ⟨rfl, rfl, rfl, by decide +kernel, rfl, by decide +kernel, by decide +kernel⟩
theorem e_law_gear : cSl (cS 60 I_law_gear 30) (defBody s_law_gear) = ir_law_gear := by kernel_rfl
theorem S_law_gone : FnScope N_law_gone ["gear", "spot", "path"] (defScope s_law_gone) := ⟨rfl, rfl, rfl, by decide +kernel, rfl, by decide +kernel, by decide +kernel⟩
theorem e_law_gone : cSl (cS 60 I_law_gone 30) (defBody s_law_gone) = ir_law_gone := by kernel_rfl
theorem S_law_path : FnScope N_law_path ["deck", "gear", "spot", "many"] (defScope s_law_path) := ⟨rfl, rfl, rfl, by decide +kernel, rfl, by decide +kernel, by decide +kernel⟩
theorem e_law_path : cSl (cS 60 I_law_path 30) (defBody s_law_path) = ir_law_path := by kernel_rfl
theorem S_law_track : FnScope N_law_track ["deck", "gear", "spot"] (defScope s_law_track) := ⟨rfl, rfl, rfl, by decide +kernel, rfl, by decide +kernel, by decide +kernel⟩
theorem e_law_track : cSl (cS 60 I_law_track 30) (defBody s_law_track) = ir_law_track := by kernel_rfl
theorem S_law_bent_3 : FnScope N_law_bent_3 ["deck", "path"] (defScope s_law_bent_3) := ⟨rfl, rfl, rfl, by decide +kernel, rfl, by decide +kernel, by decide +kernel⟩
theorem e_law_bent_3 : cSl (cS 60 I_law_bent_3 30) (defBody s_law_bent_3) = ir_law_bent_3 := by kernel_rfl
theorem S_law_is_track : FnScope N_law_is_track ["gear", "spot", "track"] (defScope s_law_is_track) := ⟨rfl, rfl, rfl, by decide +kernel, rfl, by decide +kernel, by decide +kernel⟩
theorem e_law_is_track : cSl (cS 60 I_law_is_track 30) (defBody s_law_is_track) = ir_law_is_track := by kernel_rfl
theorem S_law_all : FnScope N_law_all ["gear", "spot", "many"] (defScope s_law_all) := ⟨rfl, rfl, rfl, by decide +kernel, rfl, by decide +kernel, by decide +kernel⟩
theorem e_law_all : cSl (cS 60 I_law_all 30) (defBody s_law_all) = ir_law_all := by kernel_rfl
theorem S_law_walks_right : FnScope N_law_walks_right ["deck", "gear", "spot"] (defScope s_law_walks_right) := ⟨rfl, rfl, rfl, by decide +kernel, rfl, by decide +kernel, by decide +kernel⟩
theorem e_law_walks_right : cSl (cS 60 I_law_walks_right 30) (defBody s_law_walks_right) = ir_law_walks_right := by kernel_rfl
theorem S_law_right : FnScope N_law_right ["deck"] (defScope s_law_right) := ⟨rfl, rfl, rfl, by decide +kernel, rfl, by decide +kernel, by decide +kernel⟩
theorem e_law_right : cSl (cS 60 I_law_right 30) (defBody s_law_right) = ir_law_right := by kernel_rfl
theorem S_law_3 : FnScope N_law_3 ["script"] (defScope s_law_3) := ⟨rfl, rfl, rfl, by decide +kernel, rfl, by decide +kernel, by decide +kernel⟩
theorem e_law_3 : cSl (cS 60 I_law_3 30) (defBody s_law_3) = ir_law_3 := by kernel_rfl
section
variable {P : Program} {w : World} {K : PySem.W.Frag} {mg : Str → Option Value} {base h : Heap}
theorem ok_is_integer (X : K.In h) (G : h.Ns mainGlobals mg) (c : SaysX fa fnD xs K) : OKF P w K mg base "is_integer" fn_is_integer [] := by
  obtain ⟨fd, F⟩ := c.1.def_ 0 (d := d_is_integer) rfl
  have M : Mo P w K mg base T_is_integer 0 I_is_integer := ⟨all_cons (He.free_ok X G (c.1.fact 42 (f := .free "bool") rfl)) (all_cons (He.free_ok X G (c.1.fact 44 (f := .free "int") rfl)) (all_cons (He.free_ok X G (c.1.fact 45 (f := .free "isinstance") rfl)) (all_nil))), (fun z => (nomatch z)), all_nil, all_nil⟩
  exact ⟨_, fd, df_ok2 F (fn := fn_is_integer) hF_is_integer rfl S_is_integer M rfl rfl e_is_integer (fun z => (nomatch z)) rfl, He.glo_ok X G (c.1.fact 0 (f := .glo "is_integer") rfl), F.kp, (F.bindsN (ps := ["value"]) fun _ _ _ _ _ _ us hl => match us, hl with | [_], _ => rfl), all_nil⟩
theorem ok_is_pair (X : K.In h) (G : h.Ns mainGlobals mg) (c : SaysX fa fnD xs K) : OKF P w K mg base "is_pair" fn_is_pair [] := by
  obtain ⟨fd, F⟩ := c.1.def_ 1 (d := d_is_pair) rfl
  have M : Mo P w K mg base T_is_pair 0 I_is_pair := ⟨all_cons (He.free_ok X G (c.1.fact 45 (f := .free "isinstance") rfl)) (all_cons (He.free_ok X G (c.1.fact 46 (f := .free "len") rfl)) (all_cons (He.free_ok X G (c.1.fact 53 (f := .free "tuple") rfl)) (all_nil))), (fun z => (nomatch z)), all_nil, all_nil⟩
  exact ⟨_, fd, df_ok2 F (fn := fn_is_pair) hF_is_pair rfl S_is_pair M rfl rfl e_is_pair (fun z => (nomatch z)) rfl, He.glo_ok X G (c.1.fact 1 (f := .glo "is_pair") rfl), F.kp, (F.bindsN (ps := ["value"]) fun _ _ _ _ _ _ us hl => match us, hl with | [_], _ => rfl), all_nil⟩
theorem ok_is_ascending (X : K.In h) (G : h.Ns mainGlobals mg) (c : SaysX fa fnD xs K) : OKF P w K mg base "is_ascending" fn_is_ascending [] := by
  obtain ⟨fd, F⟩ := c.1.def_ 2 (d := d_is_ascending) rfl
  have M : Mo P w K mg base T_is_ascending 0 I_is_ascending := ⟨all_cons (He.free_ok X G (c.1.fact 41 (f := .free "all") rfl)) (all_cons (He.free_ok X G (c.1.fact 46 (f := .free "len") rfl)) (all_cons (He.free_ok X G (c.1.fact 50 (f := .free "range") rfl)) (all_nil))), (fun z => (nomatch z)), all_nil, all_nil⟩
  exact ⟨_, fd, df_ok2 F (fn := fn_is_ascending) hF_is_ascending rfl S_is_ascending M rfl rfl e_is_ascending (fun z => (nomatch z)) rfl, He.glo_ok X G (c.1.fact 2 (f := .glo "is_ascending") rfl), F.kp, (F.bindsN (ps := ["row"]) fun _ _ _ _ _ _ us hl => match us, hl with | [_], _ => rfl), all_nil⟩
theorem ok_is_offset (X : K.In h) (G : h.Ns mainGlobals mg) (c : SaysX fa fnD xs K) : OKF P w K mg base "is_offset" fn_is_offset [] := by
  obtain ⟨fd, F⟩ := c.1.def_ 3 (d := d_is_offset) rfl
  have M : Mo P w K mg base T_is_offset 1 I_is_offset := ⟨all_nil, (fun z => (nomatch z)), all_nil, all_cons ((ok_is_pair X G c).fnm t_is_offset_is_pair rfl (by decide) (by decide +kernel)) (all_cons ((ok_is_integer X G c).fnm t_is_offset_is_integer rfl (by decide) (by decide +kernel)) (all_nil))⟩
  exact ⟨_, fd, df_ok2 F (fn := fn_is_offset) hF_is_offset rfl S_is_offset M rfl rfl e_is_offset (fun z => (nomatch z)) rfl, He.glo_ok X G (c.1.fact 3 (f := .glo "is_offset") rfl), F.kp, (F.bindsN (ps := ["told"]) fun _ _ _ _ _ _ us hl => match us, hl with | [_], _ => rfl), all_nil⟩
theorem ok_is_table (X : K.In h) (G : h.Ns mainGlobals mg) (c : SaysX fa fnD xs K) : OKF P w K mg base "is_table" fn_is_table [] := by
  obtain ⟨fd, F⟩ := c.1.def_ 4 (d := d_is_table) rfl
  have M : Mo P w K mg base T_is_table 2 I_is_table := ⟨all_nil, (fun z => (nomatch z)), all_nil, all_cons ((ok_is_pair X G c).fnm t_is_table_is_pair rfl (by decide) (by decide +kernel)) (all_cons ((ok_is_offset X G c).fnm t_is_table_is_offset rfl (by decide) (by decide +kernel)) (all_nil))⟩
  exact ⟨_, fd, df_ok2 F (fn := fn_is_table) hF_is_table rfl S_is_table M rfl rfl e_is_table (fun z => (nomatch z)) rfl, He.glo_ok X G (c.1.fact 4 (f := .glo "is_table") rfl), F.kp, (F.bindsN (ps := ["told"]) fun _ _ _ _ _ _ us hl => match us, hl with | [_], _ => rfl), all_nil⟩
theorem ok_determinant_of (X : K.In h) (G : h.Ns mainGlobals mg) (c : SaysX fa fnD xs K) : OKF P w K mg base "determinant_of" fn_determinant_of [] := by
  obtain ⟨fd, F⟩ := c.1.def_ 5 (d := d_determinant_of) rfl
  have M : Mo P w K mg base T_determinant_of 0 I_determinant_of := ⟨all_nil, (fun z => (nomatch z)), all_nil, all_nil⟩
  exact ⟨_, fd, df_ok2 F (fn := fn_determinant_of) hF_determinant_of rfl S_determinant_of M rfl rfl e_determinant_of (fun z => (nomatch z)) rfl, He.glo_ok X G (c.1.fact 5 (f := .glo "determinant_of") rfl), F.kp, (F.bindsN (ps := ["table"]) fun _ _ _ _ _ _ us hl => match us, hl with | [_], _ => rfl), all_nil⟩
theorem ok_times_of (X : K.In h) (G : h.Ns mainGlobals mg) (c : SaysX fa fnD xs K) : OKF P w K mg base "times_of" fn_times_of [] := by
  obtain ⟨fd, F⟩ := c.1.def_ 6 (d := d_times_of) rfl
  have M : Mo P w K mg base T_times_of 0 I_times_of := ⟨all_nil, (fun z => (nomatch z)), all_nil, all_nil⟩
  exact ⟨_, fd, df_ok2 F (fn := fn_times_of) hF_times_of rfl S_times_of M rfl rfl e_times_of (fun z => (nomatch z)) rfl, He.glo_ok X G (c.1.fact 6 (f := .glo "times_of") rfl), F.kp, (F.bindsN (ps := ["table", "offset"]) fun _ _ _ _ _ _ us hl => match us, hl with | [_, _], _ => rfl), all_nil⟩
theorem ok_plus (X : K.In h) (G : h.Ns mainGlobals mg) (c : SaysX fa fnD xs K) : OKF P w K mg base "plus" fn_plus [] := by
  obtain ⟨fd, F⟩ := c.1.def_ 7 (d := d_plus) rfl
  have M : Mo P w K mg base T_plus 0 I_plus := ⟨all_nil, (fun z => (nomatch z)), all_nil, all_nil⟩
  exact ⟨_, fd, df_ok2 F (fn := fn_plus) hF_plus rfl S_plus M rfl rfl e_plus (fun z => (nomatch z)) rfl, He.glo_ok X G (c.1.fact 7 (f := .glo "plus") rfl), F.kp, (F.bindsN (ps := ["one", "other"]) fun _ _ _ _ _ _ us hl => match us, hl with | [_, _], _ => rfl), all_nil⟩
theorem ok_is_growing (X : K.In h) (G : h.Ns mainGlobals mg) (c : SaysX fa fnD xs K) : OKF P w K mg base "is_growing" fn_is_growing [] := by
  obtain ⟨fd, F⟩ := c.1.def_ 8 (d := d_is_growing) rfl
  have M : Mo P w K mg base T_is_growing 3 I_is_growing := ⟨all_nil, (fun z => (nomatch z)), all_nil, all_cons ((ok_is_table X G c).fnm t_is_growing_is_table rfl (by decide) (by decide +kernel)) (all_cons ((ok_determinant_of X G c).fnm t_is_growing_determinant_of rfl (by decide) (by decide +kernel)) (all_nil))⟩
  exact ⟨_, fd, df_ok2 F (fn := fn_is_growing) hF_is_growing rfl S_is_growing M rfl rfl e_is_growing (fun z => (nomatch z)) rfl, He.glo_ok X G (c.1.fact 8 (f := .glo "is_growing") rfl), F.kp, (F.bindsN (ps := ["told"]) fun _ _ _ _ _ _ us hl => match us, hl with | [_], _ => rfl), all_nil⟩
theorem ok_is_copy (X : K.In h) (G : h.Ns mainGlobals mg) (c : SaysX fa fnD xs K) : OKF P w K mg base "is_copy" fn_is_copy [] := by
  obtain ⟨fd, F⟩ := c.1.def_ 9 (d := d_is_copy) rfl
  have M : Mo P w K mg base T_is_copy 2 I_is_copy := ⟨all_nil, (fun z => (nomatch z)), all_nil, all_cons ((ok_is_pair X G c).fnm t_is_copy_is_pair rfl (by decide) (by decide +kernel)) (all_cons ((ok_is_offset X G c).fnm t_is_copy_is_offset rfl (by decide) (by decide +kernel)) (all_cons ((ok_is_integer X G c).fnm t_is_copy_is_integer rfl (by decide) (by decide +kernel)) (all_nil)))⟩
  exact ⟨_, fd, df_ok2 F (fn := fn_is_copy) hF_is_copy rfl S_is_copy M rfl rfl e_is_copy (fun z => (nomatch z)) rfl, He.glo_ok X G (c.1.fact 9 (f := .glo "is_copy") rfl), F.kp, (F.bindsN (ps := ["told", "many"]) fun _ _ _ _ _ _ us hl => match us, hl with | [_, _], _ => rfl), all_nil⟩
theorem ok_is_state (X : K.In h) (G : h.Ns mainGlobals mg) (c : SaysX fa fnD xs K) : OKF P w K mg base "is_state" fn_is_state [] := by
  obtain ⟨fd, F⟩ := c.1.def_ 10 (d := d_is_state) rfl
  have M : Mo P w K mg base T_is_state 3 I_is_state := ⟨all_cons (He.free_ok X G (c.1.fact 41 (f := .free "all") rfl)) (all_cons (He.free_ok X G (c.1.fact 45 (f := .free "isinstance") rfl)) (all_cons (He.free_ok X G (c.1.fact 46 (f := .free "len") rfl)) (all_cons (He.free_ok X G (c.1.fact 53 (f := .free "tuple") rfl)) (all_nil)))), (fun z => (nomatch z)), all_nil, all_cons ((ok_is_ascending X G c).fnm t_is_state_is_ascending rfl (by decide) (by decide +kernel)) (all_cons ((ok_is_copy X G c).fnm t_is_state_is_copy rfl (by decide) (by decide +kernel)) (all_nil))⟩
  exact ⟨_, fd, df_ok2 F (fn := fn_is_state) hF_is_state rfl S_is_state M rfl rfl e_is_state (fun z => (nomatch z)) rfl, He.glo_ok X G (c.1.fact 10 (f := .glo "is_state") rfl), F.kp, (F.bindsN (ps := ["told", "many"]) fun _ _ _ _ _ _ us hl => match us, hl with | [_, _], _ => rfl), all_nil⟩
theorem ok_is_kit (X : K.In h) (G : h.Ns mainGlobals mg) (c : SaysX fa fnD xs K) : OKF P w K mg base "is_kit" fn_is_kit [] := by
  obtain ⟨fd, F⟩ := c.1.def_ 11 (d := d_is_kit) rfl
  have M : Mo P w K mg base T_is_kit 4 I_is_kit := ⟨all_cons (He.free_ok X G (c.1.fact 41 (f := .free "all") rfl)) (all_cons (He.free_ok X G (c.1.fact 45 (f := .free "isinstance") rfl)) (all_cons (He.free_ok X G (c.1.fact 46 (f := .free "len") rfl)) (all_cons (He.free_ok X G (c.1.fact 53 (f := .free "tuple") rfl)) (all_nil)))), (fun z => (nomatch z)), all_nil, all_cons ((ok_is_pair X G c).fnm t_is_kit_is_pair rfl (by decide) (by decide +kernel)) (all_cons ((ok_is_growing X G c).fnm t_is_kit_is_growing rfl (by decide) (by decide +kernel)) (all_cons ((ok_is_state X G c).fnm t_is_kit_is_state rfl (by decide) (by decide +kernel)) (all_nil)))⟩
  exact ⟨_, fd, df_ok2 F (fn := fn_is_kit) hF_is_kit rfl S_is_kit M rfl rfl e_is_kit (fun z => (nomatch z)) rfl, He.glo_ok X G (c.1.fact 11 (f := .glo "is_kit") rfl), F.kp, (F.bindsN (ps := ["told"]) fun _ _ _ _ _ _ us hl => match us, hl with | [_], _ => rfl), all_nil⟩
theorem ok_check_kit (X : K.In h) (G : h.Ns mainGlobals mg) (c : SaysX fa fnD xs K) : OKF P w K mg base "check_kit" fn_check_kit [] := by
  obtain ⟨fd, F⟩ := c.1.def_ 12 (d := d_check_kit) rfl
  have M : Mo P w K mg base T_check_kit 5 I_check_kit := ⟨all_nil, (fun z => (nomatch z)), all_nil, all_cons ((ok_is_kit X G c).fnm t_check_kit_is_kit rfl (by decide) (by decide +kernel)) (all_nil)⟩
  exact ⟨_, fd, df_ok2 F (fn := fn_check_kit) hF_check_kit rfl S_check_kit M rfl rfl e_check_kit (fun z => (nomatch z)) rfl, He.glo_ok X G (c.1.fact 12 (f := .glo "check_kit") rfl), F.kp, (F.bindsN (ps := ["kit"]) fun _ _ _ _ _ _ us hl => match us, hl with | [_], _ => rfl), all_nil⟩
theorem ok_check_state (X : K.In h) (G : h.Ns mainGlobals mg) (c : SaysX fa fnD xs K) : OKF P w K mg base "check_state" fn_check_state [] := by
  obtain ⟨fd, F⟩ := c.1.def_ 13 (d := d_check_state) rfl
  have M : Mo P w K mg base T_check_state 1 I_check_state := ⟨all_cons (He.free_ok X G (c.1.fact 46 (f := .free "len") rfl)) (all_nil), (fun z => (nomatch z)), all_nil, all_cons ((ok_is_integer X G c).fnm t_check_state_is_integer rfl (by decide) (by decide +kernel)) (all_nil)⟩
  exact ⟨_, fd, df_ok2 F (fn := fn_check_state) hF_check_state rfl S_check_state M rfl rfl e_check_state (fun z => (nomatch z)) rfl, He.glo_ok X G (c.1.fact 13 (f := .glo "check_state") rfl), F.kp, (F.bindsN (ps := ["kit", "state"]) fun _ _ _ _ _ _ us hl => match us, hl with | [_, _], _ => rfl), all_nil⟩
theorem ok_is_row (X : K.In h) (G : h.Ns mainGlobals mg) (c : SaysX fa fnD xs K) : OKF P w K mg base "is_row" fn_is_row [] := by
  obtain ⟨fd, F⟩ := c.1.def_ 14 (d := d_is_row) rfl
  have M : Mo P w K mg base T_is_row 1 I_is_row := ⟨all_cons (He.free_ok X G (c.1.fact 41 (f := .free "all") rfl)) (all_cons (He.free_ok X G (c.1.fact 45 (f := .free "isinstance") rfl)) (all_cons (He.free_ok X G (c.1.fact 53 (f := .free "tuple") rfl)) (all_nil))), (fun z => (nomatch z)), all_nil, all_cons ((ok_is_integer X G c).fnm t_is_row_is_integer rfl (by decide) (by decide +kernel)) (all_nil)⟩
  exact ⟨_, fd, df_ok2 F (fn := fn_is_row) hF_is_row rfl S_is_row M rfl rfl e_is_row (fun z => (nomatch z)) rfl, He.glo_ok X G (c.1.fact 14 (f := .glo "is_row") rfl), F.kp, (F.bindsN (ps := ["told"]) fun _ _ _ _ _ _ us hl => match us, hl with | [_], _ => rfl), all_nil⟩
theorem ok_walked (X : K.In h) (G : h.Ns mainGlobals mg) (c : SaysX fa fnD xs K) : OKF P w K mg base "walked" fn_walked [] := by
  obtain ⟨fd, F⟩ := c.1.def_ 15 (d := d_walked) rfl
  have M : Mo P w K mg base T_walked 1 I_walked := ⟨all_cons (He.free_ok X G (c.1.fact 46 (f := .free "len") rfl)) (all_nil), (fun z => (nomatch z)), all_nil, all_cons ((ok_plus X G c).fnm t_walked_plus rfl (by decide) (by decide +kernel)) (all_cons ((ok_times_of X G c).fnm t_walked_times_of rfl (by decide) (by decide +kernel)) (all_nil))⟩
  exact ⟨_, fd, df_ok2 F (fn := fn_walked) hF_walked rfl S_walked M rfl rfl e_walked (fun z => (nomatch z)) rfl, He.glo_ok X G (c.1.fact 15 (f := .glo "walked") rfl), F.kp, (F.bindsN (ps := ["kit", "state", "walk"]) fun _ _ _ _ _ _ us hl => match us, hl with | [_, _, _], _ => rfl), all_nil⟩
theorem ok_has_walk (X : K.In h) (G : h.Ns mainGlobals mg) (c : SaysX fa fnD xs K) : OKF P w K mg base "has_walk" fn_has_walk [] := by
  obtain ⟨fd, F⟩ := c.1.def_ 16 (d := d_has_walk) rfl
  have M : Mo P w K mg base T_has_walk 2 I_has_walk := ⟨all_nil, (fun z => (nomatch z)), all_nil, all_cons ((ok_is_row X G c).fnm t_has_walk_is_row rfl (by decide) (by decide +kernel)) (all_cons ((ok_walked X G c).fnm t_has_walk_walked rfl (by decide) (by decide +kernel)) (all_nil))⟩
  exact ⟨_, fd, df_ok2 F (fn := fn_has_walk) hF_has_walk rfl S_has_walk M rfl rfl e_has_walk (fun z => (nomatch z)) rfl, He.glo_ok X G (c.1.fact 16 (f := .glo "has_walk") rfl), F.kp, (F.bindsN (ps := ["kit", "state", "told"]) fun _ _ _ _ _ _ us hl => match us, hl with | [_, _, _], _ => rfl), all_nil⟩
theorem ok_has_address (X : K.In h) (G : h.Ns mainGlobals mg) (c : SaysX fa fnD xs K) : OKF P w K mg base "has_address" fn_has_address [] := by
  obtain ⟨fd, F⟩ := c.1.def_ 17 (d := d_has_address) rfl
  have M : Mo P w K mg base T_has_address 2 I_has_address := ⟨all_cons (He.free_ok X G (c.1.fact 46 (f := .free "len") rfl)) (all_nil), (fun z => (nomatch z)), all_nil, all_cons ((ok_walked X G c).fnm t_has_address_walked rfl (by decide) (by decide +kernel)) (all_cons ((ok_is_pair X G c).fnm t_has_address_is_pair rfl (by decide) (by decide +kernel)) (all_cons ((ok_is_row X G c).fnm t_has_address_is_row rfl (by decide) (by decide +kernel)) (all_nil)))⟩
  exact ⟨_, fd, df_ok2 F (fn := fn_has_address) hF_has_address rfl S_has_address M rfl rfl e_has_address (fun z => (nomatch z)) rfl, He.glo_ok X G (c.1.fact 17 (f := .glo "has_address") rfl), F.kp, (F.bindsN (ps := ["kit", "state", "told"]) fun _ _ _ _ _ _ us hl => match us, hl with | [_, _, _], _ => rfl), all_nil⟩
theorem ok_is_walk (X : K.In h) (G : h.Ns mainGlobals mg) (c : SaysX fa fnD xs K) : OKF P w K mg base "is_walk" fn_is_walk [(0, ["told", "state", "kit"])] := by
  obtain ⟨fd, F⟩ := c.1.def_ 18 (d := d_is_walk) rfl
  have M : Mo P w K mg base T_is_walk 6 I_is_walk := ⟨all_nil, (fun z => (nomatch z)), all_nil, all_cons ((ok_check_kit X G c).fnm t_is_walk_check_kit rfl (by decide) (by decide +kernel)) (all_cons ((ok_check_state X G c).fnm t_is_walk_check_state rfl (by decide) (by decide +kernel)) (all_cons ((ok_has_walk X G c).fnm t_is_walk_has_walk rfl (by decide) (by decide +kernel)) (all_nil)))⟩
  exact ⟨_, fd, df_ok2 F (fn := fn_is_walk) hF_is_walk rfl S_is_walk M rfl rfl e_is_walk (fun z => (nomatch z)) rfl, He.glo_ok X G (c.1.fact 18 (f := .glo "is_walk") rfl), F.kp, (F.bindsN (ps := ["kit", "state", "told"]) fun _ _ _ _ _ _ us hl => match us, hl with | [_, _, _], _ => rfl), all_cons (KBn.of0 F fun _ _ _ _ _ _ us ws l1 l2 => match us, l1, ws, l2 with | [], _, [_, _, _], _ => rfl) (all_nil)⟩
theorem ok_is_address (X : K.In h) (G : h.Ns mainGlobals mg) (c : SaysX fa fnD xs K) : OKF P w K mg base "is_address" fn_is_address [(0, ["told", "state", "kit"])] := by
  obtain ⟨fd, F⟩ := c.1.def_ 19 (d := d_is_address) rfl
  have M : Mo P w K mg base T_is_address 6 I_is_address := ⟨all_nil, (fun z => (nomatch z)), all_nil, all_cons ((ok_check_kit X G c).fnm t_is_address_check_kit rfl (by decide) (by decide +kernel)) (all_cons ((ok_check_state X G c).fnm t_is_address_check_state rfl (by decide) (by decide +kernel)) (all_cons ((ok_has_address X G c).fnm t_is_address_has_address rfl (by decide) (by decide +kernel)) (all_nil)))⟩
  exact ⟨_, fd, df_ok2 F (fn := fn_is_address) hF_is_address rfl S_is_address M rfl rfl e_is_address (fun z => (nomatch z)) rfl, He.glo_ok X G (c.1.fact 19 (f := .glo "is_address") rfl), F.kp, (F.bindsN (ps := ["kit", "state", "told"]) fun _ _ _ _ _ _ us hl => match us, hl with | [_, _, _], _ => rfl), all_cons (KBn.of0 F fun _ _ _ _ _ _ us ws l1 l2 => match us, l1, ws, l2 with | [], _, [_, _, _], _ => rfl) (all_nil)⟩
theorem ok_ends (X : K.In h) (G : h.Ns mainGlobals mg) (c : SaysX fa fnD xs K) : OKF P w K mg base "ends" fn_ends [(0, ["walk", "state", "kit"])] := by
  obtain ⟨fd, F⟩ := c.1.def_ 20 (d := d_ends) rfl
  have M : Mo P w K mg base T_ends 6 I_ends := ⟨all_nil, (fun z => (nomatch z)), all_nil, all_cons ((ok_check_kit X G c).fnm t_ends_check_kit rfl (by decide) (by decide +kernel)) (all_cons ((ok_check_state X G c).fnm t_ends_check_state rfl (by decide) (by decide +kernel)) (all_cons ((ok_walked X G c).fnm t_ends_walked rfl (by decide) (by decide +kernel)) (all_cons ((ok_has_walk X G c).fnm t_ends_has_walk rfl (by decide) (by decide +kernel)) (all_nil))))⟩
  exact ⟨_, fd, df_ok2 F (fn := fn_ends) hF_ends rfl S_ends M rfl rfl e_ends (fun z => (nomatch z)) rfl, He.glo_ok X G (c.1.fact 20 (f := .glo "ends") rfl), F.kp, (F.bindsN (ps := ["kit", "state", "walk"]) fun _ _ _ _ _ _ us hl => match us, hl with | [_, _, _], _ => rfl), all_cons (KBn.of0 F fun _ _ _ _ _ _ us ws l1 l2 => match us, l1, ws, l2 with | [], _, [_, _, _], _ => rfl) (all_nil)⟩
theorem ok_walks (X : K.In h) (G : h.Ns mainGlobals mg) (c : SaysX fa fnD xs K) : OKF P w K mg base "walks" fn_walks [(0, ["n", "state", "kit"])] := by
  obtain ⟨fd, F⟩ := c.1.def_ 21 (d := d_walks) rfl
  have M : Mo P w K mg base T_walks 6 I_walks := ⟨all_cons (He.free_ok X G (c.1.fact 43 (f := .free "enumerate") rfl)) (all_cons (He.free_ok X G (c.1.fact 50 (f := .free "range") rfl)) (all_nil)), (fun z => (nomatch z)), all_nil, all_cons ((ok_check_kit X G c).fnm t_walks_check_kit rfl (by decide) (by decide +kernel)) (all_cons ((ok_check_state X G c).fnm t_walks_check_state rfl (by decide) (by decide +kernel)) (all_cons ((ok_is_integer X G c).fnm t_walks_is_integer rfl (by decide) (by decide +kernel)) (all_nil)))⟩
  exact ⟨_, fd, df_ok2 F (fn := fn_walks) hF_walks rfl S_walks M rfl rfl e_walks (fun z => (nomatch z)) rfl, He.glo_ok X G (c.1.fact 21 (f := .glo "walks") rfl), F.kp, (F.bindsN (ps := ["kit", "state", "n"]) fun _ _ _ _ _ _ us hl => match us, hl with | [_, _, _], _ => rfl), all_cons (KBn.of0 F fun _ _ _ _ _ _ us ws l1 l2 => match us, l1, ws, l2 with | [], _, [_, _, _], _ => rfl) (all_nil)⟩
theorem ok_law_deck (X : K.In h) (G : h.Ns mainGlobals mg) (c : SaysX fa fnD xs K) : OKF P w K mg base "_law_deck" fn_law_deck [] := by
  obtain ⟨fd, F⟩ := c.1.def_ 22 (d := d_law_deck) rfl
  have M : Mo P w K mg base T_law_deck 0 I_law_deck := ⟨all_cons (He.free_ok X G (c.1.fact 44 (f := .free "int") rfl)) (all_cons (He.free_ok X G (c.1.fact 46 (f := .free "len") rfl)) (all_nil)), (fun z => (nomatch z)), all_nil, all_nil⟩
  exact ⟨_, fd, df_ok2 F (fn := fn_law_deck) hF_law_deck rfl S_law_deck M rfl rfl e_law_deck (fun z => (nomatch z)) rfl, He.glo_ok X G (c.1.fact 22 (f := .glo "_law_deck") rfl), F.kp, (F.bindsN (ps := ["script", "at"]) fun _ _ _ _ _ _ us hl => match us, hl with | [_, _], _ => rfl), all_nil⟩
theorem ok_law_take (X : K.In h) (G : h.Ns mainGlobals mg) (c : SaysX fa fnD xs K) : OKF P w K mg base "_law_take" fn_law_take [] := by
  obtain ⟨fd, F⟩ := c.1.def_ 23 (d := d_law_take) rfl
  have M : Mo P w K mg base T_law_take 0 I_law_take := ⟨all_cons (He.free_ok X G (c.1.fact 44 (f := .free "int") rfl)) (all_nil), (fun z => (nomatch z)), all_nil, all_nil⟩
  exact ⟨_, fd, df_ok2 F (fn := fn_law_take) hF_law_take rfl S_law_take M rfl rfl e_law_take (fun _ => by decide +kernel) rfl, He.glo_ok X G (c.1.fact 23 (f := .glo "_law_take") rfl), F.kp, (F.bindsN (ps := ["deck", "many"]) fun _ _ _ _ _ _ us hl => match us, hl with | [_, _], _ => rfl), all_nil⟩
theorem okr_law_same (X : K.In h) (G : h.Ns mainGlobals mg) (c : SaysX fa fnD xs K) : ∀ k, OKF P w K mg base "_law_same" (fnr_law_same k) []
  | 0 => by
    obtain ⟨fd, F⟩ := c.1.def_ 24 (d := d_law_same) rfl
    exact ⟨_, fd, fn_none, He.glo_ok X G (c.1.fact 24 (f := .glo "_law_same") rfl), F.kp, (F.bindsN (ps := ["found", "due"]) fun _ _ _ _ _ _ us hl => match us, hl with | [_, _], _ => rfl), all_nil⟩
  | k + 1 => by
    obtain ⟨fd, F⟩ := c.1.def_ 24 (d := d_law_same) rfl
    have ih := okr_law_same X G c k
    have M : Mo P w K mg base (T_law_same (fnr_law_same k)) (k + 1) I_law_same := ⟨all_cons (He.free_ok X G (c.1.fact 42 (f := .free "bool") rfl)) (all_cons (He.free_ok X G (c.1.fact 44 (f := .free "int") rfl)) (all_cons (He.free_ok X G (c.1.fact 45 (f := .free "isinstance") rfl)) (all_cons (He.free_ok X G (c.1.fact 46 (f := .free "len") rfl)) (all_cons (He.free_ok X G (c.1.fact 47 (f := .free "list") rfl)) (all_cons (He.free_ok X G (c.1.fact 50 (f := .free "range") rfl)) (all_cons (He.free_ok X G (c.1.fact 52 (f := .free "str") rfl)) (all_cons (He.free_ok X G (c.1.fact 53 (f := .free "tuple") rfl)) (all_nil)))))))), (fun z => (nomatch z)), all_nil, all_cons ((ih).fnm t_law_same_law_same rfl (by show _ ≤ k + 1; exact Nat.le_refl _) (by decide +kernel)) (all_nil)⟩
    exact ⟨_, fd, df_ok2 F (fn := fnr_law_same (k + 1)) hF_law_same rfl S_law_same M rfl rfl e_law_same (fun z => (nomatch z)) (by show k + 1 + 1 = k + 1 + 1; omega), He.glo_ok X G (c.1.fact 24 (f := .glo "_law_same") rfl), F.kp, (F.bindsN (ps := ["found", "due"]) fun _ _ _ _ _ _ us hl => match us, hl with | [_, _], _ => rfl), all_nil⟩
theorem ok_law_same (X : K.In h) (G : h.Ns mainGlobals mg) (c : SaysX fa fnD xs K) : OKF P w K mg base "_law_same" fn_law_same [] := okr_law_same X G c 6
theorem ok_law_det (X : K.In h) (G : h.Ns mainGlobals mg) (c : SaysX fa fnD xs K) : OKF P w K mg base "_law_det" fn_law_det [] := by
  obtain ⟨fd, F⟩ := c.1.def_ 25 (d := d_law_det) rfl
  have M : Mo P w K mg base T_law_det 0 I_law_det := ⟨all_nil, (fun z => (nomatch z)), all_nil, all_nil⟩
  exact ⟨_, fd, df_ok2 F (fn := fn_law_det) hF_law_det rfl S_law_det M rfl rfl e_law_det (fun z => (nomatch z)) rfl, He.glo_ok X G (c.1.fact 25 (f := .glo "_law_det") rfl), F.kp, (F.bindsN (ps := ["grid"]) fun _ _ _ _ _ _ us hl => match us, hl with | [_], _ => rfl), all_nil⟩
theorem ok_law_growing (X : K.In h) (G : h.Ns mainGlobals mg) (c : SaysX fa fnD xs K) : OKF P w K mg base "_law_growing" fn_law_growing [] := by
  obtain ⟨fd, F⟩ := c.1.def_ 26 (d := d_law_growing) rfl
  have M : Mo P w K mg base T_law_growing 1 I_law_growing := ⟨all_cons (He.free_ok X G (c.1.fact 40 (f := .free "abs") rfl)) (all_nil), (fun z => (nomatch z)), all_nil, all_cons ((ok_law_det X G c).fnm t_law_growing_law_det rfl (by decide) (by decide +kernel)) (all_nil)⟩
  exact ⟨_, fd, df_ok2 F (fn := fn_law_growing) hF_law_growing rfl S_law_growing M rfl rfl e_law_growing (fun z => (nomatch z)) rfl, He.glo_ok X G (c.1.fact 26 (f := .glo "_law_growing") rfl), F.kp, (F.bindsN (ps := ["grid"]) fun _ _ _ _ _ _ us hl => match us, hl with | [_], _ => rfl), all_nil⟩
theorem ok_law_grid (X : K.In h) (G : h.Ns mainGlobals mg) (c : SaysX fa fnD xs K) : OKF P w K mg base "_law_grid" fn_law_grid [] := by
  obtain ⟨fd, F⟩ := c.1.def_ 27 (d := d_law_grid) rfl
  have M : Mo P w K mg base T_law_grid 2 I_law_grid := ⟨all_cons (He.free_ok X G (c.1.fact 40 (f := .free "abs") rfl)) (all_cons (He.free_ok X G (c.1.fact 50 (f := .free "range") rfl)) (all_nil)), (fun z => (nomatch z)), all_nil, all_cons ((ok_law_take X G c).fnm t_law_grid_law_take rfl (by decide) (by decide +kernel)) (all_cons ((ok_law_growing X G c).fnm t_law_grid_law_growing rfl (by decide) (by decide +kernel)) (all_cons ((ok_law_det X G c).fnm t_law_grid_law_det rfl (by decide) (by decide +kernel)) (all_nil)))⟩
  exact ⟨_, fd, df_ok2 F (fn := fn_law_grid) hF_law_grid rfl S_law_grid M rfl rfl e_law_grid (fun _ => by decide +kernel) rfl, He.glo_ok X G (c.1.fact 27 (f := .glo "_law_grid") rfl), F.kp, (F.bindsN (ps := ["deck"]) fun _ _ _ _ _ _ us hl => match us, hl with | [_], _ => rfl), all_nil⟩
theorem ok_law_ahead (X : K.In h) (G : h.Ns mainGlobals mg) (c : SaysX fa fnD xs K) : OKF P w K mg base "_law_ahead" fn_law_ahead [] := by
  obtain ⟨fd, F⟩ := c.1.def_ 28 (d := d_law_ahead) rfl
  have M : Mo P w K mg base T_law_ahead 0 I_law_ahead := ⟨all_nil, (fun z => (nomatch z)), all_nil, all_nil⟩
  exact ⟨_, fd, df_ok2 F (fn := fn_law_ahead) hF_law_ahead rfl S_law_ahead M rfl rfl e_law_ahead (fun z => (nomatch z)) rfl, He.glo_ok X G (c.1.fact 28 (f := .glo "_law_ahead") rfl), F.kp, (F.bindsN (ps := ["grid", "away"]) fun _ _ _ _ _ _ us hl => match us, hl with | [_, _], _ => rfl), all_nil⟩
theorem ok_law_add (X : K.In h) (G : h.Ns mainGlobals mg) (c : SaysX fa fnD xs K) : OKF P w K mg base "_law_add" fn_law_add [] := by
  obtain ⟨fd, F⟩ := c.1.def_ 29 (d := d_law_add) rfl
  have M : Mo P w K mg base T_law_add 0 I_law_add := ⟨all_nil, (fun z => (nomatch z)), all_nil, all_nil⟩
  exact ⟨_, fd, df_ok2 F (fn := fn_law_add) hF_law_add rfl S_law_add M rfl rfl e_law_add (fun z => (nomatch z)) rfl, He.glo_ok X G (c.1.fact 29 (f := .glo "_law_add") rfl), F.kp, (F.bindsN (ps := ["first", "second"]) fun _ _ _ _ _ _ us hl => match us, hl with | [_, _], _ => rfl), all_nil⟩
theorem ok_law_gear (X : K.In h) (G : h.Ns mainGlobals mg) (c : SaysX fa fnD xs K) : OKF P w K mg base "_law_gear" fn_law_gear [] := by
  obtain ⟨fd, F⟩ := c.1.def_ 30 (d := d_law_gear) rfl
  have M : Mo P w K mg base T_law_gear 1 I_law_gear := ⟨all_cons (He.free_ok X G (c.1.fact 50 (f := .free "range") rfl)) (all_cons (He.free_ok X G (c.1.fact 51 (f := .free "sorted") rfl)) (all_cons (He.free_ok X G (c.1.fact 53 (f := .free "tuple") rfl)) (all_nil))), (fun z => (nomatch z)), all_nil, all_cons ((ok_law_take X G c).fnm t_law_gear_law_take rfl (by decide) (by decide +kernel)) (all_nil)⟩
  exact ⟨_, fd, df_ok2 F (fn := fn_law_gear) hF_law_gear rfl S_law_gear M rfl rfl e_law_gear (fun _ => by decide +kernel) rfl, He.glo_ok X G (c.1.fact 30 (f := .glo "_law_gear") rfl), F.kp, (F.bindsN (ps := ["deck", "grid", "spots", "most", "far"]) fun _ _ _ _ _ _ us hl => match us, hl with | [_, _, _, _, _], _ => rfl), all_nil⟩
theorem ok_law_gone (X : K.In h) (G : h.Ns mainGlobals mg) (c : SaysX fa fnD xs K) : OKF P w K mg base "_law_gone" fn_law_gone [] := by
  obtain ⟨fd, F⟩ := c.1.def_ 31 (d := d_law_gone) rfl
  have M : Mo P w K mg base T_law_gone 1 I_law_gone := ⟨all_cons (He.free_ok X G (c.1.fact 46 (f := .free "len") rfl)) (all_nil), (fun z => (nomatch z)), all_nil, all_cons ((ok_law_add X G c).fnm t_law_gone_law_add rfl (by decide) (by decide +kernel)) (all_cons ((ok_law_ahead X G c).fnm t_law_gone_law_ahead rfl (by decide) (by decide +kernel)) (all_nil))⟩
  exact ⟨_, fd, df_ok2 F (fn := fn_law_gone) hF_law_gone rfl S_law_gone M rfl rfl e_law_gone (fun z => (nomatch z)) rfl, He.glo_ok X G (c.1.fact 31 (f := .glo "_law_gone") rfl), F.kp, (F.bindsN (ps := ["gear", "spot", "path"]) fun _ _ _ _ _ _ us hl => match us, hl with | [_, _, _], _ => rfl), all_nil⟩
theorem ok_law_path (X : K.In h) (G : h.Ns mainGlobals mg) (c : SaysX fa fnD xs K) : OKF P w K mg base "_law_path" fn_law_path [] := by
  obtain ⟨fd, F⟩ := c.1.def_ 32 (d := d_law_path) rfl
  have M : Mo P w K mg base T_law_path 1 I_law_path := ⟨all_cons (He.free_ok X G (c.1.fact 46 (f := .free "len") rfl)) (all_cons (He.free_ok X G (c.1.fact 50 (f := .free "range") rfl)) (all_cons (He.free_ok X G (c.1.fact 53 (f := .free "tuple") rfl)) (all_nil))), (fun z => (nomatch z)), all_nil, all_cons ((ok_law_take X G c).fnm t_law_path_law_take rfl (by decide) (by decide +kernel)) (all_nil)⟩
  exact ⟨_, fd, df_ok2 F (fn := fn_law_path) hF_law_path rfl S_law_path M rfl rfl e_law_path (fun _ => by decide +kernel) rfl, He.glo_ok X G (c.1.fact 32 (f := .glo "_law_path") rfl), F.kp, (F.bindsN (ps := ["deck", "gear", "spot", "many"]) fun _ _ _ _ _ _ us hl => match us, hl with | [_, _, _, _], _ => rfl), all_nil⟩
theorem ok_law_track (X : K.In h) (G : h.Ns mainGlobals mg) (c : SaysX fa fnD xs K) : OKF P w K mg base "_law_track" fn_law_track [] := by
  obtain ⟨fd, F⟩ := c.1.def_ 33 (d := d_law_track) rfl
  have M : Mo P w K mg base T_law_track 1 I_law_track := ⟨all_cons (He.free_ok X G (c.1.fact 46 (f := .free "len") rfl)) (all_cons (He.free_ok X G (c.1.fact 53 (f := .free "tuple") rfl)) (all_nil)), (fun z => (nomatch z)), all_nil, all_cons ((ok_law_take X G c).fnm t_law_track_law_take rfl (by decide) (by decide +kernel)) (all_nil)⟩
  exact ⟨_, fd, df_ok2 F (fn := fn_law_track) hF_law_track rfl S_law_track M rfl rfl e_law_track (fun _ => by decide +kernel) rfl, He.glo_ok X G (c.1.fact 33 (f := .glo "_law_track") rfl), F.kp, (F.bindsN (ps := ["deck", "gear", "spot"]) fun _ _ _ _ _ _ us hl => match us, hl with | [_, _, _], _ => rfl), all_nil⟩
theorem ok_law_bent_3 (X : K.In h) (G : h.Ns mainGlobals mg) (c : SaysX fa fnD xs K) : OKF P w K mg base "_law_bent" fn_law_bent_3 [] := by
  obtain ⟨fd, F⟩ := c.1.def_ 34 (d := d_law_bent_3) rfl
  have M : Mo P w K mg base T_law_bent_3 1 I_law_bent_3 := ⟨all_cons (He.free_ok X G (c.1.fact 46 (f := .free "len") rfl)) (all_cons (He.free_ok X G (c.1.fact 49 (f := .free "min") rfl)) (all_nil)), (fun z => (nomatch z)), all_nil, all_cons ((ok_law_take X G c).fnm t_law_bent_3_law_take rfl (by decide) (by decide +kernel)) (all_nil)⟩
  exact ⟨_, fd, df_ok2 F (fn := fn_law_bent_3) hF_law_bent_3 rfl S_law_bent_3 M rfl rfl e_law_bent_3 (fun _ => by decide +kernel) rfl, He.glo_ok X G (c.1.fact 34 (f := .glo "_law_bent") rfl), F.kp, (F.bindsN (ps := ["deck", "path"]) fun _ _ _ _ _ _ us hl => match us, hl with | [_, _], _ => rfl), all_nil⟩
theorem ok_law_is_track (X : K.In h) (G : h.Ns mainGlobals mg) (c : SaysX fa fnD xs K) : OKF P w K mg base "_law_is_track" fn_law_is_track [] := by
  obtain ⟨fd, F⟩ := c.1.def_ 35 (d := d_law_is_track) rfl
  have M : Mo P w K mg base T_law_is_track 2 I_law_is_track := ⟨all_nil, (fun z => (nomatch z)), all_nil, all_cons ((ok_law_gone X G c).fnm t_law_is_track_law_gone rfl (by decide) (by decide +kernel)) (all_nil)⟩
  exact ⟨_, fd, df_ok2 F (fn := fn_law_is_track) hF_law_is_track rfl S_law_is_track M rfl rfl e_law_is_track (fun z => (nomatch z)) rfl, He.glo_ok X G (c.1.fact 35 (f := .glo "_law_is_track") rfl), F.kp, (F.bindsN (ps := ["gear", "spot", "track"]) fun _ _ _ _ _ _ us hl => match us, hl with | [_, _, _], _ => rfl), all_nil⟩
theorem ok_law_all (X : K.In h) (G : h.Ns mainGlobals mg) (c : SaysX fa fnD xs K) : OKF P w K mg base "_law_all" fn_law_all [] := by
  obtain ⟨fd, F⟩ := c.1.def_ 36 (d := d_law_all) rfl
  have M : Mo P w K mg base T_law_all 0 I_law_all := ⟨all_cons (He.free_ok X G (c.1.fact 46 (f := .free "len") rfl)) (all_cons (He.free_ok X G (c.1.fact 50 (f := .free "range") rfl)) (all_nil)), (fun z => (nomatch z)), all_nil, all_nil⟩
  exact ⟨_, fd, df_ok2 F (fn := fn_law_all) hF_law_all rfl S_law_all M rfl rfl e_law_all (fun z => (nomatch z)) rfl, He.glo_ok X G (c.1.fact 36 (f := .glo "_law_all") rfl), F.kp, (F.bindsN (ps := ["gear", "spot", "many"]) fun _ _ _ _ _ _ us hl => match us, hl with | [_, _, _], _ => rfl), all_nil⟩
theorem ok_law_walks_right (X : K.In h) (G : h.Ns mainGlobals mg) (c : SaysX fa fnD xs K) : OKF P w K mg base "_law_walks_right" fn_law_walks_right [] := by
  obtain ⟨fd, F⟩ := c.1.def_ 37 (d := d_law_walks_right) rfl
  have M : Mo P w K mg base T_law_walks_right 7 I_law_walks_right := ⟨all_cons (He.free_ok X G (c.1.fact 46 (f := .free "len") rfl)) (all_cons (He.free_ok X G (c.1.fact 48 (f := .free "max") rfl)) (all_nil)), (fun z => (nomatch z)), all_nil, all_cons ((ok_law_take X G c).fnm t_law_walks_right_law_take rfl (by decide) (by decide +kernel)) (all_cons ((ok_law_all X G c).fnm t_law_walks_right_law_all rfl (by decide) (by decide +kernel)) (all_cons ((ok_walks X G c).fnm t_law_walks_right_walks rfl (by decide) (by decide +kernel)) (all_cons ((ok_law_same X G c).fnm t_law_walks_right_law_same rfl (by decide) (by decide +kernel)) (all_nil))))⟩
  exact ⟨_, fd, df_ok2 F (fn := fn_law_walks_right) hF_law_walks_right rfl S_law_walks_right M rfl rfl e_law_walks_right (fun _ => by decide +kernel) rfl, He.glo_ok X G (c.1.fact 37 (f := .glo "_law_walks_right") rfl), F.kp, (F.bindsN (ps := ["deck", "gear", "spot"]) fun _ _ _ _ _ _ us hl => match us, hl with | [_, _, _], _ => rfl), all_nil⟩
theorem ok_law_right (X : K.In h) (G : h.Ns mainGlobals mg) (c : SaysX fa fnD xs K) : OKF P w K mg base "_law_right" fn_law_right [] := by
  obtain ⟨fd, F⟩ := c.1.def_ 38 (d := d_law_right) rfl
  have M : Mo P w K mg base T_law_right 8 I_law_right := ⟨all_cons (He.free_ok X G (c.1.fact 46 (f := .free "len") rfl)) (all_cons (He.free_ok X G (c.1.fact 50 (f := .free "range") rfl)) (all_nil)), (fun z => (nomatch z)), all_nil, all_cons ((ok_law_gear X G c).fnm t_law_right_law_gear rfl (by decide) (by decide +kernel)) (all_cons ((ok_law_take X G c).fnm t_law_right_law_take rfl (by decide) (by decide +kernel)) (all_cons ((ok_law_gone X G c).fnm t_law_right_law_gone rfl (by decide) (by decide +kernel)) (all_cons ((ok_law_grid X G c).fnm t_law_right_law_grid rfl (by decide) (by decide +kernel)) (all_cons ((ok_law_path X G c).fnm t_law_right_law_path rfl (by decide) (by decide +kernel)) (all_cons ((ok_law_track X G c).fnm t_law_right_law_track rfl (by decide) (by decide +kernel)) (all_cons ((ok_law_same X G c).fnm t_law_right_law_same rfl (by decide) (by decide +kernel)) (all_cons ((ok_law_bent_3 X G c).fnm t_law_right_law_bent_3 rfl (by decide) (by decide +kernel)) (all_cons ((ok_law_is_track X G c).fnm t_law_right_law_is_track rfl (by decide) (by decide +kernel)) (all_cons ((ok_law_walks_right X G c).fnm t_law_right_law_walks_right rfl (by decide) (by decide +kernel)) (all_cons ((ok_is_address X G c).fnm t_law_right_is_address rfl (by decide) (by decide +kernel)) (all_cons ((ok_ends X G c).fnm t_law_right_ends rfl (by decide) (by decide +kernel)) (all_cons ((ok_is_walk X G c).fnm t_law_right_is_walk rfl (by decide) (by decide +kernel)) (all_nil)))))))))))))⟩
  exact ⟨_, fd, df_ok2 F (fn := fn_law_right) hF_law_right rfl S_law_right M rfl rfl e_law_right (fun _ => by decide +kernel) rfl, He.glo_ok X G (c.1.fact 38 (f := .glo "_law_right") rfl), F.kp, (F.bindsN (ps := ["deck"]) fun _ _ _ _ _ _ us hl => match us, hl with | [_], _ => rfl), all_nil⟩
theorem okl_law_3 (X : K.In h) (G : h.Ns mainGlobals mg) (c : SaysX fa fnD xs K) {fd : FuncData} (F : FunD K d_law_3.name d_law_3.qual d_law_3.params d_law_3.body d_law_3.scope (He.DefD.dvs K d_law_3) (He.DefD.kws K d_law_3) (He.fAd K d_law_3.at_) fd) : FnOk P w K mg base CX0_ fn_law_3.lvl (He.fAd K d_law_3.at_) fd fn_law_3.ps (spF K fn_law_3) := by
  have M : Mo P w K mg base T_law_3 9 I_law_3 := ⟨all_cons (He.free_ok X G (c.1.fact 46 (f := .free "len") rfl)) (all_cons (He.free_ok X G (c.1.fact 48 (f := .free "max") rfl)) (all_cons (He.free_ok X G (c.1.fact 49 (f := .free "min") rfl)) (all_cons (He.free_ok X G (c.1.fact 50 (f := .free "range") rfl)) (all_nil)))), (fun z => (nomatch z)), all_nil, all_cons ((ok_law_right X G c).fnm t_law_3_law_right rfl (by decide) (by decide +kernel)) (all_cons ((ok_law_deck X G c).fnm t_law_3_law_deck rfl (by decide) (by decide +kernel)) (all_nil))⟩
  exact df_ok2 F (fn := fn_law_3) hF_law_3 rfl S_law_3 M rfl rfl e_law_3 (fun z => (nomatch z)) rfl
end
end Ok

/-! the law's end (printed by gen2.py) -/
namespace Ok
open PySem PySem.Spec PyProof.Rows L2 Lt Df
def names0 : List PySem.Str := ["__name__", "KitError", "InvalidKit", "InvalidState", "InvalidWalk", "InvalidPower", "is_integer", "is_pair", "is_ascending", "is_offset", "is_table", "determinant_of", "times_of", "plus", "is_growing", "is_copy", "is_state", "is_kit", "check_kit", "check_state", "is_row", "walked", "has_walk", "has_address", "is_walk"]
def names1 : List PySem.Str := ["is_address", "ends", "walks", "_law_deck", "_law_take", "_law_same", "_law_det", "_law_growing", "_law_grid", "_law_ahead", "_law_add", "_law_gear", "_law_gone", "_law_path", "_law_track", "_law_bent", "_law_is_track", "_law_all", "_law_walks_right", "_law_right"]
def names : List PySem.Str := names0 ++ names1
abbrev R : PySem.W.OpenRow := PySem.W.OpenLaw.row PySem.Challenge.rw_wholekits_k06_whole_walks_and_ends
abbrev hk : PySem.W.Hook := hookX 5 fa fnD xs
def ob (s : PySem.W.SharedT) : AlX := obsX 5 fa fnD xs (HandSHeadRun.getT s)
theorem ob_eq (s : PySem.W.SharedT) : ob s = hk.obs s.abs := obsX_eq (HandSHeadRun.getT_eq s)
theorem run (w : World) : HandSHeadRun.RunEq R (PySem.W.view R.prog [50]) hk ob 6000 names w := by
  intro os; kernel_rfl
theorem facts {P : Program} {w : World} {K : PySem.W.Frag} {h : Heap} {mg : Str → Option Value} {f : Addr} (X : K.In h) (G : h.Ns mainGlobals mg) (hfa : mg ("law" : Str) = some (.ref f)) (c : SaysX fa fnD xs K) :
    ∃ fd : FuncData, (∀ (s : Shared) (v : Value), BindsTo s fd ⟨[v], []⟩ [("script", v)]) ∧ ∀ base : Heap, K.In base → base.Ns mainGlobals mg → FnOk P w K mg base CX0_ 10 f fd ["script"] (spF K fn_law_3) := by
  obtain ⟨fd, F⟩ := c.1.def_ 39 (d := d_law_3) rfl
  have e := hfa.symm.trans (He.glo_ok X G (c.1.fact 39 (f := .glo "law") rfl))
  cases e
  have b := FunD.bindsA (ps := ["script"]) F fun _ _ _ _ _ _ us hl => match us, hl with | [_], _ => rfl
  exact ⟨fd, fun s v => b s [v] rfl, fun base hb hn => okl_law_3 (P := P) (w := w) (base := base) X G c F⟩
end Ok
open PySem PySem.W PySem.Calls PyProof.Rows
set_option maxRecDepth 100000 in
set_option maxHeartbeats 8000000 in
theorem PySem.Challenge.cw_wholekits_k06_whole_walks_and_ends_holds : PySem.Challenge.rw_wholekits_k06_whole_walks_and_ends.Holds := by
  w_on; o_law
  refine HandSHeadRun.head_any (r := OpenLaw.row PySem.Challenge.rw_wholekits_k06_whole_walks_and_ends) (q := view (OpenLaw.row PySem.Challenge.rw_wholekits_k06_whole_walks_and_ends).prog [50]) (H := Ok.hk) (ob := Ok.ob) (M := 6000) (loose := Ok.names) (d := HandSHeadRun.topDef (OpenLaw.row PySem.Challenge.rw_wholekits_k06_whole_walks_and_ends).prog 50) (kwd := []) Ok.ob_eq
    (by kernel_rfl) (fun s => by kernel_rfl) Ok.run (by kernel_rfl) (by kernel_rfl) (by kernel_rfl) (by rfl) (by first | assumption | decide +kernel) (by decide +kernel) ⟨rfl, rfl, rfl, rfl, rfl, by decide +kernel⟩ ?hw ?hc
  case hw => w_witness2
  case hc =>
    refine L2.walk_ofE (l := PySem.Challenge.rw_wholekits_k06_whole_walks_and_ends) (n := 63) (k := 10) (x := "script") (CX := Lt.CX0_) rfl (by decide) (by kernel_rfl) ⟨rfl, by decide, by decide⟩ ?F (fun _ _ _ _ z => z)
    intro w mg fa h Y G hmg0
    obtain ⟨K, KX, c⟩ := Y
    have hmg : mg ("law" : PySem.Str) = some (.ref fa) := by
      have e : (HandSHeadRun.topDef (OpenLaw.row PySem.Challenge.rw_wholekits_k06_whole_walks_and_ends).prog 50).name = ("law" : PySem.Str) := by kernel_rfl
      rw [← e]
      exact hmg0
    obtain ⟨fd, hb, hF⟩ := Ok.facts (P := (PySem.Challenge.rw_wholekits_k06_whole_walks_and_ends).prog) (w := w) KX G hmg c
    exact ⟨K, fd, Lt.spF K Df.fn_law_3, KX, hb, fun H a ns hl _ hS => Lt.spF_law rfl rfl (Df.law_true ns) (by omega) hS, hF⟩

