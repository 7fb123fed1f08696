import PyProof.Rows.All
import Wide.All
import OpenK.AllK
import Wide.FinOn
import KE.LtData
import KE.DataCmp
import KE.DataEq
import KE.DataFind
import KE.DataMinMax
import KE.DataAny
import KE.SortCalls
import HandS.ForMost
import HandS.AnyAll
import HandS.GenList
import HandS.TupAny
import HandS.TupMul
import HandS.Conv
import KE.SortData
import KE.KSortAsk
import HandS.IsInst
import HandS.More
import HandS.SetFor
import HandS.Strs
import HandS.TupSets
import HandS.Flow
import HandS.Iter
import HandS.Zip
import KE.GoesEnum
import HandS.Style
import HandS.BoundList
import KE.DatumIndex
import HandS.Deep
import HandS.ListItems
import HandS.Rev
import HandS.Small
import HandS.Defaults
import HandS.EndTab
import HandS.HeadEnd
import HandS.HeadHook1
import HandS.HeadHook2
import HandS.HeadHook4
import HandS.Head0
import HandS.Head1
import HandS.Head2
import PySem.Challenge.RW_runwarden_k65_whole_windows_rich_or_none
set_option Elab.async false
set_option linter.all false
set_option maxRecDepth 100000
set_option maxHeartbeats 4000000
/-! Ev: an evaluator of a part of Python over data, proved sound below over the hand layer. -/
namespace Ev
open PySem PySem.Spec PyProof.Rows L2

/-! ### data -/
inductive D where
  | non | bl (b : Bool) | int (i : Int) | str (s : Str) | tup (xs : List D) | lst (xs : List D) | scr (ns : List Int) | dic (t : Bool) (ks vs : List D)
  deriving Inhabited
mutual
/-- the library's data -/
def D.py : D → PyData
  | .non => .none
  | .bl b => .bool b
  | .int i => .int i
  | .str s => .str s
  | .tup xs => .tuple (D.pys xs)
  | .lst xs => .list (D.pys xs)
  | .scr _ => .dict []
  | .dic _ _ _ => .dict []
def D.pys : List D → List PyData
  | [] => []
  | x :: xs => D.py x :: D.pys xs
end
mutual
/-- nothing in it can be changed -/
def D.imm : D → Bool
  | .non | .bl _ | .int _ | .str _ => true
  | .tup xs => D.imms xs
  | .lst _ => false
  | .scr _ => false
  | .dic _ _ _ => false
def D.imms : List D → Bool
  | [] => true
  | x :: xs => D.imm x && D.imms xs
end
/-- it can be compared -/
def D.wf (d : D) : Bool := d.py.plain && decide (d.py.depth ≤ 60)
def wfs (ds : List D) : Bool := PyData.plainAll (D.pys ds) && decide (PyData.depthAll (D.pys ds) ≤ 60)

abbrev EnvD := List (Option D)
abbrev Oracle := Nat → List D → Option D

/-! ### operations -/
def small (i : Int) : Bool := decide (-(2 ^ 64) < i) && decide (i < 2 ^ 64)
def lineOk (n : Nat) : Bool := decide (n ≤ sizeLine)
def addD : D → D → Option D
  | .int a, .int b => some (.int (a + b))
  | .str a, .str b => if lineOk (a.length + b.length) then some (.str (a ++ b)) else none
  | .tup a, .tup b => if lineOk (a.length + b.length) then some (.tup (a ++ b)) else none
  | .lst a, .lst b => if lineOk (a.length + b.length) then some (.lst (a ++ b)) else none
  | _, _ => none
def subD : D → D → Option D
  | .int a, .int b => some (.int (a - b))
  | _, _ => none
def mulD : D → D → Option D
  | .int a, .int b => if small a || small b then some (.int (a * b)) else none
  | .lst a, .int k => if decide (-(2 ^ 63) ≤ k) && decide (k < 2 ^ 63) && lineOk (a.length * k.toNat) then some (.lst (List.replicate k.toNat a).flatten) else none
  | .tup a, .int k => if decide (-(2 ^ 63) ≤ k) && decide (k ≤ 1000) && decide (a.length ≤ 1000) then some (.tup (List.replicate k.toNat a).flatten) else none
  | _, _ => none
def fdivD : D → D → Option D
  | .int a, .int b => if decide (0 < b) && decide (b < 1073741824) then some (.int (a / b)) else none
  | _, _ => none
def modD : D → D → Option D
  | .int a, .int b => if decide (0 < b) then some (.int (a % b)) else none
  | _, _ => none
def powD : D → D → Option D
  | .int a, .int b => if decide (0 ≤ b) && decide (b ≤ 1000000) && decide (a.natAbs < 2 ^ 64) then some (.int (a ^ b.toNat)) else none
  | _, _ => none
def binD : Operator → D → D → Option D
  | .Add => addD
  | .Sub => subD
  | .Mult => mulD
  | .FloorDiv => fdivD
  | .Mod => modD
  | .Pow => powD
  | _ => fun _ _ => none
def negD : D → Option D
  | .int a => some (.int (-a))
  | _ => none

def eqD (x y : D) : Option Bool := if x.wf && y.wf then some (PyData.eqv x.py y.py) else none
def ltD (x y : D) : Option Bool := if PySem.W.alike x.py y.py && x.wf && y.wf && !(match x with | .non => true | _ => false) then some (PySem.W.dataLt x.py y.py) else none
/-- a key of a dict -/
def keyD : Key → D
  | .inl i => .int i
  | .inr x => .str x
def kOf : D → Option Key
  | .int i => some (.inl i)
  | .str x => some (.inr x)
  | _ => none
def getK (ks vs : List D) (k : Key) : Option D := ((ks.zip vs).find? fun p => decide (kOf p.1 = some k)).map fun p => p.2
def hasK (ks : List D) (k : Key) : Bool := ks.any fun x => decide (kOf x = some k)
def putKs (ks : List D) (k : Key) : List D := if hasK ks k = true then ks else ks ++ [keyD k]
def putVs (ks vs : List D) (k : Key) (d : D) : List D := if hasK ks k = true then (ks.zip vs).map (fun p => if kOf p.1 = some k then d else p.2) else vs ++ [d]
def memD (x c : D) : Option Bool := match c with
  | .dic false ks vs => (kOf x).map fun k => (getK ks vs k).isSome
  | .tup ys => if x.wf && wfs ys then some (ys.any fun y => PyData.eqv y.py x.py) else none
  | .lst ys => if x.wf && wfs ys then some (ys.any fun y => PyData.eqv y.py x.py) else none
  | .str t => (match x with | .str s => some (!(Builtin.Str.occurrences t s 0 t.length 1).isEmpty) | _ => none)
  | _ => none
def isNon : D → Bool
  | .non => true
  | _ => false
def cmpD : CmpOp → D → D → Option Bool
  | .Eq, x, y => eqD x y
  | .NotEq, x, y => (eqD x y).map (!·)
  | .Lt, x, y => ltD x y
  | .Gt, x, y => if PySem.W.alike x.py y.py then ltD y x else none
  | .LtE, x, y => if PySem.W.alike x.py y.py then (ltD y x).map (!·) else none
  | .GtE, x, y => (ltD x y).map (!·)
  | .In, x, y => memD x y
  | .NotIn, x, y => (memD x y).map (!·)
  | .Is, x, y => if isNon y then some (isNon x) else none
  | .IsNot, x, y => if isNon y then some (!isNon x) else none
def truthD : D → Option Bool
  | .non => some false
  | .bl b => some b
  | .int i => some (i != 0)
  | .tup xs => some (!xs.isEmpty)
  | .lst xs => some (!xs.isEmpty)
  | _ => none
def ixD : D → D → Option D
  | .tup xs, .int i => atI xs i
  | .lst xs, .int i => atI xs i
  | .scr ns, .int i => (atI ns i).map .int
  | .dic false ks vs, k => (kOf k).bind fun k => getK ks vs k
  | .str s, .int i => if lineOk s.length then (atI s.cps.toList i).map fun c => .str ⟨#[c]⟩ else none
  | _, _ => none
def cutL (xs : List D) (lo hi : Option Int) : List D := (xs.drop (HT.sIx xs.length 0 lo)).take (HT.sIx xs.length xs.length hi - HT.sIx xs.length 0 lo)
def slD : D → Option Int → Option Int → Option D
  | .tup xs, lo, hi => some (.tup (cutL xs lo hi))
  | .lst xs, lo, hi => some (.lst (cutL xs lo hi))
  | _, _, _ => none
def revD : D → Option D
  | .tup xs => some (.tup xs.reverse)
  | .lst xs => some (.lst xs.reverse)
  | _ => none
def intOf : D → Option Int
  | .int i => some i
  | _ => none
def boolOf : D → Option Bool
  | .bl b => some b
  | _ => none

/-! ### built-ins -/
inductive BF where
  | len | abs | int | min | max | sum | sorted | tuple | list | all | any
  deriving DecidableEq
inductive Ty where
  | int | bool | str | tuple
  deriving DecidableEq
def mapO {α β : Type} (f : α → Option β) : List α → Option (List β)
  | [] => some []
  | x :: xs => (f x).bind fun y => (mapO f xs).bind fun ys => some (y :: ys)
def itemsD : D → Option (List D)
  | .tup xs => some xs
  | .lst xs => some xs
  | _ => none
def allAlike (xs : List D) : Bool := xs.all fun x => xs.all fun y => PySem.W.alike x.py y.py
/-- the first of the least -/
def minL : D → List D → D
  | m, [] => m
  | m, x :: xs => minL (if PySem.W.dataLt x.py m.py then x else m) xs
def maxL : D → List D → D
  | m, [] => m
  | m, x :: xs => maxL (if PySem.W.dataLt m.py x.py then x else m) xs
/-- all are tuples with an item, or none is a tuple or None -/
def fullTup : D → Bool
  | .tup (_ :: _) => true
  | _ => false
def noTup : D → Bool
  | .tup _ => false
  | .non => false
  | _ => true
def isTup : D → Bool
  | .tup _ => true
  | _ => false
def sortable (xs : List D) : Bool := xs.all isTup || xs.all noTup
def leD (x y : D) : Bool := !PySem.W.dataLt y.py x.py
def lenD : D → Option D
  | .tup xs => some (.int xs.length)
  | .lst xs => some (.int xs.length)
  | .scr ns => some (.int ns.length)
  | .str s => if lineOk s.length then some (.int s.length) else none
  | _ => none
def sortI (ns : List Int) : List Int := ns.mergeSort fun x y => !decide (y < x)
def bf1 : BF → D → Option D
  | .len, x => lenD x
  | .abs, .int i => some (.int (if i < 0 then -i else i))
  | .int, .int i => some (.int i)
  | .int, .bl b => some (.int (if b then 1 else 0))
  | .sum, .lst xs => (mapO intOf xs).bind fun ns => some (.int ns.sum)
  | .sum, .tup xs => (mapO intOf xs).bind fun ns => some (.int ns.sum)
  | .all, .lst xs => (mapO boolOf xs).bind fun bs => some (.bl (bs.all id))
  | .any, .lst xs => (mapO boolOf xs).bind fun bs => some (.bl (bs.any id))
  | .tuple, .tup xs => some (.tup xs)
  | .tuple, .lst xs => some (.tup xs)
  | .list, .tup xs => some (.lst xs)
  | .list, .lst xs => some (.lst xs)
  | .min, x => (itemsD x).bind fun xs => (match xs with
    | [] => none
    | y :: ys => if allAlike xs && wfs xs && !xs.any isNon && D.imms xs then some (minL y ys) else none)
  | .max, x => (itemsD x).bind fun xs => (match xs with
    | [] => none
    | y :: ys => if allAlike xs && wfs xs && !xs.any isNon && D.imms xs then some (maxL y ys) else none)
  | .sorted, .lst xs => if allAlike xs && wfs xs && sortable xs then some (.lst (xs.mergeSort leD)) else none
  | .sorted, .tup xs => if allAlike xs && wfs xs && sortable xs then some (.lst (xs.mergeSort leD)) else none
  | .sorted, .dic false ks _ => (mapO intOf ks).bind fun ns => if ns.length < 64 then some (.lst ((sortI ns).map .int)) else none
  | _, _ => none
def bf2 : BF → D → D → Option D
  | .min, .int i, .int j => some (.int (if j < i then j else i))
  | .max, .int i, .int j => some (.int (if j > i then j else i))
  | _, _, _ => none
def bfD (f : BF) : List D → Option D
  | [x] => bf1 f x
  | [x, y] => bf2 f x y
  | _ => none
/-- the members of a row of numbers, from the least on -/
def insS (x : Int) : List Int → List Int
  | [] => [x]
  | y :: ys => if x < y then x :: y :: ys else if x = y then y :: ys else y :: insS x ys
def ded : List Int → List Int
  | [] => []
  | x :: xs => insS x (ded xs)
/-- d.get(k, z) -/
def dgetD (d k z : D) : Option D := match d with
  | .dic false ks vs => (kOf k).map fun key => (getK ks vs key).getD z
  | _ => none
/-- tuples of ints: their order, the members of a row of them -/
def lexI : List Int → List Int → Bool
  | [], [] => false
  | [], _ :: _ => true
  | _ :: _, [] => false
  | x :: xs, y :: ys => if x = y then lexI xs ys else decide (x < y)
def insT (x : List Int) : List (List Int) → List (List Int)
  | [] => [x]
  | y :: ys => if lexI x y = true then x :: y :: ys else if x = y then y :: ys else y :: insT x ys
def dedT : List (List Int) → List (List Int)
  | [] => []
  | x :: xs => insT x (dedT xs)
def tupInts : D → Option (List Int)
  | .tup ds => mapO intOf ds
  | _ => none
def eTI (k : List Int) : D := .tup (k.map .int)
/-- sorted(set(xs)), len(set(xs)): of ints, of tuples of ints -/
def ssetD (k : Bool) (d : D) : Option D := (itemsD d).bind fun xs => match mapO intOf xs with
  | some ns => if ns.length < 4000 ∧ (ded ns).length < 64 then some (match k with | true => .lst ((ded ns).map .int) | false => .int (ded ns).length) else none
  | none => (mapO tupInts xs).bind fun ks => if ks.length < 64 then some (match k with | true => .lst ((dedT ks).map eTI) | false => .int (dedT ks).length) else none
def tyD : D → Option String
  | .non => some "NoneType"
  | .bl _ => some "bool"
  | .int _ => some "int"
  | .str _ => some "str"
  | .tup _ => some "tuple"
  | .lst _ => some "list"
  | .scr _ => none
  | .dic _ _ _ => none
def Ty.nm : Ty → String
  | .int => "int"
  | .bool => "bool"
  | .str => "str"
  | .tuple => "tuple"
def isinT (t : Ty) (d : D) : Bool := match t, d with
  | .int, .int _ => true
  | .int, .bl _ => true
  | .bool, .bl _ => true
  | .str, .str _ => true
  | .tuple, .tup _ => true
  | _, _ => false
def isinD (t : Ty) (d : D) : Option Bool := match d with
  | .scr _ => none
  | .dic _ _ _ => none
  | d => some (isinT t d)

/-- other operations on data -/
inductive Opr where
  | cnt | idx | sls (k : Int) | sit
  deriving DecidableEq
/-- every k-th item -/
def everyG {α : Type} (k : Int) (xs : List α) : List α := (sliceRange (sliceBounds none none (some k) xs.length).1 (sliceBounds none none (some k) xs.length).2.1 (sliceBounds none none (some k) xs.length).2.2).filterMap (xs[·]?)
/-- the items of a dict -/
def pairsD (ks vs : List D) : List D := List.zipWith (fun k v => .tup [k, v]) ks vs
def oprD : Opr → List D → Option D
  | .cnt, [x, y] => (itemsD x).bind fun xs => if wfs xs && y.wf then some (.int ((xs.countP fun z => PyData.eqv z.py y.py : Nat) : Int)) else none
  | .idx, [x, y] => (itemsD x).bind fun xs => if wfs xs && y.wf then (xs.findIdx? fun z => PyData.eqv z.py y.py).map fun j => .int (j : Nat) else none
  | .sls k, [.lst xs] => if decide (0 < k) then some (.lst (everyG k xs)) else none
  | .sit, [.dic false ks vs] => if allAlike (pairsD ks vs) && wfs (pairsD ks vs) && D.imms vs then some (.lst ((pairsD ks vs).mergeSort leD)) else none
  | _, _ => none
/-- they make a new thing -/
def Opr.new : Opr → Bool
  | .cnt => false
  | .idx => false
  | .sls _ => true
  | .sit => true

/-! ### syntax -/
inductive Tg where
  | nm (i : Nat) | tup (ts : List Nat) | pr (i : Nat) (ts : List Nat)
mutual
inductive E where
  | var (i : Nat) | cst (d : D)
  | bin (op : Operator) (a b : E) | neg (a : E) | rev (a : E) | rg (tp : Bool) (es : List E) | not (a : E) | and (a b : E) | or (a b : E)
  | cmp (op : CmpOp) (a b : E) | chain (op op' : CmpOp) (a b c : E) | ite (c a b : E)
  | tup (es : List E) | lst (es : List E) | ix (a b : E) | sl (a : E) (lo hi : Option E)
  | bf (f : BF) (es : List E) | isin (a : E) (t : Ty) | sset (k : Bool) (a : E) | dnew | dsing (k x : E) | dget (o k : E) | dgetx (o k x : E) | call (f : Nat) (es : List E)
  | comp (elt : E) (vs : List Nat) (tg : Tg) (it : It) (c : Option E)
  | gen (k : Bool) (elt : E) (vs : List Nat) (tg : Tg) (it : It) (c : Option E)
  | op (o : Opr) (es : List E)
  | chain3 (op op' op2 : CmpOp) (a b c d : E)
  | comp2 (elt : E) (vs vs1 : List Nat) (tg : Tg) (it : It) (c : Option E) (tg1 : Tg) (it1 : It) (c1 : Option E)
inductive It where
  | seq (a : E) | rng (es : List E) | enm (a : E) | zip (a b : E) | rv (a : E) | rng3 (a b c : E)
end
instance : Inhabited E := ⟨.var 0⟩
def wipe {α : Type} (ρ : List (Option α)) : List Nat → List (Option α)
  | [] => ρ
  | v :: vs => (wipe ρ vs).set v none
def bindT : Tg → D → EnvD → Option EnvD
  | .nm i, d, ρ => some (ρ.set i (some d))
  | .tup ts, .tup ds, ρ => if ts.length = ds.length then some ((ts.zip ds).foldl (fun r p => r.set p.1 (some p.2)) ρ) else none
  | .pr i ts, .tup [d, .tup ds], ρ => if ts.length = ds.length then some ((ts.zip ds).foldl (fun r p => r.set p.1 (some p.2)) (ρ.set i (some d))) else none
  | _, _, _ => none
def intsFrom (lo : Int) (n : Nat) : List D := (List.range n).map fun (k : Nat) => .int (lo + (k : Int))
def rangeD : List D → Option (List D)
  | [.int n] => if decide (-(2 ^ 62) ≤ n) && decide (n < 2 ^ 62) && lineOk n.toNat then some (intsFrom 0 n.toNat) else none
  | [.int a, .int b] => if decide (-(2 ^ 62) ≤ a) && decide (a < 2 ^ 62) && decide (-(2 ^ 62) ≤ b) && decide (b < 2 ^ 62) && lineOk (b - a).toNat then some (intsFrom a (b - a).toNat) else none
  | _ => none
/-- range(a, b, c) -/
def range3D : D → D → D → Option (List D)
  | .int a, .int b, .int c => if decide (c ≠ 0) && decide (c.natAbs < 1073741824) && Builtin.Range.small a b c && lineOk (Builtin.Range.rangeSize a b c).toNat && decide (0 ≤ Builtin.Range.rangeSize a b c) then some ((List.range (Builtin.Range.rangeSize a b c).toNat).map fun (k : Nat) => .int (a + (k : Int) * c)) else none
  | _, _, _ => none
def enumD (xs : List D) : List D := List.zipWith (fun (k : Nat) x => .tup [.int (k : Int), x]) (List.range xs.length) xs
def zipD (xs ys : List D) : List D := List.zipWith (fun x y => .tup [x, y]) xs ys
def pairD : D → D → Option (List D)
  | .lst xs, .lst ys => some (zipD xs ys)
  | .tup xs, .tup ys => some (zipD xs ys)
  | .tup xs, .lst ys => some (zipD xs ys)
  | .lst xs, .tup ys => some (zipD xs ys)
  | _, _ => none
/-- the items that a comprehension keeps -/
def compL (f : D → Option (Option D)) : List D → Option (List D)
  | [] => some []
  | x :: xs => (f x).bind fun o => (compL f xs).bind fun ys => some (match o with
    | some y => y :: ys
    | none => ys)
/-- .. of two clauses -/
def compL2 (f : D → Option (List D)) : List D → Option (List D)
  | [] => some []
  | x :: xs => (f x).bind fun a => (compL2 f xs).bind fun b => some (a ++ b)
/-- any (k = false), all (k = true) of what a generator yields -/
def genL (k : Bool) (f : D → Option (Option Bool)) : List D → Option D
  | [] => some (.bl k)
  | x :: xs => (f x).bind fun o => match o with
    | some t => if t = k then genL k f xs else some (.bl t)
    | none => genL k f xs
mutual
def evE (C : Oracle) (ρ : EnvD) : E → Option D
  | .var i => ρ[i]?.bind id
  | .cst d => some d
  | .bin op a b => (evE C ρ a).bind fun x => (evE C ρ b).bind fun y => binD op x y
  | .neg a => (evE C ρ a).bind negD
  | .rev a => (evE C ρ a).bind revD
  | .rg tp es => (evEs C ρ es).bind fun ds => (rangeD ds).bind fun xs => some (if tp then .tup xs else .lst xs)
  | .not a => (evE C ρ a).bind fun x => (truthD x).bind fun b => some (.bl !b)
  | .and a b => (evE C ρ a).bind fun x => (truthD x).bind fun k => if k then evE C ρ b else some x
  | .or a b => (evE C ρ a).bind fun x => (truthD x).bind fun k => if k then some x else evE C ρ b
  | .cmp op a b => (evE C ρ a).bind fun x => (evE C ρ b).bind fun y => (cmpD op x y).bind fun k => some (.bl k)
  | .chain op op' a b c => (evE C ρ a).bind fun x => (evE C ρ b).bind fun y => (cmpD op x y).bind fun k =>
      if k then (evE C ρ c).bind fun z => (cmpD op' y z).bind fun k' => some (.bl k') else some (.bl false)
  | .ite c a b => (evE C ρ c).bind fun x => (truthD x).bind fun k => if k then evE C ρ a else evE C ρ b
  | .tup es => (evEs C ρ es).bind fun ds => if lineOk ds.length then some (.tup ds) else none
  | .lst es => (evEs C ρ es).bind fun ds => if lineOk ds.length then some (.lst ds) else none
  | .ix a b => (evE C ρ a).bind fun x => (evE C ρ b).bind fun y => ixD x y
  | .sl a lo hi => (evE C ρ a).bind fun x => (evO C ρ lo).bind fun l => (evO C ρ hi).bind fun h => slD x l h
  | .bf f es => (evEs C ρ es).bind fun ds => bfD f ds
  | .isin a t => (evE C ρ a).bind fun x => (isinD t x).bind fun k => some (.bl k)
  | .sset k a => (evE C ρ a).bind fun x => ssetD k x
  | .dnew => some (.dic false [] [])
  | .dsing k a => (evE C ρ k).bind fun y => (evE C ρ a).bind fun z => (kOf y).map fun key => .dic false [keyD key] [z]
  | .dget o k => (evE C ρ o).bind fun x => (evE C ρ k).bind fun y => dgetD x y .non
  | .dgetx o k a => (evE C ρ o).bind fun x => (evE C ρ k).bind fun y => (evE C ρ a).bind fun z => dgetD x y z
  | .call f es => (evEs C ρ es).bind fun ds => C f ds
  | .op o es => (evEs C ρ es).bind fun ds => oprD o ds
  | .comp elt vs tg it c => (evI C ρ it).bind fun xs => (compL (fun x => (bindT tg x (wipe ρ vs)).bind fun ρ' =>
      (evC C ρ' c).bind fun k => if k then (evE C ρ' elt).bind fun y => some (some y) else some none) xs).bind fun ys => some (.lst ys)
  | .chain3 op op' op2 a b c d => (evE C ρ a).bind fun x => (evE C ρ b).bind fun y => (cmpD op x y).bind fun k =>
      if k then (evE C ρ c).bind fun z => (cmpD op' y z).bind fun k' => if k' then (evE C ρ d).bind fun w => (cmpD op2 z w).bind fun k2 => some (.bl k2) else some (.bl false) else some (.bl false)
  | .comp2 elt vs vs1 tg it c tg1 it1 c1 => (evI C ρ it).bind fun xs => (compL2 (fun x => (bindT tg x (wipe ρ vs)).bind fun ρ' =>
      (evC C ρ' c).bind fun k => if k then (evI C ρ' it1).bind fun zs => compL (fun z => (bindT tg1 z (wipe ρ' vs1)).bind fun ρ2 =>
        (evC C ρ2 c1).bind fun k1 => if k1 then (evE C ρ2 elt).bind fun y => some (some y) else some none) zs else some []) xs).bind fun ys => if lineOk ys.length then some (.lst ys) else none
  | .gen k elt vs tg it c => (evI C ρ it).bind fun xs => genL k (fun x => (bindT tg x (wipe ρ vs)).bind fun ρ' =>
      (evC C ρ' c).bind fun b => if b then (evE C ρ' elt).bind fun y => (boolOf y).bind fun t => some (some t) else some none) xs
/-- as something walked -/
def evI (C : Oracle) (ρ : EnvD) : It → Option (List D)
  | .seq e => (evE C ρ e).bind itemsD
  | .rng es => (evEs C ρ es).bind rangeD
  | .enm a => (evE C ρ a).bind fun x => (itemsD x).bind fun xs => some (enumD xs)
  | .zip a b => (evE C ρ a).bind fun x => (evE C ρ b).bind fun y => pairD x y
  | .rv a => (evE C ρ a).bind fun x => (itemsD x).bind fun xs => some xs.reverse
  | .rng3 a b c => (evE C ρ a).bind fun x => (evE C ρ b).bind fun y => (evE C ρ c).bind fun z => range3D x y z
def evC (C : Oracle) (ρ : EnvD) : Option E → Option Bool
  | none => some true
  | some e => (evE C ρ e).bind truthD
def evO (C : Oracle) (ρ : EnvD) : Option E → Option (Option Int)
  | none => some none
  | some e => (evE C ρ e).bind fun d => (intOf d).bind fun i => some (some i)
def evEs (C : Oracle) (ρ : EnvD) : List E → Option (List D)
  | [] => some []
  | e :: es => (evE C ρ e).bind fun d => (evEs C ρ es).bind fun ds => some (d :: ds)
end
end Ev
set_option maxHeartbeats 4000000
/-! any, all of a generator expression over anything that PI serves. -/
namespace GenD
open PySem PySem.Spec PyProof.Rows L2

/-- the environment of the generator that is made at s -/
abbrev gEnv (X : Cx) (n : Nat) (scope : Scope) (code : Value) : Env :=
  { scope, locals := n, globals := X.env.globals, cells := cellsFrom (n + 1) scope.names (cloFrom X.env.cells scope.names []), qual := X.env.qual ++ "<genexpr>.", func := none, code, frame := some n, builtins := builtinsNs }
/-- its context -/
abbrev gCx (X : Cx) (s : Shared) (H : Hp) (scope : Scope) (ge : Env) (fp : List Addr) (B : Around) : Cx :=
  { X with A := B, s_0 := s, H_0 := H, env := ge, outer := X.stack, stack := ge :: X.stack, ex := fp, fn := fun x => scope.names.lookup x == some .cell, pn := [], xe := fun _ _ => False }
section
variable {X : Cx} {pins : List (Addr × Obj)} {σ : L2.St} {H : Hp} {s : Shared}
theorem inv_gens (I : Inv X pins σ H s) {g' : Array GenState} {t' : Nat} (hb : AllBare g') : Inv X pins σ H { s with gens := g', toks := t' } :=
  ⟨I.ok, I.os, hb, I.base, I.loc, I.cell, I.free, I.freeC, I.pin, I.hok, I.len⟩
/-- the generator's frame, as it is made -/
theorem gen_start {scope : Scope} {own : List (Str × Nat)} {fp : List Addr} {code : Value} {B : Around} {m : Str → Option Value} {h1 : Heap} {g1 : Array GenState} {t1 : Nat} (I : Inv X pins σ H s) (hk : X.calm = true) (ok : BlkOk X.N X.env.scope scope own)
    (nd : X.N.Nodup) (hfp : ∀ b ∈ fp, FpOk X pins H b ∧ b < s.heap.objs.size) (hB : B.handled = none) (hF : B.frames = some (gEnv X s.heap.objs.size scope code :: X.stack)) (hg : AllBare g1)
    (hn : h1.Ns s.heap.objs.size m) (sb : Heap.SameBut s.heap.objs.size (pushCells (s.heap.push { cls := .type "frame", data := .dict #[] }) scope.names) h1) :
    Inv (gCx X s H scope (gEnv X s.heap.objs.size scope code) fp B) [] (wipe σ (own.map (·.2))) H { s with heap := h1, gens := g1, toks := t1 } := by
  have fr : ∀ y ∈ scope.names, y.2 = .free → ∃ c, X.env.cells.lookup y.1 = some c := fun y hy e =>
    (ok.free y hy e).elim (fun k => I.ok.has _ (.inl k)) (fun k => I.ok.has _ (.inr k))
  generalize hge : gEnv X s.heap.objs.size scope code = ge at hF ⊢
  have eL : ge.locals = s.heap.objs.size := by rw [← hge]
  have eF : ge.frame = some ge.locals := by rw [← hge]
  have eC : ge.cells = cellsFrom (s.heap.push { cls := .type "frame", data := .dict #[] }).objs.size scope.names (cloFrom X.env.cells scope.names []) := by rw [← hge, Heap.size_push]
  have eS : ge.scope = scope := by rw [← hge]
  have old : ∀ {b : Addr} {o : Obj}, s.heap.get? b = some o → h1.get? b = some o := fun {b o} e => by
    have hne : b ≠ s.heap.objs.size := Nat.ne_of_lt (Heap.lt_size e)
    rw [sb.2 b hne]
    exact pushCells_keeps _ _ _ _ (Heap.get?_push_of_some _ e)
  have cm : ∀ {y : Str} {c : Addr}, (y, c) ∈ cloFrom X.env.cells scope.names [] → X.env.cells.lookup y = some c ∧ c < s.heap.objs.size := fun {y c} hm => by
    rcases cloFrom_mem hm with z | ⟨z, rfl⟩
    · exact nomatch z
    · obtain ⟨c, hc⟩ := fr _ z rfl
      obtain ⟨w, q⟩ := I.cell _ _ hc
      rw [hc]; exact ⟨rfl, q.lt⟩
  have mem : ∀ {y : Str} {c : Addr}, ge.cells.lookup y = some c → (X.env.cells.lookup y = some c ∧ c < s.heap.objs.size) ∨ (s.heap.objs.size + 1 ≤ c ∧ CellAt h1 c none) := fun {y c} e => by
    rw [eC] at e
    rcases cells_mem (PySem.mem_of_lookup e) with z | ⟨_, z2, z3⟩
    · exact .inl (cm z)
    · rw [Heap.size_push] at z2
      exact .inr ⟨z2, z3.sameBut sb (Nat.ne_of_gt z2)⟩
  have look : ∀ {y : Str}, scope.names.lookup y = some .free → ∃ c, ge.cells.lookup y = some c ∧ X.env.cells.lookup y = some c := fun {y} hl => by
    have hy := PySem.mem_of_lookup hl
    obtain ⟨c', e'⟩ := mem_lookup (cells_acc (names := scope.names) (n := (s.heap.push { cls := .type "frame", data := .dict #[] }).objs.size) (cloFrom_has (cells := X.env.cells) (acc := []) hy))
    rw [← eC] at e'
    refine ⟨c', e', ?_⟩
    rw [eC] at e'
    rcases cells_mem (PySem.mem_of_lookup e') with z | ⟨z, _, _⟩
    · exact (cm z).1
    · have q := ok.uniq _ z
      rw [show scope.names.lookup y = _ from hl] at q
      exact nomatch q
  have okG : (gCx X s H scope ge fp B).Ok := by
    refine ⟨I.ok.mod, ?_, ?_, ?_, ?_, fun y z c e1 e2 => ?_, fun y hy => ?_, fun y c z e => ?_, fun _ => hB, hF, .inr ⟨rfl, eF⟩, fun b hb => ⟨?_, fun y c e z => ?_⟩, I.bs, Nat.le_trans I.ok.bsz I.sz, fun b o e hb => ?_, fun b hb z => ?_, I.stack, I.stkFree⟩
    · show ge.scope.kind = _
      rw [eS]; exact ok.kind
    · rw [← hge]; exact I.ok.glob
    · rw [← hge]
    · show _ ≤ ge.locals
      rw [eL]; exact Nat.le_refl _
    · change ge.cells.lookup y = some c at e1
      change ge.cells.lookup z = some c at e2
      rw [eC] at e1 e2
      refine cells_inj (fun p hp => ?_) (fun y z c a b => I.ok.inj y z c (cm a).1 (cm b).1) (PySem.mem_of_lookup e1) (PySem.mem_of_lookup e2)
      rw [Heap.size_push]; exact Nat.lt_succ_of_lt (cm (y := p.1) (c := p.2) hp).2
    · have hy' : scope.names.lookup y = some .cell ∨ scope.names.lookup y = some .free := by
        unfold Env.kindOf at hy
        change ge.scope.names.lookup y = _ ∨ ge.scope.names.lookup y = _ at hy
        rw [eS] at hy; exact hy
      rcases hy' with e | e
      · obtain ⟨c, hm⟩ := cells_has (n := (s.heap.push { cls := .type "frame", data := .dict #[] }).objs.size) (acc := cloFrom X.env.cells scope.names []) (PySem.mem_of_lookup e)
        obtain ⟨c', e'⟩ := mem_lookup hm
        exact ⟨c', by change ge.cells.lookup y = _; rw [eC]; exact e'⟩
      · obtain ⟨c, q, _⟩ := look e
        exact ⟨c, q⟩
    · have z' : scope.names.lookup y = some .cell := by
        have z2 : (scope.names.lookup y == some NameKind.cell) = true := z
        simpa using z2
      change ge.cells.lookup y = some c at e
      rw [eC] at e
      rcases cells_mem (PySem.mem_of_lookup e) with q | ⟨_, q, _⟩
      · rcases cloFrom_mem q with q | ⟨q, _⟩
        · exact nomatch q
        · have q2 := ok.uniq _ q
          rw [show scope.names.lookup y = _ from z'] at q2
          exact nomatch q2
      · rw [Heap.size_push] at q
        exact Nat.le_of_succ_le q
    · change b ≠ ge.locals
      rw [eL]; exact Nat.ne_of_lt (hfp b hb).2
    · rcases mem (show ge.cells.lookup y = some c from e) with ⟨q, _⟩ | ⟨q, _⟩
      · exact (hfp b hb).1.2.2.2.2.1 y c q z
      · exact absurd (Nat.lt_of_lt_of_le (hfp b hb).2 (Nat.le_of_succ_le (z ▸ q))) (Nat.lt_irrefl _)
    · rcases (hfp b hb).1.2.2.2.1 with z | z
      · exact I.ok.noex b o e z
      · exact absurd (Nat.lt_of_lt_of_le (Heap.lt_size e) (Nat.le_trans I.ok.bsz z)) (Nat.lt_irrefl _)
    · rcases List.mem_cons.mp (I.stkSub b z) with q | q
      · exact (hfp b hb).1.2.1 q
      · exact (hfp b hb).1.2.2.1 q
  refine ⟨okG, rfl, hg, Un.kept fun _ _ e => old e, ⟨m, ?_, fun i y av e1 e2 e3 => ?_⟩, fun y c e => ?_, ?_, fun y c e => ?_, fun p hp => ?_, I.hok.kept fun _ _ e => old e, by rw [L2.wipe_length]; exact I.len⟩
  · change h1.Ns ge.locals m
    rw [eL]; exact hn
  · obtain ⟨e2, hne⟩ := wipe_some e2
    have no : ¬ (scope.names.lookup y = some .local ∨ scope.names.lookup y = some .cell) := fun hh => by
      have hh2 : y ∈ own.map (·.1) ∨ y ∉ X.N := by
        rcases hh with q | q
        · exact ok.own _ (PySem.mem_of_lookup q) (.inl rfl)
        · exact ok.own _ (PySem.mem_of_lookup q) (.inr rfl)
      rcases hh2 with q | q
      · obtain ⟨p, hp, hpy⟩ := List.mem_map.mp q
        have e3 := ok.ix p hp
        rw [show p.1 = y from hpy] at e3
        exact hne (List.mem_map.mpr ⟨p, hp, nodup_ix nd e3 e1⟩)
      · exact q (List.mem_of_getElem? e1)
    have hfree : scope.names.lookup y = some .free := by
      have e3' : Vis scope y := by
        have : Vis ge.scope y := e3
        rw [eS] at this; exact this
      rcases e3' with q | q | q
      · exact absurd (.inl q) no
      · exact absurd (.inr q) no
      · exact q
    obtain ⟨m0, hn0, hl⟩ := I.loc
    have kf := ok.free _ (PySem.mem_of_lookup hfree) rfl
    obtain ⟨w, r, q⟩ := hl i y av e1 e2 (kf.elim (fun k => .inr (.inl k)) (fun k => .inr (.inr k)))
    refine ⟨w, r, .inr ⟨.inr ?_, ?_⟩⟩
    · show ge.scope.names.lookup y = some .free
      rw [eS]; exact hfree
    · obtain ⟨c, k1, k2⟩ := look hfree
      rcases q with ⟨k, _⟩ | ⟨_, c', e', z⟩
      · have k : X.env.scope.names.lookup y = some .local := k
        rcases kf with k' | k' <;> exact absurd (k.symm.trans k') (by simp)
      · rw [k2] at e'; cases e'
        exact ⟨c, k1, z.keeps fun _ _ e => old e⟩
  · rcases mem (show ge.cells.lookup y = some c from e) with ⟨q, _⟩ | ⟨_, z⟩
    · obtain ⟨w, z⟩ := I.cell y c q
      exact ⟨w, z.keeps fun _ _ e => old e⟩
    · exact ⟨_, z⟩
  · change H ge.locals = none
    rw [eL]; exact I.hok.fresh (Nat.le_refl _)
  · rcases mem (show ge.cells.lookup y = some c from e) with ⟨q, _⟩ | ⟨q, _⟩
    · exact I.freeC y c q
    · exact I.hok.fresh (Nat.le_of_succ_le q)
  · exact absurd (show p ∈ ([] : List (Addr × Obj)) ++ [] from hp) (by simp)
end
end GenD
set_option maxHeartbeats 4000000
namespace GenD
open PySem PySem.Spec PyProof.Rows L2 GenW

/-! ### the loops of any, all -/
section
variable {prog : Program} {w : World} {A : Around} {R : Result → Shared → Prop} {I : Addr}
/-- what a turn of any (k = false), all (k = true) asks -/
def TurnOk (prog : Program) (w : World) (A : Around) (I : Addr) (R : Result → Shared → Prop) (k : Bool) (St : Nat → Shared → Prop) : Prop :=
  ∀ n s, St n s → ∀ E : Value → Shared → Prop, wpAny (model prog w) A.in1 (pyNext (.ref I)) (fun r s' => match r with
    | none => R (.ok (.ret (.bool k))) s'
    | some v => ∃ t, v = .bool t ∧ (t = k → ∃ m, m < n ∧ St m s') ∧ (t ≠ k → R (.ok (.ret (.bool t))) s')) E s
theorem any_loop {St : Nat → Shared → Prop} (h : TurnOk prog w A I R false St) : ∀ n s, St n s → codeAny (model prog w) A (.builtin "any.loop" ⟨[.ref I], []⟩) R s := by
  intro n
  induction n using Nat.strongRecOn with
  | ind n ih =>
    intro s hs
    refine codeAny_builtin F.entry_any_loop ?_
    rw [Around.under_plainId F.plain_any_loop _]
    change wpAny _ A.in1 (pyNext (.ref I) >>= _) _ _ s
    refine wpAny_bind (wpAny_mono (h n s hs _) (fun r s1 q => ?_) fun _ _ e => e)
    cases r with
    | none => exact wpAny_bind (wpAny_rule (wpAny_pure q))
    | some v =>
      obtain ⟨t, rfl, q1, q2⟩ := q
      refine wpAny_bind (wpAny_holding (wpAny_truthy_bool (wpAny_bind (wpAny_letGo ?_))))
      cases t with
      | false =>
        simp only [Bool.false_eq_true, if_false]
        obtain ⟨m, hm, q⟩ := q1 rfl
        exact wpAny_pure ⟨plainId_quiet F.plain_any_loop _, ih m hm _ q⟩
      | true =>
        simp only [if_true]
        exact wpAny_bind (wpAny_rule (wpAny_pure (q2 (by decide))))
theorem all_loop {St : Nat → Shared → Prop} (h : TurnOk prog w A I R true St) : ∀ n s, St n s → codeAny (model prog w) A (.builtin "all.loop" ⟨[.ref I], []⟩) R s := by
  intro n
  induction n using Nat.strongRecOn with
  | ind n ih =>
    intro s hs
    refine codeAny_builtin F.entry_all_loop ?_
    rw [Around.under_plainId F.plain_all_loop _]
    change wpAny _ A.in1 (pyNext (.ref I) >>= _) _ _ s
    refine wpAny_bind (wpAny_mono (h n s hs _) (fun r s1 q => ?_) fun _ _ e => e)
    cases r with
    | none => exact wpAny_bind (wpAny_rule (wpAny_pure q))
    | some v =>
      obtain ⟨t, rfl, q1, q2⟩ := q
      refine wpAny_bind (wpAny_holding (wpAny_truthy_bool (wpAny_bind (wpAny_letGo ?_))))
      cases t with
      | true =>
        simp only [if_true]
        obtain ⟨m, hm, q⟩ := q1 rfl
        exact wpAny_pure ⟨plainId_quiet F.plain_all_loop _, ih m hm _ q⟩
      | false =>
        simp only [Bool.false_eq_true, if_false]
        exact wpAny_bind (wpAny_rule (wpAny_pure (q2 (by decide))))
end

/-! ### the generator's own turns -/
section
variable {Y : Cx} {pg0 : List (Addr × Obj)} {τ : L2.St} {fp : List Addr} {tn : Nat → Heap → Prop} {W : Nat → Nat → Hp → Prop}
/-- a state between two turns: so many yields may come -/
def NI (Y : Cx) (pg0 : List (Addr × Obj)) (τ : L2.St) (fp : List Addr) (tn : Nat → Heap → Prop) (W : Nat → Nat → Hp → Prop) (n : Nat) (s : Shared) : Prop :=
  ∃ i m H', m + 1 ≤ n ∧ Inv Y pg0 τ H' s ∧ tn i s.heap ∧ (∀ b ∈ fp, H' b = none) ∧ W i m H'
def GEnd (Y : Cx) (pg0 : List (Addr × Obj)) (τ : L2.St) (k : Bool) (Q : VK) : GenEnd := fun _ _ r s => r = .ok .next ∧ ∃ H', Inv Y pg0 τ H' s ∧ Q (.bl k) H'
def GPro (Y : Cx) (pg0 : List (Addr × Obj)) (τ : L2.St) (fp : List Addr) (tn : Nat → Heap → Prop) (W : Nat → Nat → Hp → Prop) (k : Bool) (Q : VK) : Protocol := fun n _ v s kap =>
  (∃ t, v = .bool t ∧ (t = k → NI Y pg0 τ fp tn W n s) ∧ (t ≠ k → ∃ H', Inv Y pg0 τ H' s ∧ Q (.bl t) H')) ∧ ∀ s', NI Y pg0 τ fp tn W n s' → kap (.send .none) s'
theorem NI.gens {n : Nat} {s : Shared} {g' : Array GenState} {t' : Nat} (h : NI Y pg0 τ fp tn W n s) (hb : AllBare g') : NI Y pg0 τ fp tn W n { s with gens := g', toks := t' } := by
  obtain ⟨i, m, H', h1, h2, h3, h4, h5⟩ := h
  exact ⟨i, m, H', h1, inv_gens h2 hb, h3, h4, h5⟩
theorem seg_turns {elt tg iter : Expr} {ifs : List Expr} {scope : Scope} {pos : Pos} {it : Addr} {J : It} {k : Bool} {Q : VK} {g : TG} {tt : TT} {te : TE} {vs : List Nat} {B : Around} {σ : L2.St}
    (hτ : τ = wipe σ vs) (hco : Y.env.scope.isCoroutine = false) (hc : Y.calm = true) (hxe : Y.xe = fun _ _ => False) (T : Turn Y.prog Y.w Y.K tg J fp it tn) (hpg : ∀ p ∈ pg0, p.1 ∉ fp) (hpn : Y.pn = []) (hex : Y.ex = fp)
    (hA : B.over (.compLoop (.GeneratorExp elt [⟨tg, iter, ifs, 0⟩] scope pos) 0 (.ref it) .none Y.env) [] = Y.A)
    (hg : PG Y tg g) (ht : PTs Y ifs tt) (he : PE Y elt te)
    (turn : ∀ i m H, W i m H → (J.stop i H ∧ Q (.bl k) H) ∨ (J.go i H ∧ ∃ Nx : Hp → Prop, (∀ H', Nx H' → ∃ m', m' < m ∧ W (i + 1) m' H') ∧ ∀ x H', J.yld i H x H' → g x τ H' fun σ2 H2 => wipe σ2 vs = τ ∧ tt σ2 H2 fun b H3 =>
      if b = true then te σ2 H3 fun y H4 => ∃ t, y = .bl t ∧ (t = k → Nx H4) ∧ (t ≠ k → Q (.bl t) H4) else Nx H3)) :
    ∀ (n m i : Nat) (s₀ s : Shared) (H' : Hp), m + 1 ≤ n → Inv Y pg0 τ H' s → tn i s.heap → (∀ b ∈ fp, H' b = none) → W i m H' →
      Seg (model Y.prog Y.w) B (GEnd Y pg0 τ k Q) (GPro Y pg0 τ fp tn W k Q) n s₀ (.compLoop (.GeneratorExp elt [⟨tg, iter, ifs, 0⟩] scope pos) 0 (.ref it) .none Y.env)
        ((model Y.prog Y.w).den (.compLoop (.GeneratorExp elt [⟨tg, iter, ifs, 0⟩] scope pos) 0 (.ref it) .none Y.env)) [] s := by
  intro n
  induction n with
  | zero => intro m i s₀ s H' hm; omega
  | succ n ihn =>
    intro m
    induction m using Nat.strongRecOn with
    | ind m ihm =>
      intro i s₀ s H5 hm I5 st5 n5 w5
      have stat : ∀ {σ' : L2.St} {H' : Hp} {s' : Shared} {pl : List (Addr × Obj)}, Inv Y pl σ' H' s' → (∀ b ∈ fp, H' b = none) → ∀ b ∈ fp, FpOk Y pg0 H' b := fun {σ' H' s' pl} I' hn b hb => by
        have hb' : b ∈ Y.ex := by rw [hex]; exact hb
        refine ⟨hn b hb, (I'.ok.exf b hb').1, I'.ok.exfs b hb', .inl hb', fun x c e => (I'.ok.exf b hb').2 x c e, fun p hp => ?_⟩
        rw [hpn, List.nil_append] at hp
        exact fun e => hpg p hp (e ▸ hb)
      change Seg _ B _ _ _ s₀ _ ((compTurn (.GeneratorExp elt [⟨tg, iter, ifs, 0⟩] scope pos) 0 (.ref it) .none Y.env).onRaise (leaving Y.env)) [] s
      rw [compTurn_gen, Sem.onRaise_eq_wrap]
      refine seg_bind_wrap (wpAny_standAt ?_)
      rcases turn i m H5 w5 with ⟨stop, qq⟩ | ⟨go, Nx, hNx, step⟩
      · refine seg_bind_wrap ?_
        rw [hA]
        refine thnF (T.done Y rfl rfl rfl hc i pg0 s τ H5 (fun _ _ => False) I5 (stat I5 n5) st5 stop) fun r s6 ⟨hr, I6⟩ => ?_
        subst hr
        exact seg_end (.ok .next) ⟨rfl, H5, I6, qq⟩
      · refine seg_bind_wrap ?_
        rw [hA]
        refine thnF (T.item Y rfl rfl rfl hc i pg0 s τ H5 (fun _ _ => False) I5 (stat I5 n5) st5 go) fun r s6 ⟨u, hr, h6⟩ => ?_
        subst hr
        refine seg_bind_wrap ?_
        rw [hA]
        refine thnF h6 fun _ s7 ⟨x, H7, I7, r7, y7, st7, n7⟩ => ?_
        have I7' := I7.pinned (stat I7 n7) (T.obj _ _ st7)
        refine seg_bind_wrap ?_
        rw [hA]
        have r8 := hg.run _ s7 _ H7 x u _ I7' r7 (step x H7 y7)
        rw [hxe] at r8
        refine thnF r8 fun _ s8 ⟨σ8, H8, I8, hw8, q8⟩ => ?_
        refine seg_bind_wrap ?_
        rw [hA]
        have r9 := ht.run _ s8 σ8 H8 _ I8 q8
        rw [hxe] at r9
        refine thnF r9 fun b s9 ⟨H9, I9, q9⟩ => ?_
        -- the turn's end
        have fin : ∀ {s' : Shared} {H' : Hp}, Inv Y (pg0 ++ pinsAt fp s7.heap) σ8 H' s' → Inv Y pg0 τ H' s' ∧ (Nx H' → ∃ m', m' < m ∧ tn (i + 1) s'.heap ∧ (∀ b ∈ fp, H' b = none) ∧ W (i + 1) m' H') := fun {s' H'} I' => by
          have pin' : ∀ b ∈ fp, ∀ o, s7.heap.get? b = some o → s'.heap.get? b = some o ∧ H' b = none := fun b hb o e =>
            let z := I'.pin (b, o) (List.mem_append_right _ (List.mem_append_right _ (mem_pinsAt hb e)))
            ⟨z.1, z.2.1⟩
          refine ⟨I'.unpinned.weak (by rw [← hw8, L2.wipe_length]) (fun j v e => ?_), fun nx => ?_⟩
          · rw [← hw8] at e
            exact (wipe_some e).1
          · obtain ⟨m', hm', w'⟩ := hNx H' nx
            refine ⟨m', hm', T.keep _ _ _ st7 fun b hb o e => (pin' b hb o e).1, fun b hb => ?_, w'⟩
            obtain ⟨o, e, _⟩ := T.obj _ _ st7 b hb
            exact (pin' b hb o e).2
        cases b with
        | false =>
          simp only [Bool.false_eq_true, if_false] at q9 ⊢
          obtain ⟨I9', f9⟩ := fin I9
          obtain ⟨m', hm', st', n', w'⟩ := f9 q9
          exact seg_again rfl (ihm m' hm' (i + 1) s₀ s9 H9 (by omega) I9' st' n' w')
        | true =>
          simp only [if_true] at q9 ⊢
          have hy : ∀ v, yieldOut Y.env v = yieldValue v := fun v => by simp only [yieldOut, hco, Bool.false_eq_true, if_false]
          simp only [hy]
          rw [Sem.bind_eq_wrap', Sem.bind_eq_wrap', Sem.wrap_wrap, Sem.wrap_wrap]
          refine seg_wrap ?_
          rw [hA]
          have r10 := he.run _ s9 σ8 H9 _ I9 q9
          rw [hxe] at r10
          refine thnF r10 fun v s10 ⟨yv, H10, I10, ry, t, hyv, q1, q2⟩ => ?_
          subst hyv
          have ev : v = .bool t := ry
          subst ev
          obtain ⟨I10', f10⟩ := fin I10
          refine seg_at (seg_yield rfl rfl rfl ⟨⟨t, rfl, fun e => ?_, fun e => ⟨H10, I10', q2 e⟩⟩, fun s'' hs => ?_⟩)
          · obtain ⟨m', hm', st', n', w'⟩ := f10 (q1 e)
            exact ⟨i + 1, m', H10, by omega, I10', st', n', w'⟩
          · obtain ⟨i2, m2, H2, h1, h2, h3, h4, h5⟩ := hs
            exact seg_again rfl (ihn m2 i2 s'' s'' H2 (by omega) h2 h3 h4 h5)
end
end GenD
set_option maxHeartbeats 4000000
namespace GenD
open PySem PySem.Spec PyProof.Rows L2 GenW GxR

section
variable {X : Cx} {pins : List (Addr × Obj)} {σ : L2.St} {H : Hp} {s : Shared}
/-- the call's reading -/
def tGen (k : Bool) (P : Addr) (wi : TI) (g : TG) (tt : TT) (te : TE) (vs : List Nat) : TE := fun σ H Q => wi σ H fun J H1 => TabG H1 P ∧ ∀ H2, Tabbed P H1 H2 → ∃ W : Nat → Nat → Hp → Prop, (∃ m, W 0 m H2) ∧ ∀ i m H, W i m H →
  (J.stop i H ∧ Q (.bl k) H) ∨ (J.go i H ∧ ∃ Nx : Hp → Prop, (∀ H', Nx H' → ∃ m', m' < m ∧ W (i + 1) m' H') ∧ ∀ x H', J.yld i H x H' → g x (wipe σ vs) H' fun σ2 H2 => wipe σ2 vs = wipe σ vs ∧ tt σ2 H2 fun b H3 =>
    if b = true then te σ2 H3 fun y H4 => ∃ t, y = .bl t ∧ (t = k → Nx H4) ∧ (t ≠ k → Q (.bl t) H4) else Nx H3)
/-- the around of a generator's turns, drawn by a builtin that is called at A -/
abbrev turnA (A : Around) (ge : Env) (elt tg iter : Expr) (ifs : List Expr) (scope : Scope) (pos : Pos) (it : Addr) : Around :=
  A.in1.in1.over (.compLoop (.GeneratorExp elt [⟨tg, iter, ifs, 0⟩] scope pos) 0 (.ref it) .none ge) []
theorem turnA_handled {A : Around} {ge : Env} {elt tg iter : Expr} {ifs : List Expr} {scope : Scope} {pos : Pos} {it : Addr} (h : A.handled = none) : (turnA A ge elt tg iter ifs scope pos it).handled = none := h
theorem turnA_frames {A : Around} {ge : Env} {elt tg iter : Expr} {ifs : List Expr} {scope : Scope} {pos : Pos} {it : Addr} {l : List Env} (h : A.frames = some l) : (turnA A ge elt tg iter ifs scope pos it).frames = some (ge :: l) := by
  simp only [turnA, Around.over]
  rw [show A.frames = some l from h]
  rfl
theorem turnA_room {A : Around} {ge : Env} {elt tg iter : Expr} {ifs : List Expr} {scope : Scope} {pos : Pos} {it : Addr} {k : Nat} (r : Room (k + 1) A) : Room k (turnA A ge elt tg iter ifs scope pos it) :=
  ⟨r.hd, by
    have := r.dp
    change A.depth + frameCount [] + 1 + 3 * k + 5 < _
    rw [show frameCount [] = 0 from rfl]
    omega, by
    have := r.un
    change A.units + 1 + 1 + unitsOf [] + 3 + 16 * k + 200 < _
    rw [show unitsOf [] = 0 from rfl]
    omega⟩
/-- a generator in the heap, ready for its first turn -/
theorem gen_made {elt tg iter : Expr} {ifs : List Expr} {scope : Scope} {pos : Pos} {own : List (Str × Nat)} {k : Bool} {g : TG} {tt : TT} {te : TE} {Q : VK} {Qf : Value → Shared → Prop} {wi : TI} {c P : Addr} {j : Nat}
    (hr : Room j X.A) (hc : X.calm = true) (hN : X.N.Nodup) (TB : TabB X.base X.mg c P) (hcode : X.env.code = .ref c) (hco : scope.isCoroutine = false) (hdot : scope.names.lookup (".0" : Str) = some NameKind.local) (hi : PI X tg iter wi) (ok : BlkOk X.N X.env.scope scope own)
    (hg : ∀ (s : Shared) (H : Hp) (n : Nat) (cd : Value) (fp : List Addr) (it : Addr), PG (gCx X s H scope (gEnv X n scope cd) fp (turnA X.A (gEnv X n scope cd) elt tg iter ifs scope pos it)) tg g)
    (ht : ∀ (s : Shared) (H : Hp) (n : Nat) (cd : Value) (fp : List Addr) (it : Addr), PTs (gCx X s H scope (gEnv X n scope cd) fp (turnA X.A (gEnv X n scope cd) elt tg iter ifs scope pos it)) ifs tt)
    (he : ∀ (s : Shared) (H : Hp) (n : Nat) (cd : Value) (fp : List Addr) (it : Addr), PE (gCx X s H scope (gEnv X n scope cd) fp (turnA X.A (gEnv X n scope cd) elt tg iter ifs scope pos it)) elt te)
    (hs : ∀ v, genFold iter X.env v = pure v) (I : Inv X pins σ H s) (h : tGen k P wi g tt te (own.map (·.2)) σ H Q)
    (hQ : ∀ a s5, (∃ g, s5.heap.IsGen a g) → (∀ (R : Result → Shared → Prop), (∀ t H' s', Inv X pins σ H' s' → Q (.bl t) H' → R (.ok (.ret (.bool t))) s') → ∃ St n, TurnOk X.prog X.w X.A a R k St ∧ St n s5) → Qf (.ref a) s5) :
    wpAny (model X.prog X.w) X.A (eval (.GeneratorExp elt [⟨tg, iter, ifs, 0⟩] scope pos) X.env) Qf X.xe s := by
  have fr : ∀ y ∈ scope.names, y.2 = .free → ∃ c, X.env.cells.lookup y.1 = some c := fun y hy e =>
    (ok.free y hy e).elim (fun k => I.ok.has _ (.inl k)) (fun k => I.ok.has _ (.inr k))
  rw [eval_GeneratorExp1 _ _ _ _ _ _ _ hco, closure_ok fr]
  refine wpAny_bind (thn (hi.run pins s σ H _ I h) fun xv s1 hx => ?_)
  refine wpAny_bind (wpAny_standAt (wpAny_bind (wpAny_of_eq (hs xv) ?_)))
  refine wpAny_bind (wpAny_holding (thn hx fun itv s2 h2 => ?_))
  obtain ⟨it, fp, tn, J, H2, e, I2, T, st2, f2, ⟨ps, hP, htr⟩, q⟩ := h2
  subst e
  refine wpAny_bind (wpAny_enterFrame I2.nolimit (by have := hr.dp; omega) (wpAny_bind (wpAny_pure ?_)))
  -- the code
  have hPs : s2.heap.get? P = some { cls := .none, data := .fields ps } := I2.hok P _ hP
  have fpP : ∀ b ∈ fp, b ≠ P := fun b hb z => by
    have := (f2 b hb).1
    rw [z, hP] at this; cases this
  have cont : ∀ (cv : Value) (h3 : Heap) (tk : Nat) (more : Array Value), (∀ b o, b ≠ P → s2.heap.get? b = some o → h3.get? b = some o) → h3.get? P = some { cls := .none, data := .fields (ps ++ more) } → TriplesOk (ps ++ more).toList →
      wpAny (model X.prog X.w) X.A (do
        let bi ← builtinsFor X.env.globals X.env.builtins
        let cenv ← newFunctionEnv scope X.env.globals (cloFrom X.env.cells scope.names []) [(".0", .ref it)] (X.env.qual ++ "<genexpr>.") none cv none bi
        newGenerator (.compStart (.GeneratorExp elt [⟨tg, iter, ifs, 0⟩] scope pos) 0 (.ref it) .none cenv) "<genexpr>" (X.env.qual ++ "<genexpr>")) Qf X.xe { s2 with heap := h3, toks := tk } := by
    intro cv h3 tk more kp hP3 htr3
    have I3 : Inv X pins σ (upd H2 P (.tbl (ps ++ more))) { s2 with heap := h3, toks := tk } := inv_tab (g' := s2.gens) (d' := s2.drawn) I2 hP kp hP3 I2.bare
    have tab3 : Tabbed P H2 (upd H2 P (.tbl (ps ++ more))) := ⟨⟨_, upd_same, htr3⟩, fun b hb => upd_ne hb⟩
    obtain ⟨W, ⟨m0, w0⟩, turn⟩ := q _ tab3
    have st3 : tn 0 h3 := T.keep _ _ _ st2 fun b hb o e => kp b o (fpP b hb) e
    have f3 : ∀ b ∈ fp, FpOk X pins (upd H2 P (.tbl (ps ++ more))) b ∧ b < h3.objs.size := fun b hb => by
      obtain ⟨o, e, _⟩ := T.obj _ _ st3 b hb
      refine ⟨⟨?_, (f2 b hb).2⟩, Heap.lt_size e⟩
      rw [upd_ne (fpP b hb)]
      exact (f2 b hb).1
    generalize upd H2 P (.tbl (ps ++ more)) = H3 at I3 w0 f3
    generalize hs3 : ({ s2 with heap := h3, toks := tk } : Shared) = s3 at I3 ⊢
    have e3 : s3.heap = h3 := by rw [← hs3]
    rw [← e3] at st3 f3
    obtain ⟨bm, ob, b1, b2, _, b3, b4, b5, b6, b7⟩ := TB.bm
    refine wpAny_bind (wpAny_builtinsFor (m := X.mg) (by rw [I3.ok.glob]; exact I3.mod.glob.keeps I3.bk) b1 b2 (I3.bk _ _ b4) b5 b6 b7 ?_)
    -- the frame
    have kf : (gEnv X s3.heap.objs.size scope cv).kindOf (".0" : Str) = some .local := hdot
    refine wpAny_bind ?_
    simp only [newFunctionEnv, Option.isSome_none, Bool.false_eq_true, if_false]
    refine wpAny_bind (wpAny_alloc (wpAny_bind (wpAny_layCells _ (fun n k c => rfl) scope.names _ _ _ ?_)))
    rw [show ({ s3 with heap := s3.heap.push { cls := .type "frame", data := .dict #[] } } : Shared).heap.objs.size = s3.heap.objs.size + 1 from Heap.size_push ..]
    rw [List.forIn_cons]
    refine wpAny_bind (wpAny_bind (wpAny_bind ?_))
    have hn0 : (pushCells (s3.heap.push { cls := .type "frame", data := .dict #[] }) scope.names).Ns s3.heap.objs.size (fun _ => none) := (Heap.Ns.new s3.heap (.type "frame")).keeps (pushCells_keeps _ _)
    refine wpAny_storeName_local (env := gEnv X s3.heap.objs.size scope cv) (m := fun _ => none) kf hn0 (fun h4 hn4 sb4 => ?_) (by
      change (scope.kind == .class || (scope.kind == .module && _)) = false
      rw [ok.kind]; rfl)
    refine wpAny_pure ?_
    simp only [List.forIn_nil]
    refine wpAny_pure (wpAny_pure ?_)
    -- the generator
    simp only [newGenerator, newFields]
    refine wpAny_bind (wpAny_newGen (wpAny_bind (wpAny_mkText (wpAny_bind (wpAny_mkText (wpAny_newObj_type ?_ (by size_fits)))))))
    have bare3 : AllBare (s3.gens.push (.fresh (.compStart (.GeneratorExp elt [⟨tg, iter, ifs, 0⟩] scope pos) 0 (.ref it) .none (gEnv X s3.heap.objs.size scope cv)))) := I3.bare.push rfl
    have IG := gen_start (X := X) (own := own) (fp := fp) (code := cv) (g1 := s3.gens.push (.fresh (.compStart (.GeneratorExp elt [⟨tg, iter, ifs, 0⟩] scope pos) 0 (.ref it) .none (gEnv X s3.heap.objs.size scope cv)))) (t1 := s3.toks + 1 + 1 + 1)
      (B := turnA X.A (gEnv X s3.heap.objs.size scope cv) elt tg iter ifs scope pos it) I3 hc ok hN f3 (turnA_handled hr.hd) (turnA_frames I3.ok.frames) bare3 hn4 sb4
    have pg := hg s3 H3 s3.heap.objs.size cv fp it
    have pt := ht s3 H3 s3.heap.objs.size cv fp it
    have pe := he s3 H3 s3.heap.objs.size cv fp it
    have st4 : tn 0 h4 := T.keep _ _ _ st3 fun b hb o e => by
      have hne : b ≠ s3.heap.objs.size := Nat.ne_of_lt (f3 b hb).2
      rw [sb4.2 b hne]
      exact pushCells_keeps _ _ _ _ (Heap.get?_push_of_some _ e)
    change Qf (.ref h4.objs.size) { s3 with gens := s3.gens.push (.fresh (.compStart (.GeneratorExp elt [⟨tg, iter, ifs, 0⟩] scope pos) 0 (.ref it) .none (gEnv X s3.heap.objs.size scope cv))), toks := s3.toks + 1 + 1 + 1, heap := h4.push { cls := .type "generator", data := .fields #[.int s3.gens.size 0, .str "<genexpr>" (s3.toks + 1), .str (X.env.qual ++ "<genexpr>") (s3.toks + 1 + 1)] } }
    generalize hob : ({ cls := .type "generator", data := .fields #[.int s3.gens.size 0, .str "<genexpr>" (s3.toks + 1), .str (X.env.qual ++ "<genexpr>") (s3.toks + 1 + 1)] } : Obj) = ob
    have hnc : ∀ v, ob.data ≠ .cell v := fun v z => by rw [← hob] at z; cases z
    have hgen : ∀ h : Heap, h.get? h4.objs.size = some ob → h.IsGen h4.objs.size s3.gens.size := fun h e => ⟨ob, _, _, e, by rw [← hob], by rw [← hob], by rw [← hob]⟩
    generalize hge : gEnv X s3.heap.objs.size scope cv = ge at *
    generalize hYc : gCx X s3 H3 scope ge fp (turnA X.A ge elt tg iter ifs scope pos it) = Yc at IG pg pt pe
    have I5 : Inv Yc [] (wipe σ (own.map (·.2))) H3 { s3 with gens := s3.gens.push (.fresh (.compStart (.GeneratorExp elt [⟨tg, iter, ifs, 0⟩] scope pos) 0 (.ref it) .none ge)), toks := s3.toks + 1 + 1 + 1, heap := h4.push ob } := IG.kept fun b u e => Heap.get?_push_of_some _ e
    have sz4 : s3.heap.objs.size < h4.objs.size := by have := IG.lt; rw [← hYc, ← hge] at this; exact this
    have aH : H3 h4.objs.size = none := by
      have z := IG.hok.fresh (a := h4.objs.size) (Nat.le_refl _)
      exact z
    have aF : h4.objs.size ∉ Yc.fs := IG.nofs (Nat.le_refl _)
    have aL : h4.objs.size ≠ Yc.env.locals := Nat.ne_of_gt IG.lt
    have I6 : Inv Yc [(h4.objs.size, ob)] (wipe σ (own.map (·.2))) H3 { s3 with gens := s3.gens.push (.fresh (.compStart (.GeneratorExp elt [⟨tg, iter, ifs, 0⟩] scope pos) 0 (.ref it) .none ge)), toks := s3.toks + 1 + 1 + 1, heap := h4.push ob } :=
      I5.pins_of fun p hp => by
        have e : p = (h4.objs.size, ob) := by simpa using hp
        subst e
        exact ⟨Heap.get?_push_size _ (by rw [← hob]; rfl), aH, aL, aF, hnc⟩
    have genAt : ∀ {H' : Hp} {s' : Shared}, Inv Yc [(h4.objs.size, ob)] (wipe σ (own.map (·.2))) H' s' → s'.heap.IsGen h4.objs.size s3.gens.size := fun {H' s'} I' =>
      hgen _ (I'.pin (h4.objs.size, ob) (by simp)).1
    have back : ∀ {H' : Hp} {s' : Shared}, Inv Yc [(h4.objs.size, ob)] (wipe σ (own.map (·.2))) H' s' → Inv X pins σ H' s' := fun {H' s'} I' => by
      have hb := I'.base
      have ho := I'.os
      have hk := I'.hok
      rw [← hYc] at hb ho hk
      exact I3.call' (ch := fp) ho hb hk I'.bare fun b hb => ⟨(f3 b hb).1.2.2.2.1, (f3 b hb).1.2.1, (f3 b hb).1.2.2.2.2.1, (f3 b hb).1.2.2.2.2.2⟩
    have hpgf : ∀ p ∈ [(h4.objs.size, ob)], p.1 ∉ fp := fun p hp hb => by
      have e : p = (h4.objs.size, ob) := by simpa using hp
      subst e
      exact Nat.lt_asymm sz4 (f3 _ hb).2
    have Tc : Turn Yc.prog Yc.w Yc.K tg J fp it tn := by rw [← hYc]; exact T
    have segs := seg_turns (Y := Yc) (pg0 := [(h4.objs.size, ob)]) (τ := wipe σ (own.map (·.2))) (fp := fp) (tn := tn) (W := W) (elt := elt) (tg := tg) (iter := iter) (ifs := ifs) (scope := scope) (pos := pos) (it := it) (J := J) (k := k) (Q := Q) (g := g) (tt := tt) (te := te) (vs := own.map (·.2)) (B := X.A.in1.in1) (σ := σ)
      rfl (by rw [← hYc, ← hge]; exact hco) (by rw [← hYc]; exact hc) (by rw [← hYc]) Tc hpgf (by rw [← hYc]) (by rw [← hYc]) (by rw [← hYc]) pg pt pe turn
    have envY : Yc.env = ge := by rw [← hYc]
    have prY : Yc.prog = X.prog := by rw [← hYc]
    have wY : Yc.w = X.w := by rw [← hYc]
    rw [envY, prY, wY] at segs
    refine hQ _ _ ⟨_, genAt I6⟩ fun R hR => ⟨fun n s => NI Yc [(h4.objs.size, ob)] (wipe σ (own.map (·.2))) fp tn W n s ∧ ∃ gs, s.gens[s3.gens.size]? = some gs ∧
      ∀ s', NI Yc [(h4.objs.size, ob)] (wipe σ (own.map (·.2))) fp tn W n s' → gs.Goes (model X.prog X.w) X.A.in1.in1 (GEnd Yc [(h4.objs.size, ob)] (wipe σ (own.map (·.2))) k Q) (GPro Yc [(h4.objs.size, ob)] (wipe σ (own.map (·.2))) fp tn W k Q) n (.send .none) s', m0 + 1, ?_,
      ⟨0, m0, H3, Nat.le_refl _, I6, T.keep _ _ _ st4 fun b _ o e => Heap.get?_push_of_some _ e, fun b hb => (f3 b hb).1.1, w0⟩, _, Array.getElem?_push_size .., fun s' hs' => ⟨rfl, ?_⟩⟩
    · rintro n s ⟨⟨i, m, H', hmn, Ii, sti, ni, wi⟩, gs, hgs, hgo⟩ E
      have hlt : s3.gens.size < s.gens.size := (Array.getElem?_eq_some_iff.mp hgs).1
      have hni : NI Yc [(h4.objs.size, ob)] (wipe σ (own.map (·.2))) fp tn W n (s.setGen s3.gens.size .running) := NI.gens ⟨i, m, H', hmn, Ii, sti, ni, wi⟩ (allBare_setGen Ii.bare rfl)
      refine wpAny_gsz (n := s3.gens.size + 1) hlt (wpAny_pyNext_genexpQ (A := X.A.in1) (P := fun _ _ s => ∃ H', Inv Yc [(h4.objs.size, ob)] (wipe σ (own.map (fun x : Str × Nat => x.2))) H' s ∧ Q (.bl k) H') hr.hd Ii.nolimit (by
        have := hr.dp
        show X.A.depth < _
        omega) (genAt Ii) hgs (hgo _ hni) (fun v s₁ gs' hb hv => ?_) fun s₁ hp h' hk hsz => ?_)
      · intro hsz
        rw [setGen_size] at hsz
        obtain ⟨⟨t, rfl, q1, q2⟩, hk⟩ := hv
        refine ⟨t, rfl, fun e => ⟨n - 1, by omega, ?_⟩, fun e => ?_⟩
        · have q3 := q1 e
          have hbare : AllBare s₁.gens := by
            obtain ⟨_, _, _, _, I9, _⟩ := q3
            exact I9.bare
          refine ⟨q3.gens (allBare_setGen hbare hb), gs', setGen_at hsz, fun s' hs' => ?_⟩
          have z := hk s' hs'
          cases n with
          | zero => exact z.elim
          | succ n => exact z
        · obtain ⟨H9, I9, q9⟩ := q2 e
          exact hR t H9 _ (back (inv_gens (t' := s₁.toks) I9 (allBare_setGen I9.bare hb))) q9
      · obtain ⟨H9, I9, q9⟩ := hp
        have I10 : Inv Yc [(h4.objs.size, ob)] (wipe σ (own.map (·.2))) H9 { s₁.setGen s3.gens.size .finished with heap := h' } := (inv_gens (t' := s₁.toks) I9 (allBare_setGen (x := .finished) I9.bare rfl)).kept hk
        exact hR k H9 _ (back I10) q9
    · -- the first turn
      obtain ⟨i, m, H', hmn, Ii, sti, ni, wi⟩ := hs'
      have loop := segs (m0 + 1) m i s' s' H' hmn Ii sti ni wi
      change Seg _ _ _ _ _ _ _ ((compStart (.GeneratorExp elt [⟨tg, iter, ifs, 0⟩] scope pos) 0 (.ref it) .none ge).onRaise (leaving ge)) [] s'
      unfold compStart
      rw [Sem.onRaise_eq_wrap]
      change Seg _ _ _ _ _ _ _ ((ask >>= _).wrap _ _ _ _) [] s'
      refine seg_bind_wrap (wpAny_askSetting ?_)
      split
      · exact seg_again rfl loop
      · refine seg_bind_wrap (wpAny_rule ?_)
        change Seg _ _ _ _ _ _ _ ((standAt iter.pos >>= _).wrap _ _ _ _) [] s'
        exact seg_bind_wrap (wpAny_standAt (seg_bind_wrap (T.self _ i s' _ _ sti (seg_again rfl loop))))
  cases hf : codeAmong pos ps.toList with
  | none =>
    refine wpAny_bind (wpAny_genexprCodeX hcode ((TB.code.keeps I2.bk).code hPs htr) ((TB.code.keeps I2.bk).tab hPs) hf fun c' h' tk hx hge hlt hco' _ htab' _ => ?_)
    obtain ⟨o1, vs, f1, tf, fl, tg, inF, tx, tt, op, _, _, _, _, _, _, _, _, _, htr', _⟩ := hco'
    exact cont _ h' tk _ (fun b o hb e => hx b o hb e) htab'.2 htr'
  | some cv =>
    refine wpAny_bind (wpAny_genexprCode_hit hcode ((TB.code.keeps I2.bk).code hPs htr) hf ?_)
    exact cont cv s2.heap s2.toks #[] (fun _ _ _ e => e) (by simpa using hPs) (by simpa using htr)
theorem pe_gen {elt tg iter : Expr} {ifs : List Expr} {scope : Scope} {p pos gpos : Pos} {own : List (Str × Nat)} {k : Bool} {nm : Str} {g : TG} {tt : TT} {te : TE} {wi : TI} {c P : Addr} {j : Nat}
    (hk : (nm = "any" ∧ k = false) ∨ (nm = "all" ∧ k = true)) (hgl : Gl X nm) (hmg : X.mg nm = none)
    (hr : Room j X.A) (hc : X.calm = true) (hN : X.N.Nodup) (TB : TabB X.base X.mg c P) (hcode : X.env.code = .ref c) (hco : scope.isCoroutine = false) (hdot : scope.names.lookup (".0" : Str) = some NameKind.local) (hi : PI X tg iter wi) (ok : BlkOk X.N X.env.scope scope own)
    (hg : ∀ (s : Shared) (H : Hp) (n : Nat) (cd : Value) (fp : List Addr) (it : Addr), PG (gCx X s H scope (gEnv X n scope cd) fp (turnA X.A (gEnv X n scope cd) elt tg iter ifs scope gpos it)) tg g)
    (ht : ∀ (s : Shared) (H : Hp) (n : Nat) (cd : Value) (fp : List Addr) (it : Addr), PTs (gCx X s H scope (gEnv X n scope cd) fp (turnA X.A (gEnv X n scope cd) elt tg iter ifs scope gpos it)) ifs tt)
    (he : ∀ (s : Shared) (H : Hp) (n : Nat) (cd : Value) (fp : List Addr) (it : Addr), PE (gCx X s H scope (gEnv X n scope cd) fp (turnA X.A (gEnv X n scope cd) elt tg iter ifs scope gpos it)) elt te)
    (hs : ∀ v, genFold iter X.env v = pure v) :
    PE X (.Call (.Name nm p) [.GeneratorExp elt [⟨tg, iter, ifs, 0⟩] scope gpos] [] pos) (tGen k P wi g tt te (own.map (·.2))) := by
  have hse : starEach [.GeneratorExp elt [⟨tg, iter, ifs, 0⟩] scope gpos] X.env = (false, eval (.GeneratorExp elt [⟨tg, iter, ifs, 0⟩] scope gpos) X.env) :: starEach [] X.env := by rfl
  refine ⟨fun pins s σ H Q I h => ?_⟩
  rcases hk with ⟨rfl, rfl⟩ | ⟨rfl, rfl⟩
  · refine wpAny_Call_Name_kw (ld_blt I hgl hmg boot_any ?_)
    refine PyProof.Rows.callWith_builtin1 ?_ hse (by rfl)
    rw [hse]
    change wpAny _ _ (spliced ((false, eval (.GeneratorExp elt [⟨tg, iter, ifs, 0⟩] scope gpos) X.env) :: backTo pos (starEach [] X.env))) _ _ s
    refine Calls.spliced_cons (gen_made hr hc hN TB hcode hco hdot hi ok hg ht he hs I h fun a s5 ⟨g, hga⟩ hT => ?_)
    refine Calls.spliced_nil (call_function_tree F.kind_any F.plain_any F.entry_any (F.args_any1 _) ?_)
    unfold Builtin.«any»
    refine wpAny_bind (m := oneArg "any" _) (wpAny_pure (wpAny_bind (wpAny_pyIter_gen hga ?_)))
    obtain ⟨St, n, ht, hst⟩ := hT (fun r s' => match r with | .ok (.ret v) => EP X pins σ Q v s' | .ok _ => False | .error e => X.xe e s') fun t H' s' I' q => ⟨.bl t, H', I', rfl, q⟩
    exact wpAny_pure ⟨plainId_quiet F.plain_any_loop _, any_loop ht n _ hst⟩
  · refine wpAny_Call_Name_kw (ld_blt I hgl hmg (by rfl) ?_)
    refine PyProof.Rows.callWith_builtin1 ?_ hse (by rfl)
    rw [hse]
    change wpAny _ _ (spliced ((false, eval (.GeneratorExp elt [⟨tg, iter, ifs, 0⟩] scope gpos) X.env) :: backTo pos (starEach [] X.env))) _ _ s
    refine Calls.spliced_cons (gen_made hr hc hN TB hcode hco hdot hi ok hg ht he hs I h fun a s5 ⟨g, hga⟩ hT => ?_)
    refine Calls.spliced_nil (call_function_tree F.kind_all F.plain_all F.entry_all (F.args_all1 _) ?_)
    unfold Builtin.«all»
    refine wpAny_bind (m := oneArg "all" _) (wpAny_pure (wpAny_bind (wpAny_pyIter_gen hga ?_)))
    obtain ⟨St, n, ht, hst⟩ := hT (fun r s' => match r with | .ok (.ret v) => EP X pins σ Q v s' | .ok _ => False | .error e => X.xe e s') fun t H' s' I' q => ⟨.bl t, H', I', rfl, q⟩
    exact wpAny_pure ⟨plainId_quiet F.plain_all_loop _, all_loop ht n _ hst⟩
end
end GenD
set_option maxHeartbeats 4000000
namespace Ev
open PySem PySem.Spec PyProof.Rows L2

/-! ### data in the abstract heap -/
/-- the script: locked, or of the written part -/
def SqF (K : PySem.W.Frag) (H : Hp) (a : Addr) (xs : List V) : Prop := (∃ o, H a = some (.frz o (.lst xs))) ∨
    ∃ (o : Obj) (its : Array Value) (n : Nat), K.lookup a = some o ∧ o.cls = .type "list" ∧ o.dict = none ∧ o.data = .seq its n ∧ its.size ≤ sizeLine ∧ Vals xs its.toList
theorem SqF.sq {K : PySem.W.Frag} {H : Hp} {a : Addr} {xs : List V} (h : SqF K H a xs) : SqL K H a xs := by
  rcases h with h | h
  · exact .inl (.inr h)
  · exact .inr h
/-- a dict stands there, with these keys and values (t: the keys are tuples) -/
def DHp (H : Hp) (a : Addr) (t : Bool) (ks : List D) (vs : List V) : Prop := match t with
  | false => ∃ kvs : List (Key × V), H a = some (.dK kvs) ∧ kvs.map (fun p => keyD p.1) = ks ∧ kvs.map (fun p => p.2) = vs
  | true => ∃ kvs : List (List Key × V), H a = some (.dT kvs) ∧ kvs.map (fun p => D.tup (p.1.map keyD)) = ks ∧ kvs.map (fun p => p.2) = vs
def IsDic : HO → Prop
  | .dK _ => True
  | .dT _ => True
  | _ => False
theorem DHp.there {H : Hp} {a : Addr} {t : Bool} {ks : List D} {vs : List V} (h : DHp H a t ks vs) : ∃ u, H a = some u ∧ IsDic u := by
  cases t with
  | false => obtain ⟨kvs, h, _⟩ := h; exact ⟨_, h, trivial⟩
  | true => obtain ⟨kvs, h, _⟩ := h; exact ⟨_, h, trivial⟩
theorem DHp.same {H H' : Hp} {a : Addr} {t : Bool} {ks : List D} {vs : List V} (h : DHp H a t ks vs) (e : ∀ u, IsDic u → H a = some u → H' a = some u) : DHp H' a t ks vs := by
  cases t with
  | false => obtain ⟨kvs, h, q⟩ := h; exact ⟨kvs, e _ trivial h, q⟩
  | true => obtain ⟨kvs, h, q⟩ := h; exact ⟨kvs, e _ trivial h, q⟩
/-- a tuple by its very object -/
def TupO (o : Obj) : Prop := o.cls = .type "tuple" ∧ o.dict = none
def SqN (K : PySem.W.Frag) (H : Hp) (a : Addr) (xs : List V) : Prop := (∃ o, TupO o ∧ H a = some (.frz o (.tup xs))) ∨
    ∃ (o : Obj) (its : Array Value) (n : Nat), K.lookup a = some o ∧ TupO o ∧ o.data = .seq its n ∧ its.size ≤ sizeLine ∧ Vals xs its.toList
theorem SqN.t {K : PySem.W.Frag} {H : Hp} {a : Addr} {xs : List V} (h : SqN K H a xs) : SqT K H a xs := by
  rcases h with ⟨o, _, h⟩ | ⟨o, its, n, hk, hc, hd, hz, r⟩
  · exact .inl (.inr ⟨o, h⟩)
  · exact .inr ⟨o, its, n, hk, hc.1, hd, hz, r⟩
theorem SqN.of {K : PySem.W.Frag} {H : Hp} {a : Addr} {xs : List V} {o : Obj} (ho : TupO o) (h : H a = some (.frz o (.tup xs))) : SqN K H a xs := .inl ⟨o, ho, h⟩
mutual
inductive Rep (K : PySem.W.Frag) (H : Hp) : (Addr → Prop) → V → D → Prop
  | non {P : Addr → Prop} : Rep K H P .non .non
  | bl {P : Addr → Prop} (b : Bool) : Rep K H P (.bl b) (.bl b)
  | int {P : Addr → Prop} (i : Int) : Rep K H P (.int i) (.int i)
  | str {P : Addr → Prop} (x : Str) : Rep K H P (.str x) (.str x)
  | tup {P : Addr → Prop} {a : Addr} {vs : List V} {ds : List D} : SqN K H a vs → Reps K H P vs ds → Rep K H P (.ref a) (.tup ds)
  | lst {P : Addr → Prop} {a : Addr} {vs : List V} {ds : List D} : P a → H a = some (.lst vs) → Reps K H (fun b => P b ∧ b ≠ a) vs ds → Rep K H P (.ref a) (.lst ds)
  | scr {P : Addr → Prop} {a : Addr} {ns : List Int} : SqF K H a (ns.map V.int) → Rep K H P (.ref a) (.scr ns)
  | dic {P : Addr → Prop} {a : Addr} {t : Bool} {ks ds : List D} {vs : List V} : P a → DHp H a t ks vs → Reps K H (fun b => P b ∧ b ≠ a) vs ds → Rep K H P (.ref a) (.dic t ks ds)
inductive Reps (K : PySem.W.Frag) (H : Hp) : (Addr → Prop) → List V → List D → Prop
  | nil {P : Addr → Prop} : Reps K H P [] []
  | cons {P : Addr → Prop} {v : V} {vs : List V} {d : D} {ds : List D} : Rep K H P v d → Reps K H P vs ds → Reps K H P (v :: vs) (d :: ds)
end
def Any : Addr → Prop := fun _ => True
/-- what was not there in H -/
def New (H : Hp) : Addr → Prop := fun a => H a = none
/-- all that was there stands as it was (tables may grow) -/
structure Ext (H H' : Hp) : Prop where
  at_ : ∀ a o, H a = some o → (∀ ps, o ≠ .tbl ps) → H' a = some o
  tb : ∀ a ps, H a = some (.tbl ps) → ∃ ps', H' a = some (.tbl ps') ∧ (TriplesOk ps.toList → TriplesOk ps'.toList)
theorem Ext.refl (H : Hp) : Ext H H := ⟨fun _ _ h _ => h, fun a ps h => ⟨ps, h, fun z => z⟩⟩
theorem Ext.trans {H H1 H2 : Hp} (a : Ext H H1) (b : Ext H1 H2) : Ext H H2 :=
  ⟨fun x o h n => b.at_ x o (a.at_ x o h n) n, fun x ps h => by
    obtain ⟨m, e, z⟩ := a.tb x ps h
    obtain ⟨m2, e2, z2⟩ := b.tb x _ e
    exact ⟨m2, e2, fun q => z2 (z q)⟩⟩
theorem Ext.new {H : Hp} {p : Addr} {o : HO} (h : H p = none) : Ext H (upd H p o) :=
  ⟨fun a u e _ => by rw [upd_ne (ne_of_none e h)]; exact e, fun a ps e => ⟨ps, by rw [upd_ne (ne_of_none e h), e], fun z => z⟩⟩
theorem Ext.none {H H' : Hp} (e : Ext H H') {a : Addr} (h : H' a = none) : H a = none := by
  cases q : H a with
  | none => rfl
  | some o =>
    cases o with
    | tbl ps => obtain ⟨m, z, _⟩ := e.tb a ps q; rw [z] at h; cases h
    | _ => rw [e.at_ a _ q (fun _ z => by cases z)] at h; cases h
/-- the tables of the defs' code objects -/
class Tabs where
  cs : List (Addr × Addr)
/-- .. stand in H -/
def Tk [Tabs] (H : Hp) : Prop := ∀ p ∈ Tabs.cs, GxR.TabG H p.2
theorem Ext.tk [Tabs] {H H' : Hp} (e : Ext H H') (h : Tk H) : Tk H' := fun p hp => by
  obtain ⟨ps, h1, h2⟩ := h p hp
  obtain ⟨ps', h3, h4⟩ := e.tb p.2 ps h1
  exact ⟨ps', h3, h4 h2⟩
theorem ext_tabbed {P : Addr} {H H' : Hp} (h : GxR.TabG H P) (t : GxR.Tabbed P H H') : Ext H H' := by
  obtain ⟨ps, h1, h2⟩ := h
  obtain ⟨⟨ps', h3, h4⟩, h5⟩ := t
  refine ⟨fun a o e n => ?_, fun a qs e => ?_⟩
  · rw [h5 a fun z => by subst z; rw [h1] at e; cases e; exact n ps rfl]
    exact e
  · by_cases ha : a = P
    · subst ha
      exact ⟨ps', h3, fun _ => h4⟩
    · exact ⟨qs, by rw [h5 a ha]; exact e, fun z => z⟩
/-- tuples and frozen things stay -/
structure Stay (P : Addr → Prop) (H H' : Hp) : Prop where
  tup : ∀ a xs, H a = some (.tup xs) → H' a = some (.tup xs)
  frz : ∀ a o u, H a = some (.frz o u) → H' a = some (.frz o u)
  lst : ∀ a xs, P a → H a = some (.lst xs) → H' a = some (.lst xs)
  dic : ∀ a u, P a → IsDic u → H a = some u → H' a = some u
theorem Ext.stay {H H' : Hp} (e : Ext H H') (P : Addr → Prop) : Stay P H H' :=
  ⟨fun a xs h => e.at_ a _ h (fun _ z => by cases z), fun a o u h => e.at_ a _ h (fun _ z => by cases z), fun a xs _ h => e.at_ a _ h (fun _ z => by cases z), fun a u _ i h => e.at_ a _ h (fun _ z => by subst z; exact i)⟩
theorem sqT_stay {K : PySem.W.Frag} {H H' : Hp} {P : Addr → Prop} {a : Addr} {xs : List V} (h : SqT K H a xs) (s : Stay P H H') : SqT K H' a xs := by
  rcases h with (h | ⟨o, h⟩) | h
  · exact .inl (.inl (s.tup _ _ h))
  · exact .inl (.inr ⟨o, s.frz _ _ _ h⟩)
  · exact .inr h
theorem sqN_stay {K : PySem.W.Frag} {H H' : Hp} {P : Addr → Prop} {a : Addr} {xs : List V} (h : SqN K H a xs) (s : Stay P H H') : SqN K H' a xs := by
  rcases h with ⟨o, ho, h⟩ | h
  · exact .inl ⟨o, ho, s.frz _ _ _ h⟩
  · exact .inr h
theorem sqF_stay {K : PySem.W.Frag} {H H' : Hp} {P : Addr → Prop} {a : Addr} {xs : List V} (h : SqF K H a xs) (s : Stay P H H') : SqF K H' a xs := by
  rcases h with ⟨o, h⟩ | h
  · exact .inl ⟨o, s.frz _ _ _ h⟩
  · exact .inr h
theorem Stay.sub {P P' : Addr → Prop} {H H' : Hp} (s : Stay P H H') (h : ∀ a, P' a → P a) : Stay P' H H' := ⟨s.tup, s.frz, fun a xs p e => s.lst a xs (h a p) e, fun a u p i e => s.dic a u (h a p) i e⟩
mutual
theorem Rep.stay {K : PySem.W.Frag} {H H' : Hp} : ∀ {P Q : Addr → Prop} {v : V} {d : D}, Stay P H H' → (∀ a, P a → Q a) → Rep K H P v d → Rep K H' Q v d
  | _, _, _, _, _, _, .non => .non
  | _, _, _, _, _, _, .bl b => .bl b
  | _, _, _, _, _, _, .int i => .int i
  | _, _, _, _, _, _, .str x => .str x
  | _, _, _, _, s, hq, .tup h r => .tup (sqN_stay h s) (Reps.stay s hq r)
  | _, _, _, _, s, hq, .lst p h r => .lst (hq _ p) (s.lst _ _ p h) (Reps.stay (s.sub fun _ z => z.1) (fun _ z => ⟨hq _ z.1, z.2⟩) r)
  | _, _, _, _, s, hq, .scr h => .scr (sqF_stay h s)
  | _, _, _, _, s, hq, .dic p h r => .dic (hq _ p) (h.same fun u i e => s.dic _ u p i e) (Reps.stay (s.sub fun _ z => z.1) (fun _ z => ⟨hq _ z.1, z.2⟩) r)
theorem Reps.stay {K : PySem.W.Frag} {H H' : Hp} : ∀ {P Q : Addr → Prop} {vs : List V} {ds : List D}, Stay P H H' → (∀ a, P a → Q a) → Reps K H P vs ds → Reps K H' Q vs ds
  | _, _, _, _, _, _, .nil => .nil
  | _, _, _, _, s, hq, .cons r t => .cons (Rep.stay s hq r) (Reps.stay s hq t)
end
section
variable {K : PySem.W.Frag} {H H' : Hp} {P Q : Addr → Prop} {v : V} {vs : List V} {d : D} {ds : List D}
theorem stay_refl : Stay P H H := (Ext.refl H).stay P
theorem Rep.stay' (r : Rep K H P v d) (s : Stay P H H') (hq : ∀ a, P a → Q a) : Rep K H' Q v d := Rep.stay s hq r
theorem Reps.stay' (r : Reps K H P vs ds) (s : Stay P H H') (hq : ∀ a, P a → Q a) : Reps K H' Q vs ds := Reps.stay s hq r
theorem Rep.ext (r : Rep K H P v d) (e : Ext H H') : Rep K H' P v d := r.stay' (e.stay P) fun _ p => p
theorem Reps.ext (r : Reps K H P vs ds) (e : Ext H H') : Reps K H' P vs ds := r.stay' (e.stay P) fun _ p => p
theorem Rep.mono (r : Rep K H P v d) (h : ∀ a, P a → Q a) : Rep K H Q v d := r.stay' stay_refl h
theorem Reps.mono (r : Reps K H P vs ds) (h : ∀ a, P a → Q a) : Reps K H Q vs ds := r.stay' stay_refl h
theorem Rep.any (r : Rep K H P v d) : Rep K H Any v d := r.mono fun _ _ => trivial
theorem Reps.any (r : Reps K H P vs ds) : Reps K H Any vs ds := r.mono fun _ _ => trivial
end
mutual
theorem Rep.there {K : PySem.W.Frag} {H : Hp} : ∀ {P : Addr → Prop} {v : V} {d : D}, Rep K H P v d → Rep K H (fun a => P a ∧ H a ≠ none) v d
  | _, _, _, .non => .non
  | _, _, _, .bl b => .bl b
  | _, _, _, .int i => .int i
  | _, _, _, .str x => .str x
  | _, _, _, .tup h r => .tup h (Reps.there r)
  | _, _, _, .lst p h r => .lst ⟨p, by rw [h]; simp⟩ h (Reps.stay stay_refl (fun _ z => ⟨⟨z.1.1, z.2⟩, z.1.2⟩) (Reps.there r))
  | _, _, _, .scr h => .scr h
  | _, _, _, .dic p h r => .dic ⟨p, by obtain ⟨u, e, _⟩ := h.there; rw [e]; simp⟩ h (Reps.stay stay_refl (fun _ z => ⟨⟨z.1.1, z.2⟩, z.1.2⟩) (Reps.there r))
theorem Reps.there {K : PySem.W.Frag} {H : Hp} : ∀ {P : Addr → Prop} {vs : List V} {ds : List D}, Reps K H P vs ds → Reps K H (fun a => P a ∧ H a ≠ none) vs ds
  | _, _, _, .nil => .nil
  | _, _, _, .cons r t => .cons (Rep.there r) (Reps.there t)
end
mutual
/-- what cannot be changed stands anywhere -/
theorem Rep.imm0 {K : PySem.W.Frag} {H H' : Hp} : ∀ {P Q R : Addr → Prop} {v : V} {d : D}, Stay R H H' → Rep K H P v d → d.imm = true → Rep K H' Q v d
  | _, _, _, _, _, s, .non, _ => .non
  | _, _, _, _, _, s, .bl b, _ => .bl b
  | _, _, _, _, _, s, .int i, _ => .int i
  | _, _, _, _, _, s, .str x, _ => .str x
  | _, _, _, _, _, s, .tup h r, e => .tup (sqN_stay h s) (Reps.imm0 s r (by simpa [D.imm] using e))
  | _, _, _, _, _, s, .lst _ _ _, e => absurd e (by simp [D.imm])
  | _, _, _, _, _, s, .scr _, e => absurd e (by simp [D.imm])
  | _, _, _, _, _, s, .dic _ _ _, e => absurd e (by simp [D.imm])
theorem Reps.imm0 {K : PySem.W.Frag} {H H' : Hp} : ∀ {P Q R : Addr → Prop} {vs : List V} {ds : List D}, Stay R H H' → Reps K H P vs ds → D.imms ds = true → Reps K H' Q vs ds
  | _, _, _, _, _, s, .nil, _ => .nil
  | _, _, _, _, _, s, .cons r t, e => by
    simp only [D.imms, Bool.and_eq_true] at e
    exact .cons (Rep.imm0 s r e.1) (Reps.imm0 s t e.2)
end
theorem Rep.imm {K : PySem.W.Frag} {H H' : Hp} {P Q R : Addr → Prop} (s : Stay R H H') {v : V} {d : D} (r : Rep K H P v d) (h : d.imm = true) : Rep K H' Q v d := Rep.imm0 s r h
theorem Reps.imm {K : PySem.W.Frag} {H H' : Hp} {P Q R : Addr → Prop} (s : Stay R H H') {vs : List V} {ds : List D} (r : Reps K H P vs ds) (h : D.imms ds = true) : Reps K H' Q vs ds := Reps.imm0 s r h
mutual
/-- .. as the library's data -/
theorem Rep.dp {K : PySem.W.Frag} {H : Hp} : ∀ {P : Addr → Prop} {v : V} {d : D}, Rep K H P v d → d.py.plain = true → Dp K H v d.py
  | _, _, _, .non, _ => by rw [D.py]; exact .non
  | _, _, _, .bl b, _ => by rw [D.py]; exact .bl b
  | _, _, _, .int i, _ => by rw [D.py]; exact .int i
  | _, _, _, .str x, _ => by rw [D.py]; exact .str x
  | _, _, _, .tup h r, e => by
    rw [D.py] at e ⊢
    exact .tup h.t (Reps.dps r (by simpa [PyData.plain] using e))
  | _, _, _, .lst _ h r, e => by
    rw [D.py] at e ⊢
    exact .lst (SqL.of h) (Reps.dps r (by simpa [PyData.plain] using e))
  | _, _, _, .dic _ _ _, e => by
    simp [D.py, PyData.plain] at e
  | _, _, _, .scr _, e => by
    rw [D.py] at e
    exact absurd e (by simp [PyData.plain])
theorem Reps.dps {K : PySem.W.Frag} {H : Hp} : ∀ {P : Addr → Prop} {vs : List V} {ds : List D}, Reps K H P vs ds → PyData.plainAll (D.pys ds) = true → DpAll K H vs (D.pys ds)
  | _, _, _, .nil, _ => by rw [D.pys]; exact .nil
  | _, _, _, .cons r t, e => by
    rw [D.pys] at e ⊢
    simp only [PyData.plainAll, Bool.and_eq_true] at e
    exact .cons (Rep.dp r e.1) (Reps.dps t e.2)
end
section
variable {K : PySem.W.Frag} {H H' : Hp} {P Q : Addr → Prop} {v : V} {vs ws : List V} {d : D} {ds es : List D}
theorem Reps.length : ∀ {vs : List V} {ds : List D}, Reps K H P vs ds → vs.length = ds.length
  | _, _, .nil => rfl
  | _, _, .cons _ t => by simp [t.length]
theorem Reps.get : ∀ {vs : List V} {ds : List D} {i : Nat} {d : D}, Reps K H P vs ds → ds[i]? = some d → ∃ v, vs[i]? = some v ∧ Rep K H P v d
  | _, _, _, _, .nil, e => by simp at e
  | _, _, 0, _, .cons r _, e => by simp at e; subst e; exact ⟨_, rfl, r⟩
  | _, _, i + 1, d, .cons _ t, e => by
    obtain ⟨v, h1, h2⟩ := Reps.get (i := i) (d := d) t (by simpa using e)
    exact ⟨v, by simpa using h1, h2⟩
theorem Reps.getV : ∀ {vs : List V} {ds : List D} {i : Nat} {v : V}, Reps K H P vs ds → vs[i]? = some v → ∃ d, ds[i]? = some d ∧ Rep K H P v d
  | _, _, _, _, .nil, e => by simp at e
  | _, _, 0, _, .cons r _, e => by simp at e; subst e; exact ⟨_, rfl, r⟩
  | _, _, i + 1, v, .cons _ t, e => by
    obtain ⟨d, h1, h2⟩ := Reps.getV (i := i) (v := v) t (by simpa using e)
    exact ⟨d, by simpa using h1, h2⟩
theorem Reps.append : ∀ {vs ws : List V} {ds es : List D}, Reps K H P vs ds → Reps K H P ws es → Reps K H P (vs ++ ws) (ds ++ es)
  | _, _, _, _, .nil, s => s
  | _, _, _, _, .cons r t, s => .cons r (Reps.append t s)
theorem Reps.take : ∀ {vs : List V} {ds : List D} (n : Nat), Reps K H P vs ds → Reps K H P (vs.take n) (ds.take n)
  | _, _, 0, _ => by simp; exact .nil
  | _, _, _ + 1, .nil => by simp; exact .nil
  | _, _, n + 1, .cons r t => by simp; exact .cons r (Reps.take n t)
theorem Reps.drop : ∀ {vs : List V} {ds : List D} (n : Nat), Reps K H P vs ds → Reps K H P (vs.drop n) (ds.drop n)
  | _, _, 0, r => r
  | _, _, _ + 1, .nil => by simp; exact .nil
  | _, _, n + 1, .cons _ t => by simp; exact Reps.drop n t
theorem Reps.set {x : V} {y : D} (r : Rep K H P x y) : ∀ {vs : List V} {ds : List D} (i : Nat), Reps K H P vs ds → Reps K H P (vs.set i x) (ds.set i y)
  | _, _, _, .nil => by simp; exact .nil
  | _, _, 0, .cons _ t => .cons r t
  | _, _, i + 1, .cons q t => .cons q (Reps.set r i t)
theorem Reps.rep {vs : List V} {ds : List D} (r : Reps K H P vs ds) : ∀ n : Nat, Reps K H P (List.replicate n vs).flatten (List.replicate n ds).flatten
  | 0 => by simp; exact .nil
  | n + 1 => by simp only [List.replicate_succ, List.flatten_cons]; exact r.append (Reps.rep r n)
theorem Reps.ints : ∀ {vs : List V} {ds : List D} {ns : List Int}, Reps K H P vs ds → mapO intOf ds = some ns → vs = ns.map V.int
  | _, _, _, .nil, e => by simp [mapO] at e; subst e; rfl
  | _, _, ns, .cons (d := d) (ds := ds) r t, e => by
    simp only [mapO, Option.bind_eq_some_iff] at e
    obtain ⟨i, h1, ms, h2, h3⟩ := e
    cases h3
    have hd : d = .int i := by cases d <;> simp_all [intOf]
    subst hd
    cases r
    rw [t.ints h2]; rfl
theorem Reps.bls : ∀ {vs : List V} {ds : List D} {ns : List Bool}, Reps K H P vs ds → mapO boolOf ds = some ns → vs = ns.map V.bl
  | _, _, _, .nil, e => by simp [mapO] at e; subst e; rfl
  | _, _, ns, .cons (d := d) (ds := ds) r t, e => by
    simp only [mapO, Option.bind_eq_some_iff] at e
    obtain ⟨i, h1, ms, h2, h3⟩ := e
    cases h3
    have hd : d = .bl i := by cases d <;> simp_all [boolOf]
    subst hd
    cases r
    rw [t.bls h2]; rfl
theorem Rep.int_inv {i : Int} (r : Rep K H P v (.int i)) : v = .int i := by cases r; rfl
theorem Rep.bl_inv {b : Bool} (r : Rep K H P v (.bl b)) : v = .bl b := by cases r; rfl
theorem Rep.str_inv {b : Str} (r : Rep K H P v (.str b)) : v = .str b := by cases r; rfl
theorem Rep.non_inv (r : Rep K H P v .non) : v = .non := by cases r; rfl
theorem Rep.tup_inv (r : Rep K H P v (.tup ds)) : ∃ a vs, v = .ref a ∧ SqT K H a vs ∧ Reps K H P vs ds := by
  cases r with
  | tup h r => exact ⟨_, _, rfl, h.t, r⟩
theorem Rep.tup_invN (r : Rep K H P v (.tup ds)) : ∃ a vs, v = .ref a ∧ SqN K H a vs ∧ Reps K H P vs ds := by
  cases r with
  | tup h r => exact ⟨_, _, rfl, h, r⟩
/-- a thing that is taken apart at once: a tuple of any kind will do -/
def RepT (b : Bool) (K : PySem.W.Frag) (H : Hp) (P : Addr → Prop) (v : V) (d : D) : Prop := Rep K H P v d ∨ (b = true ∧ ∃ a vs ds, v = .ref a ∧ d = .tup ds ∧ SqT K H a vs ∧ Reps K H P vs ds)
theorem RepT.mono {b : Bool} (r : RepT b K H P v d) (h : ∀ a, P a → Q a) : RepT b K H Q v d := by
  rcases r with r | ⟨hb, a, vs, ds, e1, e2, h1, h2⟩
  · exact .inl (r.mono h)
  · exact .inr ⟨hb, a, vs, ds, e1, e2, h1, h2.mono h⟩
theorem RepT.any {b : Bool} (r : RepT b K H P v d) : RepT b K H Any v d := r.mono fun _ _ => trivial
theorem RepT.nm (r : RepT false K H P v d) : Rep K H P v d := by
  rcases r with r | ⟨hb, _⟩
  · exact r
  · cases hb
theorem RepT.tup {b : Bool} (r : RepT b K H P v (.tup ds)) : ∃ a vs, v = .ref a ∧ SqT K H a vs ∧ Reps K H P vs ds := by
  rcases r with r | ⟨hb, a, vs, ds, e1, e2, h1, h2⟩
  · exact r.tup_inv
  · cases e2; exact ⟨a, vs, e1, h1, h2⟩
theorem Rep.lst_inv (r : Rep K H P v (.lst ds)) : ∃ a vs, v = .ref a ∧ P a ∧ H a = some (.lst vs) ∧ Reps K H P vs ds := by
  cases r with
  | lst p h r => exact ⟨_, _, rfl, p, h, r.mono fun _ z => z.1⟩
theorem Rep.lst_inv' (r : Rep K H P v (.lst ds)) : ∃ a vs, v = .ref a ∧ P a ∧ H a = some (.lst vs) ∧ Reps K H (fun b => P b ∧ b ≠ a) vs ds := by
  cases r with
  | lst p h r => exact ⟨_, _, rfl, p, h, r⟩
theorem Rep.scr_inv {ns : List Int} (r : Rep K H P v (.scr ns)) : ∃ a, v = .ref a ∧ SqF K H a (ns.map V.int) := by
  cases r with
  | scr h => exact ⟨_, rfl, h⟩
/-- it can be changed, and be owned -/
def isMut : D → Bool
  | .lst _ => true
  | .dic _ _ _ => true
  | _ => false
/-- the items of a list, the values of a dict -/
def inside : D → List D
  | .lst ds => ds
  | .dic _ _ ds => ds
  | _ => []
/-- the object of such a datum: a list, a dict with these keys -/
def BxAt (H : Hp) (a : Addr) (d : D) (vs : List V) : Prop := match d with
  | .lst _ => H a = some (.lst vs)
  | .dic t ks _ => DHp H a t ks vs
  | _ => False
def MutO : HO → Prop
  | .lst _ => True
  | .dK _ => True
  | .dT _ => True
  | _ => False
theorem BxAt.there {H : Hp} {a : Addr} {d : D} {vs : List V} (h : BxAt H a d vs) : ∃ u, H a = some u ∧ MutO u := by
  cases d with
  | lst ds => exact ⟨_, h, trivial⟩
  | dic t ks ds =>
    cases t with
    | false => obtain ⟨kvs, h, _⟩ := h; exact ⟨_, h, trivial⟩
    | true => obtain ⟨kvs, h, _⟩ := h; exact ⟨_, h, trivial⟩
  | _ => exact h.elim
theorem BxAt.same {H H' : Hp} {a : Addr} {d : D} {vs : List V} (h : BxAt H a d vs) (e : ∀ u, MutO u → H a = some u → H' a = some u) : BxAt H' a d vs := by
  cases d with
  | lst ds => exact e _ trivial h
  | dic t ks ds => exact DHp.same h fun u i q => e u (by cases u <;> first | trivial | exact i.elim) q
  | _ => exact h.elim
theorem BxAt.mut {H : Hp} {a : Addr} {d : D} {vs : List V} (h : BxAt H a d vs) : isMut d = true := by
  cases d <;> first | rfl | exact h.elim
theorem BxAt.ext {H H' : Hp} {a : Addr} {d : D} {vs : List V} (h : BxAt H a d vs) (x : Ext H H') : BxAt H' a d vs := h.same fun u i q => x.at_ _ _ q (fun _ z => by subst z; exact i)
theorem BxAt.rep {a : Addr} (h : BxAt H a d vs) (p : P a) (r : Reps K H (fun b => P b ∧ b ≠ a) vs (inside d)) : Rep K H P (.ref a) d := by
  cases d with
  | lst ds => exact .lst p h r
  | dic t ks ds => exact .dic p h r
  | _ => exact h.elim
theorem Rep.mut_inv (r : Rep K H P v d) (h : isMut d = true) : ∃ a vs, v = .ref a ∧ P a ∧ BxAt H a d vs ∧ Reps K H (fun b => P b ∧ b ≠ a) vs (inside d) := by
  cases r with
  | lst p q r => exact ⟨_, _, rfl, p, q, r⟩
  | dic p q r => exact ⟨_, _, rfl, p, q, r⟩
  | _ => cases h
theorem kOf_keyD (k : Key) : kOf (keyD k) = some k := by cases k <;> rfl
theorem Rep.key {k : Key} (r : Rep K H P v d) (e : kOf d = some k) : v = kV k := by
  cases r <;> simp [kOf] at e <;> subst e <;> rfl
/-- what a dict holds, and what its datum holds -/
theorem get_rep {k : Key} : ∀ {kvs : List (Key × V)} {ds : List D}, Reps K H P (kvs.map fun p => p.2) ds → match getK (kvs.map fun p => keyD p.1) ds k with
    | some d => ∃ v, valV kvs k = some v ∧ Rep K H P v d
    | none => valV kvs k = none
  | [], [], .nil => rfl
  | p :: kvs, d :: ds, .cons r t => by
    have ih := get_rep (k := k) t
    by_cases h : p.1 = k
    · have e1 : getK ((p :: kvs).map fun p => keyD p.1) (d :: ds) k = some d := by
        simp [getK, List.find?_cons, kOf_keyD, h]
      rw [e1]
      exact ⟨p.2, valV_pos h, r⟩
    · have e1 : getK ((p :: kvs).map fun p => keyD p.1) (d :: ds) k = getK (kvs.map fun p => keyD p.1) ds k := by
        simp [getK, List.find?_cons, kOf_keyD, h]
      rw [e1, valV_neg h]
      exact ih
theorem has_rep {kvs : List (Key × V)} {k : Key} : hasK (kvs.map fun p => keyD p.1) k = kvs.any fun kv => decide (kv.1 = k) := by
  unfold hasK
  rw [List.any_map]
  congr 1; funext p
  simp [kOf_keyD]
theorem zip_rep {k : Key} {v : V} {d : D} (rv : Rep K H P v d) : ∀ {kvs : List (Key × V)} {ds : List D}, Reps K H P (kvs.map fun p => p.2) ds → Reps K H P ((kvs.map fun kv => if kv.1 = k then (kv.1, v) else kv).map fun p => p.2) (((kvs.map fun p => keyD p.1).zip ds).map fun p => if kOf p.1 = some k then d else p.2)
  | [], [], .nil => .nil
  | p :: kvs, e :: ds, .cons r t => by
    have ih := zip_rep (k := k) rv t
    by_cases h : p.1 = k
    · simp only [List.map_cons, List.zip_cons_cons, kOf_keyD, h, if_true]
      exact .cons rv (by simpa using ih)
    · have h2 : ¬ some p.1 = some k := fun z => h (Option.some.inj z)
      simp only [List.map_cons, List.zip_cons_cons, kOf_keyD, if_neg h, if_neg h2]
      exact .cons r (by simpa using ih)
theorem put_rep {k : Key} {v : V} {d : D} (rv : Rep K H P v d) {kvs : List (Key × V)} {ds : List D} (r : Reps K H P (kvs.map fun p => p.2) ds) :
    (putK kvs k v).map (fun p => keyD p.1) = putKs (kvs.map fun p => keyD p.1) k ∧ Reps K H P ((putK kvs k v).map fun p => p.2) (putVs (kvs.map fun p => keyD p.1) ds k d) := by
  unfold putK putKs putVs
  rw [has_rep]
  by_cases h : (kvs.any fun kv => decide (kv.1 = k)) = true
  · rw [if_pos h, if_pos h, if_pos h]
    refine ⟨?_, zip_rep rv r⟩
    rw [List.map_map]
    refine List.map_congr_left fun p _ => ?_
    simp only [Function.comp]
    split <;> rfl
  · rw [if_neg h, if_neg h, if_neg h, List.map_append, List.map_append]
    exact ⟨rfl, r.append (.cons rv .nil)⟩
theorem imm_mut {d : D} (h : d.imm = true) (m : isMut d = true) : False := by
  cases d <;> simp [D.imm, isMut] at h m
end
def D.imm1 : D → Bool
  | .lst ds => D.imms ds
  | .dic _ _ ds => D.imms ds
  | d => d.imm
/-- what is wanted of a result d: the heap has grown, d stands at old places of P or new ones -/
def Res (K : PySem.W.Frag) (H : Hp) (P : Addr → Prop) (d : D) (Q : VK) : Prop :=
  ∀ v H', Ext H H' → Rep K H' (fun a => P a ∨ H a = none) v d → (d.imm1 = true → Rep K H' (New H) v d) → Q v H'
section
variable {K : PySem.W.Frag} {H H1 H' : Hp} {P Q' : Addr → Prop} {v : V} {vs ws : List V} {d : D} {ds es : List D} {Q : VK}
theorem Res.here (q : Res K H P d Q) (r : Rep K H P v d) (i : d.imm = true) : Q v H :=
  q v H (Ext.refl H) (r.mono fun _ p => .inl p) fun _ => r.imm (R := P) stay_refl i
theorem Res.atom (q : Res K H P d Q) (r : ∀ P', Rep K H P' v d) : Q v H := q v H (Ext.refl H) (r _) fun _ => r _
theorem Res.bl {b : Bool} (q : Res K H P (.bl b) Q) : Q (.bl b) H := q.atom fun _ => .bl b
theorem Res.int {i : Int} (q : Res K H P (.int i) Q) : Q (.int i) H := q.atom fun _ => .int i
theorem Res.str {i : Str} (q : Res K H P (.str i) Q) : Q (.str i) H := q.atom fun _ => .str i
theorem Res.old (q : Res K H P d Q) (r : Rep K H P v d) (i : d.imm1 = true → d.imm = true) : Q v H :=
  q v H (Ext.refl H) (r.mono fun _ p => .inl p) fun z => r.imm (R := P) stay_refl (i z)
theorem Res.tup (q : Res K H P (.tup ds) Q) (r : Reps K H P vs ds) {p : Addr} {o : Obj} (hp : H p = none) (ho : TupO o) : Q (.ref p) (upd H p (.frz o (.tup vs))) := by
  have e : Ext H (upd H p (.frz o (.tup vs))) := .new hp
  refine q _ _ e (.tup (SqN.of ho upd_same) ((r.ext e).mono fun _ z => .inl z)) fun z => .tup (SqN.of ho upd_same) (r.imm (e.stay P) ?_)
  simpa [D.imm1, D.imm] using z
theorem Res.lst (q : Res K H P (.lst ds) Q) (r : Reps K H P vs ds) {p : Addr} (hp : H p = none) : Q (.ref p) (upd H p (.lst vs)) := by
  have e : Ext H (upd H p (.lst vs)) := .new hp
  refine q _ _ e (.lst (.inr hp) upd_same ((r.there.ext e).mono fun b z => ⟨.inl z.1, fun q => by rw [q] at z; exact z.2 hp⟩)) fun z => .lst hp upd_same (r.imm (e.stay P) ?_)
  simpa [D.imm1] using z
theorem Res.ext (q : Res K H P d Q) (e : Ext H H1) : Res K H1 P d Q := fun v H' e' r f =>
  q v H' (e.trans e') (r.mono fun _ z => z.imp id fun z => e.none z) fun i => (f i).mono fun _ z => e.none z
end
end Ev
set_option maxHeartbeats 4000000
/-! ### new tuples, tracked by their very object (so that their methods may be called) -/
namespace Ev
open PySem PySem.Spec PyProof.Rows L2
section
variable {X : Cx}
theorem newT {pins : List (Addr × Obj)} {σ : L2.St} {H : Hp} {s : Shared} {h' : Heap} {tk : Nat} {xs : List V} {us : List Value} (I : Inv X pins σ H { s with heap := h', toks := tk }) (r : Vals xs us) (hz : xs.length ≤ sizeLine) {Q : VK}
    (q : ∀ p o, H p = none → TupO o → Q (.ref p) (upd H p (.frz o (.tup xs)))) : EP X pins σ Q (.ref h'.objs.size) { s with heap := h'.push { cls := .type "tuple", data := .seq us.toArray }, toks := tk } :=
  ⟨.ref h'.objs.size, _, I.laid (t' := tk) (o := .frz { cls := .type "tuple", data := .seq us.toArray } (.tup xs)) (fun b ob e => Heap.get?_push_of_some _ e) (Nat.le_refl _) ⟨Heap.get?_push_size _ rfl, hz, us, r, IsTup.new _ _⟩, rfl,
    q _ _ (I.hok.fresh (Nat.le_refl _)) ⟨rfl, rfl⟩⟩
/-- t + u -/
def rCatN (K : PySem.W.Frag) : R2 := fun x y H Q => ∃ a b xs ys, x = .ref a ∧ y = .ref b ∧ SqT K H a xs ∧ SqT K H b ys ∧ xs.length + ys.length ≤ sizeLine ∧
  (xs = [] → Q (.ref b) H) ∧ (xs ≠ [] → ys = [] → Q (.ref a) H) ∧ (xs ≠ [] → ys ≠ [] → ∀ p o, H p = none → TupO o → Q (.ref p) (upd H p (.frz o (.tup (xs ++ ys)))))
theorem op_catN : OpR X (binaryOp .Add) (rCatN X.K) := by
  intro pins s σ H x y v u Q I rx ry h
  obtain ⟨a, b, xs, ys, rfl, rfl, ha, hb, hz, q0, q1, q2⟩ := h
  by_cases hx : xs = []
  · exact op_catA pins s σ H _ _ v u Q I rx ry ⟨a, b, xs, ys, rfl, rfl, ha, hb, hz, q0, q1, fun z => absurd hx z⟩
  · cases rx
    cases ry
    obtain ⟨us, ru, pu, _⟩ := I.tuple ha
    obtain ⟨ws, rw', pw, _⟩ := I.tuple hb
    refine HT.cat_tup pu pw (fun z => hx (ru.nil_iff.mp z)) (fun z => ⟨.ref a, H, I, rfl, q1 hx (rw'.nil_iff.mp z)⟩) (fun z => ?_) (by rw [← ru.length, ← rw'.length]; exact hz)
    exact newT (h' := s.heap) (tk := s.toks) I (ru.append rw') (by rw [List.length_append]; exact hz) (q2 hx fun w => z (rw'.nil_iff.mpr w))
/-- t[lo:hi] -/
def rSlN (K : PySem.W.Frag) : V → Option Int → Option Int → Hp → VK → Prop := fun x lo hi H Q => ∃ a xs, x = .ref a ∧ SqT K H a xs ∧
  (HT.sIx xs.length 0 lo = 0 ∧ HT.sIx xs.length xs.length hi = xs.length → Q (.ref a) H) ∧ (∀ p o, H p = none → TupO o → Q (.ref p) (upd H p (.frz o (.tup (cutV xs lo hi)))))
theorem sl_tupN : SlR X (rSlN X.K) := by
  intro pins s σ H x v vl vu lo hi sl Q I rx hs pl pu h
  obtain ⟨a, xs, rfl, hx, q1, q2⟩ := h
  by_cases hw : HT.sIx xs.length 0 lo = 0 ∧ HT.sIx xs.length xs.length hi = xs.length
  · exact sl_tupA pins s σ H _ v vl vu lo hi sl Q I rx hs pl pu ⟨a, xs, rfl, hx, q1, fun z => absurd hw z⟩
  · cases rx
    obtain ⟨us, r, ht, hz⟩ := I.tuple hx
    have hlen : us.toArray.size = xs.length := by rw [List.size_toArray]; exact r.length.symm
    refine ⟨"tuple", _, PyProof.Rows.slot_tuple_getitem.lookup, ht.typeIs, ?_⟩
    refine HT.getItem_tuple_cut ht hs pl pu (by rw [hlen]; exact hw) ?_ (by rw [hlen]; exact hz)
    rw [hlen]
    exact newT (h' := s.heap) (tk := s.toks) I ((r.drop (HT.sIx xs.length 0 lo)).take (HT.sIx xs.length xs.length hi - HT.sIx xs.length 0 lo)) (Nat.le_trans (cutV_length xs lo hi) hz) q2
/-- tuple(xs) -/
theorem call_tupN : CallR X (.type "tuple") (fun xs H Q => ∃ p ys, xs = [.ref p] ∧ ((SqL X.K H p ys ∧ ∀ l o, H l = none → TupO o → Q (.ref l) (upd H l (.frz o (.tup ys)))) ∨ (SqT X.K H p ys ∧ Q (.ref p) H))) := by
  intro pins s σ H xs us Q I r h
  obtain ⟨p, ys, rfl, h⟩ := h
  rcases h with ⟨hq, q⟩ | ⟨hq, q⟩
  · obtain ⟨u, rfl, rx⟩ := vals1 r
    cases rx
    obtain ⟨ws, rw', pl, hz⟩ := I.list hq
    have hlen := rw'.length
    refine call_tuple_list pl.isList (fun h' kp => ?_) (by simp only [List.size_toArray] <;> omega)
    exact newT (s := s) (h' := h') (tk := s.toks) (I.kept (t' := s.toks) kp) rw' hz q
  · exact call_tuple_of pins s σ H _ us Q I r ⟨p, ys, rfl, .inr ⟨hq, q⟩⟩
/-- (a, b, ..) -/
def tTupN (t : TA) : TE := fun σ H Q => t σ H fun xs H1 => xs.length ≤ sizeLine ∧ ∀ p o, H1 p = none → TupO o → Q (.ref p) (upd H1 p (.frz o (.tup xs)))
theorem pe_tupN {es : List Expr} {t : TA} {k : Nat} {pos : Pos} (h : PA X es t) : PE X (.Tuple es k pos) (tTupN t) := by
  refine ⟨fun pins s σ H Q I hq => ?_⟩
  refine wpAny_Tuple_spliced (thn (h.run pos pins s σ H _ I hq) fun us s1 ⟨xs, H1, I1, r, z, q⟩ => ⟨by rw [← r.length]; exact z, ?_⟩)
  exact newT (s := s1) (h' := s1.heap) (tk := s1.toks) I1 r z q
/-- tuple(range(..)) -/
def tTupRgN (te : L2.St → Hp → (Int → Int → Hp → Prop) → Prop) : TE := fun σ H Q => te σ H fun a b H1 => RgOk a b ∧ ∀ p o, H1 p = none → TupO o → Q (.ref p) (upd H1 p (.frz o (.tup (rgV a b))))
theorem pe_tupRgN {e : Expr} {te : L2.St → Hp → (Int → Int → Hp → Prop) → Prop} {p pos : Pos} (hc : X.calm = true) (hg : Gl X "tuple") (hm : X.mg "tuple" = none) (he : PRg X e te) (na : starEach [e] X.env = (false, eval e X.env) :: starEach [] X.env := by rfl) : PE X (.Call (.Name "tuple" p) [e] [] pos) (tTupRgN te) := by
  refine ⟨fun pins s σ H Q I h => ?_⟩
  refine Call_ (ld_blt I hg hm boot_tuple (PyProof.Rows.callWith_type1 (args_cons (thn (he pins s σ H _ I h) fun x s1 ⟨r, a, b, t, u, v, H1, ex, hr, I1, ok, q⟩ => args_nil ?_) na) na))
  subst ex
  obtain ⟨b1, b2, b3, b4, b5⟩ := ok
  refine call_tuple_range (n := (b - a).toNat) (I1.ok.hd hc) hr (small_one b1 b2 b3 b4) (rangeSize_nat a b) b5 fun h' tk acc hk hi => ?_
  have I2 : Inv X pins σ H1 { s1 with heap := h', toks := tk } := I1.kept hk
  have hl : (rgV a b).length ≤ sizeLine := by rw [rgV_length, sizeLine_eq]; omega
  have := newT (s := s1) (h' := h') (tk := tk) I2 (vals_rg hi) hl q
  rw [Array.toArray_toList] at this
  exact this
end
end Ev
set_option maxHeartbeats 4000000
/-! ### a tuple times a number: none, one, a few -/
namespace Ev
open PySem PySem.Spec PyProof.Rows L2
theorem tuple_mul1 (l : Addr) (items : Array Value) (n : Nat) (dd : Option Addr) (sl : Array (Option Value)) (x : Int) (u : Tok) (c0 : (decide (x < -(2 ^ 63)) || decide (x ≥ 2 ^ 63)) = false) (c1 : (items.isEmpty || x == 1) = true) :
    Meets (Builtin.«tuple.__mul__» ⟨[.ref l, .int x u], []⟩) (fun _ R s => s.heap.get? l = some { cls := .type "tuple", dict := dd, data := .seq items n, slots := sl } ∧ R (.ok (.ret (Value.ref l))) s) :=
  .of_wp fun prog w A R s h => by
    obtain ⟨hp, g, d, tk, os⟩ := s
    obtain ⟨hl, h⟩ := h
    have f1 := AutoSeq1.idx_int
    wp_walk using wpAny_loadPart' hl
    repeat (first
      | (refine wpAny_ite_false (decide_eq_false (by rw [c0]; exact Bool.false_ne_true)) ?_; wp_walk using wpAny_loadPart' hl)
      | (refine wpAny_ite_true (decide_eq_true c1) ?_; wp_walk using wpAny_loadPart' hl))
    all_goals exact ⟨_, rfl, h⟩
theorem tuple_mul0 (l : Addr) (items : Array Value) (n : Nat) (dd : Option Addr) (sl : Array (Option Value)) (x : Int) (u : Tok) (c0 : (decide (x < -(2 ^ 63)) || decide (x ≥ 2 ^ 63)) = false) (c1 : (items.isEmpty || x == 1) = false) (c2 : (decide (x ≤ 0) || items.isEmpty) = true) :
    Meets (Builtin.«tuple.__mul__» ⟨[.ref l, .int x u], []⟩) (fun _ R s => s.heap.get? l = some { cls := .type "tuple", dict := dd, data := .seq items n, slots := sl } ∧
      R (.ok (.ret (Value.ref s.heap.objs.size))) { s with heap := s.heap.push { cls := Value.type "tuple", data := Data.seq #[] }, toks := s.toks }) :=
  .of_wp fun prog w A R s h => by
    obtain ⟨hp, g, d, tk, os⟩ := s
    obtain ⟨hl, h⟩ := h
    have f1 := AutoSeq1.idx_int
    wp_walk using wpAny_loadPart' hl
    repeat (first
      | (refine wpAny_ite_false (decide_eq_false (by rw [c0]; exact Bool.false_ne_true)) ?_; wp_walk using wpAny_loadPart' hl)
      | (refine wpAny_ite_false (decide_eq_false (by rw [c1]; exact Bool.false_ne_true)) ?_; wp_walk using wpAny_loadPart' hl)
      | (refine wpAny_ite_true (decide_eq_true c2) ?_; wp_walk using wpAny_loadPart' hl))
    all_goals exact ⟨_, rfl, h⟩
section
variable {X : Cx}
def rRepTD (K : PySem.W.Frag) : R2 := fun x y H Q => ∃ l k xs, x = .ref l ∧ y = .int k ∧ SqT K H l xs ∧ -(2 ^ 63) ≤ k ∧ k ≤ 1000 ∧ xs.length ≤ 1000 ∧ (xs = [] ∨ k = 1 → Q (.ref l) H) ∧ (xs ≠ [] → k ≤ 0 → ∀ p o, H p = none → TupO o → Q (.ref p) (upd H p (.frz o (.tup [])))) ∧
  (xs ≠ [] → 2 ≤ k → ∀ p o, H p = none → TupO o → Q (.ref p) (upd H p (.frz o (.tup (List.replicate k.toNat xs).flatten))))
theorem op_repTD : OpR X (binaryOp .Mult) (rRepTD X.K) := by
  intro pins s σ H x y v u Q I rx ry h
  obtain ⟨l, k, xs, rfl, rfl, hT, h0, h2, hz, q1, q2, q3⟩ := h
  cases rx
  obtain ⟨t, rfl⟩ := ry
  obtain ⟨its, r, ⟨⟨cls, dd, data, sl⟩, ho, hc, n, hd⟩, hs⟩ := I.tuple hT
  simp only at hc hd
  subst hc hd
  have hle : its.length = xs.length := r.length.symm
  have c0 : (decide (k < -(2 ^ 63)) || decide (k ≥ 2 ^ 63)) = false := by
    rw [decide_eq_false (by omega), decide_eq_false (by omega)] <;> rfl
  by_cases hbig : xs ≠ [] ∧ 2 ≤ k
  · obtain ⟨hne, hk2⟩ := hbig
    have hi : its.toArray.isEmpty = false := by
      cases its with
      | nil => exact absurd (List.eq_nil_of_length_eq_zero hle.symm) hne
      | cons a b => rfl
    have hs0 : its.toArray.size = xs.length := by rw [List.size_toArray, hle]
    have hm : ((its.toArray.size : Nat) : Int) * k ≤ 1000000 := by
      have a1 : ((xs.length : Nat) : Int) * k ≤ 1000 * k := Int.mul_le_mul_of_nonneg_right (by omega) (by omega)
      rw [hs0]
      omega
    have fl : (List.replicate k.toNat its).flatten.length ≤ sizeLine := by
      have a1 : k.toNat * xs.length ≤ 1000 * 1000 := Nat.mul_le_mul (by omega) hz
      rw [PyProof.Rows.lm_len_rep_flat, hle, sizeLine_eq]
      omega
    have fl2 : (List.replicate k.toNat xs).flatten.length ≤ sizeLine := by
      rw [← (r.rep k.toNat).length] at fl
      exact fl
    have c1 : (its.toArray.isEmpty || k == 1) = false := by
      rw [hi, Bool.false_or]
      exact beq_eq_false_iff_ne.mpr (by omega)
    have c2 : (decide (k ≤ 0) || its.toArray.isEmpty) = false := by
      rw [hi, Bool.or_false]
      exact decide_eq_false (by omega)
    have c4 : Builtin.Tuple.tupleTooMany (((its.toArray.size : Nat) : Int) * k) = false := by
      unfold Builtin.Tuple.tupleTooMany
      rw [sizeLine_eq]
      exact decide_eq_false (by omega)
    refine wpAny_binaryOp_repeat_ref (T := "tuple") (U := "int") (by decide) ⟨_, ho, rfl⟩ (fun s' => typeIs_int s' k t) noFill_tuple_mul F.fills_int_mul F.slot_int_rmul repeat_tuple F.slot_int_index.lookup
      (call_meets F.slot_int_rmul (typeIs_int s k t) F.entry_int_rmul (F.args_int_rmul_2 _ _) (int_rmul_tuple k t l its.toArray n dd sl)
        ⟨ho, rfl, ⟨_, ho, rfl⟩, call_meets F.slot_tuple_mul ⟨_, ho, rfl⟩ F.entry_tuple_mul (F.args_tuple_mul_2 _ _) (tuple_mulW l its.toArray n dd sl k t c0 c1 c2 (by omega) c4 (by rw [size_rep, List.size_toArray]; exact fl)) ⟨ho, ?_⟩⟩)
    rw [size_rep]
    exact newT (h' := s.heap) (tk := s.toks) I (r.rep k.toNat) fl2 (q3 hne hk2)
  by_cases h1 : xs = [] ∨ k = 1
  · have c1 : (its.toArray.isEmpty || k == 1) = true := by
      rcases h1 with e | e
      · subst e
        have : its = [] := List.eq_nil_of_length_eq_zero hle
        subst this
        rfl
      · subst e; simp
    refine wpAny_binaryOp_repeat_ref (T := "tuple") (U := "int") (by decide) ⟨_, ho, rfl⟩ (fun s' => typeIs_int s' k t) noFill_tuple_mul F.fills_int_mul F.slot_int_rmul repeat_tuple F.slot_int_index.lookup
      (call_meets F.slot_int_rmul (typeIs_int s k t) F.entry_int_rmul (F.args_int_rmul_2 _ _) (int_rmul_tuple k t l its.toArray n dd sl)
        ⟨ho, rfl, ⟨_, ho, rfl⟩, call_meets F.slot_tuple_mul ⟨_, ho, rfl⟩ F.entry_tuple_mul (F.args_tuple_mul_2 _ _) (tuple_mul1 l its.toArray n dd sl k t c0 c1) ⟨ho, ?_⟩⟩)
    exact ⟨.ref l, H, I, rfl, q1 h1⟩
  · have hne : xs ≠ [] := fun e => h1 (.inl e)
    have hk : k ≤ 0 := by
      by_cases h3 : 2 ≤ k
      · exact absurd ⟨hne, h3⟩ hbig
      · have : k ≠ 1 := fun e => h1 (.inr e)
        omega
    have hi : its.toArray.isEmpty = false := by
      cases its with
      | nil => exact absurd (List.eq_nil_of_length_eq_zero hle.symm) hne
      | cons a b => rfl
    have c1 : (its.toArray.isEmpty || k == 1) = false := by
      rw [hi, Bool.false_or]
      exact beq_eq_false_iff_ne.mpr (by omega)
    have c2 : (decide (k ≤ 0) || its.toArray.isEmpty) = true := by
      rw [decide_eq_true hk]; rfl
    refine wpAny_binaryOp_repeat_ref (T := "tuple") (U := "int") (by decide) ⟨_, ho, rfl⟩ (fun s' => typeIs_int s' k t) noFill_tuple_mul F.fills_int_mul F.slot_int_rmul repeat_tuple F.slot_int_index.lookup
      (call_meets F.slot_int_rmul (typeIs_int s k t) F.entry_int_rmul (F.args_int_rmul_2 _ _) (int_rmul_tuple k t l its.toArray n dd sl)
        ⟨ho, rfl, ⟨_, ho, rfl⟩, call_meets F.slot_tuple_mul ⟨_, ho, rfl⟩ F.entry_tuple_mul (F.args_tuple_mul_2 _ _) (tuple_mul0 l its.toArray n dd sl k t c0 c1 c2) ⟨ho, ?_⟩⟩)
    exact newT (h' := s.heap) (tk := s.toks) I .nil (Nat.zero_le _) (q2 hne hk)
end
end Ev
set_option maxHeartbeats 4000000
namespace Ev
open PySem PySem.Spec PySem.SeqAt PyProof.Rows L2
section
variable {X : Cx}
def rB (K : PySem.W.Frag) (f : D → D → Option D) : R2 := fun x y H Q => ∃ P dx dy d, Rep K H P x dx ∧ Rep K H P y dy ∧ f dx dy = some d ∧ Res K H P d Q
def rC (K : PySem.W.Frag) (f : D → D → Option Bool) : R2 := fun x y H Q => ∃ P dx dy k, Rep K H P x dx ∧ Rep K H P y dy ∧ f dx dy = some k ∧ Q (.bl k) H
theorem lineOk_iff {n : Nat} : lineOk n = true ↔ n ≤ sizeLine := by simp [lineOk]
theorem ite_some {α : Type} {c : Prop} [Decidable c] {a b : α} (h : (if c then some a else none) = some b) : c ∧ a = b := by
  by_cases hc : c
  · rw [if_pos hc] at h; exact ⟨hc, Option.some.inj h⟩
  · rw [if_neg hc] at h; cases h
theorem ite_some' {α : Type} {c : Prop} [Decidable c] {a : Option α} {b : α} (h : (if c then a else none) = some b) : c ∧ a = some b := by
  by_cases hc : c
  · rw [if_pos hc] at h; exact ⟨hc, h⟩
  · rw [if_neg hc] at h; cases h
theorem small_mul {a b : Int} (h : (small a || small b) = true) : CMul a b := by
  simp only [small, Bool.or_eq_true, Bool.and_eq_true, decide_eq_true_eq] at h
  exact h
theorem op_addD : OpR X (binaryOp .Add) (rB X.K addD) := by
  intro pins s σ H x y v u Q I rx ry h
  obtain ⟨P, dx, dy, d, r1, r2, e, q⟩ := h
  unfold addD at e
  split at e
  · cases e
    exact op_add pins s σ H x y v u Q I rx ry ⟨_, _, r1.int_inv, r2.int_inv, q.int⟩
  · obtain ⟨hc, rfl⟩ := ite_some e
    exact op_add_str pins s σ H x y v u Q I rx ry ⟨_, _, r1.str_inv, r2.str_inv, lineOk_iff.mp hc, q.str⟩
  · obtain ⟨hc, rfl⟩ := ite_some e
    obtain ⟨a1, vs, rfl, h1, s1⟩ := r1.tup_invN
    obtain ⟨a2, ws, rfl, h2, s2⟩ := r2.tup_invN
    have hz := lineOk_iff.mp hc
    refine op_catN pins s σ H _ _ v u Q I rx ry ⟨a1, a2, vs, ws, rfl, rfl, h1.t, h2.t, by rw [s1.length, s2.length]; exact hz, fun e => ?_, fun _ e => ?_, fun _ _ p o hp ho => ?_⟩
    · subst e
      cases s1
      refine q.old (.tup h2 s2) (fun z => ?_)
      simpa [D.imm1] using z
    · subst e
      cases s2
      refine q.old (.tup h1 (by simpa using s1)) (fun z => ?_)
      simpa [D.imm1] using z
    · exact q.tup (s1.append s2) hp ho
  · obtain ⟨hc, rfl⟩ := ite_some e
    obtain ⟨a1, vs, rfl, _, h1, s1⟩ := r1.lst_inv
    obtain ⟨a2, ws, rfl, _, h2, s2⟩ := r2.lst_inv
    have hz := lineOk_iff.mp hc
    exact op_cat pins s σ H _ _ v u Q I rx ry ⟨a1, a2, vs, ws, rfl, rfl, h1, h2, by rw [s1.length, s2.length]; exact hz, fun p hp => q.lst (s1.append s2) hp⟩
  · cases e
theorem op_subD : OpR X (binaryOp .Sub) (rB X.K subD) := by
  intro pins s σ H x y v u Q I rx ry h
  obtain ⟨P, dx, dy, d, r1, r2, e, q⟩ := h
  unfold subD at e
  split at e
  · cases e
    exact op_sub pins s σ H x y v u Q I rx ry ⟨_, _, r1.int_inv, r2.int_inv, q.int⟩
  · cases e
theorem op_mulD : OpR X (binaryOp .Mult) (rB X.K mulD) := by
  intro pins s σ H x y v u Q I rx ry h
  obtain ⟨P, dx, dy, d, r1, r2, e, q⟩ := h
  unfold mulD at e
  split at e
  · obtain ⟨hc, rfl⟩ := ite_some e
    exact op_mul pins s σ H x y v u Q I rx ry ⟨_, _, r1.int_inv, r2.int_inv, small_mul hc, q.int⟩
  · obtain ⟨hc, rfl⟩ := ite_some e
    simp only [Bool.and_eq_true, decide_eq_true_eq, lineOk_iff] at hc
    obtain ⟨a1, vs, rfl, _, h1, s1⟩ := r1.lst_inv
    cases r2.int_inv
    exact op_rep pins s σ H _ _ v u Q I rx ry ⟨a1, _, vs, rfl, rfl, h1, hc.1.1, hc.1.2, by rw [s1.length]; exact hc.2, fun p hp => q.lst (s1.rep _) hp⟩
  · rename_i ds k
    obtain ⟨hc, rfl⟩ := ite_some e
    simp only [Bool.and_eq_true, decide_eq_true_eq] at hc
    obtain ⟨a1, vs, rfl, h1, s1⟩ := r1.tup_invN
    cases r2.int_inv
    refine op_repTD pins s σ H _ _ v u Q I rx ry ⟨a1, k, vs, rfl, rfl, h1.t, hc.1.1, hc.1.2, by rw [s1.length]; exact hc.2, fun e => ?_, fun hne hk p o hp ho => ?_, fun _ _ p o hp ho => q.tup (s1.rep _) hp ho⟩
    · have he : (List.replicate k.toNat ds).flatten = ds := by
        rcases e with e | e
        · subst e
          cases s1
          induction k.toNat with
          | zero => rfl
          | succ n ih => rw [List.replicate_succ, List.flatten_cons, ih]; rfl
        · subst e; simp
      rw [he] at q
      exact q.old (.tup h1 s1) (fun z => by simpa [D.imm1] using z)
    · have he : (List.replicate k.toNat ds).flatten = [] := by
        rw [show k.toNat = 0 by omega]; rfl
      rw [he] at q
      exact q.tup .nil hp ho
  · cases e
theorem op_fdivD : OpR X (binaryOp .FloorDiv) (rB X.K fdivD) := by
  intro pins s σ H x y v u Q I rx ry h
  obtain ⟨P, dx, dy, d, r1, r2, e, q⟩ := h
  unfold fdivD at e
  split at e
  · obtain ⟨hc, rfl⟩ := ite_some e
    simp only [Bool.and_eq_true, decide_eq_true_eq] at hc
    exact op_fdiv pins s σ H x y v u Q I rx ry ⟨_, _, r1.int_inv, r2.int_inv, hc, q.int⟩
  · cases e
theorem op_modD : OpR X (binaryOp .Mod) (rB X.K modD) := by
  intro pins s σ H x y v u Q I rx ry h
  obtain ⟨P, dx, dy, d, r1, r2, e, q⟩ := h
  unfold modD at e
  split at e
  · obtain ⟨hc, rfl⟩ := ite_some e
    simp only [decide_eq_true_eq] at hc
    exact op_mod pins s σ H x y v u Q I rx ry ⟨_, _, r1.int_inv, r2.int_inv, hc, q.int⟩
  · cases e
theorem op_powD : OpR X (binaryOp .Pow) (rB X.K powD) := by
  intro pins s σ H x y v u Q I rx ry h
  obtain ⟨P, dx, dy, d, r1, r2, e, q⟩ := h
  unfold powD at e
  split at e
  · obtain ⟨hc, rfl⟩ := ite_some e
    simp only [Bool.and_eq_true, decide_eq_true_eq] at hc
    exact op_pow pins s σ H x y v u Q I rx ry ⟨_, _, r1.int_inv, r2.int_inv, ⟨hc.1.1, hc.1.2, hc.2⟩, q.int⟩
  · cases e
theorem op_none {f : Value → Value → Sem Value} {g : D → D → Option D} (h : ∀ x y, g x y = none) : OpR X f (rB X.K g) := by
  intro pins s σ H x y v u Q I rx ry ⟨P, dx, dy, d, r1, r2, e, q⟩
  rw [h] at e; cases e
theorem op_binD (op : Operator) : OpR X (binaryOp op) (rB X.K (binD op)) := by
  cases op with
  | Add => exact op_addD
  | Sub => exact op_subD
  | Mult => exact op_mulD
  | FloorDiv => exact op_fdivD
  | Mod => exact op_modD
  | Pow => exact op_powD
  | _ => exact op_none fun _ _ => rfl

/-! ### comparisons -/
theorem wf_iff {d : D} : d.wf = true ↔ d.py.plain = true ∧ d.py.depth ≤ 60 := by simp [D.wf]
theorem wfs_iff {ds : List D} : wfs ds = true ↔ PyData.plainAll (D.pys ds) = true ∧ PyData.depthAll (D.pys ds) ≤ 60 := by simp [wfs]
section
variable {pins : List (Addr × Obj)} {s : Shared} {σ : L2.St} {H : Hp} {P : Addr → Prop} {x y : V} {v u : Value} {dx dy : D}
theorem Rep.reads (I : Inv X pins σ H s) (r : Rep X.K H P x dx) (w : dx.py.plain = true) (rx : RelV x v) : ∃ as, Reads s.heap v dx.py as := Dp.reads I _ _ _ (r.dp w) rx
theorem Reps.reads (I : Inv X pins σ H s) {vs : List V} {us : List Value} {ds : List D} (r : Reps X.K H P vs ds) (w : PyData.plainAll (D.pys ds) = true) (rx : Vals vs us) : ∃ as, ReadsAll s.heap us (D.pys ds) as := Dp.readsAll I _ _ _ (r.dps w) rx
end
theorem op_eqD' (hu : X.A.units + 100 < cLine) : OpR X (compareOp .Eq) (rC X.K eqD) := by
  intro pins s σ H x y v u Q I rx ry h
  obtain ⟨P, dx, dy, k, r1, r2, e, q⟩ := h
  unfold eqD at e
  obtain ⟨hc, rfl⟩ := ite_some e
  simp only [Bool.and_eq_true, wf_iff] at hc
  obtain ⟨⟨p1, l1⟩, p2, l2⟩ := hc
  obtain ⟨as, a1⟩ := r1.reads I p1 rx
  obtain ⟨bs, b1⟩ := r2.reads I p2 ry
  exact eq_plain a1 b1 p1 p2 (by omega) ⟨.bl _, H, I, rfl, q⟩
theorem op_neD' (hu : X.A.units + 100 < cLine) : OpR X (compareOp .NotEq) (rC X.K fun x y => (eqD x y).map (!·)) := by
  intro pins s σ H x y v u Q I rx ry h
  obtain ⟨P, dx, dy, k, r1, r2, e, q⟩ := h
  obtain ⟨k0, e1, rfl⟩ := Option.map_eq_some_iff.mp e
  clear e
  have e := e1
  clear e1
  unfold eqD at e
  obtain ⟨hc, rfl⟩ := ite_some e
  simp only [Bool.and_eq_true, wf_iff] at hc
  obtain ⟨⟨p1, l1⟩, p2, l2⟩ := hc
  obtain ⟨as, a1⟩ := r1.reads I p1 rx
  obtain ⟨bs, b1⟩ := r2.reads I p2 ry
  exact ne_plain a1 b1 p1 p2 (by omega) ⟨.bl _, H, I, rfl, q⟩
theorem ltD_inv {x y : D} {k : Bool} (e : ltD x y = some k) : PySem.W.alike x.py y.py = true ∧ (x.py.plain = true ∧ x.py.depth ≤ 60) ∧ (y.py.plain = true ∧ y.py.depth ≤ 60) ∧ x.py ≠ .none ∧ k = PySem.W.dataLt x.py y.py := by
  unfold ltD at e
  obtain ⟨hc, rfl⟩ := ite_some e
  simp only [Bool.and_eq_true, wf_iff] at hc
  refine ⟨hc.1.1.1, hc.1.1.2, hc.1.2, fun z => ?_, rfl⟩
  have := hc.2
  cases x <;> simp_all [D.py]
theorem alike_none {x y : PyData} (h : PySem.W.alike x y = true) (hn : x ≠ .none) : y ≠ .none := PySem.W.ne_none_both h hn
theorem op_ltD' (hu : X.A.units + 100 < cLine) : OpR X (compareOp .Lt) (rC X.K ltD) := by
  intro pins s σ H x y v u Q I rx ry h
  obtain ⟨P, dx, dy, k, r1, r2, e, q⟩ := h
  obtain ⟨al, ⟨p1, l1⟩, ⟨p2, l2⟩, hn, rfl⟩ := ltD_inv e
  obtain ⟨as, a1⟩ := r1.reads I p1 rx
  obtain ⟨bs, b1⟩ := r2.reads I p2 ry
  exact PySem.W.lt_data a1 b1 al hn (by omega) ⟨.bl _, H, I, rfl, q⟩
theorem op_geD' (hu : X.A.units + 100 < cLine) : OpR X (compareOp .GtE) (rC X.K fun x y => (ltD x y).map (!·)) := by
  intro pins s σ H x y v u Q I rx ry h
  obtain ⟨P, dx, dy, k, r1, r2, e, q⟩ := h
  obtain ⟨k0, e1, rfl⟩ := Option.map_eq_some_iff.mp e
  clear e
  have e := e1
  clear e1
  obtain ⟨al, ⟨p1, l1⟩, ⟨p2, l2⟩, hn, rfl⟩ := ltD_inv e
  obtain ⟨as, a1⟩ := r1.reads I p1 rx
  obtain ⟨bs, b1⟩ := r2.reads I p2 ry
  exact PySem.W.ge_data a1 b1 al hn (by omega) ⟨.bl _, H, I, rfl, q⟩
theorem op_gtD' (hu : X.A.units + 100 < cLine) : OpR X (compareOp .Gt) (rC X.K fun x y => if PySem.W.alike x.py y.py then ltD y x else none) := by
  intro pins s σ H x y v u Q I rx ry h
  obtain ⟨P, dx, dy, k, r1, r2, e, q⟩ := h
  dsimp only at e
  by_cases hal : PySem.W.alike dx.py dy.py = true
  · rw [if_pos hal] at e
    obtain ⟨al, ⟨p1, l1⟩, ⟨p2, l2⟩, hn, rfl⟩ := ltD_inv e
    obtain ⟨as, a1⟩ := r1.reads I p2 rx
    obtain ⟨bs, b1⟩ := r2.reads I p1 ry
    exact PySem.W.gt_data a1 b1 hal (alike_none al hn) (by omega) ⟨.bl _, H, I, rfl, q⟩
  · rw [if_neg hal] at e; cases e
theorem op_leD' (hu : X.A.units + 100 < cLine) : OpR X (compareOp .LtE) (rC X.K fun x y => if PySem.W.alike x.py y.py then (ltD y x).map (!·) else none) := by
  intro pins s σ H x y v u Q I rx ry h
  obtain ⟨P, dx, dy, k, r1, r2, e, q⟩ := h
  dsimp only at e
  by_cases hal : PySem.W.alike dx.py dy.py = true
  · rw [if_pos hal] at e
    obtain ⟨k0, e1, rfl⟩ := Option.map_eq_some_iff.mp e
    clear e
    have e := e1
    clear e1
    obtain ⟨al, ⟨p1, l1⟩, ⟨p2, l2⟩, hn, rfl⟩ := ltD_inv e
    obtain ⟨as, a1⟩ := r1.reads I p2 rx
    obtain ⟨bs, b1⟩ := r2.reads I p1 ry
    exact PySem.W.le_data a1 b1 hal (alike_none al hn) (by omega) ⟨.bl _, H, I, rfl, q⟩
  · rw [if_neg hal] at e; cases e
theorem any_pys {f : PyData → Bool} : ∀ ys : List D, (D.pys ys).any f = ys.any fun y => f y.py
  | [] => by rw [D.pys]; rfl
  | y :: ys => by rw [D.pys]; simp [any_pys ys]
/-- a key looked up in a dict -/
theorem dic_rep {K : PySem.W.Frag} {H : Hp} {P : Addr → Prop} {w : V} {ks ds : List D} {key : Key} (r : Rep K H P w (.dic false ks ds)) : ∃ a o, w = .ref a ∧ DGet H a (kV key) o ∧ (match getK ks ds key with
    | some d => ∃ v, o = some v ∧ Rep K H P v d
    | none => o = none) := by
  obtain ⟨a, vs, rfl, _, ⟨kvs, h1, h2, h3⟩, rs⟩ := r.mut_inv rfl
  subst h2 h3
  have g := get_rep (k := key) (rs.mono fun b z => z.1)
  exact ⟨a, valV kvs key, rfl, DGet.k h1, g⟩
theorem dic_get {K : PySem.W.Frag} {H : Hp} {P : Addr → Prop} {w x : V} {ks ds : List D} {key : Key} (r : Rep K H P w (.dic false ks ds)) (e : x = kV key) : ∃ a o, w = .ref a ∧ DGet H a x o ∧ o.isSome = (getK ks ds key).isSome := by
  obtain ⟨a, o, h1, h2, h3⟩ := dic_rep (key := key) r
  refine ⟨a, o, h1, e ▸ h2, ?_⟩
  cases hg : getK ks ds key with
  | none => rw [hg] at h3; rw [h3]; rfl
  | some d => rw [hg] at h3; obtain ⟨v, rfl, _⟩ := h3; rfl
theorem op_inD' (hu : X.A.units + 100 < cLine) : OpR X (compareOp .In) (rC X.K memD) := by
  intro pins s σ H x y v u Q I rx ry h
  obtain ⟨P, dx, dy, k, r1, r2, e, q⟩ := h
  unfold memD at e
  split at e
  · obtain ⟨key, hk, rfl⟩ := Option.map_eq_some_iff.mp e
    obtain ⟨a, o, rfl, g, ho⟩ := dic_get r2 (r1.key hk)
    obtain rfl : u = Value.ref a := ry
    exact d_in (by omega) I g rx fun s' I' => ⟨.bl _, H, I', rfl, by rw [ho]; exact q⟩
  · obtain ⟨hc, rfl⟩ := ite_some e
    simp only [Bool.and_eq_true, wf_iff, wfs_iff] at hc
    obtain ⟨⟨p1, l1⟩, p2, l2⟩ := hc
    obtain ⟨as, a1⟩ := r1.reads I p1 rx
    obtain ⟨bs, b1⟩ := r2.reads I (by rw [D.py]; simpa [PyData.plain] using p2) ry
    rw [D.py] at b1
    exact in_tuple_data b1 a1 p2 p1 (by omega) ⟨.bl _, H, I, rfl, by rw [any_pys]; exact q⟩
  · obtain ⟨hc, rfl⟩ := ite_some e
    simp only [Bool.and_eq_true, wf_iff, wfs_iff] at hc
    obtain ⟨⟨p1, l1⟩, p2, l2⟩ := hc
    obtain ⟨as, a1⟩ := r1.reads I p1 rx
    obtain ⟨bs, b1⟩ := r2.reads I (by rw [D.py]; simpa [PyData.plain] using p2) ry
    rw [D.py] at b1
    exact in_list_data b1 a1 p2 p1 (by omega) ⟨.bl _, H, I, rfl, by rw [any_pys]; exact q⟩
  · split at e
    · cases e
      exact op_in_str pins s σ H x y v u Q I rx ry ⟨_, _, r1.str_inv, r2.str_inv, q⟩
    · cases e
  · cases e
theorem op_notInD' (hu : X.A.units + 100 < cLine) : OpR X (compareOp .NotIn) (rC X.K fun x y => (memD x y).map (!·)) := by
  intro pins s σ H x y v u Q I rx ry h
  obtain ⟨P, dx, dy, k, r1, r2, e, q⟩ := h
  obtain ⟨k0, e1, rfl⟩ := Option.map_eq_some_iff.mp e
  clear e
  have e := e1
  clear e1
  unfold memD at e
  split at e
  · obtain ⟨key, hk, rfl⟩ := Option.map_eq_some_iff.mp e
    obtain ⟨a, o, rfl, g, ho⟩ := dic_get r2 (r1.key hk)
    obtain rfl : u = Value.ref a := ry
    exact d_notIn (by omega) I g rx fun s' I' => ⟨.bl _, H, I', rfl, by rw [ho]; exact q⟩
  · obtain ⟨hc, rfl⟩ := ite_some e
    simp only [Bool.and_eq_true, wf_iff, wfs_iff] at hc
    obtain ⟨⟨p1, l1⟩, p2, l2⟩ := hc
    obtain ⟨as, a1⟩ := r1.reads I p1 rx
    obtain ⟨bs, b1⟩ := r2.reads I (by rw [D.py]; simpa [PyData.plain] using p2) ry
    rw [D.py] at b1
    exact notIn_tuple_data b1 a1 p2 p1 (by omega) ⟨.bl _, H, I, rfl, by rw [any_pys]; exact q⟩
  · obtain ⟨hc, rfl⟩ := ite_some e
    simp only [Bool.and_eq_true, wf_iff, wfs_iff] at hc
    obtain ⟨⟨p1, l1⟩, p2, l2⟩ := hc
    obtain ⟨as, a1⟩ := r1.reads I p1 rx
    obtain ⟨bs, b1⟩ := r2.reads I (by rw [D.py]; simpa [PyData.plain] using p2) ry
    rw [D.py] at b1
    exact notIn_list_data b1 a1 p2 p1 (by omega) ⟨.bl _, H, I, rfl, by rw [any_pys]; exact q⟩
  · split at e
    · cases e
      exact op_notin_str pins s σ H x y v u Q I rx ry ⟨_, _, r1.str_inv, r2.str_inv, q⟩
    · cases e
  · cases e
theorem isNon_rep {K : PySem.W.Frag} {H : Hp} {P : Addr → Prop} {x : V} {d : D} (r : Rep K H P x d) : decide (x = .non) = isNon d := by
  cases r <;> rfl
theorem op_isD' : OpR X (compareOp .Is) (rC X.K fun x y => if isNon y then some (isNon x) else none) := by
  intro pins s σ H x y v u Q I rx ry h
  obtain ⟨P, dx, dy, k, r1, r2, e, q⟩ := h
  obtain ⟨hc, rfl⟩ := ite_some e
  have hy : y = .non := by
    have := isNon_rep r2
    rw [hc] at this
    exact of_decide_eq_true this
  exact op_isN pins s σ H x y v u Q I rx ry ⟨hy, by rw [isNon_rep r1]; exact q⟩
theorem op_isnotD' : OpR X (compareOp .IsNot) (rC X.K fun x y => if isNon y then some (!isNon x) else none) := by
  intro pins s σ H x y v u Q I rx ry h
  obtain ⟨P, dx, dy, k, r1, r2, e, q⟩ := h
  obtain ⟨hc, rfl⟩ := ite_some e
  have hy : y = .non := by
    have := isNon_rep r2
    rw [hc] at this
    exact of_decide_eq_true this
  exact op_notN pins s σ H x y v u Q I rx ry ⟨hy, by rw [isNon_rep r1]; exact q⟩
theorem op_cmpD (hu : X.A.units + 100 < cLine) (op : CmpOp) : OpR X (compareOp op) (rC X.K (cmpD op)) := by
  cases op with
  | Eq => exact op_eqD' hu
  | NotEq => exact op_neD' hu
  | Lt => exact op_ltD' hu
  | LtE => exact op_leD' hu
  | Gt => exact op_gtD' hu
  | GtE => exact op_geD' hu
  | Is => exact op_isD'
  | IsNot => exact op_isnotD'
  | In => exact op_inD' hu
  | NotIn => exact op_notInD' hu

/-! ### truth, minus -/
theorem tru_D : TruR X (fun x H Q => ∃ P d k, Rep X.K H P x d ∧ truthD d = some k ∧ Q k H) := by
  intro pins s σ H x v Q I rx h
  obtain ⟨P, d, k, r, e, q⟩ := h
  refine tru_ok pins s σ H x v Q I rx ⟨k, ?_, q⟩
  cases r with
  | non => cases e; rfl
  | bl b => cases e; rfl
  | int i => cases e; rfl
  | str x => cases e
  | tup h r =>
    cases e
    refine .inr (.inl ⟨_, h.t, ?_⟩)
    cases r <;> rfl
  | lst p h r =>
    cases e
    refine .inl ⟨_, SqL.of h, ?_⟩
    cases r <;> rfl
  | scr h => cases e
  | dic p h r => cases e
theorem un_negD : UnR X (unaryOp .USub) (fun x H Q => ∃ P d d', Rep X.K H P x d ∧ negD d = some d' ∧ Res X.K H P d' Q) := by
  intro pins s σ H x v Q I rx h
  obtain ⟨P, d, d', r, e, q⟩ := h
  unfold negD at e
  split at e
  · cases e
    exact un_neg pins s σ H x v Q I rx ⟨_, r.int_inv, q.int⟩
  · cases e

/-! ### items, slices -/
theorem reps_atI {K : PySem.W.Frag} {H : Hp} {P : Addr → Prop} {vs : List V} {ds : List D} {i : Int} {d : D} (r : Reps K H P vs ds) (h : atI ds i = some d) : ∃ v, atI vs i = some v ∧ Rep K H P v d := by
  unfold atI at h ⊢
  rw [r.length]
  cases e : ixN ds.length i with
  | none => rw [e] at h; cases h
  | some j =>
    rw [e] at h
    exact r.get h
theorem atI_map {α β : Type} (f : α → β) (xs : List α) (i : Int) : atI (xs.map f) i = (atI xs i).map f := by
  unfold atI
  rw [List.length_map]
  cases ixN xs.length i with
  | none => rfl
  | some j => simp
/-- an old thing is handed on -/
def rO (K : PySem.W.Frag) (f : D → D → Option D) : R2 := fun x y H Q => ∃ P dx dy d, Rep K H P x dx ∧ Rep K H P y dy ∧ f dx dy = some d ∧ ∀ v, Rep K H P v d → Q v H
theorem ix_dictV (hu : X.A.units + 1 < cLine) : IxR X (fun x y H Q => ∃ a v, x = .ref a ∧ DGet H a y (some v) ∧ Q v H) := by
  intro value slice pins s σ H x y v u Q I rx ry h hsub
  obtain ⟨a, z, rfl, g, q⟩ := h
  obtain rfl : v = Value.ref a := rx
  have hT := dict_typeIs I g
  unfold subscriptTail
  refine wpAny_bind ?_
  rw [getitemInPython_of_ne hT.not_modules]
  refine wpAny_bind (wpAny_specialOf hT PySem.F.slot_dict_getitem.lookup ?_)
  have h₂ : wpAny (model X.prog X.w) X.A (getItem (.ref a) u) (EP X pins σ Q) X.xe s := d_getItem hu I g ry fun w' s3 I3 rw' => ⟨z, H, I3, rw', q⟩
  have fin : wpAny (model X.prog X.w) X.A (subscripted slice false (.ref a) u) (fun r s₃ => wpAny (model X.prog X.w) X.A (letTemporaryGo value (.ref a) r >>= fun _ => pure r) (EP X pins σ Q) X.xe s₃) X.xe s := by
    rw [hsub]
    exact wpAny_operating (wpAny_mono h₂ (fun r s₃ h₃ => wpAny_bind (wpAny_letTemporaryGo (wpAny_pure h₃))) fun _ _ x => x)
  first
    | exact wpAny_pure (wpAny_bind fin)
    | exact wpAny_bind (wpAny_pure (wpAny_bind fin))
    | exact wpAny_bind fin
theorem ix_D (hu : X.A.units + 100 < cLine) : IxR X (rO X.K ixD) := by
  intro value slice pins s σ H x y v u Q I rx ry h hsub
  obtain ⟨P, dx, dy, d, r1, r2, e, q⟩ := h
  unfold ixD at e
  split at e
  · obtain ⟨a, vs, rfl, h1, s1⟩ := r1.tup_inv
    cases r2.int_inv
    obtain ⟨z, hz, rz⟩ := reps_atI s1 e
    exact ix_tup value slice pins s σ H _ _ v u Q I rx ry ⟨a, vs, _, z, rfl, rfl, h1, hz, q z rz⟩ hsub
  · obtain ⟨a, vs, rfl, _, h1, s1⟩ := r1.lst_inv
    cases r2.int_inv
    obtain ⟨z, hz, rz⟩ := reps_atI s1 e
    exact ix_list value slice pins s σ H _ _ v u Q I rx ry ⟨a, vs, _, z, rfl, rfl, SqL.of h1, hz, q z rz⟩ hsub
  · obtain ⟨a, rfl, h1⟩ := r1.scr_inv
    cases r2.int_inv
    obtain ⟨n, hn, rfl⟩ := Option.map_eq_some_iff.mp e
    exact ix_list value slice pins s σ H _ _ v u Q I rx ry ⟨a, _, _, .int n, rfl, rfl, h1.sq, by rw [atI_map, hn]; rfl, q _ (.int n)⟩ hsub
  · obtain ⟨key, hk, e⟩ := Option.bind_eq_some_iff.mp e
    obtain ⟨a, o, rfl, g, ho⟩ := dic_rep (key := key) r1
    rw [e] at ho
    obtain ⟨z, rfl, rz⟩ := ho
    have hy := r2.key hk
    subst hy
    exact ix_dictV (by omega) value slice pins s σ H _ _ v u Q I rx ry ⟨a, z, rfl, g, q z rz⟩ hsub
  · obtain ⟨hc, e⟩ := ite_some' e
    obtain ⟨c, hn, rfl⟩ := Option.map_eq_some_iff.mp e
    exact ix_str value slice pins s σ H _ _ v u Q I rx ry ⟨_, _, c, r1.str_inv, r2.int_inv, lineOk_iff.mp hc, hn, q _ (.str _)⟩ hsub
  · cases e
theorem cutV_reps {K : PySem.W.Frag} {H : Hp} {P : Addr → Prop} {vs : List V} {ds : List D} (r : Reps K H P vs ds) (lo hi : Option Int) : Reps K H P (cutV vs lo hi) (cutL ds lo hi) := by
  unfold cutV cutL
  rw [r.length]
  exact (r.drop _).take _
theorem cutV_whole {vs : List V} {lo hi : Option Int} (h : HT.sIx vs.length 0 lo = 0 ∧ HT.sIx vs.length vs.length hi = vs.length) : cutV vs lo hi = vs := by
  unfold cutV
  rw [h.1, h.2]; simp
def rS (K : PySem.W.Frag) : V → Option Int → Option Int → Hp → VK → Prop := fun x lo hi H Q => ∃ P dx d, Rep K H P x dx ∧ slD dx lo hi = some d ∧ Res K H P d Q
theorem sl_D : SlR X (rS X.K) := by
  intro pins s σ H x v vl vu lo hi sl Q I rx hs pl pu h
  obtain ⟨P, dx, d, r, e, q⟩ := h
  unfold slD at e
  split at e
  · cases e
    obtain ⟨a, vs, rfl, h1, s1⟩ := r.tup_invN
    have rc := cutV_reps s1 lo hi
    refine sl_tupN pins s σ H _ v vl vu lo hi sl Q I rx hs pl pu ⟨a, vs, rfl, h1.t, fun w => ?_, fun p o hp ho => q.tup rc hp ho⟩
    rw [cutV_whole w] at rc
    exact q.old (.tup h1 rc) (fun z => by simpa [D.imm1] using z)
  · cases e
    obtain ⟨a, vs, rfl, _, h1, s1⟩ := r.lst_inv
    exact sl_list pins s σ H _ v vl vu lo hi sl Q I rx hs pl pu ⟨a, vs, rfl, SqL.of h1, fun p hp => q.lst (cutV_reps s1 lo hi) hp⟩
  · cases e
end
end Ev
set_option maxHeartbeats 4000000
/-! sorting tuples of which some are empty -/
namespace Ev
open PySem PySem.Spec PyProof.Rows L2 PySem.W PySem.Calls PySem.SeqAt
section
variable {pr : Program} {wd : World} {Ar : Around} {Er : Value → Shared → Prop} {st : Shared}
theorem tup_lt {Qv : Value → Shared → Prop} {l b : Addr} {us ws : Array Value} {e r : Nat → Bool} (hl : st.heap.IsTuple l us) (hb : st.heap.IsTuple b ws) (he : ∀ j (h1 : j < us.size) (h2 : j < ws.size), EqAt Ar.in1 st us[j] ws[j] (e j))
    (hr : ∀ j (h1 : j < us.size) (h2 : j < ws.size), e j = false → RcLt Ar.in1 st us[j] ws[j] (r j)) (q : Qv (.bool (firstLt e r (decide (us.size < ws.size)) (List.range (min us.size ws.size)))) st) : wpAny (model pr wd) Ar (call (.builtin "tuple.__lt__") [.ref l, .ref b]) Qv Er st := by
  obtain ⟨⟨c1, d1, da1, s1⟩, ho, hc, n, hd⟩ := id hl; obtain ⟨⟨c2, d2, da2, s2⟩, ho2, hc2, n2, hd2⟩ := id hb
  simp only at hc hd hc2 hd2; subst hc hd hc2 hd2
  exact call_meets F.slot_tuple_lt ⟨_, ho, rfl⟩ F.entry_tuple_lt (F.args_tuple_lt_2 _ _) (tuple_ltAt l b us ws n n2 d1 d2 s1 s2 e r) ⟨ho, ho2, he, hr, q⟩
/-- one tuple below another -/
theorem oneLt_tup {f : Bool} {xs ys : List PyData} {a b : Value} {as bs : List Addr} {Qb : Bool → Shared → Prop} (ra : Reads st.heap a (.tuple xs) as) (rb : Reads st.heap b (.tuple ys) bs) (h : alike (.tuple xs) (.tuple ys) = true)
    (hu : Ar.units + min (PyData.tuple xs).depth (PyData.tuple ys).depth < cLine) (q : Qb (dataLt (.tuple xs) (.tuple ys)) st) : wpAny (model pr wd) Ar (oneLt' f a b) Qb Er st := by
  cases f with
  | false => exact oneLt_alike (fun z => by cases z) ra rb h (by simp) hu q
  | true =>
    have hal : alikeAll xs ys = true := by simpa [alike] using h
    cases ra with
    | @tuple l o vs n _ _ h1 h2 h3 h4 => cases rb with
      | @tuple l' o' vs' n' _ _ k1 k2 k3 k4 =>
        have n1 : vs.size = xs.length := by simpa using ReadsAll.length _ _ _ h4
        have n2 : vs'.size = ys.length := by simpa using ReadsAll.length _ _ _ k4
        rw [dataLt_tuple, ← firstLt_toks xs ys hal, ← n1, ← n2] at q
        rw [oneLt'_eq]; simp only [if_true]
        refine wpAny_bind (wpAny_cRoomFor (room_here hu) ?_)
        refine wpAny_bind (wpAny_callSpecialIfBound?_slot (T := "tuple") ⟨_, h1, h2⟩ F.slot_tuple_lt (tup_lt (e := pairEq xs ys) (r := fun j => dataLt (xs.getD j .none) (ys.getD j .none)) ⟨_, h1, h2, _, h3⟩ ⟨_, k1, k2, _, k3⟩ (fun j j1 j2 => ?_) (fun j j1 j2 hj => ?_) ?_))
        · have z := eqAt_alikeAll xs ys Ar.in1 st vs.toList vs'.toList _ _ h4 k4 hal (room_in hu) j (by simpa using j1) (by simpa using j2)
          simpa using z
        · have z := rcLt_alikeAll xs ys Ar.in1 st vs.toList vs'.toList _ _ h4 k4 hal (room_in hu) j (by simpa using j1) (by simpa using j2) hj
          simpa using z
        · exact wpAny_truthy_bool q
def nonE : PyData → Bool
  | .tuple (_ :: _) => true
  | _ => false
theorem firsts_any {M : Model} : ∀ {vs : List Value} {ds : List PyData}, EachIs (fun v d => ∃ as, Reads st.heap v d as) vs ds → (∀ d ∈ ds, ∃ xs, d = .tuple xs) →
    ∃ os : List (Option Value), os.map (·.isSome) = ds.map nonE ∧ ∀ (Q : List (Option Value) → Shared → Prop), Q os st → wpAny M Ar (vs.mapM firstOfTuple') Q Er st
  | _, _, .nil, _ => ⟨[], rfl, fun Q q => by rw [List.mapM_nil]; exact wpAny_pure q⟩
  | _, _, .cons (b := d) ⟨as, r⟩ t, ht => by
    obtain ⟨os, h1, h2⟩ := firsts_any (M := M) t fun d hd => ht d (List.mem_cons_of_mem _ hd)
    obtain ⟨xs, rfl⟩ := ht d List.mem_cons_self
    cases r with
    | @tuple a o us n _ _ ho hc hd hr =>
      refine ⟨us[0]? :: os, ?_, fun Q q => ?_⟩
      · rw [List.map_cons, List.map_cons, h1]
        congr 1
        rw [← Array.getElem?_toList]
        cases e : us.toList with
        | nil => rw [e] at hr; cases hr; rfl
        | cons u ur => rw [e] at hr; cases hr; rfl
      · rw [List.mapM_cons]
        refine wpAny_bind ?_
        rw [kas_first_eq]
        refine wpAny_bind (Looks.here (show Looks M st.heap (typeOf (.ref a)) o.cls from (Looks.ld ho).andThen .now) ?_)
        rw [hc, if_neg (by first | decide | simp)]
        refine wpAny_bind (listItems_at ho hd (wpAny_pure ?_))
        exact wpAny_bind (h2 (fun bs s' => wpAny M Ar (pure (us[0]? :: bs)) Q Er s') (wpAny_pure q))
/-- values that read as alike tuples, some of them empty, can be sorted -/
theorem mixed_at {vs : List Value} {ds : List PyData} (e : EachIs (fun v d => ∃ as, Reads st.heap v d as) vs ds) (hal : AllAlike ds) (ht : ∀ d ∈ ds, ∃ xs, d = .tuple xs) (hm : ds.all nonE = false) (hu : ∀ d, d ∈ ds → Ar.units + d.depth < cLine) : SortsAt pr wd Ar st (dataKind st.heap ds) vs := by
  have room : ∀ {d d' : PyData}, d ∈ ds → Ar.units + min d.depth d'.depth < cLine := fun {d d'} hd => Nat.lt_of_le_of_lt (Nat.add_le_add_left (Nat.min_le_left _ _) _) (hu d hd)
  have ltA : ∀ kd : SortKind, (∀ x y, ∃ f, keyLt' kd x y = oneLt' f x y) → H.LtAt pr wd Ar st (dataKind st.heap ds) kd := fun kd hk E x y a b Q ha hb hq => by
    obtain ⟨d, as, hd, ra, rfl⟩ := dataKind_inv ha
    obtain ⟨d', as', hd', rb, rfl⟩ := dataKind_inv hb
    obtain ⟨xs, rfl⟩ := ht d hd
    obtain ⟨ys, rfl⟩ := ht d' hd'
    obtain ⟨f, hf⟩ := hk x y
    rw [hf]
    exact oneLt_tup ra rb (hal _ hd _ hd') (room hd) hq
  refine ⟨fun v hv => ?_, (if (ds.head?.map nonE) = some true then general' else oneType'), ?_, fun h2 E Q hq => ?_⟩
  · obtain ⟨d, hd, as, r⟩ := e.left v hv
    exact ⟨_, dataKind_some hal hd r⟩
  · split
    · exact ltA _ fun x y => ⟨false, rfl⟩
    · exact ltA _ fun x y => ⟨true, rfl⟩
  · obtain ⟨os, o1, o2⟩ := firsts_any (M := model pr wd) (Ar := Ar) (Er := E) e ht
    rw [keyKind'_eq, List.mapM_toArray, map_eq_pure_bind]
    refine wpAny_bind (wpAny_bind (o2 _ (wpAny_pure ?_)))
    have hall : (os.toArray.all fun x => x.isSome) = false := by
      rw [List.all_toArray]
      have : os.all (fun x => x.isSome) = (os.map (·.isSome)).all id := by simp [List.all_map]
      rw [this, o1, List.all_map]
      exact hm
    rw [if_neg (by rw [hall]; simp)]
    have h0 : (os.toArray[0]?.bind id).isSome = ((ds.head?.map nonE) == some true) := by
      cases os with
      | nil => cases ds with
        | nil => rfl
        | cons d ds => cases o1
      | cons o os => cases ds with
        | nil => cases o1
        | cons d ds =>
          rw [List.map_cons, List.map_cons] at o1
          have := (List.cons.inj o1).1
          simp only [List.getElem?_toArray, List.getElem?_cons_zero, Option.bind_some, id, List.head?_cons, Option.map_some, ← this]
          cases o <;> rfl
    by_cases hh : (ds.head?.map nonE) = some true
    · rw [if_pos hh] at hq
      rw [if_pos (by rw [h0, hh]; rfl)]
      exact wpAny_pure hq
    · rw [if_neg hh] at hq
      rw [if_neg (by rw [h0]; simpa using hh)]
      have hT : ∀ v ∈ vs, Looks (model pr wd) st.heap (typeOf v) (Value.type "tuple") := fun v hv => by
        obtain ⟨d, hd, as, r⟩ := e.left v hv
        obtain ⟨xs, rfl⟩ := ht d hd
        exact looks_reads r
      obtain ⟨v1, rest, rfl⟩ : ∃ v1 rest, vs = v1 :: rest := by
        match vs, h2 with
        | v1 :: rest, _ => exact ⟨v1, rest, rfl⟩
      rw [oneTypeOnly'_eq, List.mapM_toArray, map_eq_pure_bind]
      refine wpAny_bind (wpAny_bind (wpAny_bind (kas_mapM (r := Value.type "tuple") _ (fun v hv Q' z => (hT v hv).here z) (wpAny_pure ?_))))
      have a1 : ((List.map (fun _ => Value.type "tuple") (v1 :: rest)).toArray.all fun x => x == Value.type "tuple") = true := by
        simp only [List.all_toArray, List.all_map, List.all_eq_true]
        intro _ _
        exact beq_self_eq_true _
      have a2 : (List.map (fun _ => Value.type "tuple") (v1 :: rest)).toArray[0]? = some (Value.type "tuple") := by simp
      rw [a2]
      simp only [a1, if_true]
      exact wpAny_pure (wpAny_pure hq)
def SrtOk (ds : List PyData) : Prop := Sortable ds ∨ ((∀ d ∈ ds, ∃ xs, d = .tuple xs) ∧ ds.all nonE = false)
theorem sortsAt_ok {vs : List Value} {ds : List PyData} (e : EachIs (fun v d => ∃ as, Reads st.heap v d as) vs ds) (hal : AllAlike ds) (hk : SrtOk ds) (hu : ∀ d, d ∈ ds → Ar.units + d.depth < cLine) : SortsAt pr wd Ar st (dataKind st.heap ds) vs :=
  hk.elim (fun h => SortsAt.data e hal h hu) fun h => mixed_at e hal h.1 h.2 hu
theorem srtOk_tups {ds : List PyData} (ht : ∀ d ∈ ds, ∃ xs, d = .tuple xs) : SrtOk ds := by
  cases h : ds.all nonE with
  | false => exact .inr ⟨ht, h⟩
  | true =>
    refine .inl (.inl fun d hd => ?_)
    have h2 := List.all_eq_true.mp h d hd
    obtain ⟨xs, rfl⟩ := ht d hd
    cases xs with
    | nil => cases h2
    | cons x r => exact ⟨x, r, rfl⟩
end
end Ev
set_option maxHeartbeats 4000000
namespace Ev
open PySem PySem.Spec PyProof.Rows L2 PySem.W PySem.Calls
section
variable {pr : Program} {wd : World} {Ar : Around} {Er : Value → Shared → Prop} {st : Shared} {t : Addr} {us : List Value}
/-- the items of a tuple, gathered in a new list -/
theorem gather_tup {Qk : List Value → Shared → Prop} (ht : st.heap.IsTuple t us.toArray) (hn : us.length ≤ sizeLine)
    (q : Qk us { st with heap := (st.heap.push (seqObj "list" #[] 0)).update st.heap.objs.size (Obj.mapSeq (· ++ us.toArray)) }) :
    wpAny (model pr wd) Ar (collect (.ref t)) Qk Er st := by
  obtain ⟨ob, h1, hcl, cnt, hda⟩ := id ht
  unfold collect
  refine wpAny_bind (wpAny_runValue (codeAny_builtin entry_proto_collect' ?_)); show wpAny _ _ (do again (.builtin "list.__iadd__" ⟨[← newList [], .ref t], []⟩)) _ _ st
  refine wpAny_bind (wpAny_newList (wpAny_pure ⟨Code.quiet_builtin _ (by decide +kernel), codeAny_builtin entry_list_iadd' ?_⟩)); show wpAny _ _ (Builtin.List.listExtendWith (.ref st.heap.objs.size) (.ref t) (.ref st.heap.objs.size)) _ _ { st with heap := st.heap.push (seqObj "list" #[] 0) }
  unfold Builtin.List.listExtendWith
  have h2 : (st.heap.push (seqObj "list" #[] 0)).get? t = some ob := Heap.get?_push_of_some _ h1
  refine wpAny_bind (wpAny_typeOf (T := "tuple") ⟨ob, h2, hcl⟩ ?_)
  have e1 : (Value.type "tuple" == Value.type "tuple") = true := by rfl
  rw [if_pos (by rw [e1]; simp)]
  refine wpAny_bind (listItems_at h2 hda (wpAny_bind (listItems_at (xs := #[]) (n := 0) (Heap.get?_push_size _ rfl) rfl ?_)))
  rw [if_neg (by simp)]
  refine wpAny_bind (listUpdate_at (xs := #[]) (n := 0) (Heap.get?_push_size _ rfl) rfl (wpAny_pure ?_) (Nat.zero_le _) (by
    show (#[] ++ us.toArray).size ≤ sizeLine + 1
    simp only [Array.size_append, List.size_toArray, List.length_nil]; omega))
  show wpAny (model pr wd) Ar (load st.heap.objs.size >>= fun o => match o.data with
      | .seq xs _ => pure xs.toList
      | _ => unsupported "internal:collect") Qk Er { st with heap := (st.heap.push (seqObj "list" #[] 0)).update st.heap.objs.size (Obj.mapSeq (· ++ us.toArray)) }
  refine wpAny_bind (wpAny_load (get?_update_seq (Heap.get?_push_size _ rfl) _) ?_)
  show wpAny _ _ (pure ((#[] : Array Value) ++ us.toArray).toList) Qk Er _
  rw [show ((#[] : Array Value) ++ us.toArray).toList = us by simp]
  exact wpAny_pure q
theorem sortedT_of {Qv : Value → Shared → Prop} (ht : st.heap.IsTuple t us.toArray) (hn : us.length ≤ sizeLine)
    (bd : ∀ E' : Value → Shared → Prop, wpAny (model pr wd) Ar.in1.in1 (Builtin.«list.sort» ⟨[.ref (st.heap.objs.size + 1)], []⟩) (fun f s' => f = .done (.ret .none) ∧ Qv (.ref (st.heap.objs.size + 1)) s') E' { st with heap := copyHeap st.heap us }) :
    wpAny (model pr wd) Ar (call (.builtin "sorted") [.ref t]) Qv Er st := by
  refine call_function_entry_kw kind_sorted plain_sorted entry_sorted (args_sorted1 _) ?_
  unfold Builtin.«sorted»
  refine wpAny_bind (m := checkCount "sorted" 1 1 _) (wpAny_pure (wpAny_bind (gather_tup ht hn (wpAny_bind (wpAny_newList ?_ hn)))))
  have e2 : ((st.heap.push (seqObj "list" #[] 0)).update st.heap.objs.size (Obj.mapSeq (· ++ us.toArray))).objs.size = st.heap.objs.size + 1 := by rw [Heap.size_update, size_push']
  show wpAny _ _ _ _ _ { st with heap := copyHeap st.heap us }
  rw [e2]
  refine wpAny_bind (wpAny_holding (wpAny_call_entry_kw slot_list_sort ⟨_, copyHeap_at st.heap us, rfl⟩ entry_list_sort ?b (args_list_sort _)))
  case b =>
    show wpAny (model pr wd) Ar.in1.in1 (Builtin.«list.sort» ⟨[.ref (st.heap.objs.size + 1)], []⟩) _ _ _
    refine wpAny_mono (bd _) (fun f s' z => ?_) fun _ _ e => e
    obtain ⟨rfl, z⟩ := z
    exact ⟨_, rfl, wpAny_pure ⟨_, rfl, z⟩⟩
/-- sorted of a tuple of data -/
theorem sortedT_data {β : Type} {bs : List β} {en : β → PyData} {Rl : Value → β → Prop} {Qv : Value → Shared → Prop} (ht : st.heap.IsTuple t us.toArray) (e : EachIs Rl us bs) (er : EachIs (fun v b => ∃ as, Reads st.heap v (en b) as) us bs) (ha : AllAlike (bs.map en)) (hk : SrtOk (bs.map en)) (hn : bs.length ≤ sizeLine)
    (hu : ∀ b, b ∈ bs → Ar.units + 2 + (en b).depth < cLine) (q : ∀ out, out.length = bs.length → EachIs Rl out (bs.mergeSort (dataLe false en)) → Qv (.ref (st.heap.objs.size + 1)) { st with heap := sortedAll st.heap us (List.toArray out) }) :
    wpAny (model pr wd) Ar (call (.builtin "sorted") [.ref t]) Qv Er st := by
  have er2 : EachIs (fun v b => ∃ as, Reads (sortingHeap (copyHeap st.heap us) (st.heap.objs.size + 1) us) v (en b) as) us bs := er.mono fun _ _ ⟨as, r⟩ => ⟨as, PyProof.Rows.Reads.keeps (fun _ _ => sorting_copy_old) r⟩
  have hl : us.length ≤ sizeLine := by rw [e.length]; exact hn
  refine sortedT_of ht hl fun _ => ?_
  exact list_sort_vals (s := { st with heap := copyHeap st.heap us }) (copyHeap_at st.heap us) (sortsAt_ok (st := { st with heap := sortingHeap (copyHeap st.heap us) (st.heap.objs.size + 1) us }) (each_map (R := fun v d => ∃ as, Reads (sortingHeap (copyHeap st.heap us) (st.heap.objs.size + 1) us) v d as) en er2) ha hk (bound_map hu)) hl
    ⟨rfl, q _ (by rw [sortVals_length false rfl]; exact e.length) (sortVals_data false e er2 ha)⟩
/-- sorted of a list of data -/
theorem sortedL_data {β : Type} {bs : List β} {en : β → PyData} {Rl : Value → β → Prop} {Qv : Value → Shared → Prop} (ht : st.heap.IsList t us.toArray) (e : EachIs Rl us bs) (er : EachIs (fun v b => ∃ as, Reads st.heap v (en b) as) us bs) (ha : AllAlike (bs.map en)) (hk : SrtOk (bs.map en)) (hn : bs.length ≤ sizeLine)
    (hu : ∀ b, b ∈ bs → Ar.units + 2 + (en b).depth < cLine) (q : ∀ out, out.length = bs.length → EachIs Rl out (bs.mergeSort (dataLe false en)) → Qv (.ref (st.heap.objs.size + 1)) { st with heap := sortedAll st.heap us (List.toArray out) }) :
    wpAny (model pr wd) Ar (call (.builtin "sorted") [.ref t]) Qv Er st := by
  have er2 : EachIs (fun v b => ∃ as, Reads (sortingHeap (copyHeap st.heap us) (st.heap.objs.size + 1) us) v (en b) as) us bs := er.mono fun _ _ ⟨as, r⟩ => ⟨as, PyProof.Rows.Reads.keeps (fun _ _ => sorting_copy_old) r⟩
  refine sorted_vals ht (sortsAt_ok (st := { st with heap := sortingHeap (copyHeap st.heap us) (st.heap.objs.size + 1) us }) (each_map (R := fun v d => ∃ as, Reads (sortingHeap (copyHeap st.heap us) (st.heap.objs.size + 1) us) v d as) en er2) ha hk (bound_map hu)) (by rw [e.length]; exact hn) ?_
  exact q _ (by rw [sortVals_length false rfl]; exact e.length) (sortVals_data false e er2 ha)
end
end Ev
set_option maxHeartbeats 4000000
namespace Ev
open PySem PySem.Spec PySem.SeqAt PySem.W PyProof.Rows L2
section
variable {X : Cx}
def rF (K : PySem.W.Frag) (f : BF) : List V → Hp → VK → Prop := fun xs H Q => ∃ P ds d, Reps K H P xs ds ∧ bfD f ds = some d ∧ Res K H P d Q
/-- one argument -/
theorem bfD_one {f : BF} {ds : List D} {d : D} (h : bfD f ds = some d) : (∃ x, ds = [x] ∧ bf1 f x = some d) ∨ ∃ x y, ds = [x, y] ∧ bf2 f x y = some d := by
  unfold bfD at h
  split at h
  · exact .inl ⟨_, rfl, h⟩
  · exact .inr ⟨_, _, rfl, h⟩
  · cases h
theorem Reps.one {K : PySem.W.Frag} {H : Hp} {P : Addr → Prop} {xs : List V} {x : D} (r : Reps K H P xs [x]) : ∃ v, xs = [v] ∧ Rep K H P v x := by
  cases r with
  | cons r t => cases t; exact ⟨_, rfl, r⟩
theorem Reps.two {K : PySem.W.Frag} {H : Hp} {P : Addr → Prop} {xs : List V} {x y : D} (r : Reps K H P xs [x, y]) : ∃ v u, xs = [v, u] ∧ Rep K H P v x ∧ Rep K H P u y := by
  cases r with
  | cons r t =>
    obtain ⟨u, rfl, q⟩ := t.one
    exact ⟨_, _, rfl, r, q⟩
theorem bf2_none {f : BF} (h : ∀ x y, bf2 f x y = none) {ds : List D} {d : D} (e : bfD f ds = some d) : ∃ x, ds = [x] ∧ bf1 f x = some d := by
  rcases bfD_one e with h1 | ⟨x, y, rfl, h1⟩
  · exact h1
  · rw [h] at h1; cases h1
theorem cr_lenD : CallR X (.builtin "len") (rF X.K .len) := by
  intro pins s σ H xs us Q I r h
  obtain ⟨P, ds, d, rs, e, q⟩ := h
  obtain ⟨x, rfl, e⟩ := bf2_none (fun _ _ => rfl) e
  obtain ⟨v, rfl, rx⟩ := rs.one
  have e : lenD x = some d := e
  unfold lenD at e
  split at e
  · cases e
    obtain ⟨a, vs, rfl, h1, s1⟩ := rx.tup_inv
    exact call_len_seq pins s σ H _ us Q I r ⟨a, vs, rfl, .inr h1, by rw [s1.length]; exact q.int⟩
  · cases e
    obtain ⟨a, vs, rfl, _, h1, s1⟩ := rx.lst_inv
    exact call_len_seq pins s σ H _ us Q I r ⟨a, vs, rfl, .inl (SqL.of h1), by rw [s1.length]; exact q.int⟩
  · cases e
    obtain ⟨a, rfl, h1⟩ := rx.scr_inv
    exact call_len_seq pins s σ H _ us Q I r ⟨a, _, rfl, .inl h1.sq, by rw [List.length_map]; exact q.int⟩
  · obtain ⟨hc, rfl⟩ := ite_some e
    cases rx.str_inv
    exact call_len_str pins s σ H _ us Q I r ⟨_, rfl, lineOk_iff.mp hc, q.int⟩
  · cases e
theorem cr_absD : CallR X (.builtin "abs") (rF X.K .abs) := by
  intro pins s σ H xs us Q I r h
  obtain ⟨P, ds, d, rs, e, q⟩ := h
  obtain ⟨x, rfl, e⟩ := bf2_none (fun _ _ => rfl) e
  obtain ⟨v, rfl, rx⟩ := rs.one
  cases x with
  | int i =>
    cases e
    cases rx.int_inv
    exact call_abs pins s σ H _ us Q I r ⟨_, rfl, q.int⟩
  | _ => cases e
theorem cr_intD : CallR X (.type "int") (rF X.K .int) := by
  intro pins s σ H xs us Q I r h
  obtain ⟨P, ds, d, rs, e, q⟩ := h
  obtain ⟨x, rfl, e⟩ := bf2_none (fun _ _ => rfl) e
  obtain ⟨v, rfl, rx⟩ := rs.one
  cases x with
  | int i =>
    cases e
    cases rx.int_inv
    exact call_int1 pins s σ H _ us Q I r (.inl ⟨_, rfl, q.int⟩)
  | bl b =>
    cases e
    cases rx.bl_inv
    exact call_int1 pins s σ H _ us Q I r (.inr ⟨_, rfl, q.int⟩)
  | _ => cases e
theorem cr_tupleD : CallR X (.type "tuple") (rF X.K .tuple) := by
  intro pins s σ H xs us Q I r h
  obtain ⟨P, ds, d, rs, e, q⟩ := h
  obtain ⟨x, rfl, e⟩ := bf2_none (fun _ _ => rfl) e
  obtain ⟨v, rfl, rx⟩ := rs.one
  cases x with
  | tup xs =>
    cases e
    obtain ⟨a, vs, rfl, h1, s1⟩ := rx.tup_inv
    exact call_tupN pins s σ H _ us Q I r ⟨a, vs, rfl, .inr ⟨h1, q.old rx (fun z => by simpa [D.imm1] using z)⟩⟩
  | lst xs =>
    cases e
    obtain ⟨a, vs, rfl, _, h1, s1⟩ := rx.lst_inv
    exact call_tupN pins s σ H _ us Q I r ⟨a, vs, rfl, .inl ⟨SqL.of h1, fun p o hp ho => q.tup s1 hp ho⟩⟩
  | _ => cases e
theorem cr_listD : CallR X (.type "list") (rF X.K .list) := by
  intro pins s σ H xs us Q I r h
  obtain ⟨P, ds, d, rs, e, q⟩ := h
  obtain ⟨x, rfl, e⟩ := bf2_none (fun _ _ => rfl) e
  obtain ⟨v, rfl, rx⟩ := rs.one
  cases x with
  | tup xs =>
    cases e
    obtain ⟨a, vs, rfl, h1, s1⟩ := rx.tup_inv
    exact call_list_of pins s σ H _ us Q I r ⟨a, vs, rfl, .inr h1, fun p hp => q.lst s1 hp⟩
  | lst xs =>
    cases e
    obtain ⟨a, vs, rfl, _, h1, s1⟩ := rx.lst_inv
    exact call_list_of pins s σ H _ us Q I r ⟨a, vs, rfl, .inl (SqL.of h1), fun p hp => q.lst s1 hp⟩
  | _ => cases e
/-- the items, as values of a list or a tuple -/
theorem itemsD_rep {K : PySem.W.Frag} {H : Hp} {P : Addr → Prop} {v : V} {x : D} {xs : List D} (r : Rep K H P v x) (e : itemsD x = some xs) : ∃ a vs, v = .ref a ∧ Reps K H P vs xs ∧ ((H a = some (.lst vs) ∧ P a ∧ x = .lst xs) ∨ (SqT K H a vs ∧ x = .tup xs)) := by
  cases x with
  | tup ys =>
    cases e
    obtain ⟨a, vs, rfl, h1, s1⟩ := r.tup_inv
    exact ⟨a, vs, rfl, s1, .inr ⟨h1, rfl⟩⟩
  | lst ys =>
    cases e
    obtain ⟨a, vs, rfl, p, h1, s1⟩ := r.lst_inv
    exact ⟨a, vs, rfl, s1, .inl ⟨h1, p, rfl⟩⟩
  | _ => cases e
end
section
variable {X : Cx}
theorem mapO_py_int : ∀ {xs : List D} {ns : List Int}, mapO intOf xs = some ns → xs = ns.map .int
  | [], ns, e => by simp [mapO] at e; subst e; rfl
  | x :: xs, ns, e => by
    simp only [mapO, Option.bind_eq_some_iff] at e
    obtain ⟨i, h1, ms, h2, h3⟩ := e
    cases h3
    rw [mapO_py_int h2]
    cases x <;> simp_all [intOf]
section
open PySem.W
variable {prog : Program} {w : World} {A : Around} {E : Value → Shared → Prop} {s : Shared} {Q : Value → Shared → Prop}
theorem sum_rawT {t : Addr} {its : List Value} {ns : List Int} (hh : A.handled = none) (ht : IsTup s.heap t its.toArray) (hi : IntsAre its ns)
    (h : ∀ h' tk t', (∀ b o, s.heap.get? b = some o → h'.get? b = some o) → Q (.int ns.sum t') { s with heap := h', toks := tk }) : wpAny (model prog w) A (call (.builtin "sum") [.ref t]) Q E s := by
  obtain ⟨xs, e⟩ := hi.allInts.items
  have hn : numsOf (intItems xs).toList = ns := by rw [← e]; exact hi.numsOf
  rw [nums_intItems] at hn
  rw [e] at ht
  have hlt : t < s.heap.objs.size := by obtain ⟨o, ho, _⟩ := id ht; exact Heap.lt_size ho
  refine call_sum_walkG (wpAny_pyIter_tuple ht ?_)
  refine ⟨s.heap.objs.size, [s.heap.objs.size, t], [s.heap.objs.size], (intItems xs).size, _, _, numAt xs, rfl, Walks.tuple (A := A.in1) hh _ t (Nat.ne_of_lt hlt) (intItems xs), ⟨⟨_, Heap.get?_push_size _ rfl, rfl, rfl⟩, (show Heap.IsTuple s.heap t (intItems xs) from ht).at fun o e => Heap.get?_push_of_some _ e⟩, fun b hb => ?_, fun _ _ => intItems_at, fun h' tk t' hk => ?_⟩
  · show b < (s.heap.push _).objs.size
    rw [Heap.size_push]
    have e' : b = s.heap.objs.size ∨ b = t := by simpa using hb
    rcases e' with z | z
    · rw [z]; exact Nat.lt_succ_self _
    · rw [z]; exact Nat.lt_succ_of_lt hlt
  · have := h h' tk t' fun b o e => hk b o (fun z => by
      rw [List.mem_singleton.mp z] at e
      exact absurd (Heap.lt_size e) (Nat.lt_irrefl _)) (Heap.get?_push_of_some _ e)
    rw [preSum_eq, List.take_of_length_le (by simp [intItems]), hn]
    exact this
end
theorem cr_sumD (hc : X.calm = true) : CallR X (.builtin "sum") (rF X.K .sum) := by
  intro pins s σ H xs us Q I r h
  obtain ⟨P, ds, d, rs, e, q⟩ := h
  obtain ⟨x, rfl, e⟩ := bf2_none (fun _ _ => rfl) e
  obtain ⟨v, rfl, rx⟩ := rs.one
  cases x with
  | lst ys =>
    have e : ((mapO intOf ys).bind fun ns => some (D.int ns.sum)) = some d := e
    simp only [Option.bind_eq_some_iff] at e
    obtain ⟨ns, e2, e3⟩ := e
    cases e3
    obtain ⟨a, vs, rfl, _, h1, s1⟩ := rx.lst_inv
    have hv := s1.ints e2
    subst hv
    exact cr_sum hc pins s σ H _ us Q I r ⟨a, ns, rfl, SqL.of h1, q.int⟩
  | tup ys =>
    have e : ((mapO intOf ys).bind fun ns => some (D.int ns.sum)) = some d := e
    simp only [Option.bind_eq_some_iff] at e
    obtain ⟨ns, e2, e3⟩ := e
    cases e3
    obtain ⟨a, vs, rfl, h1, s1⟩ := rx.tup_inv
    have hv := s1.ints e2
    subst hv
    obtain ⟨its, rv, ht, _⟩ := I.tuple h1
    rw [Vals.ref1 r]
    exact sum_rawT (I.ok.hd hc) ht rv.ints fun h' tk t' hk => ⟨.int _, H, I.kept hk, ⟨_, rfl⟩, q.int⟩
  | _ => cases e
theorem cr_allD (hc : X.calm = true) : CallR X (.builtin "all") (rF X.K .all) := by
  intro pins s σ H xs us Q I r h
  obtain ⟨P, ds, d, rs, e, q⟩ := h
  obtain ⟨x, rfl, e⟩ := bf2_none (fun _ _ => rfl) e
  obtain ⟨v, rfl, rx⟩ := rs.one
  cases x with
  | lst ys =>
    have e : ((mapO boolOf ys).bind fun ns => some (D.bl (ns.all id))) = some d := e
    simp only [Option.bind_eq_some_iff] at e
    obtain ⟨ns, e2, e3⟩ := e
    cases e3
    obtain ⟨a, vs, rfl, _, h1, s1⟩ := rx.lst_inv
    have hv := s1.bls e2
    subst hv
    exact cr_all hc pins s σ H _ us Q I r ⟨a, ns, rfl, SqL.of h1, q.bl⟩
  | _ => cases e
theorem cr_anyD (hc : X.calm = true) : CallR X (.builtin "any") (rF X.K .any) := by
  intro pins s σ H xs us Q I r h
  obtain ⟨P, ds, d, rs, e, q⟩ := h
  obtain ⟨x, rfl, e⟩ := bf2_none (fun _ _ => rfl) e
  obtain ⟨v, rfl, rx⟩ := rs.one
  cases x with
  | lst ys =>
    have e : ((mapO boolOf ys).bind fun ns => some (D.bl (ns.any id))) = some d := e
    simp only [Option.bind_eq_some_iff] at e
    obtain ⟨ns, e2, e3⟩ := e
    cases e3
    obtain ⟨a, vs, rfl, _, h1, s1⟩ := rx.lst_inv
    have hv := s1.bls e2
    subst hv
    exact cr_any hc pins s σ H _ us Q I r ⟨a, ns, rfl, SqL.of h1, q.bl⟩
  | _ => cases e
/-! min, max, sorted -/
mutual
theorem py_inj : ∀ (x y : D), x.py = y.py → x.py.plain = true → x = y
  | .non, y, h, _ => by cases y <;> simp_all [D.py]
  | .bl b, y, h, _ => by cases y <;> simp_all [D.py]
  | .int i, y, h, _ => by cases y <;> simp_all [D.py]
  | .str s, y, h, _ => by cases y <;> simp_all [D.py]
  | .tup xs, y, h, p => by
    cases y with
    | tup ys =>
      simp only [D.py, PyData.tuple.injEq] at h
      rw [pys_inj xs ys h (by simpa [D.py, PyData.plain] using p)]
    | _ => simp [D.py] at h
  | .lst xs, y, h, p => by
    cases y with
    | lst ys =>
      simp only [D.py, PyData.list.injEq] at h
      rw [pys_inj xs ys h (by simpa [D.py, PyData.plain] using p)]
    | _ => simp [D.py] at h
  | .scr ns, y, h, p => by simp [D.py, PyData.plain] at p
theorem pys_inj : ∀ (xs ys : List D), D.pys xs = D.pys ys → PyData.plainAll (D.pys xs) = true → xs = ys
  | [], [], _, _ => rfl
  | [], y :: ys, h, _ => by simp [D.pys] at h
  | x :: xs, [], h, _ => by simp [D.pys] at h
  | x :: xs, y :: ys, h, p => by
    simp only [D.pys, List.cons.injEq] at h
    simp only [D.pys, PyData.plainAll, Bool.and_eq_true] at p
    rw [py_inj x y h.1 p.1, pys_inj xs ys h.2 p.2]
end
theorem pys_eq : ∀ xs : List D, D.pys xs = xs.map D.py
  | [] => by rw [D.pys]; rfl
  | x :: xs => by rw [D.pys, pys_eq xs]; rfl
theorem minL_py : ∀ (xs : List D) (m : D), (minL m xs).py = minD m.py (D.pys xs)
  | [], m => by rw [D.pys]; rfl
  | x :: xs, m => by
    rw [D.pys]
    unfold minL
    rw [minL_py xs]
    unfold minD
    rw [List.foldl_cons]
    congr 1
    split <;> rfl
theorem maxL_py : ∀ (xs : List D) (m : D), (maxL m xs).py = maxD m.py (D.pys xs)
  | [], m => by rw [D.pys]; rfl
  | x :: xs, m => by
    rw [D.pys]
    unfold maxL
    rw [maxL_py xs]
    unfold maxD
    rw [List.foldl_cons]
    congr 1
    split <;> rfl
theorem minL_mem : ∀ (xs : List D) (m : D), minL m xs ∈ m :: xs
  | [], m => by simp [minL]
  | x :: xs, m => by
    unfold minL
    have := minL_mem xs (if PySem.W.dataLt x.py m.py = true then x else m)
    split at this <;> split <;> simp_all <;> (rcases this with h | h <;> simp [h])
theorem maxL_mem : ∀ (xs : List D) (m : D), maxL m xs ∈ m :: xs
  | [], m => by simp [maxL]
  | x :: xs, m => by
    unfold maxL
    have := maxL_mem xs (if PySem.W.dataLt m.py x.py = true then x else m)
    split at this <;> split <;> simp_all <;> (rcases this with h | h <;> simp [h])
theorem plain_of_mem : ∀ {xs : List D} (h : PyData.plainAll (D.pys xs) = true) {x : D} (m : x ∈ xs), x.py.plain = true
  | [], _, _, m => by cases m
  | y :: ys, h, x, m => by
    simp only [D.pys, PyData.plainAll, Bool.and_eq_true] at h
    rcases List.mem_cons.mp m with rfl | m
    · exact h.1
    · exact plain_of_mem h.2 m
theorem imm_of_mem : ∀ {xs : List D} (h : D.imms xs = true) {x : D} (m : x ∈ xs), x.imm = true
  | [], _, _, m => by cases m
  | y :: ys, h, x, m => by
    simp only [D.imms, Bool.and_eq_true] at h
    rcases List.mem_cons.mp m with rfl | m
    · exact h.1
    · exact imm_of_mem h.2 m
theorem depth_of_mem : ∀ {xs : List D} {x : D} (m : x ∈ xs), x.py.depth ≤ PyData.depthAll (D.pys xs)
  | [], _, m => by cases m
  | y :: ys, x, m => by
    simp only [D.pys, PyData.depthAll]
    rcases List.mem_cons.mp m with rfl | m
    · omega
    · have := depth_of_mem m
      omega
theorem alikeAll_of {xs : List D} (h1 : allAlike xs = true) (h2 : (!xs.any isNon) = true) : AlikeAll (D.pys xs) := by
  rw [pys_eq]
  refine ⟨fun x hx y hy => ?_, fun x hx e => ?_⟩
  · obtain ⟨a, ha, rfl⟩ := List.mem_map.mp hx
    obtain ⟨b, hb, rfl⟩ := List.mem_map.mp hy
    simp only [allAlike, List.all_eq_true] at h1
    exact h1 a ha b hb
  · obtain ⟨a, ha, rfl⟩ := List.mem_map.mp hx
    have : isNon a = true := by cases a <;> simp_all [D.py, isNon]
    simp only [Bool.not_eq_true', List.any_eq_false] at h2
    exact absurd this (h2 a ha)
theorem vals_getV : ∀ {xs : List V} {us : List Value} {i : Nat} {u : Value}, Vals xs us → us[i]? = some u → ∃ x, xs[i]? = some x ∧ RelV x u
  | _, _, _, _, .nil, e => by simp at e
  | _, _, 0, _, .cons r _, e => by simp at e; subst e; exact ⟨_, rfl, r⟩
  | _, _, i + 1, u, .cons _ t, e => by
    obtain ⟨v, h1, h2⟩ := vals_getV (i := i) (u := u) t (by simpa using e)
    exact ⟨v, by simpa using h1, h2⟩
/-- the value that reads as d among the items is d -/
theorem pick_rep {pins : List (Addr × Obj)} {σ : L2.St} {H : Hp} {s : Shared} {P : Addr → Prop} {vs : List V} {its : List Value} {ds : List D} {i : Nat} {v : Value} {d : D} {h' : Heap} {bs : List Addr}
    (I : Inv X pins σ H s) (r : Reps X.K H P vs ds) (rv : Vals vs its) (hi : its[i]? = some v) (hp : PyData.plainAll (D.pys ds) = true) (hal : AlikeAll (D.pys ds)) (hm : d ∈ ds)
    (k : ∀ b o, s.heap.get? b = some o → h'.get? b = some o) (hr : Reads h' v d.py bs) : ∃ x, RelV x v ∧ Rep X.K H P x d := by
  obtain ⟨x, hx, rx⟩ := vals_getV rv hi
  obtain ⟨d', hd, rd⟩ := r.getV hx
  have hd' : d' ∈ ds := List.mem_of_getElem? hd
  obtain ⟨as, a1⟩ := rd.reads I (plain_of_mem hp hd') rx
  have a2 := PyProof.Rows.Reads.keeps k a1
  have e : d'.py = d.py := alike_unique _ _ _ _ _ (hal.1 _ (by rw [pys_eq]; exact List.mem_map.mpr ⟨d', hd', rfl⟩) _ (by rw [pys_eq]; exact List.mem_map.mpr ⟨d, hm, rfl⟩)) a2 hr
  have := py_inj d' d e (plain_of_mem hp hd')
  subst this
  exact ⟨x, rx, rd⟩
theorem itemsD_inv {x : D} {xs : List D} (h : itemsD x = some xs) : x = .lst xs ∨ x = .tup xs := by
  cases x <;> simp_all [itemsD]
theorem cr_minD (hc : X.calm = true) (hu : X.A.units + 100 < cLine) : CallR X (.builtin "min") (rF X.K .min) := by
  intro pins s σ H xs us Q I r h
  obtain ⟨P, ds, d, rs, e, q⟩ := h
  rcases bfD_one e with ⟨x, rfl, e⟩ | ⟨x, y, rfl, e⟩
  · obtain ⟨v, rfl, rx⟩ := rs.one
    have e : ((itemsD x).bind fun xs => (match xs with | [] => none | y :: ys => if allAlike xs && wfs xs && !xs.any isNon && D.imms xs then some (minL y ys) else none)) = some d := e
    simp only [Option.bind_eq_some_iff] at e
    obtain ⟨zs, e1, e2⟩ := e
    cases zs with
    | nil => cases e2
    | cons y ys =>
      obtain ⟨hc1, rfl⟩ := ite_some e2
      simp only [Bool.and_eq_true, wfs_iff] at hc1
      obtain ⟨⟨⟨h1, hp, hd⟩, h2⟩, hi0⟩ := hc1
      have hal := alikeAll_of h1 h2
      have hal' : AlikeAll (y.py :: D.pys ys) := by have := hal; rw [D.pys] at this; exact this
      have hd' : PyData.depthAll (y.py :: D.pys ys) ≤ 60 := by have := hd; rw [D.pys] at this; exact this
      obtain ⟨a, vs, rfl, r1, hh⟩ := itemsD_rep rx e1
      have fin : ∀ (i : Nat) (v : Value) (h' : Heap) (tk : Nat) (bs : List Addr) (its : List Value), Vals vs its → its.toArray[i]? = some v → Reads h' v (minD y.py (D.pys ys)) bs → (∀ b o, s.heap.get? b = some o → h'.get? b = some o) →
          EP X pins σ Q v { s with heap := h', toks := tk } := fun i v h' tk bs its rv hi hr k => by
        rw [← minL_py] at hr
        obtain ⟨z, rz, rp⟩ := pick_rep I r1 rv (by simpa using hi) hp hal (minL_mem ys y) k hr
        refine ⟨z, H, I.kept (t' := tk) k, rz, ?_⟩
        exact q.old rp fun z1 => imm_of_mem hi0 (minL_mem ys y)
      rcases hh with ⟨ha, _, _⟩ | ⟨ha, _⟩
      · obtain ⟨its, rv, hl, hz⟩ := I.list (SqL.of ha)
        obtain ⟨as, ra⟩ := r1.reads I hp rv
        rw [Vals.ref1 r]
        exact min_list_data (I.ok.hd hc) hl.isList (by rw [D.pys] at ra; simpa using ra) hal' (by omega) fun i v h' tk bs hi hr k => fin i v h' tk bs its rv hi hr k
      · obtain ⟨its, rv, hl, hz⟩ := I.tuple ha
        obtain ⟨as, ra⟩ := r1.reads I hp rv
        rw [Vals.ref1 r]
        exact min_tuple_data (I.ok.hd hc) hl (by rw [D.pys] at ra; simpa using ra) hal' (by omega) fun i v h' tk bs hi hr k => fin i v h' tk bs its rv hi hr k
  · obtain ⟨v, u, rfl, r1, r2⟩ := rs.two
    cases x <;> cases y <;> try cases e
    cases r1.int_inv
    cases r2.int_inv
    exact call_min2 hc pins s σ H _ us Q I r ⟨_, _, rfl, q.int⟩
theorem cr_maxD (hc : X.calm = true) (hu : X.A.units + 100 < cLine) : CallR X (.builtin "max") (rF X.K .max) := by
  intro pins s σ H xs us Q I r h
  obtain ⟨P, ds, d, rs, e, q⟩ := h
  rcases bfD_one e with ⟨x, rfl, e⟩ | ⟨x, y, rfl, e⟩
  · obtain ⟨v, rfl, rx⟩ := rs.one
    have e : ((itemsD x).bind fun xs => (match xs with | [] => none | y :: ys => if allAlike xs && wfs xs && !xs.any isNon && D.imms xs then some (maxL y ys) else none)) = some d := e
    simp only [Option.bind_eq_some_iff] at e
    obtain ⟨zs, e1, e2⟩ := e
    cases zs with
    | nil => cases e2
    | cons y ys =>
      obtain ⟨hc1, rfl⟩ := ite_some e2
      simp only [Bool.and_eq_true, wfs_iff] at hc1
      obtain ⟨⟨⟨h1, hp, hd⟩, h2⟩, hi0⟩ := hc1
      have hal := alikeAll_of h1 h2
      have hal' : AlikeAll (y.py :: D.pys ys) := by have := hal; rw [D.pys] at this; exact this
      have hd' : PyData.depthAll (y.py :: D.pys ys) ≤ 60 := by have := hd; rw [D.pys] at this; exact this
      obtain ⟨a, vs, rfl, r1, hh⟩ := itemsD_rep rx e1
      have fin : ∀ (i : Nat) (v : Value) (h' : Heap) (tk : Nat) (bs : List Addr) (its : List Value), Vals vs its → its.toArray[i]? = some v → Reads h' v (maxD y.py (D.pys ys)) bs → (∀ b o, s.heap.get? b = some o → h'.get? b = some o) →
          EP X pins σ Q v { s with heap := h', toks := tk } := fun i v h' tk bs its rv hi hr k => by
        rw [← maxL_py] at hr
        obtain ⟨z, rz, rp⟩ := pick_rep I r1 rv (by simpa using hi) hp hal (maxL_mem ys y) k hr
        refine ⟨z, H, I.kept (t' := tk) k, rz, ?_⟩
        exact q.old rp fun z1 => imm_of_mem hi0 (maxL_mem ys y)
      rcases hh with ⟨ha, _, _⟩ | ⟨ha, _⟩
      · obtain ⟨its, rv, hl, hz⟩ := I.list (SqL.of ha)
        obtain ⟨as, ra⟩ := r1.reads I hp rv
        rw [Vals.ref1 r]
        exact max_list_data (I.ok.hd hc) hl.isList (by rw [D.pys] at ra; simpa using ra) hal' (by omega) fun i v h' tk bs hi hr k => fin i v h' tk bs its rv hi hr k
      · obtain ⟨its, rv, hl, hz⟩ := I.tuple ha
        obtain ⟨as, ra⟩ := r1.reads I hp rv
        rw [Vals.ref1 r]
        exact max_tuple_data (I.ok.hd hc) hl (by rw [D.pys] at ra; simpa using ra) hal' (by omega) fun i v h' tk bs hi hr k => fin i v h' tk bs its rv hi hr k
  · obtain ⟨v, u, rfl, r1, r2⟩ := rs.two
    cases x <;> cases y <;> try cases e
    cases r1.int_inv
    cases r2.int_inv
    exact call_max2 hc pins s σ H _ us Q I r ⟨_, _, rfl, q.int⟩
theorem each_rep {pins : List (Addr × Obj)} {σ : L2.St} {H : Hp} {s : Shared} {P : Addr → Prop} (I : Inv X pins σ H s) : ∀ {vs : List V} {its : List Value} {ys : List D}, Reps X.K H P vs ys → Vals vs its → PyData.plainAll (D.pys ys) = true →
    PySem.W.EachIs (fun (u : Value) (b : D) => (∃ z, RelV z u ∧ Rep X.K H P z b) ∧ ∃ as, Reads s.heap u b.py as) its ys
  | _, _, _, .nil, rv, _ => by cases rv; exact .nil
  | _, _, _, .cons r t, rv, hp => by
    cases rv with
    | cons q1 q2 =>
      simp only [D.pys, PyData.plainAll, Bool.and_eq_true] at hp
      exact .cons ⟨⟨_, q1, r⟩, r.reads I hp.1 q1⟩ (each_rep I t q2 hp.2)
theorem keys_int : ∀ (kvs : List (Key × V)) {ns : List Int}, mapO intOf (kvs.map fun p => keyD p.1) = some ns → kvs.map (fun p => p.1) = ns.map Sum.inl
  | [], ns, h => by cases h; rfl
  | p :: kvs, ns, h => by
    simp only [List.map_cons, mapO, Option.bind_eq_some_iff] at h
    obtain ⟨i, h1, ms, h2, h3⟩ := h
    cases h3
    rw [List.map_cons, List.map_cons, keys_int kvs h2]
    congr 1
    cases q : p.1 with
    | inl j => rw [q] at h1; cases h1; rfl
    | inr x => rw [q] at h1; cases h1
theorem sortI_eq {ns ys : List Int} (pm : ys.Perm ns) (pw : ys.Pairwise (· ≤ ·)) : ys = sortI ns := by
  have p2 : (sortI ns).Perm ns := List.mergeSort_perm _ _
  have pw2 : (sortI ns).Pairwise (· ≤ ·) := (List.pairwise_mergeSort (le := fun x y : Int => !decide (y < x)) (fun a b c h1 h2 => by simp at h1 h2 ⊢; omega) (fun a b => by simp; omega) ns).imp fun {a b} h => by simpa using h
  exact List.Perm.eq_of_pairwise (le := (· ≤ · : Int → Int → Prop)) (fun a b _ _ h1 h2 => by omega) pw pw2 (pm.trans p2.symm)
theorem reps_intsD {K : PySem.W.Frag} {H : Hp} {P : Addr → Prop} : ∀ ns : List Int, Reps K H P (ns.map V.int) (ns.map D.int)
  | [] => .nil
  | n :: ns => .cons (.int n) (reps_intsD ns)
theorem cr_sortedD (hcm : X.calm = true) (hu : X.A.units + 100 < cLine) : CallR X (.builtin "sorted") (rF X.K .sorted) := by
  intro pins s σ H xs us Q I r h
  obtain ⟨P, ds, d, rs, e, q⟩ := h
  obtain ⟨x, rfl, e⟩ := bf2_none (fun _ _ => rfl) e
  obtain ⟨v, rfl, rx⟩ := rs.one
  cases x with
  | lst ys =>
    obtain ⟨hc1, rfl⟩ := ite_some (show (if (allAlike ys && wfs ys && sortable ys) = true then some (D.lst (ys.mergeSort leD)) else none) = some d from e)
    simp only [Bool.and_eq_true, wfs_iff] at hc1
    obtain ⟨⟨h1, hp, hd⟩, h2⟩ := hc1
    obtain ⟨a, vs, rfl, _, ha, s1⟩ := rx.lst_inv
    obtain ⟨its, rv, hl, hz⟩ := I.list (SqL.of ha)
    rw [Vals.ref1 r]
    have he := each_rep I s1 rv hp
    have hlen : ys.length ≤ sizeLine := by rw [← s1.length]; exact hz
    refine sortedL_data (en := D.py) hl.isList (he.mono fun _ _ z => z.1) (he.mono fun _ _ z => z.2) (fun d1 m1 d2 m2 => ?_) ?_ hlen (fun b hb => ?_) fun out ho eo => ?_
    · obtain ⟨a1, ha1, rfl⟩ := List.mem_map.mp m1
      obtain ⟨b1, hb1, rfl⟩ := List.mem_map.mp m2
      simp only [allAlike, List.all_eq_true] at h1
      exact h1 a1 ha1 b1 hb1
    · simp only [sortable, Bool.or_eq_true, List.all_eq_true] at h2
      rcases h2 with h2 | h2
      · refine srtOk_tups fun d1 m1 => ?_
        obtain ⟨a1, ha1, rfl⟩ := List.mem_map.mp m1
        have := h2 a1 ha1
        cases a1 with
        | tup l => exact ⟨_, by rw [D.py]⟩
        | _ => cases this
      · refine .inl (.inr fun d1 m1 => ?_)
        obtain ⟨a1, ha1, rfl⟩ := List.mem_map.mp m1
        have := h2 a1 ha1
        cases a1 <;> simp_all [noTup, D.py]
    · have := depth_of_mem hb
      omega
    · have hsort : (ys.mergeSort (dataLe false D.py)) = ys.mergeSort leD := rfl
      rw [hsort] at eo
      have back : ∀ {out : List Value} {zs : List D}, EachIs (fun (u : Value) (b : D) => ∃ z, RelV z u ∧ Rep X.K H P z b) out zs → ∃ ws, Vals ws out ∧ Reps X.K H P ws zs := by
        intro out zs e
        induction e with
        | nil => exact ⟨[], .nil, .nil⟩
        | cons h1 t ih =>
          obtain ⟨z, q1, q2⟩ := h1
          obtain ⟨ws, q3, q4⟩ := ih
          exact ⟨z :: ws, .cons q1 q3, .cons q2 q4⟩
      obtain ⟨ws, q3, q4⟩ := back eo
      obtain ⟨c, hat⟩ := sortedAll_at s.heap its (List.toArray out)
      have hp0 : H (s.heap.objs.size + 1) = none := I.hok.fresh (Nat.le_succ _)
      refine ⟨.ref (s.heap.objs.size + 1), _, I.laid (t' := s.toks) (o := .lst ws) (fun b o e => sortedAll_old e) (Nat.le_succ _) ⟨by rw [q4.length]; simpa using hlen, out, c, q3, ?_⟩, rfl, q.lst q4 hp0⟩
      exact hat
  | tup ys =>
    obtain ⟨hc1, rfl⟩ := ite_some (show (if (allAlike ys && wfs ys && sortable ys) = true then some (D.lst (ys.mergeSort leD)) else none) = some d from e)
    simp only [Bool.and_eq_true, wfs_iff] at hc1
    obtain ⟨⟨h1, hp, hd⟩, h2⟩ := hc1
    obtain ⟨a, vs, rfl, ha, s1⟩ := rx.tup_inv
    obtain ⟨its, rv, hl, hz⟩ := I.tuple ha
    rw [Vals.ref1 r]
    have he := each_rep I s1 rv hp
    have hlen : ys.length ≤ sizeLine := by rw [← s1.length]; exact hz
    refine sortedT_data (en := D.py) hl (he.mono fun _ _ z => z.1) (he.mono fun _ _ z => z.2) (fun d1 m1 d2 m2 => ?_) ?_ hlen (fun b hb => ?_) fun out ho eo => ?_
    · obtain ⟨a1, ha1, rfl⟩ := List.mem_map.mp m1
      obtain ⟨b1, hb1, rfl⟩ := List.mem_map.mp m2
      simp only [allAlike, List.all_eq_true] at h1
      exact h1 a1 ha1 b1 hb1
    · simp only [sortable, Bool.or_eq_true, List.all_eq_true] at h2
      rcases h2 with h2 | h2
      · refine srtOk_tups fun d1 m1 => ?_
        obtain ⟨a1, ha1, rfl⟩ := List.mem_map.mp m1
        have := h2 a1 ha1
        cases a1 with
        | tup l => exact ⟨_, by rw [D.py]⟩
        | _ => cases this
      · refine .inl (.inr fun d1 m1 => ?_)
        obtain ⟨a1, ha1, rfl⟩ := List.mem_map.mp m1
        have := h2 a1 ha1
        cases a1 <;> simp_all [noTup, D.py]
    · have := depth_of_mem hb
      omega
    · have hsort : (ys.mergeSort (dataLe false D.py)) = ys.mergeSort leD := rfl
      rw [hsort] at eo
      have back : ∀ {out : List Value} {zs : List D}, EachIs (fun (u : Value) (b : D) => ∃ z, RelV z u ∧ Rep X.K H P z b) out zs → ∃ ws, Vals ws out ∧ Reps X.K H P ws zs := by
        intro out zs e
        induction e with
        | nil => exact ⟨[], .nil, .nil⟩
        | cons h1 t ih =>
          obtain ⟨z, q1, q2⟩ := h1
          obtain ⟨ws, q3, q4⟩ := ih
          exact ⟨z :: ws, .cons q1 q3, .cons q2 q4⟩
      obtain ⟨ws, q3, q4⟩ := back eo
      obtain ⟨c, hat⟩ := sortedAll_at s.heap its (List.toArray out)
      have hp0 : H (s.heap.objs.size + 1) = none := I.hok.fresh (Nat.le_succ _)
      refine ⟨.ref (s.heap.objs.size + 1), _, I.laid (t' := s.toks) (o := .lst ws) (fun b o e => sortedAll_old e) (Nat.le_succ _) ⟨by rw [q4.length]; simpa using hlen, out, c, q3, ?_⟩, rfl, q.lst q4 hp0⟩
      exact hat
  | dic t ks vs =>
    cases t with
    | true => cases e
    | false =>
      have e : ((mapO intOf ks).bind fun ns => if ns.length < 64 then some (D.lst ((sortI ns).map .int)) else none) = some d := e
      simp only [Option.bind_eq_some_iff] at e
      obtain ⟨ns, e1, e2⟩ := e
      obtain ⟨h64, e3⟩ := ite_some' e2
      cases e3
      cases rx with
      | dic p h r1 =>
        obtain ⟨kvs, ha, hk, hv⟩ := h
        refine call_sortedDI hcm pins s σ H _ us Q I r ⟨_, kvs, ns, rfl, .inl ha, keys_int kvs (by rw [hk]; exact e1), h64, fun ys p pm pw hp => ?_⟩
        rw [sortI_eq pm pw]
        exact q.lst (reps_intsD (sortI ns)) hp
  | _ => cases e
/-! isinstance -/
def rIsin (K : PySem.W.Frag) (t : Ty) : List V → Hp → VK → Prop := fun xs H Q => ∃ P v d k, xs = [v, .ty t.nm] ∧ Rep K H P v d ∧ isinD t d = some k ∧ Q (.bl k) H
theorem kit_all (K : PySem.W.Frag) (t : Ty) : ∀ d : D, (∀ ns, d ≠ .scr ns) → (∀ t ks vs, d ≠ .dic t ks vs) → ∃ n, tyD d = some n ∧ PySem.W.kitOne K (.type n) (.type t.nm) = some (isinT t d)
  | .non, _, _ => ⟨_, rfl, kit_ty (by cases t <;> simp only [isinT, Ty.nm] <;> decide +kernel)⟩
  | .bl _, _, _ => ⟨_, rfl, kit_ty (by cases t <;> simp only [isinT, Ty.nm] <;> decide +kernel)⟩
  | .int _, _, _ => ⟨_, rfl, kit_ty (by cases t <;> simp only [isinT, Ty.nm] <;> decide +kernel)⟩
  | .str _, _, _ => ⟨_, rfl, kit_ty (by cases t <;> simp only [isinT, Ty.nm] <;> decide +kernel)⟩
  | .tup _, _, _ => ⟨_, rfl, kit_ty (by cases t <;> simp only [isinT, Ty.nm] <;> decide +kernel)⟩
  | .lst _, _, _ => ⟨_, rfl, kit_ty (by cases t <;> simp only [isinT, Ty.nm] <;> decide +kernel)⟩
  | .scr ns, h, _ => absurd rfl (h ns)
  | .dic t ks vs, _, h => absurd rfl (h t ks vs)
theorem cr_isin (t : Ty) : CallR X (.builtin "isinstance") (rIsin X.K t) := by
  intro pins s σ H xs us Q I r h
  obtain ⟨P, v, d, k, rfl, rx, e, q⟩ := h
  have hd : ∀ ns, d ≠ .scr ns := fun ns z => by subst z; cases e
  have hd2 : ∀ t ks vs, d ≠ .dic t ks vs := fun t ks vs z => by subst z; cases e
  have hk : isinT t d = k := by cases d <;> first | exact Option.some.inj e | cases e
  obtain ⟨n, h1, h2⟩ := kit_all X.K t d hd hd2
  have ty : TyX X.K H v (.type n) := by
    cases rx with
    | non => cases h1; exact .base .non
    | bl b => cases h1; exact .base (.bl b)
    | int i => cases h1; exact .base (.int i)
    | str x => cases h1; exact .base (.str x)
    | tup h r =>
      cases h1
      rcases h with ⟨o, _, h⟩ | ⟨o, its, m, h, c, _⟩
      · exact .fTuple h
      · exact .kTuple h c.1
    | lst p h r => cases h1; exact .base (.lst h)
    | scr h => exact absurd rfl (hd _)
    | dic p h r => exact absurd rfl (hd2 _ _ _)
  exact call_isi pins s σ H _ us Q I r ⟨v, .ty t.nm, .type n, .type t.nm, k, rfl, .ty _, ty, by rw [h2, hk], q⟩
end
end Ev
set_option maxHeartbeats 4000000
namespace Ev
open PySem PySem.Spec PyProof.Rows L2 PySem.Calls
/-! ### set(xs), ints -/
/-- an empty set, as it is made -/
def noSet (wd : World) : Obj := { cls := .type "set", dict := none, data := .set #[] 0 (.fresh 0 0 (!wd.params.followText "set-order")) }
section
variable {pr : Program} {wd : World} {Ar : Around} {Er : Value → Shared → Prop} {st : Shared}
theorem set_lst {t : Addr} {us : Array Value} (ns : List Int) {Qv : Value → Shared → Prop} (ha : Ar.handled = none) (ht : st.heap.IsList t us) (hi : IntsAre us.toList ns) (hn : ns.length + 1 < scanBound)
    (q : ∀ (h2 : Heap) (tk c : Nat), SetR wd h2 st.heap.objs.size (fun j => decide (j ∈ ns)) c → c ≤ ns.length → (∀ b o, st.heap.get? b = some o → h2.get? b = some o) → Qv (.ref st.heap.objs.size) { st with heap := h2, toks := tk }) :
    wpAny (model pr wd) Ar (call (.type "set") [.ref t]) Qv Er st := by
  have hsz : us.size = ns.length := by have := IntsAre.length hi; rwa [Array.length_toList] at this
  obtain ⟨mc, mt, hmro⟩ := F.called_set.mro; have hmade := F.called_set.made; have hsub := F.called_set.sub
  refine wpAny_call (codeAny_of_tree ?_); show wpAny _ _ (callAny (.type "set") _) _ _ _
  refine wpAny_pure ⟨Code.quiet_builtin _ (by decide +kernel), codeAny_builtin F.entry_type_call ?_⟩; rw [Around.under_plain (weight_type_call_type "set" [.ref t] []) rfl]
  have x1 := F.called_set.notType; have x2 := F.called_set.canCreate; have x3 := F.typeCall_set_1 (.ref t)
  repeat (any_goals (first | assumption | wp_step))
  refine codeAny_mono (code_set_led1 (.ref t) (E := Er) (Q₁ := fun ob s1 => ob = .ref st.heap.objs.size ∧ s1 = { st with heap := st.heap.push (noSet wd) }) ⟨rfl, rfl⟩) fun r s1 hr => ?_
  cases r with
  | error e => exact hr
  | ok fl => cases fl with
    | ret ob =>
      obtain ⟨rfl, rfl⟩ := hr
      have hS : (st.heap.push (noSet wd)).get? st.heap.objs.size = some (noSet wd) := Heap.get?_push_size _ rfl
      have hT : Shared.TypeIs { st with heap := st.heap.push (noSet wd) } (.ref st.heap.objs.size) "set" := ⟨_, hS, rfl⟩
      have x4 := F.called_set.init.lookup; have x5 := F.called_set.init.bind (.ref st.heap.objs.size)
      repeat (any_goals (first | assumption | wp_step))
      refine codeAny_mono (codeAny_call_builtin (R := wants (fun r s2 => r = .none ∧ ∃ h2 tk c, s2 = { st with heap := h2, toks := tk } ∧ SetR wd h2 st.heap.objs.size (fun j => decide (j ∈ ns)) c ∧ c ≤ ns.length ∧ (∀ b o, st.heap.get? b = some o → h2.get? b = some o)) Er) F.called_set.init.plain F.entry_set_init (check_set_init_1 hT ?_)) fun r2 s2 hr2 => ?_
      · obtain ⟨⟨oc, od, oda, os⟩, hol, hcl, nl, hdl⟩ := ht
        simp only at hcl hdl
        subst hcl hdl
        have hol' : (st.heap.push (noSet wd)).get? t = some { cls := .type "list", dict := od, data := .seq us nl, slots := os } := Heap.get?_push_of_some _ hol
        have y1 := F.sub_list_set; have y2 := F.sub_list_frozenset; have y3 : (Value.type "list" == Value.type "dict") = false := by decide
        have hl1 : (st.heap.push (noSet wd)).IsList t us := ⟨_, hol', rfl, nl, rfl⟩
        unfold Builtin.«set.__init__» noKeywords Builtin.Frozenset.updateFrom; generalize hPI : pyIter = PI; wp_walk; subst hPI
        refine wpAny_pyIter_list hl1 (wpAny_bind (wpAny_runValue ?_))
        have hlt : t < st.heap.objs.size := Heap.lt_size hol
        have hne : t ≠ (st.heap.push (noSet wd)).objs.size := by rw [Heap.size_push]; exact Nat.ne_of_lt (Nat.lt_succ_of_lt hlt)
        have hSf : st.heap.objs.size ∉ [(st.heap.push (noSet wd)).objs.size, t] := by
          rw [Heap.size_push]; simp only [List.mem_cons, List.not_mem_nil, or_false, not_or]
          exact And.intro (Nat.ne_of_lt (Nat.lt_succ_self _)) (Nat.ne_of_gt hlt)
        have hval : ∀ (i : Nat) (v : Value), us[i]? = some v → ∃ k tk, ns[i]? = some k ∧ v = .int k tk := fun i v hv => by
          have hi' : i < ns.length := by rw [← hsz]; exact (Array.getElem?_eq_some_iff.mp hv).1
          obtain ⟨tk, e⟩ := IntsAre.int_at hi i v (by rw [Array.getElem?_toList]; exact hv)
          exact ⟨ns[i], tk, List.getElem?_eq_getElem hi', by rw [e, List.getD_eq_getElem?_getD, List.getElem?_eq_getElem hi'] <;> rfl⟩
        refine set_update_ints ((Walks.list (by simp [ha]) _ t hne us).toS) st.heap.objs.size hSf ns hsz hn hval (us.size - 0) 0 _ (by omega) (Nat.zero_le _) ⟨⟨_, Heap.get?_push_size _ rfl, rfl, rfl⟩, (hl1.push _)⟩ ?z0 ?zR
        case z0 => exact ⟨0, Nat.le_refl 0, setR_new_at (Heap.get?_push_of_some _ hS)⟩
        case zR =>
          rintro ⟨h2, g2, d2, tk2, o2⟩ c hm hc hS2
          cases (show g2 = st.gens from hm.gens); cases (show d2 = st.drawn from hm.drawn); cases (show o2 = st.os from hm.os)
          show wpAny _ _ _ _ _ _
          refine wpAny_pure ?_
          show wpAny _ _ (ret Value.none) _ _ _
          rw [hsz] at hc
          refine wpAny_pure ⟨rfl, h2, tk2, c, rfl, hS2, hc, fun b o e => ?_⟩
          have hb := Heap.lt_size e
          exact hm.heap b o (by
            rw [Heap.size_push]; simp only [List.mem_cons, List.not_mem_nil, or_false, not_or]
            exact And.intro (Nat.ne_of_lt hb) (Nat.ne_of_lt (Nat.lt_succ_of_lt hb))) (Heap.get?_push_of_some _ (Heap.get?_push_of_some _ e))
      · cases r2 with
        | error e => exact hr2
        | ok f2 => cases f2 with
          | ret r =>
            obtain ⟨rfl, h2, tk, c, rfl, k1, k2, k3⟩ := hr2
            repeat (any_goals (first | assumption | wp_step))
            exact q _ _ _ k1 k2 k3
          | _ => exact hr2.elim
    | _ => exact hr.elim
end
section
variable {X : Cx} {a : Expr} {ta : TE}
theorem set_ints {pins : List (Addr × Obj)} {s : Shared} {σ : L2.St} {H : Hp} (hc : X.calm = true) (I : Inv X pins σ H s) {l : Addr} {ns : List Int} (hq : SqL X.K H l (ns.map V.int) ∨ SqT X.K H l (ns.map V.int)) (hn : ns.length < 4000) {Qv : Value → Shared → Prop}
    (q : ∀ (p : Addr) (c : Nat) (h2 : Heap) (tk : Nat), H p = none → SetR X.w h2 p (fun j => decide (j ∈ ns)) c → c ≤ ns.length → Inv X pins σ (upd H p (SetO X.w p (fun j => decide (j ∈ ns)) c)) { s with heap := h2, toks := tk } → Qv (.ref p) { s with heap := h2, toks := tk }) :
    wpAny (model X.prog X.w) X.A (call (.type "set") [.ref l]) Qv X.xe s := by
  have hb : ns.length + 1 < scanBound := by unfold scanBound; omega
  have h0 : H s.heap.objs.size = none := I.hok.fresh (Nat.le_refl _)
  rcases hq with hq | hq
  · obtain ⟨its, rv, pl, _⟩ := I.list hq
    exact set_lst ns (I.ok.hd hc) pl.isList (by simpa using rv.ints) hb fun h2 tk c R hcn k => q _ c h2 tk h0 R hcn (I.laid (t' := tk) k (Nat.le_refl _) (setO_new R))
  · obtain ⟨its, rv, pl, _⟩ := I.tuple hq
    exact call_set_tupI ns (I.ok.hd hc) pl (by simpa using rv.ints) hb fun h2 tk c R hcn k => q _ c h2 tk h0 R hcn (I.laid (t' := tk) k (Nat.le_refl _) (setO_new R))
def OfInts (K : PySem.W.Frag) (H : Hp) (x : V) (ns : List Int) : Prop := ∃ l, x = .ref l ∧ (SqL K H l (ns.map V.int) ∨ SqT K H l (ns.map V.int)) ∧ ns.length < 4000 ∧ ∀ l : List Int, l.Nodup → (∀ k, k ∈ l ↔ k ∈ ns) → l.length < 64
/-- sorted(set(xs)), ints, fewer than 64 -/
theorem pe_sortedSetI {p p2 qp pos : Pos} (hc : X.calm = true) (hg : Gl X "sorted") (hm : X.mg "sorted" = none) (hg2 : Gl X "set") (hm2 : X.mg "set" = none) (ha : PE X a ta) (na : starEach [a] X.env = (false, eval a X.env) :: starEach [] X.env) :
    PE X (.Call (.Name "sorted" p) [.Call (.Name "set" p2) [a] [] qp] [] pos) (fun σ H Q => ta σ H fun x H1 => ∃ ns, OfInts X.K H1 x ns ∧ ∀ (p1 r : Addr) (c : Nat) (ms : List Int), H1 p1 = none → upd H1 p1 (SetO X.w p1 (fun j => decide (j ∈ ns)) c) r = none → ms.Pairwise (· < ·) → (∀ k, k ∈ ms ↔ k ∈ ns) →
      Q (.ref r) (upd (upd H1 p1 (SetO X.w p1 (fun j => decide (j ∈ ns)) c)) r (.lst (ms.map V.int)))) := by
  refine ⟨fun pins s σ H Q I h => ?_⟩
  refine Call_ (ld_blt I hg hm (show bootBuiltins "sorted" = some (.builtin "sorted") by decide +kernel) (PyProof.Rows.callWith_builtin1 (PyProof.Rows.args_cons ?_ rfl) rfl rfl))
  refine Call_ (ld_blt I hg2 hm2 PyProof.Rows.boot_set (PyProof.Rows.callWith_type1 (PyProof.Rows.args_cons (thn (ha.run pins s σ H _ I h) fun v s1 ⟨x, H1, I1, r1, q1⟩ => PyProof.Rows.args_nil ?_) na) na rfl))
  obtain ⟨ns, ⟨l, rfl, hq, hn, hn2⟩, q1⟩ := q1
  cases r1
  refine set_ints hc I1 hq hn fun p1 c h2 tk h0 R hcn I2 => PyProof.Rows.args_nil ?_
  have hc64 : c < 64 := by
    obtain ⟨o, es, ep, t, ho, hex, hd, _, nd, hm3, hsb, hf, hsz, _⟩ := R
    have := hn2 (es.toList.map keyOf) nd (fun k => by rw [← hm3 k]; simp)
    rw [List.length_map, Array.length_toList, hsz] at this
    exact this
  exact cr_sortedSet hc pins _ σ _ [.ref p1] [.ref p1] Q I2 (.cons rfl .nil) ⟨p1, _, c, rfl, upd_same, hc64, fun ms r pw mem _ hr => q1 p1 r c ms h0 hr pw fun k => by rw [mem k]; simp⟩
/-- len(set(xs)), ints, fewer than 64 -/
theorem pe_lenSetI {p p2 qp pos : Pos} (hc : X.calm = true) (hg : Gl X "len") (hm : X.mg "len" = none) (hg2 : Gl X "set") (hm2 : X.mg "set" = none) (ha : PE X a ta) (na : starEach [a] X.env = (false, eval a X.env) :: starEach [] X.env) :
    PE X (.Call (.Name "len" p) [.Call (.Name "set" p2) [a] [] qp] [] pos) (fun σ H Q => ta σ H fun x H1 => ∃ ns, OfInts X.K H1 x ns ∧ ∀ (p1 : Addr) (c : Nat) (ms : List Int), H1 p1 = none → ms.Nodup → (∀ k, k ∈ ms ↔ k ∈ ns) → ms.length = c →
      Q (.int c) (upd H1 p1 (SetO X.w p1 (fun j => decide (j ∈ ns)) c))) := by
  refine ⟨fun pins s σ H Q I h => ?_⟩
  refine Call_ (ld_blt I hg hm (show bootBuiltins "len" = some (.builtin "len") by decide +kernel) (PyProof.Rows.callWith_builtin1 (PyProof.Rows.args_cons ?_ rfl) rfl rfl))
  refine Call_ (ld_blt I hg2 hm2 PyProof.Rows.boot_set (PyProof.Rows.callWith_type1 (PyProof.Rows.args_cons (thn (ha.run pins s σ H _ I h) fun v s1 ⟨x, H1, I1, r1, q1⟩ => PyProof.Rows.args_nil ?_) na) na rfl))
  obtain ⟨ns, ⟨l, rfl, hq, hn, _⟩, q1⟩ := q1
  cases r1
  refine set_ints hc I1 hq hn fun p1 c h2 tk h0 R hcn I2 => PyProof.Rows.args_nil ?_
  obtain ⟨o, es, ep, t, ho, hex, hd, _, nd, hm3, hsb, hf, hsz, _⟩ := R
  refine call_len_set ho hex hd hf (by rw [hsz]; omega) ⟨.int c, _, I2.tok _, ⟨_, by rw [hsz]⟩, q1 p1 c (es.toList.map keyOf) h0 nd (fun k => by rw [← hm3 k]; simp) (by simpa using hsz)⟩
end
end Ev
set_option maxHeartbeats 4000000
namespace Ev
open PySem PySem.Spec PyProof.Rows L2 PySem.Calls PySem.W PySem.SeqAt
/-! ### set(xs), tuples of ints -/
section
variable {pr : Program} {wd : World} {Ar : Around} {Er : Value → Shared → Prop} {st : Shared}
/-- set of a tuple of tuples of ints -/
theorem set_tupT {t : Addr} {us : Array Value} (ks : List (Addr × List Int)) {Qv : Value → Shared → Prop} (ha : Ar.handled = none) (ht : st.heap.IsTuple t us) (hi : us.toList = ks.map fun p => Value.ref p.1) (hk : ∀ p ∈ ks, IsT pr wd st.heap p.2 p.1) (hf : ks.length < 64) (hu : Ar.units + 3 < cLine)
    (q : ∀ (h2 : Heap) (tk : Nat) L es ep t, SetTR pr wd h2 st.heap.objs.size L es ep t → L2.Got ks ks.length L → (∀ b o, st.heap.get? b = some o → h2.get? b = some o) → Qv (.ref st.heap.objs.size) { st with heap := h2, toks := tk }) :
    wpAny (model pr wd) Ar (call (.type "set") [.ref t]) Qv Er st := by
  have hsz : us.size = ks.length := by have := congrArg List.length hi; rwa [Array.length_toList, List.length_map] at this
  obtain ⟨mc, mt, hmro⟩ := F.called_set.mro; have hmade := F.called_set.made; have hsub := F.called_set.sub
  refine wpAny_call (codeAny_of_tree ?_); show wpAny _ _ (callAny (.type "set") _) _ _ _
  refine wpAny_pure ⟨Code.quiet_builtin _ (by decide +kernel), codeAny_builtin F.entry_type_call ?_⟩; rw [Around.under_plain (weight_type_call_type "set" [.ref t] []) rfl]
  have x1 := F.called_set.notType; have x2 := F.called_set.canCreate; have x3 := F.typeCall_set_1 (.ref t)
  repeat (any_goals (first | assumption | wp_step))
  refine codeAny_mono (code_set_led1 (.ref t) (E := Er) (Q₁ := fun ob s1 => ob = .ref st.heap.objs.size ∧ s1 = { st with heap := st.heap.push (noSet wd) }) ⟨rfl, rfl⟩) fun r s1 hr => ?_
  cases r with
  | error e => exact hr
  | ok fl => cases fl with
    | ret ob =>
      obtain ⟨rfl, rfl⟩ := hr
      have hS : (st.heap.push (noSet wd)).get? st.heap.objs.size = some (noSet wd) := Heap.get?_push_size _ rfl
      have hT : Shared.TypeIs { st with heap := st.heap.push (noSet wd) } (.ref st.heap.objs.size) "set" := ⟨_, hS, rfl⟩
      have x4 := F.called_set.init.lookup; have x5 := F.called_set.init.bind (.ref st.heap.objs.size)
      repeat (any_goals (first | assumption | wp_step))
      refine codeAny_mono (codeAny_call_builtin (R := wants (fun r s2 => r = .none ∧ ∃ h2 tk L es ep t, s2 = { st with heap := h2, toks := tk } ∧ SetTR pr wd h2 st.heap.objs.size L es ep t ∧ L2.Got ks ks.length L ∧ (∀ b o, st.heap.get? b = some o → h2.get? b = some o)) Er) F.called_set.init.plain F.entry_set_init (check_set_init_1 hT ?_)) fun r2 s2 hr2 => ?_
      · obtain ⟨⟨oc, od, oda, os⟩, hol, hcl, nl, hdl⟩ := ht
        simp only at hcl hdl
        subst hcl hdl
        have hol' : (st.heap.push (noSet wd)).get? t = some { cls := .type "tuple", dict := od, data := .seq us nl, slots := os } := Heap.get?_push_of_some _ hol
        have y1 := F.sub_tuple_set; have y2 := F.sub_tuple_frozenset; have y3 : (Value.type "tuple" == Value.type "dict") = false := by decide
        have hl1 : (st.heap.push (noSet wd)).IsTuple t us := ⟨_, hol', rfl, nl, rfl⟩
        unfold Builtin.«set.__init__» noKeywords Builtin.Frozenset.updateFrom; generalize hPI : pyIter = PI; wp_walk; subst hPI
        refine wpAny_pyIter_tuple hl1 (wpAny_bind (wpAny_runValue ?_))
        have hlt : t < st.heap.objs.size := Heap.lt_size hol
        have hne : t ≠ (st.heap.push (noSet wd)).objs.size := by rw [Heap.size_push]; exact Nat.ne_of_lt (Nat.lt_succ_of_lt hlt)
        have hSf : st.heap.objs.size ∉ [(st.heap.push (noSet wd)).objs.size, t] := by
          rw [Heap.size_push]; simp only [List.mem_cons, List.not_mem_nil, or_false, not_or]
          exact And.intro (Nat.ne_of_lt (Nat.lt_succ_self _)) (Nat.ne_of_gt hlt)
        have hval : ∀ (i : Nat) (v : Value), us[i]? = some v → ∃ p, ks[i]? = some p ∧ v = .ref p.1 := fun i v hv => by
          have z : us.toList[i]? = some v := by rw [Array.getElem?_toList]; exact hv
          rw [hi, List.getElem?_map] at z
          obtain ⟨p, z1, z2⟩ := Option.map_eq_some_iff.mp z
          exact ⟨p, z1, z2.symm⟩
        have gone : ∀ b, st.heap.objs.size ≤ b → st.heap.get? b = none := fun b hb => by
          cases z : st.heap.get? b with
          | none => rfl
          | some o => exact absurd (Nat.lt_of_lt_of_le (Heap.lt_size z) hb) (Nat.lt_irrefl _)
        refine set_update_tups ((Walks.tuple (by simp [ha]) _ t hne us).toS) st.heap.objs.size hSf ks hsz hf hval st.heap hk (gone _ (Nat.le_refl _)) (fun b hb => gone b (by
            rw [List.mem_singleton.mp hb, Heap.size_push]; exact Nat.le_succ _)) hu (us.size - 0) 0 _ (by omega) (Nat.zero_le _) ⟨⟨_, Heap.get?_push_size _ rfl, rfl, rfl⟩, (hl1.push _)⟩ (fun b o e => Heap.get?_push_of_some _ (Heap.get?_push_of_some _ e)) ?z0 ?zR
        case z0 => exact ⟨[], #[], 0, _, setTR_fresh (Heap.get?_push_of_some _ hS), Got.zero ks⟩
        case zR =>
          rintro ⟨h2, g2, d2, tk2, o2⟩ L es ep t2 hm hS2 hg2 hk2
          cases (show g2 = st.gens from hm.gens); cases (show d2 = st.drawn from hm.drawn); cases (show o2 = st.os from hm.os)
          show wpAny _ _ _ _ _ _
          refine wpAny_pure ?_
          show wpAny _ _ (ret Value.none) _ _ _
          rw [hsz] at hg2
          exact wpAny_pure ⟨rfl, h2, tk2, L, es, ep, t2, rfl, hS2, hg2, hk2⟩
      · cases r2 with
        | error e => exact hr2
        | ok f2 => cases f2 with
          | ret r =>
            obtain ⟨rfl, h2, tk, L, es, ep, t2, rfl, k1, k2, k3⟩ := hr2
            repeat (any_goals (first | assumption | wp_step))
            exact q _ _ _ _ _ _ k1 k2 k3
          | _ => exact hr2.elim
    | _ => exact hr.elim
/-- the data of a tuple of ints -/
def tupP (k : List Int) : PyData := .tuple (k.map PyData.int)
theorem reads_ints {h : Heap} : ∀ {vs : List Value} {ns : List Int}, IntsAre vs ns → ReadsAll h vs (ns.map PyData.int) []
  | _, _, .nil => .nil
  | _, _, .cons n t r => .cons (as := []) (bs := []) (.int n t) (reads_ints r)
theorem reads_isT {h : Heap} {b : Addr} {k : List Int} (x : IsT pr wd h k b) : Reads h (.ref b) (tupP k) [] := by
  obtain ⟨o, items, n, ho, hc, hd, hi⟩ := x
  exact .tuple ho hc hd (reads_ints (ints_of_items hi))
theorem depth_ints : ∀ k : List Int, PyData.depthAll (k.map PyData.int) = 0
  | [] => by rw [List.map_nil, PyData.depthAll]
  | x :: k => by rw [List.map_cons, PyData.depthAll, depth_ints k]; rfl
theorem depth_tupP (k : List Int) : (tupP k).depth = 1 := by rw [tupP, PyData.depth, depth_ints]
theorem alike_ints : ∀ k l : List Int, alikeAll (k.map PyData.int) (l.map PyData.int) = true
  | [], _ => by simp [alikeAll]
  | _ :: _, [] => by simp [alikeAll]
  | x :: k, y :: l => by simp [alikeAll, alike, alike_ints k l]
theorem alike_tupP (k l : List Int) : alike (tupP k) (tupP l) = true := by simp [tupP, alike, alike_ints k l]
theorem lex_ints : ∀ k l : List Int, PyProof.Rows.lexLt PyProof.Rows.itemOrd (PySem.W.keyToksAll (k.map PyData.int)) (PySem.W.keyToksAll (l.map PyData.int)) = lexI k l
  | [], [] => by simp only [List.map_nil, lexI]; exact lex_irrefl _
  | [], y :: l => by simp only [List.map_nil, List.map_cons, lexI, PySem.W.toks_all_cons]; rw [show PySem.W.keyToksAll [] = [.inl 0] by rw [PySem.W.keyToksAll]]; rfl
  | x :: k, [] => by simp only [List.map_nil, List.map_cons, lexI, PySem.W.toks_all_cons]; rw [show PySem.W.keyToksAll [] = [.inl 0] by rw [PySem.W.keyToksAll]]; rfl
  | x :: k, y :: l => by
    simp only [List.map_cons, lexI]
    by_cases h : x = y
    · rw [if_pos h, PySem.W.dataLt_all_yes (show alike (.int x) (.int y) = true by simp [alike]) (by subst h; simp [PyData.eqv])]
      exact lex_ints k l
    · rw [if_neg h, PySem.W.dataLt_all_no (show alike (.int x) (.int y) = true by simp [alike]) (by simpa [PyData.eqv] using h)]
      exact PySem.W.dataLt_int x y
theorem dataLt_tupP (k l : List Int) : dataLt (tupP k) (tupP l) = lexI k l := by
  rw [tupP, tupP, PySem.W.dataLt_tuple]; exact lex_ints k l
theorem lexI_irr : ∀ k : List Int, lexI k k = false
  | [] => rfl
  | x :: k => by simp only [lexI, if_true]; exact lexI_irr k
theorem lexI_asym : ∀ {k l : List Int}, lexI k l = true → lexI l k = false
  | [], [], _ => rfl
  | [], _ :: _, _ => rfl
  | _ :: _, [], h => by cases h
  | x :: k, y :: l, h => by
    simp only [lexI] at h ⊢
    by_cases e : x = y
    · rw [if_pos e] at h; rw [if_pos e.symm]; exact lexI_asym h
    · rw [if_neg e] at h; rw [if_neg fun z => e z.symm]
      have := of_decide_eq_true h
      exact decide_eq_false (by omega)
theorem lexI_tri : ∀ {k l : List Int}, k ≠ l → lexI k l = true ∨ lexI l k = true
  | [], [], h => absurd rfl h
  | [], _ :: _, _ => .inl rfl
  | _ :: _, [], _ => .inr rfl
  | x :: k, y :: l, h => by
    simp only [lexI]
    by_cases e : x = y
    · rw [if_pos e, if_pos e.symm]; exact lexI_tri fun z => h (by rw [e, z])
    · rw [if_neg e, if_neg fun z => e z.symm]
      rcases Int.lt_or_gt_of_ne e with z | z
      · exact .inl (decide_eq_true z)
      · exact .inr (decide_eq_true z)
theorem lexI_trans : ∀ {k l m : List Int}, lexI k l = true → lexI l m = true → lexI k m = true
  | [], [], _, h, _ => by cases h
  | [], _ :: _, [], _, h => by cases h
  | [], _ :: _, _ :: _, _, _ => rfl
  | _ :: _, [], _, h, _ => by cases h
  | _ :: _, _ :: _, [], _, h => by cases h
  | x :: k, y :: l, z :: m, h, h2 => by
    simp only [lexI] at h h2 ⊢
    by_cases e : x = y
    · rw [if_pos e] at h
      subst e
      by_cases e2 : x = z
      · rw [if_pos e2] at h2 ⊢; exact lexI_trans h h2
      · rw [if_neg e2] at h2 ⊢; exact h2
    · rw [if_neg e] at h
      have h := of_decide_eq_true h
      by_cases e2 : y = z
      · subst e2; rw [if_neg e]; exact decide_eq_true h
      · rw [if_neg e2] at h2
        have h2 := of_decide_eq_true h2
        rw [if_neg (by omega)]; exact decide_eq_true (by omega)
theorem insT_mem {k x : List Int} : ∀ {l : List (List Int)}, k ∈ insT x l ↔ k = x ∨ k ∈ l
  | [] => by simp [insT]
  | y :: ys => by
    unfold insT
    split
    · simp
    · split
      · rename_i h; subst h; simp
      · rw [List.mem_cons, insT_mem, List.mem_cons]
        constructor
        · rintro (h | h | h)
          · exact .inr (.inl h)
          · exact .inl h
          · exact .inr (.inr h)
        · rintro (h | h | h)
          · exact .inr (.inl h)
          · exact .inl h
          · exact .inr (.inr h)
theorem insT_pw {x : List Int} : ∀ {l : List (List Int)}, l.Pairwise (fun a b => lexI a b = true) → (insT x l).Pairwise (fun a b => lexI a b = true)
  | [], _ => by simp [insT]
  | y :: ys, h => by
    have h2 := List.pairwise_cons.mp h
    unfold insT
    split
    · rename_i hl
      refine List.pairwise_cons.mpr ⟨fun z hz => ?_, h⟩
      rcases List.mem_cons.mp hz with rfl | hz
      · exact hl
      · exact lexI_trans hl (h2.1 z hz)
    · split
      · exact h
      · rename_i h3 h4
        refine List.pairwise_cons.mpr ⟨fun z hz => ?_, insT_pw h2.2⟩
        rcases insT_mem.mp hz with rfl | hz
        · rcases lexI_tri h4 with q | q
          · exact absurd q h3
          · exact q
        · exact h2.1 z hz
theorem dedT_mem {k : List Int} : ∀ {l : List (List Int)}, k ∈ dedT l ↔ k ∈ l
  | [] => Iff.rfl
  | x :: xs => by rw [dedT, insT_mem, dedT_mem, List.mem_cons]
theorem dedT_pw : ∀ l : List (List Int), (dedT l).Pairwise (fun a b => lexI a b = true)
  | [] => List.Pairwise.nil
  | x :: xs => insT_pw (dedT_pw xs)
theorem rising_oneT : ∀ {xs ys : List (List Int)}, xs.Pairwise (fun a b => lexI a b = true) → ys.Pairwise (fun a b => lexI a b = true) → (∀ k, k ∈ xs ↔ k ∈ ys) → xs = ys
  | [], [], _, _, _ => rfl
  | [], y :: ys, _, _, h => by have := (h y).mpr List.mem_cons_self; cases this
  | x :: xs, [], _, _, h => by have := (h x).mp List.mem_cons_self; cases this
  | x :: xs, y :: ys, h1, h2, h => by
    have p1 := List.pairwise_cons.mp h1
    have p2 := List.pairwise_cons.mp h2
    have no : ∀ {a b : List Int}, lexI a b = true → lexI b a = true → False := fun q r => by rw [lexI_asym q] at r; cases r
    have e : x = y := by
      rcases List.mem_cons.mp ((h x).mp List.mem_cons_self) with a | a
      · exact a
      · rcases List.mem_cons.mp ((h y).mpr List.mem_cons_self) with b | b
        · exact b.symm
        · exact (no (p2.1 x a) (p1.1 y b)).elim
    subst e
    rw [rising_oneT p1.2 p2.2 fun k => ?_]
    constructor
    · intro hk
      rcases List.mem_cons.mp ((h k).mp (List.mem_cons_of_mem _ hk)) with rfl | q
      · exact (no (p1.1 k hk) (p1.1 k hk)).elim
      · exact q
    · intro hk
      rcases List.mem_cons.mp ((h k).mpr (List.mem_cons_of_mem _ hk)) with rfl | q
      · exact (no (p2.1 k hk) (p2.1 k hk)).elim
      · exact q
theorem nodup_pwT {l : List (List Int)} (h : l.Pairwise (fun a b => lexI a b = true)) : l.Nodup := h.imp fun q e => by subst e; rw [lexI_irr] at q; cases q
/-- sorted of a set of tuples of ints -/
theorem sorted_setD {a : Addr} {L : List (Addr × List Int)} {es : Array (Int × Value)} {ep : Nat} {t : SetTable} {Qv : Value → Shared → Prop} (R : SetTR pr wd st.heap a L es ep t) (ha : Ar.handled = none) (hu : Ar.units + 20 < cLine)
    (q : ∀ s' p (out : Array Value) (c : Nat) (L' : List (Addr × List Int)), (∀ b o, st.heap.get? b = some o → s'.heap.get? b = some o) → s'.gens = st.gens → s'.os = st.os → st.heap.objs.size ≤ p →
      s'.heap.get? p = some (seqObj "list" out c) → out.toList = L'.map (fun q => Value.ref q.1) → L'.Perm L → (L'.map (·.2)).Pairwise (fun x y => lexI x y = true) → Qv (.ref p) s') :
    wpAny (model pr wd) Ar (call (.builtin "sorted") [.ref a]) Qv Er st := by
  obtain ⟨o, ho, hex, hd⟩ := R.ob
  have hsz := R.size
  have hfew := R.few
  refine Calls.call_function_entry kind_sorted plain_sorted entry_sorted (args_sorted1 _) ?_
  unfold Builtin.«sorted»
  refine wpAny_bind (m := checkCount "sorted" 1 1 _) (wpAny_pure (wpAny_bind ?_))
  refine collect_set (A := Ar.in1) (by simp [ha]) ⟨o, ho, hex.1, hd⟩ R.fits (by unfold scanBound; omega) R.tab.ris R.led fun s1 vs k1 hz g1 o1 pm => ?_
  have hes : es.toList.map (·.2) = L.map fun q => Value.ref q.1 := by
    rw [R.rows, L2.rowsOf, List.map_map] <;> rfl
  rw [hes] at pm
  have ord : ∀ vs : List Value, (∀ v ∈ vs, ∃ q ∈ L, v = Value.ref q.1) → ∃ L1 : List (Addr × List Int), vs = L1.map (fun q => Value.ref q.1) ∧ ∀ q ∈ L1, q ∈ L := by
    intro vs
    induction vs with
    | nil => exact fun _ => ⟨[], rfl, fun _ z => by cases z⟩
    | cons v vs ih =>
      intro hv
      obtain ⟨x, hx, rfl⟩ := hv v List.mem_cons_self
      obtain ⟨L1, rfl, hs⟩ := ih fun u hu => hv u (List.mem_cons_of_mem _ hu)
      refine ⟨x :: L1, rfl, fun r hr => ?_⟩
      rcases List.mem_cons.mp hr with rfl | z
      · exact hx
      · exact hs r z
  have one : ∀ x ∈ L, ∀ y ∈ L, x.1 = y.1 → x = y := fun x hx y hy e => by
    have a1 := R.tup x hx
    rw [e] at a1
    exact Prod.ext e (a1.inj (R.tup y hy))
  obtain ⟨L1, rfl, hs⟩ := ord vs fun v hv => by
    obtain ⟨x, hx, e⟩ := List.mem_map.mp (pm.mem_iff.mp hv)
    exact ⟨x, hx, e.symm⟩
  have nL : L.Nodup := nodup_of_map R.nd
  have pL : L1.Perm L := by
    have nref : (L.map fun q => Value.ref q.1).Nodup := by
      refine List.pairwise_map.mpr (List.Pairwise.imp_of_mem (fun {x y} hx hy hne e => ?_) nL)
      injection e with e
      exact hne (one x hx y hy e)
    have n1 : L1.Nodup := nodup_of_map (pm.nodup_iff.mpr nref)
    refine (List.perm_ext_iff_of_nodup n1 nL).mpr fun x => ⟨hs x, fun hx => ?_⟩
    obtain ⟨y, hy, e⟩ := List.mem_map.mp (pm.mem_iff.mpr (List.mem_map.mpr ⟨x, hx, rfl⟩))
    injection e with e
    rw [← one y (hs y hy) x hx e]
    exact hy
  have hl1 : L1.length < 64 := by rw [pL.length_eq]; exact hfew
  have hsl := sizeLine_eq
  refine wpAny_bind (wpAny_newList ?_ (by rw [List.length_map]; omega))
  have hoL : (s1.heap.push (seqObj "list" (L1.map fun q => Value.ref q.1).toArray 0)).get? s1.heap.objs.size = some (seqObj "list" (L1.map fun q => Value.ref q.1).toArray 0) := Heap.get?_push_size _ rfl
  let h2 : Heap := sortingHeap (s1.heap.push (seqObj "list" (L1.map fun q => Value.ref q.1).toArray 0)) s1.heap.objs.size (L1.map fun q => Value.ref q.1)
  have old2 : ∀ b u, st.heap.get? b = some u → h2.get? b = some u := fun b u e => by
    have e1 := k1 b u e
    have hlt := Heap.lt_size e1
    exact sortingHeap_old (Nat.ne_of_lt hlt) (Heap.get?_push_of_some _ e1)
  have er : EachIs (fun v (p : Addr × List Int) => ∃ as, Reads h2 v (tupP p.2) as) (L1.map fun q => Value.ref q.1) L1 := by
    have go : ∀ L2 : List (Addr × List Int), (∀ x ∈ L2, x ∈ L) → EachIs (fun v (p : Addr × List Int) => ∃ as, Reads h2 v (tupP p.2) as) (L2.map fun q => Value.ref q.1) L2 := by
      intro L2
      induction L2 with
      | nil => exact fun _ => .nil
      | cons x L2 ih => exact fun h => .cons ⟨_, reads_isT (pr := pr) (wd := wd) (isT_keep (R.tup x (h x List.mem_cons_self)) old2)⟩ (ih fun y hy => h y (List.mem_cons_of_mem _ hy))
    exact go L1 hs
  have ei : EachIs (fun v (p : Addr × List Int) => v = Value.ref p.1) (L1.map fun q => Value.ref q.1) L1 := by
    have go : ∀ L2 : List (Addr × List Int), EachIs (fun v (p : Addr × List Int) => v = Value.ref p.1) (L2.map fun q => Value.ref q.1) L2 := by
      intro L2
      induction L2 with
      | nil => exact .nil
      | cons x L2 ih => exact .cons rfl ih
    exact go L1
  have hal : AllAlike (L1.map fun p => tupP p.2) := fun x hx y hy => by
    obtain ⟨p, _, rfl⟩ := List.mem_map.mp hx
    obtain ⟨r, _, rfl⟩ := List.mem_map.mp hy
    exact alike_tupP _ _
  have S := sortsAt_ok (pr := pr) (wd := wd) (Ar := Ar.in1.in1) (st := { s1 with heap := h2 }) (each_map (R := fun v d => ∃ as, Reads h2 v d as) (fun p : Addr × List Int => tupP p.2) er) hal (srtOk_tups fun d hd => by
    obtain ⟨p, _, rfl⟩ := List.mem_map.mp hd
    exact ⟨_, rfl⟩) fun d hd => by
    obtain ⟨p, _, rfl⟩ := List.mem_map.mp hd
    rw [depth_tupP]
    show Ar.units + 1 + 1 + 1 < cLine
    omega
  refine wpAny_bind (wpAny_holding (wpAny_call_entry slot_list_sort ⟨_, hoL, rfl⟩ entry_list_sort (list_sort_vals (s := { s1 with heap := s1.heap.push (seqObj "list" (L1.map fun q => Value.ref q.1).toArray 0) }) hoL S (by rw [List.length_map]; omega) ⟨_, rfl, wpAny_pure ⟨_, rfl, ?_⟩⟩) (args_list_sort _)))
  have outs := sortVals_data (h' := h2) false ei er hal
  let L2 : List (Addr × List Int) := L1.mergeSort (dataLe false fun p : Addr × List Int => tupP p.2)
  have hout : ∀ {vs : List Value} {L2 : List (Addr × List Int)}, EachIs (fun v (p : Addr × List Int) => v = Value.ref p.1) vs L2 → vs = L2.map fun q => Value.ref q.1 := by
    intro vs L2 h
    induction h with
    | nil => rfl
    | cons r _ ih => rw [r, ih]; rfl
  have hout2 := hout outs
  have p2 : L2.Perm L := (List.mergeSort_perm _ _).trans pL
  have nd2 : (L2.map (·.2)).Nodup := (p2.map (·.2)).nodup_iff.mpr R.nd
  have pw : (L2.map (·.2)).Pairwise (fun x y => lexI x y = true) := by
    have le_eq : ∀ p r : Addr × List Int, dataLe false (fun p : Addr × List Int => tupP p.2) p r = !lexI r.2 p.2 := fun p r => by
      show (!dataLt (tupP r.2) (tupP p.2)) = _
      rw [dataLt_tupP]
    have srt : L2.Pairwise fun p r => dataLe false (fun p : Addr × List Int => tupP p.2) p r = true := List.pairwise_mergeSort (fun x y z h1 h2 => by
        rw [le_eq] at h1 h2 ⊢
        simp only [Bool.not_eq_true'] at h1 h2 ⊢
        cases h3 : lexI z.2 x.2 with
        | false => rfl
        | true =>
          by_cases e1 : y.2 = x.2
          · rw [e1] at h2; rw [h2] at h3; cases h3
          · rcases lexI_tri e1 with r | r
            · rw [h1] at r; cases r
            · rw [lexI_trans h3 r] at h2; cases h2) (fun x y => by
        rw [le_eq, le_eq]
        cases h : lexI y.2 x.2 with
        | false => rfl
        | true => rw [lexI_asym h]; rfl) L1
    refine List.pairwise_map.mpr ?_
    have nd3 : L2.Pairwise fun p r => p.2 ≠ r.2 := List.pairwise_map.mp nd2
    refine (srt.and nd3).imp fun {x y} h => ?_
    obtain ⟨h1, h2⟩ := h
    rw [le_eq, Bool.not_eq_true'] at h1
    rcases lexI_tri h2 with r | r
    · exact r
    · rw [h1] at r; cases r
  obtain ⟨c, hc⟩ := sortedHeap_at (vs := L1.map fun q => Value.ref q.1) (out := (sortVals (dataKind h2 (L1.map fun p => tupP p.2)) false (L1.map fun q => Value.ref q.1) (L1.map fun q => Value.ref q.1)).toArray) hoL
  refine q _ s1.heap.objs.size _ c L2 (fun b u e => ?_) g1 o1 hz hc hout2 p2 pw
  have e1 := k1 b u e
  have hlt := Heap.lt_size e1
  show (sortedHeap _ s1.heap.objs.size _ _).get? b = some u
  rw [sortedHeap_old (Nat.ne_of_lt hlt) (by rw [size_push']; exact Nat.lt_succ_of_lt hlt)]
  exact Heap.get?_push_of_some _ e1
end
section
variable {X : Cx} {a : Expr} {ta : TE}
theorem set_tups {pins : List (Addr × Obj)} {s : Shared} {σ : L2.St} {H : Hp} (hc : X.calm = true) (hu : X.A.units + 100 < cLine) (I : Inv X pins σ H s) {l : Addr} {ks : List (Addr × List Int)} (hq : SqL X.K H l (ks.map fun p => V.ref p.1) ∨ SqT X.K H l (ks.map fun p => V.ref p.1))
    (hk : ∀ p ∈ ks, SqT X.K H p.1 (p.2.map V.int)) (hf : ks.length < 64) {Qv : Value → Shared → Prop}
    (q : ∀ (p : Addr) L (h2 : Heap) (tk : Nat) es ep t, H p = none → SetTR X.prog X.w h2 p L es ep t → (∀ x ∈ L, x ∈ ks) → (∀ x ∈ ks, x.2 ∈ L.map (·.2)) → Inv X pins σ (upd H p (SetTO X.prog X.w p L)) { s with heap := h2, toks := tk } → Qv (.ref p) { s with heap := h2, toks := tk }) :
    wpAny (model X.prog X.w) X.A (call (.type "set") [.ref l]) Qv X.xe s := by
  have h0 : H s.heap.objs.size = none := I.hok.fresh (Nat.le_refl _)
  have fin : ∀ (h2 : Heap) (tk : Nat) L es ep t, SetTR X.prog X.w h2 s.heap.objs.size L es ep t → L2.Got ks ks.length L → (∀ b o, s.heap.get? b = some o → h2.get? b = some o) → Qv (.ref s.heap.objs.size) { s with heap := h2, toks := tk } := fun h2 tk L es ep t R g k => by
    refine q _ L h2 tk es ep t h0 R (fun p hp => ?_) (fun p hp => ?_) (I.laid (t' := tk) k (Nat.le_refl _) (setTO_new R.t0))
    · exact List.mem_of_mem_take (g.sub p hp)
    · exact g.all p (by rw [List.take_length]; exact hp)
  rcases hq with hq | hq
  · obtain ⟨its, rv, pl, _⟩ := I.list hq
    exact call_set_tups (P := X.prog) (w := X.w) ks (I.ok.hd hc) pl.isList (by simpa using refs_of_vals rv) (fun p hp => I.isT (hk p hp)) hf (by omega) fin
  · obtain ⟨its, rv, pl, _⟩ := I.tuple hq
    exact set_tupT (pr := X.prog) (wd := X.w) ks (I.ok.hd hc) pl (by simpa using refs_of_vals rv) (fun p hp => I.isT (hk p hp)) hf (by omega) fin
def OfTups (K : PySem.W.Frag) (H : Hp) (x : V) (ks : List (Addr × List Int)) : Prop := ∃ l, x = .ref l ∧ (SqL K H l (ks.map fun p => V.ref p.1) ∨ SqT K H l (ks.map fun p => V.ref p.1)) ∧ (∀ p ∈ ks, SqT K H p.1 (p.2.map V.int)) ∧ ks.length < 64
/-- sorted(set(xs)), ints or tuples of ints -/
theorem pe_sortedSetX {p p2 qp pos : Pos} (hc : X.calm = true) (hu : X.A.units + 100 < cLine) (hg : Gl X "sorted") (hm : X.mg "sorted" = none) (hg2 : Gl X "set") (hm2 : X.mg "set" = none) (ha : PE X a ta) (na : starEach [a] X.env = (false, eval a X.env) :: starEach [] X.env) :
    PE X (.Call (.Name "sorted" p) [.Call (.Name "set" p2) [a] [] qp] [] pos) (fun σ H Q => ta σ H fun x H1 => (∃ ns, OfInts X.K H1 x ns ∧ ∀ (p1 r : Addr) (c : Nat) (ms : List Int), H1 p1 = none → upd H1 p1 (SetO X.w p1 (fun j => decide (j ∈ ns)) c) r = none → ms.Pairwise (· < ·) → (∀ k, k ∈ ms ↔ k ∈ ns) →
      Q (.ref r) (upd (upd H1 p1 (SetO X.w p1 (fun j => decide (j ∈ ns)) c)) r (.lst (ms.map V.int)))) ∨
      (∃ ks, OfTups X.K H1 x ks ∧ ∀ (p1 r : Addr) (L L' : List (Addr × List Int)), H1 p1 = none → upd H1 p1 (SetTO X.prog X.w p1 L) r = none → L'.map (·.2) = dedT (ks.map (·.2)) → (∀ p ∈ L', p ∈ ks) → Q (.ref r) (upd (upd H1 p1 (SetTO X.prog X.w p1 L)) r (.lst (L'.map fun p => V.ref p.1))))) := by
  refine ⟨fun pins s σ H Q I h => ?_⟩
  refine Call_ (ld_blt I hg hm (show bootBuiltins "sorted" = some (.builtin "sorted") by decide +kernel) (PyProof.Rows.callWith_builtin1 (PyProof.Rows.args_cons ?_ rfl) rfl rfl))
  refine Call_ (ld_blt I hg2 hm2 PyProof.Rows.boot_set (PyProof.Rows.callWith_type1 (PyProof.Rows.args_cons (thn (ha.run pins s σ H _ I h) fun v s1 ⟨x, H1, I1, r1, q1⟩ => PyProof.Rows.args_nil ?_) na) na rfl))
  rcases q1 with ⟨ns, ⟨l, rfl, hq, hn, hn2⟩, q1⟩ | ⟨ks, ⟨l, rfl, hq, hk, hn⟩, q1⟩
  · cases r1
    refine set_ints hc I1 hq hn fun p1 c h2 tk h0 R hcn I2 => PyProof.Rows.args_nil ?_
    have hc64 : c < 64 := by
      obtain ⟨o, es, ep, t, ho, hex, hd, _, nd, hm3, hsb, hf, hsz, _⟩ := R
      have := hn2 (es.toList.map keyOf) nd (fun k => by rw [← hm3 k]; simp)
      rw [List.length_map, Array.length_toList, hsz] at this
      exact this
    exact cr_sortedSet hc pins _ σ _ [.ref p1] [.ref p1] Q I2 (.cons rfl .nil) ⟨p1, _, c, rfl, upd_same, hc64, fun ms r pw mem _ hr => q1 p1 r c ms h0 hr pw fun k => by rw [mem k]; simp⟩
  · cases r1
    refine set_tups hc hu I1 hq hk hn fun p1 L h2 tk es ep t h0 R hsub hall I2 => PyProof.Rows.args_nil ?_
    refine sorted_setD R (I1.ok.hd hc) (by omega) fun s' p out c L' k g o hp hgt hout pm pw => ?_
    have hfew : L'.length < 64 := by rw [pm.length_eq]; exact R.few
    have hlen : (L'.map fun q => V.ref q.1).length ≤ sizeLine := by rw [List.length_map, sizeLine_eq]; omega
    have hn' : upd H1 p1 (SetTO X.prog X.w p1 L) p = none := I2.hok.fresh hp
    have hv : Vals (L'.map fun q => V.ref q.1) out.toList := by rw [hout]; exact vals_of_refs L'
    have J : Inv X pins σ (upd (upd H1 p1 (SetTO X.prog X.w p1 L)) p (.lst (L'.map fun q => V.ref q.1))) { heap := s'.heap, gens := s'.gens, drawn := s'.drawn, toks := s'.toks, os := s1.os } :=
      Inv.call (s := { s1 with heap := h2, toks := tk }) (ch := []) I2 (Un.laid k hp hn') (I2.hok.laid k hp ⟨hlen, out.toList, c, hv, hgt⟩) (by rw [g]; exact I1.bare) (fun _ z => nomatch z)
    have e : s' = { heap := s'.heap, gens := s'.gens, drawn := s'.drawn, toks := s'.toks, os := s1.os } := by
      cases s'
      cases s1
      cases o
      rfl
    rw [e]
    refine ⟨.ref p, _, J, rfl, q1 p1 p L L' h0 hn' ?_ fun x hx => hsub x (pm.mem_iff.mp hx)⟩
    refine rising_oneT pw (dedT_pw _) fun x => ?_
    rw [dedT_mem]
    constructor
    · intro hx
      obtain ⟨y, hy, rfl⟩ := List.mem_map.mp hx
      exact List.mem_map.mpr ⟨y, hsub y (pm.mem_iff.mp hy), rfl⟩
    · intro hx
      obtain ⟨y, hy, rfl⟩ := List.mem_map.mp hx
      exact (pm.map (·.2)).mem_iff.mpr (hall y hy)
/-- len(set(xs)), ints or tuples of ints -/
theorem pe_lenSetX {p p2 qp pos : Pos} (hc : X.calm = true) (hu : X.A.units + 100 < cLine) (hg : Gl X "len") (hm : X.mg "len" = none) (hg2 : Gl X "set") (hm2 : X.mg "set" = none) (ha : PE X a ta) (na : starEach [a] X.env = (false, eval a X.env) :: starEach [] X.env) :
    PE X (.Call (.Name "len" p) [.Call (.Name "set" p2) [a] [] qp] [] pos) (fun σ H Q => ta σ H fun x H1 => (∃ ns, OfInts X.K H1 x ns ∧ ∀ (p1 : Addr) (c : Nat) (ms : List Int), H1 p1 = none → ms.Nodup → (∀ k, k ∈ ms ↔ k ∈ ns) → ms.length = c →
      Q (.int c) (upd H1 p1 (SetO X.w p1 (fun j => decide (j ∈ ns)) c))) ∨ (∃ ks, OfTups X.K H1 x ks ∧ ∀ (p1 : Addr) (L : List (Addr × List Int)), H1 p1 = none → Q (.int (dedT (ks.map (·.2))).length) (upd H1 p1 (SetTO X.prog X.w p1 L)))) := by
  refine ⟨fun pins s σ H Q I h => ?_⟩
  refine Call_ (ld_blt I hg hm (show bootBuiltins "len" = some (.builtin "len") by decide +kernel) (PyProof.Rows.callWith_builtin1 (PyProof.Rows.args_cons ?_ rfl) rfl rfl))
  refine Call_ (ld_blt I hg2 hm2 PyProof.Rows.boot_set (PyProof.Rows.callWith_type1 (PyProof.Rows.args_cons (thn (ha.run pins s σ H _ I h) fun v s1 ⟨x, H1, I1, r1, q1⟩ => PyProof.Rows.args_nil ?_) na) na rfl))
  rcases q1 with ⟨ns, ⟨l, rfl, hq, hn, _⟩, q1⟩ | ⟨ks, ⟨l, rfl, hq, hk, hn⟩, q1⟩
  · cases r1
    refine set_ints hc I1 hq hn fun p1 c h2 tk h0 R hcn I2 => PyProof.Rows.args_nil ?_
    obtain ⟨o, es, ep, t, ho, hex, hd, _, nd, hm3, hsb, hf, hsz, _⟩ := R
    refine call_len_set ho hex hd hf (by rw [hsz]; omega) ⟨.int c, _, I2.tok _, ⟨_, by rw [hsz]⟩, q1 p1 c (es.toList.map keyOf) h0 nd (fun k => by rw [← hm3 k]; simp) (by simpa using hsz)⟩
  · cases r1
    refine set_tups hc hu I1 hq hk hn fun p1 L h2 tk es ep t h0 R hsub hall I2 => PyProof.Rows.args_nil ?_
    obtain ⟨o, ho, hex, hd⟩ := R.ob
    have hsz := SetTR.size (s := { s1 with heap := h2, toks := tk }) R
    have hfew := R.few
    have hl : L.length = (dedT (ks.map (·.2))).length := by
      have : (L.map (·.2)).Perm (dedT (ks.map (·.2))) := (List.perm_ext_iff_of_nodup R.nd (nodup_pwT (dedT_pw _))).mpr fun x => by
        rw [dedT_mem]
        constructor
        · intro hx
          obtain ⟨y, hy, rfl⟩ := List.mem_map.mp hx
          exact List.mem_map.mpr ⟨y, hsub y hy, rfl⟩
        · intro hx
          obtain ⟨y, hy, rfl⟩ := List.mem_map.mp hx
          exact hall y hy
      have := this.length_eq
      rwa [List.length_map] at this
    refine call_len_set ho hex hd (SetTR.fits (s := { s1 with heap := h2, toks := tk }) R) (by rw [hsz]; have := sizeLine_eq; omega) ⟨.int (dedT (ks.map (·.2))).length, _, I2.tok _, ⟨_, by rw [hsz, hl]⟩, q1 p1 L h0⟩
end
end Ev
set_option maxHeartbeats 4000000
namespace Ev
open PySem PySem.Spec PyProof.Rows L2
/-! ### enumerate of a tuple -/
open Builtin in
set_option maxHeartbeats 1000000 in
theorem enum_new1 {v : Value} {o : Obj} {H : Heap → Prop} (B : Begins v o H) :
    Meets (Builtin.«enumerate.__new__» ⟨[.type "enumerate", v], []⟩) (fun _ R s => H s.heap ∧
      R (.ok (.ret (.ref (s.heap.push o).objs.size))) { s with heap := (s.heap.push o).push { cls := .type "enumerate", data := .fields #[.none, .bool false, .ref s.heap.objs.size, rawInt 0, .none, .none] } }) :=
  .of_wp fun prog w A R s h => by
    obtain ⟨hp, g, d, tk, os⟩ := s; obtain ⟨h1, h⟩ := h
    have hsub := sub_enumerate
    have q1 : ∀ {A' : Around} {E : Value → Shared → Prop} {Q : Value → Shared → Prop}, Q (.ref hp.objs.size) ⟨hp.push o, g, d, tk, os⟩ → wpAny (model prog w) A' (pyIter v) Q E ⟨hp, g, d, tk, os⟩ :=
      fun q => B.iter prog w _ _ ⟨hp, g, d, tk, os⟩ _ h1 q
    wp_walk using q1
    refine wpAny_stack_any fun st => wpAny_pure ?_
    split
    · rename_i c _ _ _ _ _
      cases (c == Value.type "enumerate")
      · wp_walk using q1
        exact ⟨_, rfl, h⟩
      · wp_walk using q1
        exact ⟨_, rfl, h⟩
    · wp_walk using q1
      exact ⟨_, rfl, h⟩
section
variable {prog : Program} {w : World} {A : Around} {E : Value → Shared → Prop} {s : Shared}
theorem enum_begins1 {v : Value} {o : Obj} {H : Heap → Prop} {Q : Value → Shared → Prop} (B : Begins v o H) (h1 : H s.heap)
    (h : ∀ h', IsEnum h' (s.heap.objs.size + 1) s.heap.objs.size 0 .none → h'.get? s.heap.objs.size = some o → h'.objs.size = s.heap.objs.size + 2 →
      (∀ b o, s.heap.get? b = some o → h'.get? b = some o) → Q (.ref (s.heap.objs.size + 1)) { s with heap := h' }) :
    wpAny (model prog w) A (call (.type "enumerate") [v]) Q E s := by
  refine callType_new F.called_enumerate (by decide) (F.typeCall_enumerate_1 _) (F.newCall_enumerate_1 _) (fun obj => F.args_object_init_2 obj _) F.entry_enumerate_new
    (enum_new1 B) ⟨h1, ?_⟩
  have hz : (s.heap.push o).objs.size = s.heap.objs.size + 1 := Heap.size_push ..
  show _ ∧ _
  rw [hz]
  have he : IsEnum ((s.heap.push o).push { cls := .type "enumerate", data := .fields #[.none, .bool false, .ref s.heap.objs.size, rawInt 0, .none, .none] }) (s.heap.objs.size + 1) s.heap.objs.size 0 .none := by
    have := Heap.get?_push_size (s.heap.push o) (o := { cls := .type "enumerate", data := .fields #[.none, .bool false, .ref s.heap.objs.size, rawInt 0, .none, .none] }) rfl
    rw [hz] at this; exact this
  exact ⟨⟨_, he, rfl⟩, h _ he (Heap.get?_push_of_some _ (Heap.get?_push_size _ B.free)) (by rw [Heap.size_push, hz]) fun b o x => Heap.get?_push_of_some _ (Heap.get?_push_of_some _ x)⟩
end
/-- the tuple at a at each turn, each item in a new pair -/
def IteT (K : PySem.W.Frag) (a : Addr) : L2.It :=
  ⟨fun i H => ∃ (xs : List V) (x : V), SqT K H a xs ∧ xs[i]? = some x, fun i H v H' => ∃ T x, v = .ref T ∧ H T = none ∧ H' = upd H T (.tup [.int (i : Nat), x]) ∧ ∀ xs, SqT K H a xs → xs[i]? = some x, fun i H => ∃ xs : List V, SqT K H a xs ∧ xs.length ≤ i⟩
theorem turn_enumT {P : Program} {w : World} {K : PySem.W.Frag} {elts : List Expr} {kk : Nat} {tpos : Pos} (a e it : Addr) (hai : a ≠ it) (hea : e ≠ a) :
    Turn P w K (.Tuple elts kk tpos) (IteT K a) [e, it] e (fun i h => (∃ old, IsEnum h e it ((i : Nat) : Int) old) ∧ h.IsTupleIter it a i ∧ e ≠ it) where
  mem := by simp
  obj := fun i h st b hb => by
    obtain ⟨⟨old, he⟩, ⟨o, ho, hc, hd⟩, _⟩ := st
    have e' : b = e ∨ b = it := by simpa using hb
    rcases e' with z | z
    · rw [z]; exact ⟨_, he, fun v q => nomatch q⟩
    · rw [z]; exact ⟨o, ho, fun v q => by rw [hd] at q; cases q⟩
  keep := fun i h h' st k => let ⟨⟨old, he⟩, hi, hne⟩ := st; ⟨⟨old, k e (by simp) _ he⟩, hi.at fun o q => k it (by simp) o q, hne⟩
  item := by
    intro X hP hw hK hc i pins s σ H E I hf st hg
    subst hP hw hK
    obtain ⟨⟨old, he⟩, hit, hne⟩ := st
    obtain ⟨xs, x, hq, hx⟩ := hg
    obtain ⟨its, rv, p, hz⟩ := I.tuple hq
    obtain ⟨u, hu, ru⟩ := rv.get hx
    have hel : e < s.heap.objs.size := Heap.lt_size he
    have hil : it < s.heap.objs.size := by obtain ⟨_, q, _⟩ := hit; exact Heap.lt_size q
    have hlt : i < its.toArray.size := by
      obtain ⟨h1, _⟩ := List.getElem?_eq_some_iff.mp hu
      simpa using h1
    have D := Draws.tuple (prog := X.prog) (w := X.w) (A := X.A.in1) (show X.A.in1.handled = none from I.ok.hd hc) it a hai its.toArray
    refine wpAny_pyNext_enum_itemD D he ⟨hit, p⟩ hlt hne (by simp [hne, hea]) fun y h' tk hy ho st' hT hsz hk => ?_
    have hyu : y = u := by
      rw [List.getElem?_toArray, hu] at hy
      exact (Option.some.inj hy).symm
    subst hyu
    obtain ⟨hit', _⟩ := st'
    refine ⟨_, rfl, wpAny_letOwnedTupleGo_enum (s := { s with heap := h', toks := tk + 1 }) ho fun h'' he' sb => ?_⟩
    have hT2 : h''.get? s.heap.objs.size = some { cls := .type "tuple", data := .seq #[.int i tk, y] } := (sb.2 _ (Nat.ne_of_gt hel)).trans hT
    have new : ObjOk X.prog X.w (upd H s.heap.objs.size (.tup [.int (i : Nat), x])) h'' s.heap.objs.size (.tup [.int (i : Nat), x]) :=
      ⟨by show 2 ≤ sizeLine; decide, [.int i tk, y], .cons ⟨_, rfl⟩ (.cons ru .nil), ⟨_, hT2, rfl, _, rfl⟩⟩
    have I1 : Inv X pins σ (upd H s.heap.objs.size (.tup [.int (i : Nat), x])) { s with heap := h'', toks := tk + 1 } :=
      I.turnedNew (ch := [e, it]) (fun b ob hb q => (sb.2 b (fun z => hb (by simp [z]))).trans (hk b ob (fun z => hb (by simp [z])) (fun z => hb (by simp [z])) q)) hf (Nat.le_refl _) new
    refine ⟨.ref s.heap.objs.size, _, I1, rfl, ⟨_, x, rfl, I.hok.fresh (Nat.le_refl _), rfl, fun ys hy => by rw [I.tuple_inj hy hq]; exact hx⟩, ⟨⟨y, ?_⟩, hit'.at fun o q => (sb.2 it (Ne.symm hne)).trans q, hne⟩, fun b hb => ?_⟩
    · have e1 : ((i + 1 : Nat) : Int) = (i : Int) + 1 := by omega
      rw [e1]; exact he'
    · have hb' : b < s.heap.objs.size := by
        have e' : b = e ∨ b = it := by simpa using hb
        rcases e' with z | z
        · rw [z]; exact hel
        · rw [z]; exact hil
      rw [upd_ne (Nat.ne_of_lt hb')]
      exact (hf b hb).1
  done := by
    intro X hP hw hK hc i pins s σ H E I hf st hg
    subst hP hw hK
    obtain ⟨⟨old, he⟩, hit, hne⟩ := st
    obtain ⟨xs, hq, hx⟩ := hg
    obtain ⟨its, rv, p, hz⟩ := I.tuple hq
    obtain ⟨f0, f1, f2, f3, f4, f5⟩ := hf it (by simp)
    have hl := rv.length
    have hT : s.TypeIs (.ref e) "enumerate" := ⟨_, he, rfl⟩
    unfold pyNext
    refine wpAny_bind (wpAny_attempt (wpAny_callSpecial?_slot (name := Str.ofString "__next__") hT F.slot_enumerate_next
      (wpAny_call_entry F.slot_enumerate_next hT F.entry_enumerate_next ?_ (F.args_enumerate_next_1 _))))
    show wpAny _ _ (field (.ref e) 2 >>= _) _ _ _
    refine wpAny_bind (wpAny_field he rfl (x := .ref it) rfl ?_)
    refine wpAny_bind (wpAny_nextOf_tuple_end (show X.A.in1.handled = none from I.ok.hd hc) hit p (by simp; omega) fun h' x he' hx' => ?_)
    obtain ⟨o, ho, hc⟩ := hx'
    refine wpAny_bind (wpAny_isInstance (T := "StopIteration") (b := true) ⟨o, ho, hc⟩ isSubtype_stop ?_)
    exact wpAny_pure ⟨rfl, I.turned (t' := s.toks) (fun b o hb q => he' b o hb q) f0 f1 f3 f4 f5⟩
  self := fun A i s Q E st h => let ⟨⟨_, he⟩, _⟩ := st; wpAny_pyIter_enum he h
/-- enumerate(list or tuple) -/
def iEnumA (K : PySem.W.Frag) (ta : TA) : TI := fun σ H R => ta σ H fun vs H1 => ∃ a xs, vs = [.ref a] ∧ ((SqL K H1 a xs ∧ R (Ite K a) H1) ∨ (SqT K H1 a xs ∧ R (IteT K a) H1))
theorem pi_enumA {X : Cx} {e : Expr} {ta : TA} {p pos tpos : Pos} {elts : List Expr} {kk : Nat} (hg : Gl X "enumerate") (hm : X.mg "enumerate" = none) (ha : PA X [e] ta) (hs : starEach [e] X.env = [(false, eval e X.env)] := by rfl) :
    PI X (.Tuple elts kk tpos) (.Call (.Name "enumerate" p) [e] [] pos) (iEnumA X.K ta) := by
  refine ⟨fun pins s σ H R I h => ?_⟩
  refine Call_ (ld_blt I hg hm boot_enumerate (PyProof.Rows.callWith_type1 (thn (ha.run pos pins s σ H _ I h) fun us s1 ⟨vs, H1, I1, r1, q1⟩ => ?_) hs rfl))
  obtain ⟨a, xs, ex, q1⟩ := q1
  subst ex
  have fresh2 : ∀ b, b ∈ [s1.heap.objs.size + 1, s1.heap.objs.size] → FpOk X pins H1 b := fun b hb => by
    have e' : b = s1.heap.objs.size + 1 ∨ b = s1.heap.objs.size := by simpa using hb
    have hle : s1.heap.objs.size ≤ b := by
      rcases e' with z | z
      · rw [z]; exact Nat.le_add_right _ _
      · rw [z]; exact Nat.le_refl _
    exact I1.fpOk hle (I1.hok.fresh hle)
  cases r1 with
  | cons r rr =>
    cases rr
    cases r
    rcases q1 with ⟨hq, q⟩ | ⟨hq, q⟩
    · obtain ⟨its, rv, p', hz⟩ := I1.list hq
      refine call_enumerate_list p'.isList fun h' he hit hsz hk => wpAny_pyIter_enum he ?_
      have I2 : Inv X pins σ H1 { s1 with heap := h' } := I1.kept (t' := s1.toks) hk
      exact ⟨s1.heap.objs.size + 1, [s1.heap.objs.size + 1, s1.heap.objs.size], _, _, H1, rfl, I2, turn_enum a (s1.heap.objs.size + 1) s1.heap.objs.size, ⟨⟨.none, he⟩, hit, Nat.succ_ne_self _⟩, fresh2, q⟩
    · obtain ⟨its, rv, p', hz⟩ := I1.tuple hq
      obtain ⟨o1, ho1, _⟩ := id p'
      have hlt : a < s1.heap.objs.size := Heap.lt_size ho1
      refine enum_begins1 (begins_tuple a its.toArray) p' fun h' he hit hsz hk => wpAny_pyIter_enum he ?_
      have I2 : Inv X pins σ H1 { s1 with heap := h' } := I1.kept (t' := s1.toks) hk
      exact ⟨s1.heap.objs.size + 1, [s1.heap.objs.size + 1, s1.heap.objs.size], _, _, H1, rfl, I2, turn_enumT a (s1.heap.objs.size + 1) s1.heap.objs.size (Nat.ne_of_lt hlt) (Nat.ne_of_gt (Nat.lt_succ_of_lt hlt)), ⟨⟨.none, he⟩, ⟨_, hit, rfl, rfl⟩, Nat.succ_ne_self _⟩, fresh2, q⟩
/-! ### t[::-1] -/
section
variable {prog : Program} {w : World} {A : Around} {E : Value → Shared → Prop} {s : Shared}
theorem places_rev (n : Nat) : Builtin.Slice.slicePlaces ((n : Int) - 1) (-1) (-1) = n := by
  unfold Builtin.Slice.slicePlaces
  have h1 : ¬ ((-1 : Int) > 0) := by decide
  simp only [h1, if_false]
  by_cases h : (n : Int) - 1 > -1
  · simp only [h, if_true]
    rw [show (- -1 : Int) = 1 by decide, Int.ediv_one]
    omega
  · simp only [h, if_false]
    omega
theorem pick_rev (xs : Array Value) : ((List.range xs.size).filterMap fun (m : Nat) => xs[((((xs.size : Int) - 1) + (m : Int) * (-1)).toNat)]?).toArray = xs.toList.reverse.toArray := by
  have h := PySem.W.krv_all xs
  have e : (List.range xs.size).filterMap (fun (m : Nat) => xs[((((xs.size : Int) - 1) + (m : Int) * (-1)).toNat)]?) = ((List.range xs.size).map fun k => xs.size - 1 - k).filterMap (xs[·]?) := by
    rw [List.filterMap_map]
    have gen : ∀ (l : List Nat), (∀ m ∈ l, m < xs.size) → l.filterMap (fun (m : Nat) => xs[((((xs.size : Int) - 1) + (m : Int) * (-1)).toNat)]?) = l.filterMap ((fun x => xs[x]?) ∘ fun k => xs.size - 1 - k) := fun l => by
      induction l with
      | nil => intro _; rfl
      | cons m l ih =>
        intro hl
        have h1 := hl m List.mem_cons_self
        have h2 : (((xs.size : Int) - 1) + (m : Int) * (-1)).toNat = xs.size - 1 - m := by omega
        simp only [List.filterMap_cons, Function.comp, h2]
        rw [ih fun k hk => hl k (List.mem_cons_of_mem _ hk)]
    exact gen _ fun m hm => List.mem_range.mp hm
  rw [e, PySem.W.krv_range, List.filterMap_reverse, h]
theorem sliceApplied_rev {sl : Addr} {vl vu vs : Value} {n : Nat} {Q : Int × Int × Nat → Shared → Prop} (hs : s.heap.IsSliceOf sl vl vu vs) (pl : IsPart vl none) (pu : IsPart vu none) (ps : IsPart vs (some (-1)))
    (h : Q ((n : Int) - 1, -1, n) s) : wpAny (model prog w) A (Builtin.Slice.sliceApplied (.ref sl) (pure (n : Int))) Q E s := by
  obtain ⟨os, hos, hcs, hds⟩ := id hs
  unfold Builtin.Slice.sliceApplied Builtin.Slice.sliceFields
  refine wpAny_bind (wpAny_bind (wpAny_field hos hds (x := vl) rfl (wpAny_bind (wpAny_field hos hds (x := vu) rfl (wpAny_bind (wpAny_field hos hds (x := vs) rfl (wpAny_pure ?_)))))))
  refine wpAny_bind (HT.slicePart_ ps ?_)
  show wpAny _ _ (if ((-1 : Int) == 0) = true then _ else _) _ _ s
  rw [if_neg (by decide)]
  refine wpAny_bind (HT.slicePart_ pl (wpAny_bind (HT.slicePart_ pu (wpAny_bind (wpAny_pure ?_)))))
  show wpAny _ _ (pure ((n : Int) - 1, (-1 : Int), Builtin.Slice.slicePlaces ((n : Int) - 1) (-1) (-1))) _ _ s
  rw [places_rev]
  exact wpAny_pure h
theorem getItem_tuple_rev {t sl : Addr} {items : Array Value} {vl vu vs : Value} {Q : Value → Shared → Prop} (ht : IsTup s.heap t items) (hs : s.heap.IsSliceOf sl vl vu vs) (pl : IsPart vl none) (pu : IsPart vu none) (ps : IsPart vs (some (-1)))
    (h : Q (.ref s.heap.objs.size) { s with heap := s.heap.push { cls := .type "tuple", data := .seq items.toList.reverse.toArray } })
    (hsz : items.size ≤ sizeLine) : wpAny (model prog w) A (getItem (.ref t) (.ref sl)) Q E s := by
  have htake : sizeOk (.seq items.toList.reverse.toArray) := by
    show items.toList.reverse.toArray.size ≤ sizeLine
    rw [List.size_toArray, List.length_reverse, Array.length_toList]
    exact hsz
  obtain ⟨os, hos, hcs, hds⟩ := id hs
  have hTs : s.TypeIs (.ref sl) "slice" := ⟨os, hos, hcs⟩
  unfold getItem
  try with_reducible refine wpAny_holding ?_
  first | refine wpAny_bind (wpAny_pure ?_) | skip
  refine wpAny_bind (wpAny_sequenceKey ht.typeIs (by decide) ?_)
  refine wpAny_bind (wpAny_callSpecial?_slot (name := Str.ofString "__getitem__") ht.typeIs PyProof.Rows.slot_tuple_getitem
    (wpAny_call_entry PyProof.Rows.slot_tuple_getitem ht.typeIs entry_tuple_getitem ?_ (args_tuple_getitem _ _)))
  show wpAny _ _ (Builtin.Tuple.tupleItemsOf (.ref t) >>= _) _ _ s
  refine wpAny_bind (tupleItemsOf_ ht ?_)
  refine wpAny_bind (wpAny_typeOf hTs ?_)
  rw [if_pos (by decide)]
  refine wpAny_bind (sliceApplied_rev hs pl pu ps ?_)
  have hno : ¬ ((((items.size : Int) - 1) == 0 && (-1 : Int) == 1 && items.size == items.size) = true) := by
    intro q
    rw [Bool.and_eq_true, Bool.and_eq_true] at q
    exact absurd q.1.2 (by decide)
  show wpAny _ _ (if (((items.size : Int) - 1) == 0 && (-1 : Int) == 1 && items.size == items.size) = true then _ else _) _ _ s
  rw [if_neg hno, pick_rev]
  first
    | exact wpAny_bind (m := Builtin.Tuple.tupleExact _) (wpAny_newObj_type (wpAny_pure ⟨_, rfl, wpAny_pure h⟩) htake)
    | exact wpAny_bind (m := Builtin.Tuple.tupleExact _) (wpAny_newObj_type (wpAny_bind (wpAny_pure (wpAny_pure ⟨_, rfl, wpAny_pure h⟩))) htake)
    | exact wpAny_bind (wpAny_bind (m := Builtin.Tuple.tupleExact _) (wpAny_newObj_type (wpAny_pure (wpAny_pure ⟨_, rfl, wpAny_pure h⟩)) htake))
    | exact wpAny_bind (wpAny_bind (m := Builtin.Tuple.tupleExact _) (wpAny_newObj_type (wpAny_pure ⟨_, rfl, wpAny_pure h⟩) htake))
end
/-- xs[::-1], a list or a tuple -/
def tRevA (K : PySem.W.Frag) (te : TE) : TE := fun σ H Q => te σ H fun x H1 => ∃ a xs, x = .ref a ∧ ((SqL K H1 a xs ∧ ∀ p, H1 p = none → Q (.ref p) (upd H1 p (.lst xs.reverse))) ∨ (SqT K H1 a xs ∧ ∀ p o, H1 p = none → TupO o → Q (.ref p) (upd H1 p (.frz o (.tup xs.reverse)))))
theorem pe_revA {X : Cx} {e : Expr} {te : TE} {k : Nat} {p1 p2 p3 pos : Pos} (he : PE X e te) : PE X (.Subscript e (.Slice none none (some (.UnaryOp .USub (.Constant (.int 1) k p1) p2)) p3) pos) (tRevA X.K te) := by
  refine ⟨fun pins s σ H Q I h => ?_⟩
  refine Subscript_ (thn (he.run pins s σ H _ I h) fun v s1 ⟨x, H1, I1, r1, q1⟩ => ?_)
  obtain ⟨a, xs, ex, q1⟩ := q1
  subst ex
  cases r1
  have hst : PO X (some (.UnaryOp .USub (.Constant (.int 1) k p1) p2)) (tPart (tUn (rU fun i => .int (-i)) (tC (.int 1)))) := po_some (pe_un un_neg pe_int)
  refine wpAny_Slice (thn (po_none.run pins s1 σ H1 (fun o H2 => o = none ∧ H2 = H1) I1 ⟨rfl, rfl⟩) fun vl s2 ⟨l, H2, I2, pl, el, e2⟩ => ?_)
  subst el e2
  refine thn (po_none.run pins s2 σ H2 (fun o H3 => o = none ∧ H3 = H2) I2 ⟨rfl, rfl⟩) fun vu s3 ⟨u, H3, I3, pu, eu, e3⟩ => ?_
  subst eu e3
  refine thn (hst.run pins s3 σ H3 (fun o H4 => o = some (-1) ∧ H4 = H3) I3 ⟨1, rfl, -1, rfl, rfl, rfl⟩) fun vs s4 ⟨o, H4, I4, ps, eo, e4⟩ => ?_
  subst eo e4
  have I5 : Inv X pins σ H4 { s4 with heap := s4.heap.push { cls := .type "slice", data := .fields #[vl, vu, vs] } } := I4.kept (t' := s4.toks) fun b ob q => Heap.get?_push_of_some _ q
  show wpAny (model X.prog X.w) X.A (subscriptTail e (.Slice none none (some (.UnaryOp .USub (.Constant (.int 1) k p1) p2)) p3) (.ref a) (.ref s4.heap.objs.size)) (EP X pins σ Q) X.xe { s4 with heap := s4.heap.push { cls := .type "slice", data := .fields #[vl, vu, vs] } }
  rcases q1 with ⟨hx, q⟩ | ⟨hx, q⟩
  · obtain ⟨its, r, ht, hz⟩ := I5.list hx
    have hlen := r.length
    refine tail_any (ops := [.ref a, .ref s4.heap.objs.size]) ht.isList.typeIs (PySem.slot_list_getitem.lookup) ?_ (by with_unfolding_all rfl)
    refine wpAny_getItem_list_slice ht.isList (Heap.IsSliceOf.new _ vl vu vs) pl pu ps (by decide) ?_ (by rw [List.size_toArray]; omega)
    rw [PySem.W.krv_pick]
    refine ⟨.ref _, _, I5.laid (t' := s4.toks) (o := .lst xs.reverse) (fun b ob q => Heap.get?_push_of_some _ q) (Nat.le_refl _) ?_, rfl, q _ (I5.hok.fresh (Nat.le_refl _))⟩
    exact ⟨by rw [List.length_reverse]; exact hz, _, 0, r.reverse, Heap.get?_push_size _ rfl⟩
  · obtain ⟨its, r, ht, hz⟩ := I5.tuple hx
    have hlen := r.length
    refine tail_any (ops := [.ref a, .ref s4.heap.objs.size]) ht.typeIs (PyProof.Rows.slot_tuple_getitem.lookup) ?_ (by with_unfolding_all rfl)
    refine getItem_tuple_rev ht (Heap.IsSliceOf.new _ vl vu vs) pl pu ps ?_ (by rw [List.size_toArray]; omega)
    exact newT (h' := s4.heap.push { cls := .type "slice", data := .fields #[vl, vu, vs] }) (tk := s4.toks) I5 r.reverse (by rw [List.length_reverse]; exact hz) q

/-- zip(tuple, list) -/
def ItzTL (K : PySem.W.Frag) (a b : Addr) (n1 n2 : Nat) : L2.It :=
  ⟨fun i H => ∃ (xs ys : List V) (x y : V), SqT K H a xs ∧ SqL K H b ys ∧ xs.length = n1 ∧ ys.length = n2 ∧ xs[i]? = some x ∧ ys[i]? = some y,
    fun i H v H' => ∃ T x y, v = .ref T ∧ H T = none ∧ H' = upd H T (.tup [x, y]) ∧ (∀ xs, SqT K H a xs → xs[i]? = some x) ∧ ∀ ys, SqL K H b ys → ys[i]? = some y,
    fun i H => ∃ xs ys : List V, SqT K H a xs ∧ SqL K H b ys ∧ xs.length = n1 ∧ ys.length = n2 ∧ (xs.length ≤ i ∨ ys.length ≤ i)⟩
theorem turn_zipTL {P : Program} {w : World} {K : PySem.W.Frag} {elts : List Expr} {kk : Nat} {tpos : Pos} {a b z TI TO i1 i2 : Addr} {n1 n2 : Nat} (D : ZipApart z TI TO i1 i2 a b) :
    Turn P w K (.Tuple elts kk tpos) (ItzTL K a b n1 n2) [z, TI, TO, i1, i2] z (fun i h => IsZip h z TI TO .none ∧ IsTupOf2 h TI (.ref i1) (.ref i2) ∧ (∃ x y, IsTupOf2 h TO x y) ∧ h.IsTupleIter i1 a i ∧ h.IsListIter i2 b i ∧ i ≤ n1 ∧ i ≤ n2) where
  mem := by simp
  obj := fun i h st c hc => by
    obtain ⟨hz, hTI, ⟨x, y, hTO⟩, ⟨o1, e1, _, d1⟩, ⟨o2, e2, _, d2⟩, _⟩ := st
    have e' : c = z ∨ c = TI ∨ c = TO ∨ c = i1 ∨ c = i2 := by simpa using hc
    rcases e' with q | q | q | q | q
    · rw [q]; exact ⟨_, hz, fun v q => nomatch q⟩
    · rw [q]; exact ⟨_, hTI, fun v q => nomatch q⟩
    · rw [q]; exact ⟨_, hTO, fun v q => nomatch q⟩
    · rw [q]; exact ⟨o1, e1, fun v q => by rw [d1] at q; cases q⟩
    · rw [q]; exact ⟨o2, e2, fun v q => by rw [d2] at q; cases q⟩
  keep := fun i h h' st k => by
    obtain ⟨hz, hTI, ⟨x, y, hTO⟩, h1, h2, h3⟩ := st
    exact ⟨k z (by simp) _ hz, k TI (by simp) _ hTI, ⟨x, y, k TO (by simp) _ hTO⟩, h1.at fun o q => k i1 (by simp) o q, h2.at fun o q => k i2 (by simp) o q, h3⟩
  item := by
    intro X hP hw hK hc i pins s σ H E I hf st hg
    subst hP hw hK
    obtain ⟨hz, hTI, ⟨x0, y0, hTO⟩, h1, h2, h3, h4⟩ := st
    obtain ⟨xs, ys, x, y, hqx, hqy, l1, l2, hx, hy⟩ := hg
    obtain ⟨its, rv, p, _⟩ := I.tuple hqx
    obtain ⟨its2, rv2, p2, _⟩ := I.list hqy
    obtain ⟨u, hu, ru⟩ := rv.get hx
    obtain ⟨u2, hu2, ru2⟩ := rv2.get hy
    have hzl : z < s.heap.objs.size := Heap.lt_size hz
    have S : ZipSep2 z TI TO i1 i2 [i1, a] [i2, b] := ⟨D.TIz, D.TOz, D.TITO, D.TIi1, by simp, by simp [Ne.symm D.i1z, Ne.symm D.l1z], by simp [D.TOi1, Ne.symm D.l1TO], D.TIi2, by simp, by simp [Ne.symm D.i2z, Ne.symm D.l2z], by simp [D.TOi2, Ne.symm D.l2TO], by simp [D.i12, Ne.symm D.l2i1], by simp [Ne.symm D.i12, Ne.symm D.l1i2]⟩
    have hh : X.A.in1.handled = none := I.ok.hd hc
    have b1 : i < its.toArray.size := by have := (List.getElem?_eq_some_iff.mp hu).1; simpa using this
    have b2 : i < its2.toArray.size := by have := (List.getElem?_eq_some_iff.mp hu2).1; simpa using this
    refine wpAny_pyNext_zipD2_item S (Draws.tuple (prog := X.prog) (w := X.w) hh i1 a D.l1i1 its.toArray) (Draws.list (prog := X.prog) (w := X.w) hh i2 b D.l2i2 its2.toArray) hz hTI hTO ⟨h1, p⟩ ⟨h2, p2.isList⟩ b1 b2 fun v v2 h' tk hv hv2 z' TO' h1' h2' hT hsz hk => ?_
    have e1 : v = u := by
      rw [List.getElem?_toArray, hu] at hv
      exact (Option.some.inj hv).symm
    have e2 : v2 = u2 := by
      rw [List.getElem?_toArray, hu2] at hv2
      exact (Option.some.inj hv2).symm
    subst e1 e2
    refine ⟨_, rfl, wpAny_letOwnedTupleGo_zip (s := { s with heap := h', toks := tk }) z' fun h'' z'' sb => ?_⟩
    have hT2 : h''.get? s.heap.objs.size = some { cls := .type "tuple", data := .seq #[v, v2] } := (sb.2 _ (Nat.ne_of_gt hzl)).trans hT
    have new : ObjOk X.prog X.w (upd H s.heap.objs.size (.tup [x, y])) h'' s.heap.objs.size (.tup [x, y]) :=
      ⟨by show 2 ≤ sizeLine; decide, [v, v2], .cons ru (.cons ru2 .nil), ⟨_, hT2, rfl, _, rfl⟩⟩
    have I1 : Inv X pins σ (upd H s.heap.objs.size (.tup [x, y])) { s with heap := h'', toks := tk } :=
      I.turnedNew (t' := tk) (ch := [z, TI, TO, i1, i2]) (fun c o hb q => (sb.2 c (fun q' => hb (by simp [q']))).trans (hk c o (fun q' => hb (by simp [q'])) (fun q' => hb (by simp [q'])) (fun q' => hb (by simp [q'])) (fun q' => hb (by simp [q'])) q)) hf (Nat.le_refl _) new
    have j1 : i < n1 := by rw [← l1]; exact (List.getElem?_eq_some_iff.mp hx).1
    have j2 : i < n2 := by rw [← l2]; exact (List.getElem?_eq_some_iff.mp hy).1
    refine ⟨.ref s.heap.objs.size, _, I1, rfl, ⟨_, x, y, rfl, I.hok.fresh (Nat.le_refl _), rfl, fun l hl => by rw [I.tuple_inj hl hqx]; exact hx, fun l hl => by rw [I.list_inj hl hqy]; exact hy⟩, ⟨z'', ?_, ⟨v, v2, ?_⟩, ?_, ?_, j1, j2⟩, fun c hcm => ?_⟩
    · exact (sb.2 _ D.TIz).trans (hk _ _ D.TIz D.TITO D.TIi1 D.TIi2 hTI)
    · exact (sb.2 _ D.TOz).trans TO'
    · exact h1'.1.at fun o q => (sb.2 _ D.i1z).trans q
    · exact h2'.1.at fun o q => (sb.2 _ D.i2z).trans q
    · have hlt : c < s.heap.objs.size := by
        have e' : c = z ∨ c = TI ∨ c = TO ∨ c = i1 ∨ c = i2 := by simpa using hcm
        rcases e' with q | q | q | q | q
        · rw [q]; exact hzl
        · rw [q]; exact Heap.lt_size hTI
        · rw [q]; exact Heap.lt_size hTO
        · rw [q]; obtain ⟨_, e1, _⟩ := h1; exact Heap.lt_size e1
        · rw [q]; obtain ⟨_, e2, _⟩ := h2; exact Heap.lt_size e2
      rw [upd_ne (Nat.ne_of_lt hlt)]
      exact (hf c hcm).1
  done := by
    intro X hP hw hK hc i pins s σ H E I hf st hg
    subst hP hw hK
    obtain ⟨hz, hTI, ⟨x0, y0, hTO⟩, h1, h2, h3, h4⟩ := st
    obtain ⟨xs, ys, hqx, hqy, l1, l2, hend⟩ := hg
    obtain ⟨its, rv, p, _⟩ := I.tuple hqx
    obtain ⟨its2, rv2, p2, _⟩ := I.list hqy
    have k1 := rv.length
    have k2 := rv2.length
    have S : ZipSep2 z TI TO i1 i2 [i1, a] [i2, b] := ⟨D.TIz, D.TOz, D.TITO, D.TIi1, by simp, by simp [Ne.symm D.i1z, Ne.symm D.l1z], by simp [D.TOi1, Ne.symm D.l1TO], D.TIi2, by simp, by simp [Ne.symm D.i2z, Ne.symm D.l2z], by simp [D.TOi2, Ne.symm D.l2TO], by simp [D.i12, Ne.symm D.l2i1], by simp [Ne.symm D.i12, Ne.symm D.l1i2]⟩
    have hh : X.A.in1.handled = none := I.ok.hd hc
    exact wpAny_pyNext_zipD2_end S (Draws.tuple (prog := X.prog) (w := X.w) hh i1 a D.l1i1 its.toArray) (Draws.list (prog := X.prog) (w := X.w) hh i2 b D.l2i2 its2.toArray) hz hTI hTO ⟨h1, p⟩ ⟨h2, p2.isList⟩ (by simp; omega) (by simp; omega) (by simp; omega) fun h' tk hk => ⟨rfl, I.turnedL (t' := tk) (ch := [z, TI, TO, i1, i2]) (fun c o hb q =>
      hk c o (fun q' => hb (by simp [q'])) (fun q' => hb (by simp [q'])) (fun q' => hb (by simp [q'])) (fun q' => hb (by simp [q'])) q) hf⟩
  self := fun A i s Q E st h => wpAny_pyIter_zip st.1 h
theorem pi_zipTL {X : Cx} {e e2 : Expr} {ta : TA} {p pos tpos : Pos} {elts : List Expr} {kk : Nat} (hg : Gl X "zip") (hm : X.mg "zip" = none) (ha : PA X [e, e2] ta)
    (hs : starEach [e, e2] X.env = (false, eval e X.env) :: starEach [e2] X.env := by rfl) (hpl : (backTo pos (starEach [e2] X.env)).any (·.1) = false := by rfl) :
    PI X (.Tuple elts kk tpos) (.Call (.Name "zip" p) [e, e2] [] pos) (fun σ H R => ta σ H fun vs H1 => ∃ a b xs ys, vs = [.ref a, .ref b] ∧ SqT X.K H1 a xs ∧ SqL X.K H1 b ys ∧ R (ItzTL X.K a b xs.length ys.length) H1) := by
  refine ⟨fun pins s σ H R I h => ?_⟩
  refine Call_ (ld_blt I hg hm PyProof.Rows.boot_zip (PyProof.Rows.callWith_type1 (thn (ha.run pos pins s σ H _ I h) fun us s1 ⟨vs, H1, I1, r1, q1⟩ => ?_) hs hpl))
  obtain ⟨a, b, xs, ys, ex, hqx, hqy, q⟩ := q1
  subst ex
  cases r1 with
  | cons r rr =>
    cases rr with
    | cons r' rr =>
      cases rr
      cases r
      cases r'
      obtain ⟨its, rv, p1, _⟩ := I1.tuple hqx
      obtain ⟨its2, rv2, p2, _⟩ := I1.list hqy
      have la : a < s1.heap.objs.size := by obtain ⟨o, ho, _⟩ := id p1; exact Heap.lt_size ho
      have lb : b < s1.heap.objs.size := by obtain ⟨o, ho, _⟩ := id p2.isList; exact Heap.lt_size ho
      refine zip_begins2 (begins_tuple a its.toArray) (begins_list b its2.toArray) p1 p2.isList fun h' hz hTI hTO h1 h2 hsz hk => wpAny_pyIter_zip hz ?_
      have I2 : Inv X pins σ H1 { s1 with heap := h' } := I1.kept (t' := s1.toks) hk
      refine ⟨s1.heap.objs.size + 4, [s1.heap.objs.size + 4, s1.heap.objs.size + 2, s1.heap.objs.size + 3, s1.heap.objs.size, s1.heap.objs.size + 1], _, _, H1, rfl, I2, turn_zipTL (PySem.W.ktu_apart s1.heap.objs.size a b la lb), ⟨hz, hTI, ⟨_, _, hTO⟩, ⟨_, h1, rfl, rfl⟩, ⟨_, h2, rfl, rfl⟩, Nat.zero_le _, Nat.zero_le _⟩, fun c hcm => ?_, q⟩
      have e' : c = s1.heap.objs.size + 4 ∨ c = s1.heap.objs.size + 2 ∨ c = s1.heap.objs.size + 3 ∨ c = s1.heap.objs.size ∨ c = s1.heap.objs.size + 1 := by simpa using hcm
      have hle : s1.heap.objs.size ≤ c := by
        rcases e' with z | z | z | z | z
        · rw [z]; exact Nat.le_add_right _ _
        · rw [z]; exact Nat.le_add_right _ _
        · rw [z]; exact Nat.le_add_right _ _
        · rw [z]; exact Nat.le_refl _
        · rw [z]; exact Nat.le_add_right _ _
      exact I1.fpOk hle (I1.hok.fresh hle)

/-- zip(list, tuple) -/
def ItzLT (K : PySem.W.Frag) (a b : Addr) (n1 n2 : Nat) : L2.It :=
  ⟨fun i H => ∃ (xs ys : List V) (x y : V), SqL K H a xs ∧ SqT K H b ys ∧ xs.length = n1 ∧ ys.length = n2 ∧ xs[i]? = some x ∧ ys[i]? = some y,
    fun i H v H' => ∃ T x y, v = .ref T ∧ H T = none ∧ H' = upd H T (.tup [x, y]) ∧ (∀ xs, SqL K H a xs → xs[i]? = some x) ∧ ∀ ys, SqT K H b ys → ys[i]? = some y,
    fun i H => ∃ xs ys : List V, SqL K H a xs ∧ SqT K H b ys ∧ xs.length = n1 ∧ ys.length = n2 ∧ (xs.length ≤ i ∨ ys.length ≤ i)⟩
theorem turn_zipLT {P : Program} {w : World} {K : PySem.W.Frag} {elts : List Expr} {kk : Nat} {tpos : Pos} {a b z TI TO i1 i2 : Addr} {n1 n2 : Nat} (D : ZipApart z TI TO i1 i2 a b) :
    Turn P w K (.Tuple elts kk tpos) (ItzLT K a b n1 n2) [z, TI, TO, i1, i2] z (fun i h => IsZip h z TI TO .none ∧ IsTupOf2 h TI (.ref i1) (.ref i2) ∧ (∃ x y, IsTupOf2 h TO x y) ∧ h.IsListIter i1 a i ∧ h.IsTupleIter i2 b i ∧ i ≤ n1 ∧ i ≤ n2) where
  mem := by simp
  obj := fun i h st c hc => by
    obtain ⟨hz, hTI, ⟨x, y, hTO⟩, ⟨o1, e1, _, d1⟩, ⟨o2, e2, _, d2⟩, _⟩ := st
    have e' : c = z ∨ c = TI ∨ c = TO ∨ c = i1 ∨ c = i2 := by simpa using hc
    rcases e' with q | q | q | q | q
    · rw [q]; exact ⟨_, hz, fun v q => nomatch q⟩
    · rw [q]; exact ⟨_, hTI, fun v q => nomatch q⟩
    · rw [q]; exact ⟨_, hTO, fun v q => nomatch q⟩
    · rw [q]; exact ⟨o1, e1, fun v q => by rw [d1] at q; cases q⟩
    · rw [q]; exact ⟨o2, e2, fun v q => by rw [d2] at q; cases q⟩
  keep := fun i h h' st k => by
    obtain ⟨hz, hTI, ⟨x, y, hTO⟩, h1, h2, h3⟩ := st
    exact ⟨k z (by simp) _ hz, k TI (by simp) _ hTI, ⟨x, y, k TO (by simp) _ hTO⟩, h1.at fun o q => k i1 (by simp) o q, h2.at fun o q => k i2 (by simp) o q, h3⟩
  item := by
    intro X hP hw hK hc i pins s σ H E I hf st hg
    subst hP hw hK
    obtain ⟨hz, hTI, ⟨x0, y0, hTO⟩, h1, h2, h3, h4⟩ := st
    obtain ⟨xs, ys, x, y, hqx, hqy, l1, l2, hx, hy⟩ := hg
    obtain ⟨its, rv, p, _⟩ := I.list hqx
    obtain ⟨its2, rv2, p2, _⟩ := I.tuple hqy
    obtain ⟨u, hu, ru⟩ := rv.get hx
    obtain ⟨u2, hu2, ru2⟩ := rv2.get hy
    have hzl : z < s.heap.objs.size := Heap.lt_size hz
    have S : ZipSep2 z TI TO i1 i2 [i1, a] [i2, b] := ⟨D.TIz, D.TOz, D.TITO, D.TIi1, by simp, by simp [Ne.symm D.i1z, Ne.symm D.l1z], by simp [D.TOi1, Ne.symm D.l1TO], D.TIi2, by simp, by simp [Ne.symm D.i2z, Ne.symm D.l2z], by simp [D.TOi2, Ne.symm D.l2TO], by simp [D.i12, Ne.symm D.l2i1], by simp [Ne.symm D.i12, Ne.symm D.l1i2]⟩
    have hh : X.A.in1.handled = none := I.ok.hd hc
    have b1 : i < its.toArray.size := by have := (List.getElem?_eq_some_iff.mp hu).1; simpa using this
    have b2 : i < its2.toArray.size := by have := (List.getElem?_eq_some_iff.mp hu2).1; simpa using this
    refine wpAny_pyNext_zipD2_item S (Draws.list (prog := X.prog) (w := X.w) hh i1 a D.l1i1 its.toArray) (Draws.tuple (prog := X.prog) (w := X.w) hh i2 b D.l2i2 its2.toArray) hz hTI hTO ⟨h1, p.isList⟩ ⟨h2, p2⟩ b1 b2 fun v v2 h' tk hv hv2 z' TO' h1' h2' hT hsz hk => ?_
    have e1 : v = u := by
      rw [List.getElem?_toArray, hu] at hv
      exact (Option.some.inj hv).symm
    have e2 : v2 = u2 := by
      rw [List.getElem?_toArray, hu2] at hv2
      exact (Option.some.inj hv2).symm
    subst e1 e2
    refine ⟨_, rfl, wpAny_letOwnedTupleGo_zip (s := { s with heap := h', toks := tk }) z' fun h'' z'' sb => ?_⟩
    have hT2 : h''.get? s.heap.objs.size = some { cls := .type "tuple", data := .seq #[v, v2] } := (sb.2 _ (Nat.ne_of_gt hzl)).trans hT
    have new : ObjOk X.prog X.w (upd H s.heap.objs.size (.tup [x, y])) h'' s.heap.objs.size (.tup [x, y]) :=
      ⟨by show 2 ≤ sizeLine; decide, [v, v2], .cons ru (.cons ru2 .nil), ⟨_, hT2, rfl, _, rfl⟩⟩
    have I1 : Inv X pins σ (upd H s.heap.objs.size (.tup [x, y])) { s with heap := h'', toks := tk } :=
      I.turnedNew (t' := tk) (ch := [z, TI, TO, i1, i2]) (fun c o hb q => (sb.2 c (fun q' => hb (by simp [q']))).trans (hk c o (fun q' => hb (by simp [q'])) (fun q' => hb (by simp [q'])) (fun q' => hb (by simp [q'])) (fun q' => hb (by simp [q'])) q)) hf (Nat.le_refl _) new
    have j1 : i < n1 := by rw [← l1]; exact (List.getElem?_eq_some_iff.mp hx).1
    have j2 : i < n2 := by rw [← l2]; exact (List.getElem?_eq_some_iff.mp hy).1
    refine ⟨.ref s.heap.objs.size, _, I1, rfl, ⟨_, x, y, rfl, I.hok.fresh (Nat.le_refl _), rfl, fun l hl => by rw [I.list_inj hl hqx]; exact hx, fun l hl => by rw [I.tuple_inj hl hqy]; exact hy⟩, ⟨z'', ?_, ⟨v, v2, ?_⟩, ?_, ?_, j1, j2⟩, fun c hcm => ?_⟩
    · exact (sb.2 _ D.TIz).trans (hk _ _ D.TIz D.TITO D.TIi1 D.TIi2 hTI)
    · exact (sb.2 _ D.TOz).trans TO'
    · exact h1'.1.at fun o q => (sb.2 _ D.i1z).trans q
    · exact h2'.1.at fun o q => (sb.2 _ D.i2z).trans q
    · have hlt : c < s.heap.objs.size := by
        have e' : c = z ∨ c = TI ∨ c = TO ∨ c = i1 ∨ c = i2 := by simpa using hcm
        rcases e' with q | q | q | q | q
        · rw [q]; exact hzl
        · rw [q]; exact Heap.lt_size hTI
        · rw [q]; exact Heap.lt_size hTO
        · rw [q]; obtain ⟨_, e1, _⟩ := h1; exact Heap.lt_size e1
        · rw [q]; obtain ⟨_, e2, _⟩ := h2; exact Heap.lt_size e2
      rw [upd_ne (Nat.ne_of_lt hlt)]
      exact (hf c hcm).1
  done := by
    intro X hP hw hK hc i pins s σ H E I hf st hg
    subst hP hw hK
    obtain ⟨hz, hTI, ⟨x0, y0, hTO⟩, h1, h2, h3, h4⟩ := st
    obtain ⟨xs, ys, hqx, hqy, l1, l2, hend⟩ := hg
    obtain ⟨its, rv, p, _⟩ := I.list hqx
    obtain ⟨its2, rv2, p2, _⟩ := I.tuple hqy
    have k1 := rv.length
    have k2 := rv2.length
    have S : ZipSep2 z TI TO i1 i2 [i1, a] [i2, b] := ⟨D.TIz, D.TOz, D.TITO, D.TIi1, by simp, by simp [Ne.symm D.i1z, Ne.symm D.l1z], by simp [D.TOi1, Ne.symm D.l1TO], D.TIi2, by simp, by simp [Ne.symm D.i2z, Ne.symm D.l2z], by simp [D.TOi2, Ne.symm D.l2TO], by simp [D.i12, Ne.symm D.l2i1], by simp [Ne.symm D.i12, Ne.symm D.l1i2]⟩
    have hh : X.A.in1.handled = none := I.ok.hd hc
    exact wpAny_pyNext_zipD2_end S (Draws.list (prog := X.prog) (w := X.w) hh i1 a D.l1i1 its.toArray) (Draws.tuple (prog := X.prog) (w := X.w) hh i2 b D.l2i2 its2.toArray) hz hTI hTO ⟨h1, p.isList⟩ ⟨h2, p2⟩ (by simp; omega) (by simp; omega) (by simp; omega) fun h' tk hk => ⟨rfl, I.turnedL (t' := tk) (ch := [z, TI, TO, i1, i2]) (fun c o hb q =>
      hk c o (fun q' => hb (by simp [q'])) (fun q' => hb (by simp [q'])) (fun q' => hb (by simp [q'])) (fun q' => hb (by simp [q'])) q) hf⟩
  self := fun A i s Q E st h => wpAny_pyIter_zip st.1 h
theorem pi_zipLT {X : Cx} {e e2 : Expr} {ta : TA} {p pos tpos : Pos} {elts : List Expr} {kk : Nat} (hg : Gl X "zip") (hm : X.mg "zip" = none) (ha : PA X [e, e2] ta)
    (hs : starEach [e, e2] X.env = (false, eval e X.env) :: starEach [e2] X.env := by rfl) (hpl : (backTo pos (starEach [e2] X.env)).any (·.1) = false := by rfl) :
    PI X (.Tuple elts kk tpos) (.Call (.Name "zip" p) [e, e2] [] pos) (fun σ H R => ta σ H fun vs H1 => ∃ a b xs ys, vs = [.ref a, .ref b] ∧ SqL X.K H1 a xs ∧ SqT X.K H1 b ys ∧ R (ItzLT X.K a b xs.length ys.length) H1) := by
  refine ⟨fun pins s σ H R I h => ?_⟩
  refine Call_ (ld_blt I hg hm PyProof.Rows.boot_zip (PyProof.Rows.callWith_type1 (thn (ha.run pos pins s σ H _ I h) fun us s1 ⟨vs, H1, I1, r1, q1⟩ => ?_) hs hpl))
  obtain ⟨a, b, xs, ys, ex, hqx, hqy, q⟩ := q1
  subst ex
  cases r1 with
  | cons r rr =>
    cases rr with
    | cons r' rr =>
      cases rr
      cases r
      cases r'
      obtain ⟨its, rv, p1, _⟩ := I1.list hqx
      obtain ⟨its2, rv2, p2, _⟩ := I1.tuple hqy
      have la : a < s1.heap.objs.size := by obtain ⟨o, ho, _⟩ := id p1.isList; exact Heap.lt_size ho
      have lb : b < s1.heap.objs.size := by obtain ⟨o, ho, _⟩ := id p2; exact Heap.lt_size ho
      refine zip_begins2 (begins_list a its.toArray) (begins_tuple b its2.toArray) p1.isList p2 fun h' hz hTI hTO h1 h2 hsz hk => wpAny_pyIter_zip hz ?_
      have I2 : Inv X pins σ H1 { s1 with heap := h' } := I1.kept (t' := s1.toks) hk
      refine ⟨s1.heap.objs.size + 4, [s1.heap.objs.size + 4, s1.heap.objs.size + 2, s1.heap.objs.size + 3, s1.heap.objs.size, s1.heap.objs.size + 1], _, _, H1, rfl, I2, turn_zipLT (PySem.W.ktu_apart s1.heap.objs.size a b la lb), ⟨hz, hTI, ⟨_, _, hTO⟩, ⟨_, h1, rfl, rfl⟩, ⟨_, h2, rfl, rfl⟩, Nat.zero_le _, Nat.zero_le _⟩, fun c hcm => ?_, q⟩
      have e' : c = s1.heap.objs.size + 4 ∨ c = s1.heap.objs.size + 2 ∨ c = s1.heap.objs.size + 3 ∨ c = s1.heap.objs.size ∨ c = s1.heap.objs.size + 1 := by simpa using hcm
      have hle : s1.heap.objs.size ≤ c := by
        rcases e' with z | z | z | z | z
        · rw [z]; exact Nat.le_add_right _ _
        · rw [z]; exact Nat.le_add_right _ _
        · rw [z]; exact Nat.le_add_right _ _
        · rw [z]; exact Nat.le_refl _
        · rw [z]; exact Nat.le_add_right _ _
      exact I1.fpOk hle (I1.hok.fresh hle)
/-- zip of two rows, each a list or a tuple -/
theorem pi_zip4 {X : Cx} {e e2 : Expr} {ta : TA} {p pos tpos : Pos} {elts : List Expr} {kk : Nat} (hg : Gl X "zip") (hm : X.mg "zip" = none) (ha : PA X [e, e2] ta)
    (hs : starEach [e, e2] X.env = (false, eval e X.env) :: starEach [e2] X.env := by rfl) (hpl : (backTo pos (starEach [e2] X.env)).any (·.1) = false := by rfl) :
    PI X (.Tuple elts kk tpos) (.Call (.Name "zip" p) [e, e2] [] pos) (fun σ H R => ta σ H fun vs H1 => ∃ a b xs ys, vs = [.ref a, .ref b] ∧
      ((SqL X.K H1 a xs ∧ SqL X.K H1 b ys ∧ R (Itz X.K a b) H1) ∨ (SqT X.K H1 a xs ∧ SqT X.K H1 b ys ∧ R (RZ.ItzT X.K a b) H1) ∨
       (SqT X.K H1 a xs ∧ SqL X.K H1 b ys ∧ R (ItzTL X.K a b xs.length ys.length) H1) ∨ (SqL X.K H1 a xs ∧ SqT X.K H1 b ys ∧ R (ItzLT X.K a b xs.length ys.length) H1))) := by
  refine ⟨fun pins s σ H R I h => ?_⟩
  refine Call_ (ld_blt I hg hm PyProof.Rows.boot_zip (PyProof.Rows.callWith_type1 (thn (ha.run pos pins s σ H _ I h) fun us s1 ⟨vs, H1, I1, r1, q1⟩ => ?_) hs hpl))
  obtain ⟨a, b, xs, ys, ex, hq⟩ := q1
  subst ex
  cases r1 with
  | cons r rr =>
    cases rr with
    | cons r' rr =>
      cases rr
      cases r
      cases r'
      have fr : ∀ c, c ∈ [s1.heap.objs.size + 4, s1.heap.objs.size + 2, s1.heap.objs.size + 3, s1.heap.objs.size, s1.heap.objs.size + 1] → FpOk X pins H1 c := fun c hcm => by
        have hle : s1.heap.objs.size ≤ c := by
          simp only [List.mem_cons, List.not_mem_nil, or_false] at hcm
          omega
        exact I1.fpOk hle (I1.hok.fresh hle)
      rcases hq with ⟨hqx, hqy, q⟩ | ⟨hqx, hqy, q⟩ | ⟨hqx, hqy, q⟩ | ⟨hqx, hqy, q⟩
      · obtain ⟨l1, _, p1, _⟩ := I1.list hqx
        obtain ⟨l2, _, p2, _⟩ := I1.list hqy
        refine call_zip_2 p1.isList p2.isList fun h' hz hTI hTO h1 h2 _ hk => wpAny_pyIter_zip hz ?_
        have I2 : Inv X pins σ H1 { s1 with heap := h' } := I1.kept (t' := s1.toks) hk
        refine ⟨_, _, _, _, H1, rfl, I2, turn_zip (PySem.W.ktu_apart s1.heap.objs.size a b p1.lt p2.lt), ⟨hz, hTI, ⟨_, _, hTO⟩, h1, h2⟩, fr, q⟩
      · obtain ⟨l1, _, p1, _⟩ := I1.tuple hqx
        obtain ⟨l2, _, p2, _⟩ := I1.tuple hqy
        obtain ⟨o1, ho1, _⟩ := id p1
        obtain ⟨o2, ho2, _⟩ := id p2
        refine RZ.call_zipT (show s1.heap.IsTuple a l1.toArray from p1) (show s1.heap.IsTuple b l2.toArray from p2) fun h' hz hTI hTO h1 h2 _ hk => wpAny_pyIter_zip hz ?_
        have I2 : Inv X pins σ H1 { s1 with heap := h' } := I1.kept (t' := s1.toks) hk
        refine ⟨_, _, _, _, H1, rfl, I2, RZ.turn_zipT (PySem.W.ktu_apart s1.heap.objs.size a b (Heap.lt_size ho1) (Heap.lt_size ho2)), ⟨hz, hTI, ⟨_, _, hTO⟩, h1, h2⟩, fr, q⟩
      · obtain ⟨l1, _, p1, _⟩ := I1.tuple hqx
        obtain ⟨l2, _, p2, _⟩ := I1.list hqy
        have la : a < s1.heap.objs.size := by obtain ⟨o, ho, _⟩ := id p1; exact Heap.lt_size ho
        have lb : b < s1.heap.objs.size := by obtain ⟨o, ho, _⟩ := id p2.isList; exact Heap.lt_size ho
        refine zip_begins2 (begins_tuple a l1.toArray) (begins_list b l2.toArray) p1 p2.isList fun h' hz hTI hTO h1 h2 _ hk => wpAny_pyIter_zip hz ?_
        have I2 : Inv X pins σ H1 { s1 with heap := h' } := I1.kept (t' := s1.toks) hk
        refine ⟨_, _, _, _, H1, rfl, I2, turn_zipTL (PySem.W.ktu_apart s1.heap.objs.size a b la lb), ⟨hz, hTI, ⟨_, _, hTO⟩, ⟨_, h1, rfl, rfl⟩, ⟨_, h2, rfl, rfl⟩, Nat.zero_le _, Nat.zero_le _⟩, fr, q⟩
      · obtain ⟨l1, _, p1, _⟩ := I1.list hqx
        obtain ⟨l2, _, p2, _⟩ := I1.tuple hqy
        have la : a < s1.heap.objs.size := by obtain ⟨o, ho, _⟩ := id p1.isList; exact Heap.lt_size ho
        have lb : b < s1.heap.objs.size := by obtain ⟨o, ho, _⟩ := id p2; exact Heap.lt_size ho
        refine zip_begins2 (begins_list a l1.toArray) (begins_tuple b l2.toArray) p1.isList p2 fun h' hz hTI hTO h1 h2 _ hk => wpAny_pyIter_zip hz ?_
        have I2 : Inv X pins σ H1 { s1 with heap := h' } := I1.kept (t' := s1.toks) hk
        refine ⟨_, _, _, _, H1, rfl, I2, turn_zipLT (PySem.W.ktu_apart s1.heap.objs.size a b la lb), ⟨hz, hTI, ⟨_, _, hTO⟩, ⟨_, h1, rfl, rfl⟩, ⟨_, h2, rfl, rfl⟩, Nat.zero_le _, Nat.zero_le _⟩, fr, q⟩
end Ev
set_option maxHeartbeats 4000000
namespace Ev
open PySem PySem.Spec PyProof.Rows L2
variable [Tabs]

/-! ### from Python's trees -/
structure TC where
  N : List Str
  fns : List Str
  g : Nat := 1
  gls : List (Str × D) := []
/-- within a generator -/
def TC.dec (T : TC) : TC := { T with g := 0 }
abbrev Rc := Scope → Expr → Option E
def ixOf (N : List Str) (x : Str) : Option Nat := if N[N.findIdx (· == x)]? = some x then some (N.findIdx (· == x)) else none
def visB (sc : Scope) (x : Str) : Bool := match sc.names.lookup x with
  | some .local => true
  | some .cell => true
  | some .free => true
  | _ => false
def glB (sc : Scope) (x : Str) : Bool := match sc.names.lookup x with
  | some .globalImplicit => !(x == ("__debug__" : Str)) && !decide (x = "__name__")
  | _ => false
def slotOf (N : List Str) (sc : Scope) (x : Str) : Option Nat := if visB sc x && !(x == ("__debug__" : Str)) && !(x == ("__classdict__" : Str)) then ixOf N x else none
def isStar : Expr → Bool
  | .Starred _ _ => true
  | _ => false
def isSlice : Expr → Bool
  | .Slice _ _ _ _ => true
  | _ => false
def isSet : Expr → Bool
  | .Set _ _ _ => true
  | _ => false
def trB (R : Expr → Option E) (op : BoolOp) : List Expr → Option E
  | [] => none
  | [a] => R a
  | a :: b :: r => (R a).bind fun a' => (trB R op (b :: r)).bind fun r' => some (match op with
    | .And => .and a' r'
    | .Or => .or a' r')
def trO (R : Expr → Option E) : Option Expr → Option (Option E)
  | none => some none
  | some e => (R e).map some
def trIf (R : Expr → Option E) : List Expr → Option (Option E)
  | [] => some none
  | [c] => (R c).map some
  | _ => none
def bfTab : List (Str × BF) := [("len", .len), ("abs", .abs), ("int", .int), ("min", .min), ("max", .max), ("sum", .sum), ("sorted", .sorted), ("tuple", .tuple), ("list", .list), ("all", .all), ("any", .any)]
def tyTab : List (Str × Ty) := [("int", .int), ("bool", .bool), ("str", .str), ("tuple", .tuple)]
/-- the built-in names that may be used -/
def bltNames : List Str := ["len", "abs", "int", "min", "max", "sum", "sorted", "tuple", "list", "all", "any", "bool", "str", "isinstance", "range", "enumerate", "zip", "set", "reversed"]
def trC : Const → Option D
  | .int i => some (.int i)
  | .bool b => some (.bl b)
  | .str x => some (.str x)
  | .none => some .non
  | _ => none
def trTg1 (N : List Str) : Expr → Option (Str × Nat)
  | .Name x _ => (ixOf N x).map fun i => (x, i)
  | _ => none
/-- a target: its names and slots -/
def trTg (N : List Str) : Expr → Option (Tg × List (Str × Nat))
  | .Name x _ => (ixOf N x).map fun i => (.nm i, [(x, i)])
  | .Tuple es _ _ => (match es with
    | [.Name x _, .Tuple fs _ _] => (ixOf N x).bind fun i => (mapO (trTg1 N) fs).map fun ps => (.pr i (ps.map (·.2)), (x, i) :: ps)
    | es => (mapO (trTg1 N) es).map fun ps => (.tup (ps.map (·.2)), ps))
  | _ => none
def locB (sc : Scope) (x : Str) : Bool := match sc.names.lookup x with
  | some .local => true
  | some .cell => true
  | _ => false
def isCell (sc : Scope) (x : Str) : Bool := match sc.names.lookup x with
  | some .cell => true
  | _ => false
def isLocal (sc : Scope) (x : Str) : Bool := match sc.names.lookup x with
  | some .local => true
  | _ => false
def tupTg : Expr → Bool
  | .Tuple _ _ _ => true
  | _ => false
def trI (T : TC) (R : Rc) (sc : Scope) (tg : Expr) : Expr → Option It
  | .Call (.Name x p) args kws pos => if decide (x = "range") then (if glB sc x && kws.isEmpty && !args.any isStar then (if args.length == 1 || args.length == 2 then (mapO (R sc) args).map .rng else (match args with
        | [a, b, c] => (R sc a).bind fun a' => (R sc b).bind fun b' => (R sc c).map (.rng3 a' b')
        | _ => none)) else none)
      else if decide (x = "reversed") then (if glB sc x && kws.isEmpty && !args.any isStar then (match args with
        | [a] => (R sc a).map .rv
        | _ => none) else none)
      else if decide (x = "enumerate") then (if glB sc x && kws.isEmpty && !args.any isStar && tupTg tg then (match args with
        | [a] => (R sc a).map .enm
        | _ => none) else none)
      else if decide (x = "zip") then (if glB sc x && kws.isEmpty && !args.any isStar && tupTg tg then (match args with
        | [a, b] => (R sc a).bind fun a' => (R sc b).map (.zip a')
        | _ => none) else none)
      else (R sc (.Call (.Name x p) args kws pos)).map .seq
  | e => if isSet e then none else (R sc e).map .seq
/-- list(range(..)), tuple(range(..)) -/
def rgOf (sc : Scope) (x : Str) (args : List Expr) : Option (List Expr) := if decide (x = "tuple") || decide (x = "list") then (match args with
  | [.Call (.Name y _) rs [] _] => if decide (y = "range") && glB sc y && !rs.any isStar && (rs.length == 1 || rs.length == 2) then some rs else none
  | _ => none) else none
/-- sorted(set(..)), len(set(..)) -/
def ssOf (sc : Scope) (x : Str) (args : List Expr) : Option (Bool × Expr) := if decide (x = "sorted") || decide (x = "len") then (match args with
  | [.Call (.Name y _) [a] [] _] => if decide (y = "set") && glB sc y && !isStar a then some (decide (x = "sorted"), a) else none
  | _ => none) else none
/-- sorted(d.items()) -/
def siOf (x : Str) (args : List Expr) : Option Expr := if decide (x = "sorted") then (match args with
  | [.Call (.Attribute (.Name y p) m apos) [] [] cpos] => if decide (m = "items") && (apos.endLine == cpos.line) then some (.Name y p) else none
  | _ => none) else none
/-- any, all of a generator expression -/
structure Gn where
  k : Bool
  tg : Expr
  iter : Expr
  ifs : List Expr
  scope : Scope
  elt : Expr
  pos : Pos
def isLE : Expr → Bool
  | .List _ _ => true
  | _ => false
def genOf (x : Str) (args : List Expr) : Option Gn := match args with
  | [.GeneratorExp elt [⟨tg, iter, ifs, k⟩] scope pos] => if decide (k = 0) && !isLE iter then (if decide (x = "any") then some ⟨false, tg, iter, ifs, scope, elt, pos⟩ else if decide (x = "all") then some ⟨true, tg, iter, ifs, scope, elt, pos⟩ else none) else none
  | _ => none
def gnOk (T : TC) (sc : Scope) (own : List (Str × Nat)) (G : Gn) : Bool :=
  decide (T.g = 1) && (blkC T.N sc G.scope own && (!G.scope.isCoroutine && (decide (G.scope.names.lookup (".0" : Str) = some NameKind.local) && own.all fun p => locB G.scope p.1 && (isCell G.scope p.1 || isLocal G.scope p.1))))
def trG (T : TC) (R Rg : Rc) (sc : Scope) (G : Gn) : Option E := (trTg T.N G.tg).bind fun (z : Tg × List (Str × Nat)) =>
  if gnOk T sc z.2 G then (trI T R sc G.tg G.iter).bind fun it => (trIf (Rg G.scope) G.ifs).bind fun c' => (Rg G.scope G.elt).bind fun elt' => some (.gen G.k elt' (z.2.map Prod.snd) z.1 it c') else none
/-- a thing whose method is called -/
def recvB : Expr → Bool
  | .Call _ [] _ _ => false
  | _ => true
def mthOf (m : Str) : Option Opr := if decide (m = "count") then some .cnt else if decide (m = "index") then some .idx else none
def trStep (T : TC) (R Rg : Rc) (sc : Scope) : Expr → Option E
  | .Constant c _ _ => (trC c).map .cst
  | .Name x _ => (match slotOf T.N sc x with
    | some i => some (.var i)
    | none => if glB sc x then (T.gls.lookup x).map .cst else none)
  | .BinOp a op b _ => (R sc a).bind fun a' => (R sc b).bind fun b' => some (.bin op a' b')
  | .UnaryOp op a _ => (match op with
    | .USub => (R sc a).map .neg
    | .Not => (R sc a).map .not
    | _ => none)
  | .BoolOp op es _ => (match es with
    | a :: b :: r => trB (R sc) op (a :: b :: r)
    | _ => none)
  | .Compare a ops bs _ => (match ops, bs with
    | [op], [b] => if behindInMarks op b then none else (R sc a).bind fun a' => (R sc b).bind fun b' => some (.cmp op a' b')
    | [op, op'], [b, c] => if lastMarks [op, op'] [b, c] then none else (R sc a).bind fun a' => (R sc b).bind fun b' => (R sc c).bind fun c' => some (.chain op op' a' b' c')
    | [op, op', op2], [b, c, d] => if lastMarks [op, op', op2] [b, c, d] then none else (R sc a).bind fun a' => (R sc b).bind fun b' => (R sc c).bind fun c' => (R sc d).bind fun d' => some (.chain3 op op' op2 a' b' c' d')
    | _, _ => none)
  | .IfExp c a b _ => (R sc c).bind fun c' => (R sc a).bind fun a' => (R sc b).bind fun b' => some (.ite c' a' b')
  | .Tuple es _ _ => if es.any isStar then none else (mapO (R sc) es).map .tup
  | .List es _ => if es.any isStar then none else (mapO (R sc) es).map .lst
  | .Subscript a b _ => (match b with
    | .Slice lo hi none _ => (R sc a).bind fun a' => (trO (R sc) lo).bind fun l' => (trO (R sc) hi).bind fun h' => some (.sl a' l' h')
    | .Slice none none (some (.UnaryOp .USub (.Constant (.int 1) _ _) _)) _ => (R sc a).map .rev
    | .Slice none none (some (.Constant (.int k) _ _)) _ => if decide (0 < k) then (R sc a).map fun a' => .op (.sls k) [a'] else none
    | b => if isSlice b then none else (R sc a).bind fun a' => (R sc b).bind fun b' => some (.ix a' b'))
  | .Call f args kws cpos => (match f, kws with
    | .Name x _, [] => if !glB sc x || args.any isStar then none else (match ixOf T.fns x with
      | some i => (mapO (R sc) args).map (.call i)
      | none => if decide (x = "isinstance") then (match args with
          | [a, .Name t _] => if !glB sc t || (ixOf T.fns t).isSome then none else (tyTab.lookup t).bind fun ty => (R sc a).map fun a' => .isin a' ty
          | _ => none)
        else match rgOf sc x args with
        | some rs => (mapO (R sc) rs).map (.rg (decide (x = "tuple")))
        | none => match genOf x args with
        | some G => trG T R Rg sc G
        | none => match ssOf sc x args with
        | some q => (R sc q.2).map (.sset q.1)
        | none => match siOf x args with
        | some q => (R sc q).map fun o' => .op .sit [o']
        | none => (bfTab.lookup x).bind fun f => if args.isEmpty then none else (mapO (R sc) args).map (.bf f))
    | .Attribute (.Name x p) m apos, [] => if !decide (m = "get") then (match args with
        | [a] => if !isStar a && (apos.endLine == cpos.line) then (mthOf m).bind fun f => (R sc (.Name x p)).bind fun o' => (R sc a).bind fun a' => some (.op f [o', a']) else none
        | _ => none) else if decide (m = "get") && (slotOf T.N sc x).isSome && !args.any isStar && (apos.endLine == cpos.line) then (match args with
        | [k] => (R sc (.Name x p)).bind fun o' => (R sc k).bind fun k' => some (.dget o' k')
        | [k, a] => (R sc (.Name x p)).bind fun o' => (R sc k).bind fun k' => (R sc a).bind fun a' => some (.dgetx o' k' a')
        | _ => none) else none
    | .Attribute o m apos, [] => (match args with
        | [a] => if recvB o && !isStar a && (apos.endLine == cpos.line) then (mthOf m).bind fun f => (R sc o).bind fun o' => (R sc a).bind fun a' => some (.op f [o', a']) else none
        | _ => none)
    | _, _ => none)
  | .Dict ks vs _ => (match ks, vs with
    | [], [] => some .dnew
    | [some k], [v] => (R sc k).bind fun k' => (R sc v).bind fun v' => some (.dsing k' v')
    | _, _ => none)
  | .ListComp elt gens scope _ => (match gens with
    | [⟨tg, iter, ifs, k⟩] => (trTg T.N tg).bind fun (z : Tg × List (Str × Nat)) =>
        if blkC T.N sc scope z.2 && decide (k = 0) && z.2.all (fun p => locB (relS scope sc) p.1 && (isCell scope p.1 || isLocal (relS scope sc) p.1)) then
          (trI T R sc tg iter).bind fun it => (trIf (R (relS scope sc)) ifs).bind fun c' => (R (relS scope sc) elt).bind fun elt' => some (.comp elt' (z.2.map Prod.snd) z.1 it c')
        else none
    | [⟨tg, iter, ifs, k⟩, ⟨tg1, iter1, ifs1, k1⟩] => (trTg T.N tg).bind fun (z : Tg × List (Str × Nat)) => (trTg T.N tg1).bind fun (z1 : Tg × List (Str × Nat)) =>
        if blkC T.N sc scope (z.2 ++ z1.2) && decide (k = 0) && decide (k1 = 0) && (z.2 ++ z1.2).all (fun p => locB (relS scope sc) p.1 && (isCell scope p.1 || isLocal (relS scope sc) p.1)) then
          (trI T R sc tg iter).bind fun it => (trIf (R (relS scope sc)) ifs).bind fun c' => (trI T R (relS scope sc) tg1 iter1).bind fun it1 => (trIf (R (relS scope sc)) ifs1).bind fun c1' => (R (relS scope sc) elt).bind fun elt' => some (.comp2 elt' ((z.2 ++ z1.2).map Prod.snd) (z1.2.map Prod.snd) z.1 it c' z1.1 it1 c1')
        else none
    | _ => none)
  | _ => none
def tr (T : TC) : Nat → Rc
  | 0 => fun _ _ => none
  | n + 1 => trStep T (tr T n) (if T.g = 1 then tr T.dec n else fun _ _ => none)

/-! ### readings -/
structure SR (K : PySem.W.Frag) (H : Hp) (P : Addr → Prop) (σ : L2.St) (ρ : EnvD) : Prop where
  get : ∀ (i : Nat) (d : D), ρ[i]? = some (some d) → ∃ v, σ[i]? = some (some v) ∧ Rep K H P v d
  tk : Tk H
/-- the value of e is new -/
def fr : E → D → Bool
  | .call _ _, _ => true
  | .comp elt _ _ _ _, .lst ds => D.imms ds || ds.all (fr elt)
  | .comp2 elt _ _ _ _ _ _ _ _, .lst ds => D.imms ds || ds.all (fr elt)
  | .var _, d => d.imm
  | .ix _ _, d => d.imm
  | .dget _ _, d => d.imm
  | .dgetx _ _ _, d => d.imm
  | .ite _ a b, d => d.imm || (fr a d && fr b d)
  | .and _ _, d => d.imm
  | .or _ _, d => d.imm
  | .op o _, d => if o.new then d.imm1 else d.imm
  | _, d => d.imm1
def PN (P : Addr → Prop) (H : Hp) : Addr → Prop := fun a => P a ∨ H a = none
def Got (K : PySem.W.Frag) (σ : L2.St) (H : Hp) (P : Addr → Prop) (e : E) (d : D) (Q : VK) : Prop := ∀ v H', Ext H H' → Rep K H' (PN P H) v d → (fr e d = true → Rep K H' (New H) v d) → (∀ i, e = .var i → σ[i]? = some (some v)) → Q v H'
def tE (K : PySem.W.Frag) (C : Oracle) (e : E) : TE := fun σ H Q => ∃ ρ P d, SR K H P σ ρ ∧ evE C ρ e = some d ∧ Got K σ H P e d Q
def tT (K : PySem.W.Frag) (C : Oracle) (e : E) : TT := fun σ H Q => ∃ ρ P d k, SR K H P σ ρ ∧ evE C ρ e = some d ∧ truthD d = some k ∧ ∀ H', Ext H H' → Q k H'
def tAs (K : PySem.W.Frag) (C : Oracle) (es : List E) : TA := fun σ H Q => ∃ ρ P ds, SR K H P σ ρ ∧ evEs C ρ es = some ds ∧ ∀ vs H', Ext H H' → Reps K H' (PN P H) vs ds → Q vs H'
def tOo (K : PySem.W.Frag) (C : Oracle) (o : Option E) : TO := fun σ H Q => ∃ ρ P i, SR K H P σ ρ ∧ evO C ρ o = some i ∧ ∀ H', Ext H H' → Q i H'
section
variable {K : PySem.W.Frag} {H H1 H2 H' : Hp} {P P' : Addr → Prop} {σ : L2.St} {ρ : EnvD} {e : E} {d : D} {v : V} {Q : VK}
theorem SR.ext (s : SR K H P σ ρ) (e : Ext H H') : SR K H' P σ ρ := ⟨fun i d h => by
  obtain ⟨v, h1, h2⟩ := s.get i d h
  exact ⟨v, h1, h2.ext e⟩, e.tk s.tk⟩
theorem SR.mono (s : SR K H P σ ρ) (h : ∀ a, P a → P' a) : SR K H P' σ ρ := ⟨fun i d hd => by
  obtain ⟨v, h1, h2⟩ := s.get i d hd
  exact ⟨v, h1, h2.mono h⟩, s.tk⟩
theorem SR.there (s : SR K H P σ ρ) : SR K H (fun a => P a ∧ H a ≠ none) σ ρ := ⟨fun i d hd => by
  obtain ⟨v, h1, h2⟩ := s.get i d hd
  exact ⟨v, h1, h2.there⟩, s.tk⟩
def E.isVar : E → Bool
  | .var _ => true
  | _ => false
theorem notvar {e : E} (h : e.isVar = false) {v : V} : ∀ i, e = .var i → σ[i]? = some (some v) := fun i q => by subst q; cases h
theorem Got.res (g : Got K σ H P e d Q) (hf : fr e d = true → d.imm1 = true) (x : Ext H H2) (nv : e.isVar = false := by rfl) : Res K H2 (PN P H) d Q := fun v H' x' r f => by
  refine g v H' (x.trans x') (r.mono fun a z => ?_) (fun z => (f (hf z)).mono fun a z => x.none z) (notvar nv)
  rcases z with z | z
  · exact z
  · exact .inr (x.none z)
theorem Got.old (g : Got K σ H P e d Q) (hf : fr e d = true → d.imm = true) (x : Ext H H2) (r : Rep K H2 (PN P H) v d) (nv : e.isVar = false := by rfl) : Q v H2 := g v H2 x r (fun z => r.imm (stay_refl (P := P)) (hf z)) (notvar nv)
theorem pn_step {a : Addr} (x : Ext H H1) : PN P H1 a → PN P H a := fun z => z.imp id fun z => x.none z
end
end Ev
set_option maxHeartbeats 4000000
namespace Ev
open PySem PySem.Spec PyProof.Rows L2
variable [Tabs]

/-- what a def promises -/
def spD (K : PySem.W.Frag) (C : Oracle) (f : Nat) : Sp := fun vs H Q _ => ∃ ds r, Reps K H Any vs ds ∧ Tk H ∧ C f ds = some r ∧ ∀ v H', Ext H H' → Rep K H' (New H) v r → Q v H'
structure GX (T : TC) (C : Oracle) (sc : Scope) (X : Cx) : Prop where
  hN : X.N = T.N
  nd : T.N.Nodup
  hsc : X.env.scope = sc
  kind : sc.kind = .function
  calm : X.calm = true
  hu : X.A.units + 100 < cLine
  rm : Room T.g X.A
  tab : T.g = 1 → ∃ p ∈ Tabs.cs, GxR.TabB X.base X.mg p.1 p.2 ∧ X.env.code = .ref p.1
  bl : ∀ x ∈ bltNames, X.mg x = none
  fn : ∀ (f : Nat) (x : Str), T.fns[f]? = some x → ∃ (k : Nat) (a : Addr) (fd : FuncData) (ps : List Str), X.mg x = some (.ref a) ∧ PySem.W.keepIn X.K (.ref a) = true ∧ Room (k + T.g) X.A ∧ Binds X.K fd ps [] ∧
    FnOk X.prog X.w X.K X.mg X.base CX0 k a fd ps (spD X.K C f)
  gl : ∀ (x : Str) (d : D), T.gls.lookup x = some d → ∃ a : Addr, X.mg x = some (.ref a) ∧ ∀ H P, Rep X.K H P (.ref a) d
structure SndX (T : TC) (C : Oracle) (sc : Scope) (e : Expr) (E : E) : Prop where
  v : ∀ X, GX T C sc X → PE X e (tE X.K C E)
  t : ∀ X, GX T C sc X → PT X e (tT X.K C E)
section
variable {T : TC} {C : Oracle} {sc : Scope} {X : Cx}
theorem pe_weak {e : Expr} {t t' : TE} (h : PE X e t) (w : ∀ σ H Q, t' σ H Q → t σ H Q) : PE X e t' := ⟨fun pins s σ H Q I q => h.run pins s σ H Q I (w _ _ _ q)⟩
theorem pt_weak {e : Expr} {t t' : TT} (h : PT X e t) (w : ∀ σ H Q, t' σ H Q → t σ H Q) : PT X e t' := ⟨fun pins s σ H Q I q => h.run pins s σ H Q I (w _ _ _ q)⟩
theorem pw_weak {e : Expr} {t t' : TT} (h : PW X e t) (w : ∀ σ H Q, t' σ H Q → t σ H Q) : PW X e t' := ⟨fun wh pins s σ H Q I q => h.run wh pins s σ H Q I (w _ _ _ q)⟩
theorem ixOf_some {N : List Str} {x : Str} {i : Nat} (h : ixOf N x = some i) : N[i]? = some x := by
  unfold ixOf at h
  obtain ⟨h1, rfl⟩ := ite_some h
  exact h1
theorem vis_of {sc : Scope} {x : Str} (h : visB sc x = true) : Vis sc x := by
  unfold visB at h
  split at h
  · exact .inl (by assumption)
  · exact .inr (.inl (by assumption))
  · exact .inr (.inr (by assumption))
  · cases h
theorem gl_of {x : Str} (G : GX T C sc X) (h : glB sc x = true) : Gl X x ∧ (x == ("__debug__" : Str)) = false ∧ x ≠ "__name__" := by
  unfold glB at h
  split at h
  · simp only [Bool.and_eq_true, Bool.not_eq_true', decide_eq_false_iff_not] at h
    refine ⟨?_, h.1, h.2⟩
    show X.env.scope.names.lookup x = _
    rw [G.hsc]; assumption
  · cases h
/-- a plain test -/
theorem pt_plain {e : Expr} {E : E} (h : PE X e (tE X.K C E)) (he : ∀ whole, isTrue e X.env whole = (do let v ← whole; standAt e.pos; holding [v] (truthy v))) : PT X e (tT X.K C E) := by
  refine ⟨fun pins s σ H Q I q => ?_⟩
  obtain ⟨ρ, P, d, k, sr, ev, tk, q⟩ := q
  refine isTrue_plain (thn (h.run pins s σ H (fun v H' => Ext H H' ∧ Rep X.K H' (PN P H) v d) I ⟨ρ, P, d, sr, ev, fun v H' x r _ _ => ⟨x, r⟩⟩) fun v s1 ⟨x, H1, I1, r1, x1, rp⟩ => ?_) (he _)
  exact tru_D pins s1 σ H1 x v Q I1 r1 ⟨_, d, k, rp, tk, q H1 x1⟩

/-! ### atoms -/
theorem snd_const {c : Const} {k : Nat} {pos : Pos} {d : D} (h : trC c = some d) : SndX T C sc (.Constant c k pos) (.cst d) := by
  have pv : ∀ X, GX T C sc X → PE X (.Constant c k pos) (tE X.K C (.cst d)) := by
    intro X G
    have go : ∀ (v : V), (∀ P' H, Rep X.K H P' v d) → PE X (.Constant c k pos) (tC v) → PE X (.Constant c k pos) (tE X.K C (.cst d)) := fun v hr hp => pe_weak hp fun σ H Q q => by
      obtain ⟨ρ, P, d', sr, ev, g⟩ := q
      have e : d = d' := by simpa [evE] using ev
      subst e
      exact g v H (Ext.refl H) (hr _ _) (fun _ => hr _ _) (notvar rfl)
    cases c with
    | int i => cases h; exact go _ (fun _ _ => .int i) pe_int
    | bool b => cases h; exact go _ (fun _ _ => .bl b) pe_bl
    | str x => cases h; exact go _ (fun _ _ => .str x) pe_str
    | none => cases h; exact go _ (fun _ _ => .non) pe_non
    | _ => cases h
  exact ⟨pv, fun X G => pt_plain (pv X G) fun _ => rfl⟩
theorem snd_glob {x : Str} {pos : Pos} {d : D} (hg : glB sc x = true) (h : T.gls.lookup x = some d) : SndX T C sc (.Name x pos) (.cst d) := by
  have pv : ∀ X, GX T C sc X → PE X (.Name x pos) (tE X.K C (.cst d)) := fun X G => by
    obtain ⟨a, hm, hr⟩ := G.gl x d h
    obtain ⟨g1, g2, _⟩ := gl_of G hg
    refine pe_weak (pe_glob (v := .ref a) g1 hm rfl g2) fun σ H Q q => ?_
    obtain ⟨ρ, P, d', sr, ev, g⟩ := q
    have e : d = d' := by simpa [evE] using ev
    subst e
    exact g (.ref a) H (Ext.refl H) (hr _ _) (fun _ => hr _ _) (notvar rfl)
  exact ⟨pv, fun X G => pt_plain (pv X G) fun _ => rfl⟩
theorem snd_name {x : Str} {pos : Pos} {i : Nat} (h : slotOf T.N sc x = some i) : SndX T C sc (.Name x pos) (.var i) := by
  unfold slotOf at h
  obtain ⟨hc, h⟩ := ite_some' h
  simp only [Bool.and_eq_true, Bool.not_eq_true'] at hc
  have pv : ∀ X, GX T C sc X → PE X (.Name x pos) (tE X.K C (.var i)) := fun X G => by
    refine pe_weak (pe_var (i := i) (by rw [G.hN]; exact ixOf_some h) (by rw [G.hsc]; exact vis_of hc.1.1) hc.1.2 hc.2) fun σ H Q q => ?_
    obtain ⟨ρ, P, d, sr, ev, g⟩ := q
    have ev' : ρ[i]? = some (some d) := by
      rw [evE] at ev
      cases e : ρ[i]? with
      | none => rw [e] at ev; cases ev
      | some o => rw [e] at ev; cases o with
        | none => cases ev
        | some d' => cases ev; rfl
    obtain ⟨v, h1, h2⟩ := sr.get i d ev'
    exact ⟨v, h1, g v H (Ext.refl H) (h2.mono fun _ z => .inl z) (fun z => h2.imm (stay_refl (P := P)) z) fun j e => by cases e; exact h1⟩
  exact ⟨pv, fun X G => pt_plain (pv X G) fun _ => rfl⟩

/-! ### operators -/
theorem snd_bin {a b : Expr} {A B : E} {op : Operator} {pos : Pos} (ha : SndX T C sc a A) (hb : SndX T C sc b B) : SndX T C sc (.BinOp a op b pos) (.bin op A B) := by
  have pv : ∀ X, GX T C sc X → PE X (.BinOp a op b pos) (tE X.K C (.bin op A B)) := fun X G => by
    refine pe_weak (pe_op (op_binD op) (ha.v X G) (hb.v X G)) fun σ H Q q => ?_
    obtain ⟨ρ, P, d, sr, ev, g⟩ := q
    simp only [evE, Option.bind_eq_some_iff] at ev
    obtain ⟨x, e1, y, e2, e3⟩ := ev
    exact ⟨ρ, P, x, sr, e1, fun v H1 x1 r1 _ _ => ⟨ρ, P, y, sr.ext x1, e2, fun u H2 x2 r2 _ _ => ⟨_, x, y, d, r1.ext x2, r2.mono fun _ z => pn_step x1 z, e3, g.res (fun z => z) (x1.trans x2)⟩⟩⟩
  exact ⟨pv, fun X G => pt_plain (pv X G) fun _ => rfl⟩
theorem snd_neg {a : Expr} {A : E} {pos : Pos} (ha : SndX T C sc a A) : SndX T C sc (.UnaryOp .USub a pos) (.neg A) := by
  have pv : ∀ X, GX T C sc X → PE X (.UnaryOp .USub a pos) (tE X.K C (.neg A)) := fun X G => by
    refine pe_weak (pe_un un_negD (ha.v X G)) fun σ H Q q => ?_
    obtain ⟨ρ, P, d, sr, ev, g⟩ := q
    simp only [evE, Option.bind_eq_some_iff] at ev
    obtain ⟨x, e1, e3⟩ := ev
    exact ⟨ρ, P, x, sr, e1, fun v H1 x1 r1 _ _ => ⟨_, x, d, r1, e3, g.res (fun z => z) x1⟩⟩
  exact ⟨pv, fun X G => pt_plain (pv X G) fun _ => rfl⟩
theorem truV_of {K : PySem.W.Frag} {H : Hp} {P : Addr → Prop} {v : V} {d : D} {k : Bool} (r : Rep K H P v d) (e : truthD d = some k) : TruV K v H k := by
  cases r with
  | non => cases e; rfl
  | bl b => cases e; rfl
  | int i => cases e; rfl
  | str x => cases e
  | tup h r => cases e; exact .inr (.inl ⟨_, h.t, by cases r <;> rfl⟩)
  | lst p h r => cases e; exact .inl ⟨_, SqL.of h, by cases r <;> rfl⟩
  | scr h => cases e
  | dic p h r => cases e
theorem snd_not {a : Expr} {A : E} {pos : Pos} (ha : SndX T C sc a A) : SndX T C sc (.UnaryOp .Not a pos) (.not A) := by
  refine ⟨fun X G => pe_weak (pe_notT (ha.v X G)) fun σ H Q q => ?_, fun X G => pt_weak (pt_not (ha.t X G)) fun σ H Q q => ?_⟩
  · obtain ⟨ρ, P, d, sr, ev, g⟩ := q
    simp only [evE, Option.bind_eq_some_iff] at ev
    obtain ⟨x, e1, b, e2, e3⟩ := ev
    cases e3
    exact ⟨ρ, P, x, sr, e1, fun v H1 x1 r1 _ _ => ⟨b, truV_of r1 e2, (g.res (fun z => z) x1).bl⟩⟩
  · obtain ⟨ρ, P, d, k, sr, ev, tk, g⟩ := q
    simp only [evE, Option.bind_eq_some_iff] at ev
    obtain ⟨x, e1, b, e2, e3⟩ := ev
    cases e3
    cases tk
    exact ⟨ρ, P, x, b, sr, e1, e2, g⟩
theorem snd_cmp {a b : Expr} {A B : E} {op : CmpOp} {pos : Pos} (hm : behindInMarks op b = false) (ha : SndX T C sc a A) (hb : SndX T C sc b B) : SndX T C sc (.Compare a [op] [b] pos) (.cmp op A B) := by
  refine ⟨fun X G => pe_weak (pe_cmpR (op_cmpD G.hu op) (ha.v X G) (hb.v X G) hm) fun σ H Q q => ?_, fun X G => pt_weak (pt_cmpR (op_cmpD G.hu op) (ha.v X G) (hb.v X G) hm) fun σ H Q q => ?_⟩
  · obtain ⟨ρ, P, d, sr, ev, g⟩ := q
    simp only [evE, Option.bind_eq_some_iff] at ev
    obtain ⟨x, e1, y, e2, k, e3, e4⟩ := ev
    cases e4
    exact ⟨ρ, P, x, sr, e1, fun v H1 x1 r1 _ _ => ⟨ρ, P, y, sr.ext x1, e2, fun u H2 x2 r2 _ _ => ⟨_, x, y, k, r1.ext x2, r2.mono fun _ z => pn_step x1 z, e3, (g.res (fun z => z) (x1.trans x2)).bl⟩⟩⟩
  · obtain ⟨ρ, P, d, k, sr, ev, tk, g⟩ := q
    simp only [evE, Option.bind_eq_some_iff] at ev
    obtain ⟨x, e1, y, e2, k', e3, e4⟩ := ev
    cases e4
    cases tk
    exact ⟨ρ, P, x, sr, e1, fun v H1 x1 r1 _ _ => ⟨ρ, P, y, sr.ext x1, e2, fun u H2 x2 r2 _ _ => ⟨_, x, y, k, r1.ext x2, r2.mono fun _ z => pn_step x1 z, e3, _, rfl, g _ (x1.trans x2)⟩⟩⟩
theorem snd_chain {a b c : Expr} {A B D' : E} {op op' : CmpOp} {pos : Pos} (hm : lastMarks [op, op'] [b, c] = false) (ha : SndX T C sc a A) (hb : SndX T C sc b B) (hc : SndX T C sc c D') : SndX T C sc (.Compare a [op, op'] [b, c] pos) (.chain op op' A B D') := by
  have core : ∀ (X : Cx) (P : Addr → Prop) (ρ : EnvD) (σ : L2.St) (H : Hp) (d : D) (Q : VK), SR X.K H P σ ρ → evE C ρ (.chain op op' A B D') = some d → (∀ k H', Ext H H' → d = .bl k → Q (.bl k) H') →
      tChain (rC X.K (cmpD op)) (rC X.K (cmpD op')) (tE X.K C A) (tE X.K C B) (tE X.K C D') σ H Q := fun X P ρ σ H d Q sr ev g => by
    simp only [evE, Option.bind_eq_some_iff] at ev
    obtain ⟨x, e1, y, e2, k, e3, e4⟩ := ev
    refine ⟨ρ, P, x, sr, e1, fun v H1 x1 r1 _ _ => ⟨ρ, P, y, sr.ext x1, e2, fun u H2 x2 r2 _ _ => ⟨_, x, y, k, r1.ext x2, r2.mono fun _ z => pn_step x1 z, e3, k, rfl, ?_⟩⟩⟩
    cases k with
    | false =>
      simp only [Bool.false_eq_true, if_false] at e4 ⊢
      cases e4
      exact g _ _ (x1.trans x2) rfl
    | true =>
      simp only [if_true] at e4 ⊢
      simp only [Option.bind_eq_some_iff] at e4
      obtain ⟨z, e5, k', e6, e7⟩ := e4
      cases e7
      exact ⟨ρ, P, z, sr.ext (x1.trans x2), e5, fun w H3 x3 r3 _ _ => ⟨PN P H, y, z, k', (r2.ext x3).mono fun _ z => pn_step x1 z, r3.mono fun _ z => pn_step (x1.trans x2) z, e6, g _ _ (x1.trans (x2.trans x3)) rfl⟩⟩
  refine ⟨fun X G => pe_weak (pe_chain (op_cmpD G.hu op) (op_cmpD G.hu op') (ha.v X G) (hb.v X G) (hc.v X G) hm) fun σ H Q q => ?_, fun X G => pt_weak (pt_chain (op_cmpD G.hu op) (op_cmpD G.hu op') (ha.v X G) (hb.v X G) (hc.v X G) hm) fun σ H Q q => ?_⟩
  · obtain ⟨ρ, P, d, sr, ev, g⟩ := q
    exact core X P ρ σ H d Q sr ev fun k H' x e => by subst e; exact (g.res (fun z => z) x).bl
  · obtain ⟨ρ, P, d, k, sr, ev, tk, g⟩ := q
    exact core X P ρ σ H d _ sr ev fun k H' x e => by subst e; cases tk; exact ⟨_, rfl, g _ x⟩
/-- three comparisons -/
def tChain3 (r r' r2 : R2) (ta tb tc td : TE) : TE := fun σ H Q => ta σ H fun x H1 => tb σ H1 fun y H2 => r x y H2 fun z H3 => ∃ k, z = .bl k ∧
  (if k = true then tc σ H3 fun w' H4 => r' y w' H4 fun z2 H5 => ∃ k2, z2 = .bl k2 ∧ (if k2 = true then td σ H5 fun u H6 => r2 w' u H6 Q else Q (.bl false) H5) else Q (.bl false) H3)
theorem pe_chain3 {a b c d : Expr} {ta tb tc td : TE} {pos : Pos} {op op' op2 : CmpOp} {r r' r2 : R2} (ho : OpR X (compareOp op) r) (ho' : OpR X (compareOp op') r') (ho2 : OpR X (compareOp op2) r2) (ha : PE X a ta) (hb : PE X b tb) (hc : PE X c tc) (hd : PE X d td)
    (hm : lastMarks [op, op', op2] [b, c, d] = false) : PE X (.Compare a [op, op', op2] [b, c, d] pos) (tChain3 r r' r2 ta tb tc td) := by
  refine ⟨fun pins s σ H Q I h => ?_⟩
  refine Compare_chain (thn (ha.run pins s σ H _ I h) fun v s1 ⟨x, H1, I1, r1, q1⟩ => chain_link (thn (hb.run pins s1 σ H1 _ I1 q1) fun u s2 ⟨y, H2, I2, r2', q2⟩ =>
    thn (ho pins s2 σ H2 x y v u _ I2 r1 r2' q2) fun d s3 ⟨z, H3, I3, r3, k, e, q3⟩ => ?_)) hm
  subst e
  cases r3
  refine wpAny_truthy_bool ?_
  cases k with
  | false => exact ite_ff ⟨.bl false, H3, I3, rfl, q3⟩
  | true =>
    refine ite_tt (chain_link (thn (hc.run pins s3 σ H3 _ I3 q3) fun w' s4 ⟨z', H4, I4, r4, q4⟩ => thn (ho' pins s4 σ H4 y z' u w' _ I4 r2' r4 q4) fun d s5 ⟨z5, H5, I5, r5, k2, e, q5⟩ => ?_))
    subst e
    cases r5
    refine wpAny_truthy_bool ?_
    cases k2 with
    | false => exact ite_ff ⟨.bl false, H5, I5, rfl, q5⟩
    | true => exact ite_tt (chain_last (thn (hd.run pins s5 σ H5 _ I5 q5) fun u' s6 ⟨z6, H6, I6, r6, q6⟩ => ho2 pins s6 σ H6 z' z6 w' u' Q I6 r4 r6 q6))
theorem pt_chain3 {a b c d : Expr} {ta tb tc td : TE} {pos : Pos} {op op' op2 : CmpOp} {r r' r2 : R2} (ho : OpR X (compareOp op) r) (ho' : OpR X (compareOp op') r') (ho2 : OpR X (compareOp op2) r2) (ha : PE X a ta) (hb : PE X b tb) (hc : PE X c tc) (hd : PE X d td)
    (hm : lastMarks [op, op', op2] [b, c, d] = false) : PT X (.Compare a [op, op', op2] [b, c, d] pos) (tTest (tChain3 r r' r2 ta tb tc td)) := by
  refine ⟨fun pins s σ H Q I h => ?_⟩
  refine isTrue_chain (thn (ha.run pins s σ H _ I h) fun v s1 ⟨x, H1, I1, r1, q1⟩ => test_link (thn (hb.run pins s1 σ H1 _ I1 q1) fun u s2 ⟨y, H2, I2, r2', q2⟩ =>
    thn (ho pins s2 σ H2 x y v u _ I2 r1 r2' q2) fun d s3 ⟨z, H3, I3, r3, k, e, q3⟩ => ?_)) hm
  subst e
  cases r3
  refine wpAny_truthy_bool ?_
  cases k with
  | false =>
    obtain ⟨k', e', q'⟩ := q3
    cases e'
    exact ite_ff ⟨H3, I3, q'⟩
  | true =>
    refine ite_tt (test_link (thn (hc.run pins s3 σ H3 _ I3 q3) fun w' s4 ⟨z', H4, I4, r4, q4⟩ => thn (ho' pins s4 σ H4 y z' u w' _ I4 r2' r4 q4) fun d s5 ⟨z5, H5, I5, r5, k2, e, q5⟩ => ?_))
    subst e
    cases r5
    refine wpAny_truthy_bool ?_
    cases k2 with
    | false =>
      obtain ⟨k', e', q'⟩ := q5
      cases e'
      exact ite_ff ⟨H5, I5, q'⟩
    | true =>
      refine ite_tt (test_last (thn (hd.run pins s5 σ H5 _ I5 q5) fun u' s6 ⟨z6, H6, I6, r6, q6⟩ => thn (ho2 pins s6 σ H6 z' z6 w' u' _ I6 r4 r6 q6) fun d' s7 ⟨z7, H7, I7, r7, k3, e3, q7⟩ => ?_))
      subst e3
      cases r7
      exact wpAny_truthy_bool ⟨H7, I7, q7⟩
theorem snd_chain3 {a b c d : Expr} {A B D' F' : E} {op op' op2 : CmpOp} {pos : Pos} (hm : lastMarks [op, op', op2] [b, c, d] = false) (ha : SndX T C sc a A) (hb : SndX T C sc b B) (hc : SndX T C sc c D') (hd : SndX T C sc d F') : SndX T C sc (.Compare a [op, op', op2] [b, c, d] pos) (.chain3 op op' op2 A B D' F') := by
  have core : ∀ (X : Cx) (P : Addr → Prop) (ρ : EnvD) (σ : L2.St) (H : Hp) (d : D) (Q : VK), SR X.K H P σ ρ → evE C ρ (.chain3 op op' op2 A B D' F') = some d → (∀ k H', Ext H H' → d = .bl k → Q (.bl k) H') →
      tChain3 (rC X.K (cmpD op)) (rC X.K (cmpD op')) (rC X.K (cmpD op2)) (tE X.K C A) (tE X.K C B) (tE X.K C D') (tE X.K C F') σ H Q := fun X P ρ σ H d Q sr ev gg => by
    simp only [evE, Option.bind_eq_some_iff] at ev
    obtain ⟨x, e1, y, e2, k, e3, e4⟩ := ev
    refine ⟨ρ, P, x, sr, e1, fun v H1 x1 r1 _ _ => ⟨ρ, P, y, sr.ext x1, e2, fun u H2 x2 r2 _ _ => ⟨_, x, y, k, r1.ext x2, r2.mono fun _ z => pn_step x1 z, e3, k, rfl, ?_⟩⟩⟩
    cases k with
    | false =>
      simp only [Bool.false_eq_true, if_false] at e4 ⊢
      cases e4
      exact gg _ _ (x1.trans x2) rfl
    | true =>
      simp only [if_true] at e4 ⊢
      simp only [Option.bind_eq_some_iff] at e4
      obtain ⟨z, e5, k', e6, e7⟩ := e4
      refine ⟨ρ, P, z, sr.ext (x1.trans x2), e5, fun w H3 x3 r3 _ _ => ⟨PN P H, y, z, k', (r2.ext x3).mono fun _ z => pn_step x1 z, r3.mono fun _ z => pn_step (x1.trans x2) z, e6, k', rfl, ?_⟩⟩
      have x13 := x1.trans (x2.trans x3)
      cases k' with
      | false =>
        simp only [Bool.false_eq_true, if_false] at e7 ⊢
        cases e7
        exact gg _ _ x13 rfl
      | true =>
        simp only [if_true] at e7 ⊢
        simp only [Option.bind_eq_some_iff] at e7
        obtain ⟨w0, e8, k2, e9, e10⟩ := e7
        cases e10
        exact ⟨ρ, P, w0, sr.ext x13, e8, fun u0 H4 x4 r4 _ _ => ⟨PN P H, z, w0, k2, (r3.ext x4).mono fun _ z => pn_step (x1.trans x2) z, r4.mono fun _ z => pn_step x13 z, e9, gg _ _ (x13.trans x4) rfl⟩⟩
  refine ⟨fun X G => pe_weak (pe_chain3 (op_cmpD G.hu op) (op_cmpD G.hu op') (op_cmpD G.hu op2) (ha.v X G) (hb.v X G) (hc.v X G) (hd.v X G) hm) fun σ H Q q => ?_, fun X G => pt_weak (pt_chain3 (op_cmpD G.hu op) (op_cmpD G.hu op') (op_cmpD G.hu op2) (ha.v X G) (hb.v X G) (hc.v X G) (hd.v X G) hm) fun σ H Q q => ?_⟩
  · obtain ⟨ρ, P, d, sr, ev, g⟩ := q
    exact core X P ρ σ H d Q sr ev fun k H' x e => by subst e; exact (g.res (fun z => z) x).bl
  · obtain ⟨ρ, P, d, k, sr, ev, tk, g⟩ := q
    exact core X P ρ σ H d _ sr ev fun k H' x e => by subst e; cases tk; exact ⟨_, rfl, g _ x⟩
theorem ite_fr {c a b : E} {d : D} (h : fr (.ite c a b) d = true) : d.imm = true ∨ (fr a d = true ∧ fr b d = true) := by
  simp only [fr, Bool.or_eq_true, Bool.and_eq_true] at h
  exact h
theorem snd_ite {c a b : Expr} {D' A B : E} {pos : Pos} (hc : SndX T C sc c D') (ha : SndX T C sc a A) (hb : SndX T C sc b B) : SndX T C sc (.IfExp c a b pos) (.ite D' A B) := by
  refine ⟨fun X G => pe_weak (pe_ifExp (hc.t X G) (ha.v X G) (hb.v X G)) fun σ H Q q => ?_, fun X G => ⟨fun pins s σ H Q I q => ?_⟩⟩
  · obtain ⟨ρ, P, d, sr, ev, g⟩ := q
    simp only [evE, Option.bind_eq_some_iff] at ev
    obtain ⟨x, e1, k, e2, e3⟩ := ev
    refine ⟨ρ, P, x, k, sr, e1, e2, fun H1 x1 => ?_⟩
    cases k with
    | true => exact ⟨ρ, P, d, sr.ext x1, e3, fun v H' x' r f _ => g v H' (x1.trans x') (r.mono fun _ z => pn_step x1 z) (fun z => (ite_fr z).elim (fun z => r.imm (stay_refl (P := PN P H1)) z) fun z => (f z.1).mono fun a q => x1.none q) (notvar rfl)⟩
    | false => exact ⟨ρ, P, d, sr.ext x1, e3, fun v H' x' r f _ => g v H' (x1.trans x') (r.mono fun _ z => pn_step x1 z) (fun z => (ite_fr z).elim (fun z => r.imm (stay_refl (P := PN P H1)) z) fun z => (f z.2).mono fun a q => x1.none q) (notvar rfl)⟩
  · obtain ⟨ρ, P, d, k, sr, ev, tk, g⟩ := q
    simp only [evE, Option.bind_eq_some_iff] at ev
    obtain ⟨x, e1, m, e2, e3⟩ := ev
    show wpAny _ _ (do if ← PySem.isTrue c X.env (eval c X.env) then PySem.isTrue a X.env (eval a X.env) else PySem.isTrue b X.env (eval b X.env)) _ _ _
    refine wpAny_bind (thn ((hc.t X G).run pins s σ H (fun c H' => c = m ∧ Ext H H') I ⟨ρ, P, x, m, sr, e1, e2, fun H' x' => ⟨rfl, x'⟩⟩) fun c s1 ⟨H1, I1, e, x1⟩ => ?_)
    subst e
    cases c with
    | true => exact (ha.t X G).run pins s1 σ H1 Q I1 ⟨ρ, P, d, k, sr.ext x1, e3, tk, fun H' x' => g H' (x1.trans x')⟩
    | false => exact (hb.t X G).run pins s1 σ H1 Q I1 ⟨ρ, P, d, k, sr.ext x1, e3, tk, fun H' x' => g H' (x1.trans x')⟩
/-! ### and, or -/
theorem snd_bool {op : BoolOp} {R : Expr → Option E} (hR : ∀ e E, R e = some E → SndX T C sc e E) : ∀ {es : List Expr} {E : E} {pos : Pos}, trB R op es = some E → ∀ X, GX T C sc X → PE X (.BoolOp op es pos) (tE X.K C E) ∧ PW X (.BoolOp op es pos) (tT X.K C E)
  | [], E, pos, h => by cases h
  | [a], E, pos, h => fun X G => by
    have := hR a E h
    refine ⟨pe_one (this.v X G), ?_⟩
    cases op with
    | And => exact pw_and1 (this.t X G)
    | Or => exact pw_or1 (this.t X G)
  | a :: b :: r, E, pos, h => fun X G => by
    simp only [trB, Option.bind_eq_some_iff] at h
    obtain ⟨A, h1, B, h2, h3⟩ := h
    have sa := hR a A h1
    obtain ⟨pb, pw⟩ := snd_bool (pos := pos) hR h2 X G
    cases op with
    | And =>
      cases h3
      refine ⟨pe_weak (pe_andT (sa.v X G) pb) fun σ H Q q => ?_, pw_weak (pw_and (sa.t X G) pw) fun σ H Q q => ?_⟩
      · obtain ⟨ρ, P, d, sr, ev, g⟩ := q
        simp only [evE, Option.bind_eq_some_iff] at ev
        obtain ⟨x, e1, k, e2, e3⟩ := ev
        refine ⟨ρ, P, x, sr, e1, fun v H1 x1 r1 _ _ => ⟨k, truV_of r1 e2, ?_⟩⟩
        cases k with
        | true => exact ⟨ρ, P, d, sr.ext x1, e3, fun v H' x' r _ _ => g.old (fun z => z) (x1.trans x') (r.mono fun _ z => pn_step x1 z)⟩
        | false => cases e3; exact g.old (fun z => z) x1 r1
      · obtain ⟨ρ, P, d, m, sr, ev, tk, g⟩ := q
        simp only [evE, Option.bind_eq_some_iff] at ev
        obtain ⟨x, e1, k, e2, e3⟩ := ev
        refine ⟨ρ, P, x, k, sr, e1, e2, fun H1 x1 => ?_⟩
        cases k with
        | true => exact ⟨ρ, P, d, m, sr.ext x1, e3, tk, fun H' x' => g H' (x1.trans x')⟩
        | false =>
          cases e3
          rw [e2] at tk
          cases tk
          exact g _ x1
    | Or =>
      cases h3
      refine ⟨pe_weak (pe_orT (sa.v X G) pb) fun σ H Q q => ?_, pw_weak (pw_or (sa.t X G) pw) fun σ H Q q => ?_⟩
      · obtain ⟨ρ, P, d, sr, ev, g⟩ := q
        simp only [evE, Option.bind_eq_some_iff] at ev
        obtain ⟨x, e1, k, e2, e3⟩ := ev
        refine ⟨ρ, P, x, sr, e1, fun v H1 x1 r1 _ _ => ⟨k, truV_of r1 e2, ?_⟩⟩
        cases k with
        | false => exact ⟨ρ, P, d, sr.ext x1, e3, fun v H' x' r _ _ => g.old (fun z => z) (x1.trans x') (r.mono fun _ z => pn_step x1 z)⟩
        | true => cases e3; exact g.old (fun z => z) x1 r1
      · obtain ⟨ρ, P, d, m, sr, ev, tk, g⟩ := q
        simp only [evE, Option.bind_eq_some_iff] at ev
        obtain ⟨x, e1, k, e2, e3⟩ := ev
        refine ⟨ρ, P, x, k, sr, e1, e2, fun H1 x1 => ?_⟩
        cases k with
        | false => exact ⟨ρ, P, d, m, sr.ext x1, e3, tk, fun H' x' => g H' (x1.trans x')⟩
        | true =>
          cases e3
          rw [e2] at tk
          cases tk
          exact g _ x1

/-! ### rows of expressions -/
theorem star_cons {e : Expr} {es : List Expr} {env : PySem.Env} (h : isStar e = false) : starEach (e :: es) env = (false, eval e env) :: starEach es env := by
  cases e <;> first | rfl | cases h
theorem star_any {es : List Expr} {env : PySem.Env} {pos : Pos} (h : es.any isStar = false) : (backTo pos (starEach es env)).any (·.1) = false := by
  induction es with
  | nil => rfl
  | cons e es ih =>
    simp only [List.any_cons, Bool.or_eq_false_iff] at h
    rw [star_cons h.1]
    simp only [backTo, List.map_cons, List.any_cons, Bool.false_or] at ih ⊢
    exact ih h.2
theorem snd_args {R : Expr → Option E} (hR : ∀ e E, R e = some E → SndX T C sc e E) : ∀ {es : List Expr} {Es : List E}, mapO R es = some Es → es.any isStar = false → ∀ X, GX T C sc X → PA X es (tAs X.K C Es)
  | [], Es, h, _ => fun X G => by
    cases h
    refine ⟨fun pos pins s σ H Q I q => pa_nil.run pos pins s σ H Q I ?_⟩
    obtain ⟨ρ, P, ds, sr, ev, g⟩ := q
    cases (show some [] = some ds from by simpa [evEs] using ev)
    exact g [] H (Ext.refl H) .nil
  | e :: es, Es, h, hs => fun X G => by
    simp only [mapO, Option.bind_eq_some_iff] at h
    obtain ⟨A, h1, B, h2, h3⟩ := h
    cases h3
    simp only [List.any_cons, Bool.or_eq_false_iff] at hs
    have pa := pa_cons ((hR e A h1).v X G) (snd_args hR h2 hs.2 X G) (star_cons hs.1)
    refine ⟨fun pos pins s σ H Q I q => pa.run pos pins s σ H Q I ?_⟩
    obtain ⟨ρ, P, ds, sr, ev, g⟩ := q
    simp only [evEs, Option.bind_eq_some_iff] at ev
    obtain ⟨x, e1, xs, e2, e3⟩ := ev
    cases e3
    exact ⟨ρ, P, x, sr, e1, fun v H1 x1 r1 _ _ => ⟨ρ, P, xs, sr.ext x1, e2, fun vs H2 x2 r2 => g _ H2 (x1.trans x2) (.cons (r1.ext x2) (r2.mono fun _ z => pn_step x1 z))⟩⟩
theorem snd_tup {R : Expr → Option E} (hR : ∀ e E, R e = some E → SndX T C sc e E) {es : List Expr} {Es : List E} {k : Nat} {pos : Pos} (h : mapO R es = some Es) (hs : es.any isStar = false) : SndX T C sc (.Tuple es k pos) (.tup Es) := by
  have pv : ∀ X, GX T C sc X → PE X (.Tuple es k pos) (tE X.K C (.tup Es)) := fun X G => by
    refine pe_weak (pe_tupN (snd_args hR h hs X G)) fun σ H Q q => ?_
    obtain ⟨ρ, P, d, sr, ev, g⟩ := q
    simp only [evE, Option.bind_eq_some_iff] at ev
    obtain ⟨ds, e1, e2⟩ := ev
    obtain ⟨hl, rfl⟩ := ite_some e2
    exact ⟨ρ, P, ds, sr, e1, fun vs H1 x1 r1 => ⟨by rw [r1.length]; exact lineOk_iff.mp hl, fun p o hp ho => (g.res (fun z => z) x1).tup r1 hp ho⟩⟩
  exact ⟨pv, fun X G => pt_plain (pv X G) fun _ => rfl⟩
theorem snd_lst {R : Expr → Option E} (hR : ∀ e E, R e = some E → SndX T C sc e E) {es : List Expr} {Es : List E} {pos : Pos} (h : mapO R es = some Es) (hs : es.any isStar = false) : SndX T C sc (.List es pos) (.lst Es) := by
  have pv : ∀ X, GX T C sc X → PE X (.List es pos) (tE X.K C (.lst Es)) := fun X G => by
    refine pe_weak (pe_lst (snd_args hR h hs X G)) fun σ H Q q => ?_
    obtain ⟨ρ, P, d, sr, ev, g⟩ := q
    simp only [evE, Option.bind_eq_some_iff] at ev
    obtain ⟨ds, e1, e2⟩ := ev
    obtain ⟨hl, rfl⟩ := ite_some e2
    exact ⟨ρ, P, ds, sr, e1, fun vs H1 x1 r1 => ⟨by rw [r1.length]; exact lineOk_iff.mp hl, fun p hp => (g.res (fun z => z) x1).lst r1 hp⟩⟩
  exact ⟨pv, fun X G => pt_plain (pv X G) fun _ => rfl⟩

/-! ### subscripts -/
theorem snd_ix {a b : Expr} {A B : E} {pos : Pos} (hb0 : isSlice b = false) (ha : SndX T C sc a A) (hb : SndX T C sc b B) : SndX T C sc (.Subscript a b pos) (.ix A B) := by
  have hp : PlainIx b := fun o i => by cases b <;> first | rfl | cases hb0
  have pv : ∀ X, GX T C sc X → PE X (.Subscript a b pos) (tE X.K C (.ix A B)) := fun X G => by
    refine pe_weak (pe_ix (ix_D G.hu) (ha.v X G) (hb.v X G) hp) fun σ H Q q => ?_
    obtain ⟨ρ, P, d, sr, ev, g⟩ := q
    simp only [evE, Option.bind_eq_some_iff] at ev
    obtain ⟨x, e1, y, e2, e3⟩ := ev
    exact ⟨ρ, P, x, sr, e1, fun v H1 x1 r1 _ _ => ⟨ρ, P, y, sr.ext x1, e2, fun u H2 x2 r2 _ _ => ⟨_, x, y, d, r1.ext x2, r2.mono fun _ z => pn_step x1 z, e3, fun w rw => g.old (fun z => z) (x1.trans x2) rw⟩⟩⟩
  exact ⟨pv, fun X G => pt_plain (pv X G) fun _ => rfl⟩
theorem snd_opt {R : Expr → Option E} (hR : ∀ e E, R e = some E → SndX T C sc e E) {o : Option Expr} {O : Option E} (h : trO R o = some O) : ∀ X, GX T C sc X → PO X o (tOo X.K C O) := fun X G => by
  cases o with
  | none =>
    cases h
    refine ⟨fun pins s σ H Q I q => po_none.run pins s σ H Q I ?_⟩
    obtain ⟨ρ, P, i, sr, ev, g⟩ := q
    cases (show some none = some i from by simpa [evO] using ev)
    exact g H (Ext.refl H)
  | some e =>
    obtain ⟨A, h1, rfl⟩ := Option.map_eq_some_iff.mp h
    refine ⟨fun pins s σ H Q I q => (po_some ((hR e A h1).v X G)).run pins s σ H Q I ?_⟩
    obtain ⟨ρ, P, i, sr, ev, g⟩ := q
    simp only [evO, Option.bind_eq_some_iff] at ev
    obtain ⟨x, e1, j, e2, e3⟩ := ev
    cases e3
    refine ⟨ρ, P, x, sr, e1, fun v H1 x1 r1 _ _ => ⟨j, ?_, g H1 x1⟩⟩
    cases x <;> first | cases e2 | skip
    exact r1.int_inv
theorem Reps.reverse {K : PySem.W.Frag} {H : Hp} {P : Addr → Prop} {vs : List V} {ds : List D} (r : Reps K H P vs ds) : Reps K H P vs.reverse ds.reverse := by
  cases vs with
  | nil => cases r; exact .nil
  | cons v vs =>
    cases r with
    | cons h t =>
      rw [List.reverse_cons, List.reverse_cons]
      exact Reps.append (Reps.reverse t) (.cons h .nil)
termination_by vs.length
theorem snd_rev {a : Expr} {A : E} {k : Nat} {p1 p2 p3 pos : Pos} (ha : SndX T C sc a A) : SndX T C sc (.Subscript a (.Slice none none (some (.UnaryOp .USub (.Constant (.int 1) k p1) p2)) p3) pos) (.rev A) := by
  have pv : ∀ X, GX T C sc X → PE X (.Subscript a (.Slice none none (some (.UnaryOp .USub (.Constant (.int 1) k p1) p2)) p3) pos) (tE X.K C (.rev A)) := fun X G => by
    refine pe_weak (pe_revA (ha.v X G)) fun σ H Q q => ?_
    obtain ⟨ρ, P, d, sr, ev, g⟩ := q
    simp only [evE, Option.bind_eq_some_iff] at ev
    obtain ⟨x, e1, e2⟩ := ev
    refine ⟨ρ, P, x, sr, e1, fun v H1 x1 r1 _ _ => ?_⟩
    have gr := g.res (fun z => z) x1
    unfold revD at e2
    split at e2
    · cases e2
      obtain ⟨b, vs, rfl, h1, s1⟩ := r1.tup_inv
      exact ⟨b, vs, rfl, .inr ⟨h1, fun p o hp ho => gr.tup (s1.reverse.mono fun a z => pn_step (Ext.refl _) z) hp ho⟩⟩
    · cases e2
      obtain ⟨b, vs, rfl, _, h1, s1⟩ := r1.lst_inv
      exact ⟨b, vs, rfl, .inl ⟨SqL.of h1, fun p hp => gr.lst (s1.reverse.mono fun a z => pn_step (Ext.refl _) z) hp⟩⟩
    · cases e2
  exact ⟨pv, fun X G => pt_plain (pv X G) fun _ => rfl⟩
theorem snd_sl {R : Expr → Option E} (hR : ∀ e E, R e = some E → SndX T C sc e E) {a : Expr} {A : E} {lo hi : Option Expr} {L U : Option E} {p2 pos : Pos} (ha : SndX T C sc a A) (hl : trO R lo = some L) (hu : trO R hi = some U) :
    SndX T C sc (.Subscript a (.Slice lo hi none p2) pos) (.sl A L U) := by
  have pv : ∀ X, GX T C sc X → PE X (.Subscript a (.Slice lo hi none p2) pos) (tE X.K C (.sl A L U)) := fun X G => by
    refine pe_weak (pe_slice sl_D (ha.v X G) (snd_opt hR hl X G) (snd_opt hR hu X G)) fun σ H Q q => ?_
    obtain ⟨ρ, P, d, sr, ev, g⟩ := q
    simp only [evE, Option.bind_eq_some_iff] at ev
    obtain ⟨x, e1, l, e2, u, e3, e4⟩ := ev
    exact ⟨ρ, P, x, sr, e1, fun v H1 x1 r1 _ _ => ⟨ρ, P, l, sr.ext x1, e2, fun H2 x2 => ⟨ρ, P, u, sr.ext (x1.trans x2), e3, fun H3 x3 => ⟨_, x, d, r1.ext (x2.trans x3), e4, g.res (fun z => z) (x1.trans (x2.trans x3))⟩⟩⟩⟩
  exact ⟨pv, fun X G => pt_plain (pv X G) fun _ => rfl⟩
end
end Ev
set_option maxHeartbeats 4000000
/-! ### methods of lists and tuples: count, index -/
namespace Ev
open PySem PySem.Spec PySem.SeqAt PyProof.Rows L2
section
variable {X : Cx} [Tabs]
theorem recv_base {o : Expr} {name : Str} {env : PySem.Env} {w : Sem Value} (h : recvB o = true) : attributeBase o name env w = w := by
  cases o with
  | Call f args kws pos =>
    cases args with
    | nil => cases h
    | cons a r => cases f <;> rfl
  | _ => rfl
/-- what the type of a list or a tuple asks -/
theorem seq_ty {pins : List (Addr × Obj)} {σ : L2.St} {H : Hp} {s : Shared} {P : Addr → Prop} {x : V} {v : Value} {d : D} (I : Inv X pins σ H s) (rx : RelV x v) (r : Rep X.K H P x d) :
    (∀ xs, d = .lst xs → s.TypeIs v "list" ∧ ∀ a, v = .ref a → ∃ ob, s.heap.get? a = some ob ∧ ob.dict = none) ∧ (∀ xs, d = .tup xs → s.TypeIs v "tuple" ∧ ∀ a, v = .ref a → ∃ ob, s.heap.get? a = some ob ∧ ob.dict = none) := by
  refine ⟨fun xs e => ?_, fun xs e => ?_⟩
  · subst e
    obtain ⟨a, vs, rfl, _, ha, _⟩ := r.lst_inv
    exact tyV_is (T := "list") I rx (.inl ⟨rfl, vs, SqL.of ha⟩)
  · subst e
    obtain ⟨a, vs, rfl, ha, _⟩ := r.tup_invN
    obtain rfl : v = Value.ref a := rx
    rcases ha with ⟨o, ho, h⟩ | ⟨o, its, n, hk, hc, _⟩
    · obtain ⟨g, _⟩ := I.hok a _ h
      exact ⟨⟨o, g, ho.1⟩, fun b e => by cases e; exact ⟨o, g, ho.2⟩⟩
    · have g := I.kIn a o hk
      exact ⟨⟨o, g, hc.1⟩, fun b e => by cases e; exact ⟨o, g, hc.2⟩⟩
theorem countP_pys {f : PyData → Bool} : ∀ ys : List D, (D.pys ys).countP f = ys.countP fun y => f y.py
  | [] => by rw [D.pys]; rfl
  | y :: ys => by rw [D.pys, List.countP_cons, List.countP_cons, countP_pys ys]
theorem findIdx_pys {f : PyData → Bool} : ∀ ys : List D, (D.pys ys).findIdx? f = ys.findIdx? fun y => f y.py
  | [] => by rw [D.pys]; rfl
  | y :: ys => by rw [D.pys, List.findIdx?_cons, List.findIdx?_cons, findIdx_pys ys]
def mId : Bool → Opr → String
  | false, .cnt => "list.count"
  | false, .idx => "list.index"
  | true, .cnt => "tuple.count"
  | true, .idx => "tuple.index"
  | _, _ => ""
/-- the call itself -/
theorem mth_call (hu : X.A.units + 100 < cLine) {f : Opr} {pins : List (Addr × Obj)} {σ : L2.St} {H : Hp} {s : Shared} {P : Addr → Prop} {x y : V} {v u : Value} {dx dy : D} {n : Int} {Q : VK} (I : Inv X pins σ H s) (rx : RelV x v) (ry : RelV y u)
    (r1 : Rep X.K H P x dx) (r2 : Rep X.K H P y dy) (e : oprD f [dx, dy] = some (.int n)) (q : Q (.int n) H) :
    (isTup dx = false → wpAny (model X.prog X.w) X.A (call (.builtin (mId false f)) [v, u]) (EP X pins σ Q) X.xe s) ∧
    (isTup dx = true → wpAny (model X.prog X.w) X.A (call (.builtin (mId true f)) [v, u]) (EP X pins σ Q) X.xe s) := by
  have fin : EP X pins σ Q (.int n s.toks) { s with toks := s.toks + 1 } := ⟨.int n, H, I.tok _, ⟨_, rfl⟩, q⟩
  cases f with
  | cnt =>
    simp only [oprD, Option.bind_eq_some_iff] at e
    obtain ⟨xs, e1, e2⟩ := e
    obtain ⟨hc, e3⟩ := ite_some e2
    simp only [Bool.and_eq_true, wf_iff, wfs_iff] at hc
    obtain ⟨⟨p2, l2⟩, p1, l1⟩ := hc
    obtain ⟨bs, b1⟩ := r2.reads I p1 ry
    cases e3
    rcases itemsD_inv e1 with rfl | rfl
    · obtain ⟨as, a1⟩ := r1.reads I (by rw [D.py]; simpa [PyData.plain] using p2) rx
      rw [D.py] at a1
      cases a1 with
      | list h1 h2 h3 h4 =>
        refine ⟨fun _ => count_list_data ⟨_, h1, h2, _, h3⟩ h4 b1 p2 p1 (by omega) ?_, fun z => by cases z⟩
        rw [countP_pys]; exact fin
    · obtain ⟨as, a1⟩ := r1.reads I (by rw [D.py]; simpa [PyData.plain] using p2) rx
      rw [D.py] at a1
      cases a1 with
      | tuple h1 h2 h3 h4 =>
        refine ⟨(fun z => by cases z), fun _ => count_tuple_data ⟨_, h1, h2, _, h3⟩ h4 b1 p2 p1 (by omega) ?_⟩
        rw [countP_pys]; exact fin
  | idx =>
    simp only [oprD, Option.bind_eq_some_iff] at e
    obtain ⟨xs, e1, e2⟩ := e
    obtain ⟨hc, e3⟩ := ite_some' e2
    obtain ⟨j, e4, e5⟩ := Option.map_eq_some_iff.mp e3
    cases e5
    simp only [Bool.and_eq_true, wf_iff, wfs_iff] at hc
    obtain ⟨⟨p2, l2⟩, p1, l1⟩ := hc
    obtain ⟨bs, b1⟩ := r2.reads I p1 ry
    rw [← findIdx_pys (f := fun z => PyData.eqv z dy.py)] at e4
    have hsz := sizeLine_eq
    rcases itemsD_inv e1 with rfl | rfl
    · obtain ⟨a, ws, rfl, _, ha, _⟩ := id r1.lst_inv
      obtain ⟨as, a1⟩ := r1.reads I (by rw [D.py]; simpa [PyData.plain] using p2) rx
      rw [D.py] at a1
      obtain ⟨its0, rv0, ⟨o0, n0, g0, _, _, g3⟩, hz0⟩ := I.list (SqL.of ha)
      cases rx
      cases a1 with
      | @list l o its m xs' as' h1 h2 h3 h4 =>
        obtain ⟨cls, dd, data, sl⟩ := o
        simp only at h2 h3
        subst h2 h3
        rw [h1] at g0
        cases g0
        injection g3 with g4 g5
        have hlen : its.size ≤ sizeLine := by rw [g4, List.size_toArray, ← rv0.length]; exact hz0
        obtain ⟨hj, hit, hno⟩ := hit_at h4 p2 e4
        refine ⟨fun _ => call_meets PySem.F.slot_list_index ⟨_, h1, rfl⟩ PySem.F.entry_list_index (PySem.F.args_list_index_2 _ _)
          (SeqAt.list_indexAt a its m dd sl u (fun z => PyData.eqv (SeqAt.readOf s.heap z) dy.py) j hj (by omega) hit hno) ⟨h1, items_plain h4 b1 p2 p1 (by omega), fin⟩, fun z => by cases z⟩
    · obtain ⟨as, a1⟩ := r1.reads I (by rw [D.py]; simpa [PyData.plain] using p2) rx
      rw [D.py] at a1
      cases a1 with
      | @tuple l o its m xs' as' h1 h2 h3 h4 =>
        obtain ⟨cls, dd, data, sl⟩ := o
        simp only at h2 h3
        subst h2 h3
        obtain ⟨hj, hit, hno⟩ := hit_at h4 p2 e4
        refine ⟨(fun z => by cases z), fun _ => call_meets PySem.F.slot_tuple_index ⟨_, h1, rfl⟩ PySem.F.entry_tuple_index (PySem.F.args_tuple_index_2 _ _)
          (tuple_index2_found l its m dd sl u (fun i => if hi : i < its.size then PyData.eqv (SeqAt.readOf s.heap its[i]) dy.py else false) j hj (Nat.zero_le _) hj ?_ ?_) ⟨h1, ?_, fin⟩⟩
        · show (if hi : j < its.size then PyData.eqv (SeqAt.readOf s.heap its[j]) dy.py else false) = true
          rw [dif_pos hj]; exact hit
        · intro k hk _ hkj
          show (if hi : k < its.size then PyData.eqv (SeqAt.readOf s.heap its[k]) dy.py else false) = false
          rw [dif_pos hk]; exact hno k hk hkj
        · intro k hk
          show EqAt _ _ _ _ (if hi : k < its.size then PyData.eqv (SeqAt.readOf s.heap its[k]) dy.py else false)
          rw [dif_pos hk]
          exact items_plain h4 b1 p2 p1 (by omega) _ (Array.getElem_mem hk)
  | sls k => simp [oprD] at e
  | sit => simp [oprD] at e
def tMth (K : PySem.W.Frag) (f : Opr) (to ta : TE) : TE := fun σ H Q => to σ H fun x H1 => ∃ P dx xs, Rep K H1 P x dx ∧ itemsD dx = some xs ∧ tCons ta tNil σ H1 fun ys H2 => ∃ y P2 dy n, ys = [y] ∧ Rep K H2 P2 x dx ∧ Rep K H2 P2 y dy ∧ oprD f [dx, dy] = some (.int n) ∧ Q (.int n) H2
theorem pe_mth {o e : Expr} {to ta : TE} {f : Opr} {name : Str} {apos cpos : Pos} (hu : X.A.units + 100 < cLine) (hf : mthOf name = some f) (ho : PE X o to) (he : PE X e ta) (hr : recvB o = true) (hs : isStar e = false) (hl : (apos.endLine == cpos.line) = true) :
    PE X (.Call (.Attribute o name apos) [e] [] cpos) (tMth X.K f to ta) := by
  refine ⟨fun pins s σ H Q I h => ?_⟩
  refine wpAny_Call_method_late (recv_base hr) (by rw [star_cons hs]; rfl) hl rfl (thn (ho.run pins s σ H _ I h) fun v s1 hx => ?_)
  obtain ⟨x, H1, I1, r1, P, dx, xs, rx, ix, q1⟩ := hx
  obtain ⟨tl, tt⟩ := seq_ty I1 r1 rx
  have hA := (pa_cons he pa_nil (star_cons hs)).run cpos pins s1 σ H1 _ I1 q1
  rw [star_cons hs] at hA
  have last : ∀ tp : Bool, isTup dx = tp → wpAny (model X.prog X.w) X.A (callWith cpos (.builtin (mId tp f)) [v] (backTo cpos (starEach [e] X.env)) []) (EP X pins σ Q) X.xe s1 := fun tp htp => by
    rw [star_cons hs]
    refine Calls.callWith_builtin rfl (Calls.evalArgs_plain ?_)
    refine thn hA fun us s2 hq => ?_
    obtain ⟨vs, H2, I2, r2, y, P2, dy, n, rfl, ry1, ry2, e3, q3⟩ := hq
    obtain ⟨u, rfl, ru⟩ := r2.one
    have := mth_call hu I2 r1 ru ry1 ry2 e3 q3
    cases tp with
    | false => exact this.1 htp
    | true => exact this.2 htp
  unfold mthOf at hf
  rcases itemsD_inv ix with rfl | rfl
  · obtain ⟨t1, t2⟩ := tl _ rfl
    split at hf
    · rename_i hn
      cases hf
      obtain rfl := of_decide_eq_true hn
      exact ⟨"list", _, PySem.F.plainAttrs_list, PySem.F.slot_list_count, PySem.F.type_list_count, t1, t2, last false rfl⟩
    · split at hf
      · rename_i hn
        cases hf
        obtain rfl := of_decide_eq_true hn
        exact ⟨"list", _, PySem.F.plainAttrs_list, PySem.F.slot_list_index, PySem.F.type_list_index, t1, t2, last false rfl⟩
      · cases hf
  · obtain ⟨t1, t2⟩ := tt _ rfl
    split at hf
    · rename_i hn
      cases hf
      obtain rfl := of_decide_eq_true hn
      exact ⟨"tuple", _, PySem.F.plainAttrs_tuple, PySem.F.slot_tuple_count, PySem.F.type_tuple_count, t1, t2, last true rfl⟩
    · split at hf
      · rename_i hn
        cases hf
        obtain rfl := of_decide_eq_true hn
        exact ⟨"tuple", _, PySem.F.plainAttrs_tuple, PySem.F.slot_tuple_index, PySem.F.type_tuple_index, t1, t2, last true rfl⟩
      · cases hf
variable {T : TC} {C : Oracle} {sc : Scope}
theorem snd_mth {o e : Expr} {O A : E} {f : Opr} {m : Str} {apos cpos : Pos} (hf : mthOf m = some f) (ho : SndX T C sc o O) (ha : SndX T C sc e A) (hr : recvB o = true) (hs : isStar e = false) (hl : (apos.endLine == cpos.line) = true) :
    SndX T C sc (.Call (.Attribute o m apos) [e] [] cpos) (.op f [O, A]) := by
  have pv : ∀ X, GX T C sc X → PE X (.Call (.Attribute o m apos) [e] [] cpos) (tE X.K C (.op f [O, A])) := fun X G => by
    refine pe_weak (pe_mth G.hu hf (ho.v X G) (ha.v X G) hr hs hl) fun σ H Q q => ?_
    obtain ⟨ρ, P, d, sr, ev, g⟩ := q
    simp only [evE, evEs, Option.bind_eq_some_iff] at ev
    obtain ⟨ds, ⟨dx, e1, l1, ⟨dy, e2, l2, el2, e4⟩, e3⟩, e5⟩ := ev
    cases el2
    cases e4
    cases e3
    have shape : ∃ xs, itemsD dx = some xs ∧ ∃ n, d = .int n := by
      cases f with
      | cnt =>
        simp only [oprD, Option.bind_eq_some_iff] at e5
        obtain ⟨xs, h1, h2⟩ := e5
        obtain ⟨_, h3⟩ := ite_some h2
        exact ⟨xs, h1, _, h3.symm⟩
      | idx =>
        simp only [oprD, Option.bind_eq_some_iff] at e5
        obtain ⟨xs, h1, h2⟩ := e5
        obtain ⟨_, h3⟩ := ite_some' h2
        obtain ⟨j, _, h4⟩ := Option.map_eq_some_iff.mp h3
        exact ⟨xs, h1, _, h4.symm⟩
      | sls k => simp [oprD] at e5
      | sit => simp [oprD] at e5
    obtain ⟨xs, ix, n, rfl⟩ := shape
    refine ⟨ρ, P, dx, sr, e1, fun v H1 x1 r1 _ _ => ⟨PN P H, dx, xs, r1, ix, ρ, P, dy, sr.ext x1, e2, fun u H2 x2 r2 _ _ => ⟨u, PN P H, dy, n, rfl, r1.ext x2, r2.mono fun _ z => pn_step x1 z, e5, ?_⟩⟩⟩
    exact g _ H2 (x1.trans x2) (.int n) (fun _ => .int n) (notvar rfl)
  exact ⟨pv, fun X G => pt_plain (pv X G) fun _ => rfl⟩
end
end Ev
set_option maxHeartbeats 4000000
/-! ### xs[::k], sorted(d.items()), dict(pairs) -/
namespace Ev
open PySem PySem.Spec PySem.SeqAt PySem.W PyProof.Rows L2
section
variable {X : Cx} [Tabs]
theorem Vals.picks : ∀ {xs : List V} {us : List Value}, Vals xs us → ∀ js : List Nat, Vals (js.filterMap (xs[·]?)) (js.filterMap (us[·]?))
  | _, _, _, [] => .nil
  | xs, us, r, j :: js => by
    have ih := Vals.picks r js
    cases q : xs[j]? with
    | none =>
      have : us[j]? = none := by
        rw [List.getElem?_eq_none_iff] at q ⊢
        rw [← r.length]; exact q
      simp only [List.filterMap_cons, q, this]
      exact ih
    | some x =>
      obtain ⟨u, h1, h2⟩ := r.get q
      simp only [List.filterMap_cons, q, h1]
      exact .cons h2 ih
theorem Reps.picks {K : PySem.W.Frag} {H : Hp} {P : Addr → Prop} : ∀ {vs : List V} {ds : List D}, Reps K H P vs ds → ∀ js : List Nat, Reps K H P (js.filterMap (vs[·]?)) (js.filterMap (ds[·]?))
  | _, _, _, [] => .nil
  | vs, ds, r, j :: js => by
    have ih := Reps.picks r js
    cases q : ds[j]? with
    | none =>
      have : vs[j]? = none := by
        rw [List.getElem?_eq_none_iff] at q ⊢
        rw [r.length]; exact q
      simp only [List.filterMap_cons, q, this]
      exact ih
    | some x =>
      obtain ⟨u, h1, h2⟩ := r.get q
      simp only [List.filterMap_cons, q, h1]
      exact .cons h2 ih
theorem pick_step (k : Int) (us : List Value) : (slicePick us.toArray none none (some k)).toList = everyG k us := by
  simp [slicePick, everyG]
theorem everyG_len {k : Int} {us : List Value} : (everyG k us).length ≤ us.length := by
  rw [← pick_step, Array.length_toList]
  have := slicePick_size_le us.toArray none none (some k)
  simpa using this
/-- xs[::k] of a list -/
def tStepL (K : PySem.W.Frag) (k : Int) (te : TE) : TE := fun σ H Q => te σ H fun x H1 => ∃ a xs, x = .ref a ∧ SqL K H1 a xs ∧ ∀ p, H1 p = none → Q (.ref p) (upd H1 p (.lst (everyG k xs)))
theorem pe_stepL {e : Expr} {te : TE} {k : Int} {c : Nat} {p2 p3 pos : Pos} (hk : 0 < k) (he : PE X e te) : PE X (.Subscript e (.Slice none none (some (.Constant (.int k) c p2)) p3) pos) (tStepL X.K k te) := by
  refine ⟨fun pins s σ H Q I h => ?_⟩
  refine Subscript_ (thn (he.run pins s σ H _ I h) fun v s1 ⟨x, H1, I1, r1, q1⟩ => ?_)
  obtain ⟨a, xs, ex, hx, q⟩ := q1
  subst ex
  cases r1
  have hst : PO X (some (.Constant (.int k) c p2)) (tPart (tC (.int k))) := po_some pe_int
  refine wpAny_Slice (thn (po_none.run pins s1 σ H1 (fun o H2 => o = none ∧ H2 = H1) I1 ⟨rfl, rfl⟩) fun vl s2 ⟨l, H2, I2, pl, el, e2⟩ => ?_)
  subst el e2
  refine thn (po_none.run pins s2 σ H2 (fun o H3 => o = none ∧ H3 = H2) I2 ⟨rfl, rfl⟩) fun vu s3 ⟨u, H3, I3, pu, eu, e3⟩ => ?_
  subst eu e3
  refine thn (hst.run pins s3 σ H3 (fun o H4 => o = some k ∧ H4 = H3) I3 ⟨k, rfl, rfl, rfl⟩) fun vs s4 ⟨o, H4, I4, ps, eo, e4⟩ => ?_
  subst eo e4
  have I5 : Inv X pins σ H4 { s4 with heap := s4.heap.push { cls := .type "slice", data := .fields #[vl, vu, vs] } } := I4.kept (t' := s4.toks) fun b ob q => Heap.get?_push_of_some _ q
  show wpAny (model X.prog X.w) X.A (subscriptTail e (.Slice none none (some (.Constant (.int k) c p2)) p3) (.ref a) (.ref s4.heap.objs.size)) (EP X pins σ Q) X.xe { s4 with heap := s4.heap.push { cls := .type "slice", data := .fields #[vl, vu, vs] } }
  obtain ⟨its, r, ht, hz⟩ := I5.list hx
  have hlen := r.length
  refine tail_any (ops := [.ref a, .ref s4.heap.objs.size]) ht.isList.typeIs (PySem.slot_list_getitem.lookup) ?_ (by with_unfolding_all rfl)
  refine wpAny_getItem_list_slice ht.isList (Heap.IsSliceOf.new _ vl vu vs) pl pu ps (fun z => by cases z; omega) ?_ (by rw [List.size_toArray]; omega)
  have rs : Vals (everyG k xs) (slicePick its.toArray none none (some k)).toList := by
    rw [pick_step]
    have := Vals.picks r (sliceRange (sliceBounds none none (some k) xs.length).1 (sliceBounds none none (some k) xs.length).2.1 (sliceBounds none none (some k) xs.length).2.2)
    unfold everyG
    rw [← hlen]
    exact this
  refine ⟨.ref _, _, I5.laid (t' := s4.toks) (o := .lst (everyG k xs)) (fun b ob q => Heap.get?_push_of_some _ q) (Nat.le_refl _) ?_, rfl, q _ (I5.hok.fresh (Nat.le_refl _))⟩
  refine ⟨?_, _, 0, rs, by rw [Array.toArray_toList]; exact Heap.get?_push_size _ rfl⟩
  rw [rs.length, pick_step]
  exact Nat.le_trans everyG_len (by omega)
variable {T : TC} {C : Oracle} {sc : Scope}
theorem snd_sls {a : Expr} {A : E} {k : Int} {c : Nat} {p2 p3 pos : Pos} (hk : 0 < k) (ha : SndX T C sc a A) : SndX T C sc (.Subscript a (.Slice none none (some (.Constant (.int k) c p2)) p3) pos) (.op (.sls k) [A]) := by
  have pv : ∀ X, GX T C sc X → PE X (.Subscript a (.Slice none none (some (.Constant (.int k) c p2)) p3) pos) (tE X.K C (.op (.sls k) [A])) := fun X G => by
    refine pe_weak (pe_stepL hk (ha.v X G)) fun σ H Q q => ?_
    obtain ⟨ρ, P, d, sr, ev, g⟩ := q
    simp only [evE, evEs, Option.bind_eq_some_iff] at ev
    obtain ⟨ds, ⟨x, e1, l1, el, e3⟩, e5⟩ := ev
    cases el
    cases e3
    refine ⟨ρ, P, x, sr, e1, fun v H1 x1 r1 _ _ => ?_⟩
    have gr := g.res (fun z => z) x1
    cases x with
    | lst xs =>
      have e5 : (if decide (0 < k) = true then some (D.lst (everyG k xs)) else none) = some d := e5
      obtain ⟨_, e6⟩ := ite_some' e5
      cases e6
      obtain ⟨b, vs, rfl, _, h1, s1⟩ := r1.lst_inv
      refine ⟨b, vs, rfl, SqL.of h1, fun p hp => ?_⟩
      have rp : Reps X.K H1 (PN P H) (everyG k vs) (everyG k xs) := by
        have := s1.picks (sliceRange (sliceBounds none none (some k) vs.length).1 (sliceBounds none none (some k) vs.length).2.1 (sliceBounds none none (some k) vs.length).2.2)
        unfold everyG
        rw [← s1.length]
        exact this
      exact gr.lst (rp.mono fun a z => pn_step (Ext.refl _) z) hp
    | _ => simp [oprD] at e5
  exact ⟨pv, fun X G => pt_plain (pv X G) fun _ => rfl⟩

/-! sorted(d.items()) -/
/-- tuples that lie there are tracked, by their very objects -/
theorem takeF {pins : List (Addr × Obj)} {σ : L2.St} {H0 : Hp} {s : Shared} {h' : Heap} {tk : Nat} (I0 : Inv X pins σ H0 s) : ∀ (L : List Addr) (vss : List (List V)) (H1 : Hp), L.length = vss.length → Inv X pins σ H1 { s with heap := h', toks := tk } → L.Nodup →
    (∀ (j : Nat) a vs, L[j]? = some a → vss[j]? = some vs → s.heap.objs.size ≤ a ∧ H1 a = none ∧ ∃ us : List Value, Vals vs us ∧ vs.length ≤ sizeLine ∧ h'.get? a = some { cls := .type "tuple", data := .seq us.toArray }) →
    ∃ H2, Inv X pins σ H2 { s with heap := h', toks := tk } ∧ Ext H1 H2 ∧ ∀ (j : Nat) a vs, L[j]? = some a → vss[j]? = some vs → ∃ o, TupO o ∧ H2 a = some (.frz o (.tup vs))
  | [], _, H1, _, I1, _, _ => ⟨H1, I1, Ext.refl _, fun j a vs e => by simp at e⟩
  | _ :: _, [], _, h, _, _, _ => by cases h
  | a :: L, vs :: vss, H1, hl, I1, hn, h => by
    obtain ⟨hb, hnone, us, rv, hz, hg⟩ := h 0 a vs rfl rfl
    have hn' := List.nodup_cons.mp hn
    have I2 : Inv X pins σ (upd H1 a (.frz { cls := .type "tuple", data := .seq us.toArray } (.tup vs))) { s with heap := h', toks := tk } := I1.take (h' := h') (t' := tk) (fun b ob _ e => e) (I0.fpOk hb hnone) ⟨hg, hz, us, rv, ⟨_, hg, rfl, 0, rfl⟩⟩
    obtain ⟨H2, I3, g, q⟩ := takeF I0 L vss _ (by simpa using hl) I2 hn'.2 fun j c ws h1 h2 => by
      obtain ⟨c1, c2, c3⟩ := h (j + 1) c ws (by simpa using h1) (by simpa using h2)
      exact ⟨c1, by rw [upd_ne (fun z : c = a => hn'.1 (by rw [← z]; exact List.mem_of_getElem? h1))]; exact c2, c3⟩
    refine ⟨H2, I3, (Ext.new hnone).trans g, fun j c ws h1 h2 => ?_⟩
    cases j with
    | zero =>
      simp only [List.getElem?_cons_zero, Option.some.injEq] at h1 h2
      subst h1 h2
      exact ⟨_, ⟨rfl, rfl⟩, g.at_ _ _ upd_same (fun _ z => by cases z)⟩
    | succ j => exact q j c ws (by simpa using h1) (by simpa using h2)
theorem rep_key {K : PySem.W.Frag} {H : Hp} {P : Addr → Prop} (k : Key) : Rep K H P (kV k) (keyD k) := by
  cases k with
  | inl i => exact .int i
  | inr x => exact .str x
theorem reps_pairs {K : PySem.W.Frag} {H : Hp} {P : Addr → Prop} : ∀ (L : List Addr) (kvs : List (Key × V)) {ds : List D}, L.length = kvs.length → Reps K H P (kvs.map fun p => p.2) ds → (∀ (j : Nat) a (p : Key × V), L[j]? = some a → kvs[j]? = some p → ∃ o, TupO o ∧ H a = some (.frz o (.tup [kV p.1, p.2]))) →
    Reps K H P (L.map V.ref) (pairsD (kvs.map fun p => keyD p.1) ds)
  | [], [], _, _, .nil, _ => .nil
  | [], _ :: _, _, h, _, _ => by cases h
  | _ :: _, [], _, h, _, _ => by cases h
  | a :: L, p :: kvs, d :: ds, h, .cons r t, f => by
    obtain ⟨o, ho, ha⟩ := f 0 a p rfl rfl
    refine .cons (.tup (SqN.of ho ha) (.cons (rep_key p.1) (.cons r .nil))) ?_
    exact reps_pairs L kvs (by simpa using h) t fun j b q h1 h2 => f (j + 1) b q (by simpa using h1) (by simpa using h2)
theorem imms_pairs : ∀ (kvs : List (Key × V)) {ds : List D}, D.imms ds = true → D.imms (pairsD (kvs.map fun p => keyD p.1) ds) = true
  | [], _, _ => rfl
  | _ :: _, [], _ => rfl
  | p :: kvs, d :: ds, h => by
    simp only [D.imms, Bool.and_eq_true] at h
    show D.imms (.tup [keyD p.1, d] :: pairsD (kvs.map fun p => keyD p.1) ds) = true
    simp only [D.imms, D.imm, Bool.and_eq_true, and_true]
    exact ⟨⟨by cases p.1 <;> rfl, h.1⟩, imms_pairs kvs h.2⟩
def rSit (K : PySem.W.Frag) : V → Hp → VK → Prop := fun x H Q => ∃ (d : Addr) (kvs : List (Key × V)) (P : Addr → Prop) (ds : List D), x = .ref d ∧ H d = some (.dK kvs) ∧ Reps K H P (kvs.map fun p => p.2) ds ∧ allAlike (pairsD (kvs.map fun p => keyD p.1) ds) = true ∧
  wfs (pairsD (kvs.map fun p => keyD p.1) ds) = true ∧ D.imms ds = true ∧ ∀ (H' : Hp) (p : Addr) (ws : List V), Ext H H' → H p = none → H' p = some (.lst ws) → Reps K H' Any ws ((pairsD (kvs.map fun p => keyD p.1) ds).mergeSort leD) → Q (.ref p) H'
theorem pe_sortItems {e : Expr} {te : TE} {p apos cpos pos : Pos} (hc : X.calm = true) (hu : X.A.units + 100 < cLine) (he : PE X e te) (hg : Gl X "sorted") (hm : X.mg "sorted" = none) (hbase : attributeBase e "items" X.env (eval e X.env) = eval e X.env) (hline : (apos.endLine == cpos.line) = true)
    (hs : starEach [.Call (.Attribute e "items" apos) [] [] cpos] X.env = (false, eval (.Call (.Attribute e "items" apos) [] [] cpos) X.env) :: starEach [] X.env := by rfl) :
    PE X (.Call (.Name "sorted" p) [.Call (.Attribute e "items" apos) [] [] cpos] [] pos) (fun σ H Q => te σ H fun x H1 => rSit X.K x H1 Q) := by
  refine ⟨fun pins s σ H Q I hq => ?_⟩
  refine Call_ (ld_blt I hg hm (show bootBuiltins "sorted" = some (.builtin "sorted") by decide +kernel) (PyProof.Rows.callWith_builtin1 ?_ hs rfl))
  rw [hs]
  show wpAny _ _ (spliced ((false, eval (.Call (.Attribute e "items" apos) [] [] cpos) X.env) :: backTo pos (starEach [] X.env))) _ _ s
  refine Calls.spliced_cons ?_
  refine wpAny_Call_method (T := "dict") (id := "dict.items") hbase rfl hline F.plainAttrs_dict F.slot_dict_items F.type_dict_items (thn (he.run pins s σ H _ I hq) fun u s1 ⟨x, H1, I1, rx, d, kvs, P, ds, ex, hd, rds, hal, hwf, himm, q⟩ => ?_)
  subst ex
  obtain rfl : u = Value.ref d := rx
  obtain ⟨hz, hs0, vs, kv, hdo⟩ := I1.hok d _ hd
  obtain ⟨ep, hat⟩ := hdo.dictAt
  have lk : kvs.length = vs.length := Paired.length kv
  have I2 : Inv X pins σ H1 { s1 with heap := s1.heap.push { cls := .type "dict_items", data := .fields #[.ref d] } } := I1.kept (t' := s1.toks) fun b ob q => Heap.get?_push_of_some _ q
  refine ⟨hdo.typeIs, hdo.mapOf.noDict, ?_⟩
  show wpAny _ _ (callWith cpos (.builtin "dict.items") [.ref d] [] []) _ X.xe s1
  refine method_meetsIn F.slot_dict_items F.entry_dict_items rfl (PySem.evalArgs_none ⟨rfl, hdo.typeIs, F.args_dict_items_1 _, _, meets_dict_items (mixKind X.prog X.w) d hs0, ⟨vs, hdo⟩, ?_⟩)
  refine Calls.spliced_nil ?_
  refine Calls.call_function_entry kind_sorted plain_sorted entry_sorted (args_sorted1 _) ?_
  unfold Builtin.«sorted»
  refine wpAny_bind (m := checkCount "sorted" 1 1 _) (wpAny_pure (wpAny_bind ?_))
  have hview : (s1.heap.push { cls := .type "dict_items", data := .fields #[.ref d] }).IsItemsView s1.heap.objs.size d := ⟨_, Heap.get?_push_size _ rfl, rfl, rfl⟩
  refine PySem.W.kdx_collect (A := X.A.in1) (knd := mixKind X.prog X.w) (kvs := vs) (ep := ep) (I1.ok.hd hc) hview (hat.push _) (by omega) fun h' tk as hk hl hG => ?_
  have I3 : Inv X pins σ H1 { s1 with heap := h', toks := tk } := I2.kept (t' := tk) hk
  have nd : as.Nodup := List.Pairwise.imp (fun {a b} (h : a < b) => Nat.ne_of_lt h) hG.rise
  obtain ⟨H2, I4, x2, tp⟩ := takeF (h' := h') (tk := tk) I2 as (kvs.map fun p => [kV p.1, p.2]) H1 (by rw [List.length_map]; omega) I3 nd fun j a ws h1 h2 => by
    obtain ⟨key, k, x, f1, f2, f3⟩ := hG.pairs j a h1
    rw [List.getElem?_map] at h2
    obtain ⟨pk, g0, rfl⟩ := Option.map_eq_some_iff.mp h2
    have hab := hG.above a (List.mem_of_getElem? h1)
    refine ⟨Nat.le_of_lt hab, I2.hok.fresh (Nat.le_of_lt hab), [key, x], ?_, by show 2 ≤ sizeLine; decide, f3⟩
    obtain ⟨qv, g1, g2, g3⟩ := LiI.paired_get kv g0
    rw [f1] at g1
    cases g1
    have rk : RelV (kV pk.1) key := by
      rw [g2]
      exact relV_key (show keyIs k key = true from f2)
    exact .cons rk (.cons g3 .nil)
  have rp : Reps X.K H2 Any (as.map V.ref) (pairsD (kvs.map fun p => keyD p.1) ds) := reps_pairs as kvs (by omega) (rds.any.ext x2) fun j a p h1 h2 => tp j a _ h1 (by rw [List.getElem?_map, h2]; rfl)
  have hpl : PyData.plainAll (D.pys (pairsD (kvs.map fun p => keyD p.1) ds)) = true ∧ PyData.depthAll (D.pys (pairsD (kvs.map fun p => keyD p.1) ds)) ≤ 60 := by simpa [wfs] using hwf
  have hes := each_rep I4 rp (LiI.vals_refs as) hpl.1
  have hen : as.length ≤ sizeLine := by omega
  refine wpAny_bind (wpAny_newList ?_ (by rw [List.length_map]; exact hen))
  have hoL : (h'.push (seqObj "list" (as.map Value.ref).toArray 0)).get? h'.objs.size = some (seqObj "list" (as.map Value.ref).toArray 0) := Heap.get?_push_size _ rfl
  have old2 : ∀ b u, h'.get? b = some u → (sortingHeap (h'.push (seqObj "list" (as.map Value.ref).toArray 0)) h'.objs.size (as.map Value.ref)).get? b = some u := fun b u e =>
    sortingHeap_old (Nat.ne_of_lt (Heap.lt_size e)) (Heap.get?_push_of_some _ e)
  generalize hps : pairsD (kvs.map fun p => keyD p.1) ds = ps at *
  have er2 : EachIs (fun (v : Value) (b : D) => ∃ as', Reads (sortingHeap (h'.push (seqObj "list" (as.map Value.ref).toArray 0)) h'.objs.size (as.map Value.ref)) v b.py as') (as.map Value.ref) ps := hes.mono fun _ _ z => by
    obtain ⟨_, as', r⟩ := z
    exact ⟨as', PyProof.Rows.Reads.keeps old2 r⟩
  have alk : AllAlike (ps.map D.py) := fun x hx y hy => by
    obtain ⟨a, ha, rfl⟩ := List.mem_map.mp hx
    obtain ⟨b, hb, rfl⟩ := List.mem_map.mp hy
    simp only [allAlike, List.all_eq_true] at hal
    exact hal a ha b hb
  have tups : ∀ d ∈ ps.map D.py, ∃ xs, d = .tuple xs := fun d hd => by
    obtain ⟨a, ha, rfl⟩ := List.mem_map.mp hd
    rw [← hps] at ha
    obtain ⟨k, v, rfl⟩ : ∃ k v, a = .tup [k, v] := by
      have go : ∀ (ks ds : List D) a, a ∈ pairsD ks ds → ∃ k v, a = .tup [k, v] := by
        intro ks
        induction ks with
        | nil => intro ds a h; simp [pairsD] at h
        | cons k ks ih =>
          intro ds a h
          cases ds with
          | nil => simp [pairsD] at h
          | cons v ds =>
            rcases List.mem_cons.mp (show a ∈ .tup [k, v] :: pairsD ks ds from h) with rfl | h
            · exact ⟨_, _, rfl⟩
            · exact ih ds a h
      exact go _ _ _ ha
    exact ⟨_, by rw [D.py]⟩
  have S := sortsAt_ok (pr := X.prog) (wd := X.w) (Ar := X.A.in1.in1) (st := { s1 with heap := sortingHeap (h'.push (seqObj "list" (as.map Value.ref).toArray 0)) h'.objs.size (as.map Value.ref), toks := tk }) (each_map (R := fun v d => ∃ as', Reads _ v d as') D.py er2) alk (srtOk_tups tups) fun d hd => by
    obtain ⟨a, ha, rfl⟩ := List.mem_map.mp hd
    have := depth_of_mem ha
    show X.A.units + 1 + 1 + _ < cLine
    omega
  show wpAny _ _ _ _ _ { s1 with heap := h'.push (seqObj "list" (as.map Value.ref).toArray 0), toks := tk }
  refine wpAny_bind (wpAny_holding (wpAny_call_entry slot_list_sort ⟨_, hoL, rfl⟩ entry_list_sort (list_sort_vals (s := { s1 with heap := h'.push (seqObj "list" (as.map Value.ref).toArray 0), toks := tk }) hoL S (by rw [List.length_map]; exact hen) ⟨_, rfl, wpAny_pure ⟨_, rfl, ?_⟩⟩) (args_list_sort _)))
  have eo := sortVals_data (h' := sortingHeap (h'.push (seqObj "list" (as.map Value.ref).toArray 0)) h'.objs.size (as.map Value.ref)) (enc := D.py) false (hes.mono fun _ _ z => z.1) er2 alk
  have hsort : (ps.mergeSort (dataLe false D.py)) = ps.mergeSort leD := rfl
  rw [hsort] at eo
  have back : ∀ {out : List Value} {zs : List D}, EachIs (fun (u : Value) (b : D) => ∃ z, RelV z u ∧ Rep X.K H2 Any z b) out zs → ∃ ws, Vals ws out ∧ Reps X.K H2 Any ws zs := by
    intro out zs e
    induction e with
    | nil => exact ⟨[], .nil, .nil⟩
    | cons h1 t ih =>
      obtain ⟨z, q1, q2⟩ := h1
      obtain ⟨ws, q3, q4⟩ := ih
      exact ⟨z :: ws, .cons q1 q3, .cons q2 q4⟩
  obtain ⟨ws, q3, q4⟩ := back eo
  obtain ⟨c, hat2⟩ := sortedHeap_at (vs := as.map Value.ref) (out := (sortVals (dataKind (sortingHeap (h'.push (seqObj "list" (as.map Value.ref).toArray 0)) h'.objs.size (as.map Value.ref)) (ps.map D.py)) false (as.map Value.ref) (as.map Value.ref)).toArray) hoL
  have hp0 : H2 h'.objs.size = none := I4.hok.fresh (Nat.le_refl _)
  have hwl : ws.length ≤ sizeLine := by
    have h1 := q4.length
    rw [List.length_mergeSort] at h1
    have h2 := rp.length
    rw [List.length_map] at h2
    omega
  refine ⟨.ref h'.objs.size, _, I4.laid (t' := tk) (o := .lst ws) (fun b o e => ?_) (Nat.le_refl _) ⟨hwl, _, c, q3, hat2⟩, rfl, ?_⟩
  · exact (sortedHeap_old (Nat.ne_of_lt (Heap.lt_size e)) (by rw [size_push']; exact Nat.lt_succ_of_lt (Heap.lt_size e))).trans (Heap.get?_push_of_some _ e)
  · exact q _ _ ws (x2.trans (Ext.new hp0)) (x2.none hp0) upd_same (q4.ext (Ext.new hp0))
theorem dic_parts {K : PySem.W.Frag} {H : Hp} {P : Addr → Prop} {v : V} {ks ds : List D} (r : Rep K H P v (.dic false ks ds)) : ∃ a kvs, v = .ref a ∧ P a ∧ H a = some (.dK kvs) ∧ ks = kvs.map (fun p => keyD p.1) ∧ Reps K H P (kvs.map fun p => p.2) ds := by
  cases r with
  | dic p h r =>
    obtain ⟨kvs, h1, h2, h3⟩ := h
    subst h3
    exact ⟨_, kvs, rfl, p, h1, h2.symm, r.mono fun _ z => z.1⟩
theorem siOf_some {x : Str} {args : List Expr} {q : Expr} (h : siOf x args = some q) : x = "sorted" ∧ ∃ y p apos cpos, args = [.Call (.Attribute (.Name y p) "items" apos) [] [] cpos] ∧ (apos.endLine == cpos.line) = true ∧ q = .Name y p := by
  unfold siOf at h
  obtain ⟨hx, h⟩ := ite_some' h
  split at h
  · obtain ⟨hc, h⟩ := ite_some' h
    simp only [Bool.and_eq_true, decide_eq_true_eq] at hc
    cases h
    obtain ⟨rfl, hl⟩ := hc
    exact ⟨of_decide_eq_true hx, _, _, _, _, rfl, hl, rfl⟩
  · cases h
theorem snd_sit {y : Str} {p p2 apos cpos pos : Pos} {O : E} (hg : glB sc "sorted" = true) (hl : (apos.endLine == cpos.line) = true) (ho : SndX T C sc (.Name y p2) O) :
    SndX T C sc (.Call (.Name "sorted" p) [.Call (.Attribute (.Name y p2) "items" apos) [] [] cpos] [] pos) (.op .sit [O]) := by
  have pv : ∀ X, GX T C sc X → PE X (.Call (.Name "sorted" p) [.Call (.Attribute (.Name y p2) "items" apos) [] [] cpos] [] pos) (tE X.K C (.op .sit [O])) := fun X G => by
    refine pe_weak (pe_sortItems G.calm G.hu (ho.v X G) (gl_of G hg).1 (G.bl _ (by decide)) rfl hl) fun σ H Q q => ?_
    obtain ⟨ρ, P, d, sr, ev, g⟩ := q
    simp only [evE, evEs, Option.bind_eq_some_iff] at ev
    obtain ⟨ds, ⟨x, e1, l1, el, e3⟩, e5⟩ := ev
    cases el
    cases e3
    refine ⟨ρ, P, x, sr, e1, fun v H1 x1 r1 _ _ => ?_⟩
    cases x with
    | dic t ks vs =>
      cases t with
      | true => simp [oprD] at e5
      | false =>
        have e5 : (if (allAlike (pairsD ks vs) && wfs (pairsD ks vs) && D.imms vs) = true then some (D.lst ((pairsD ks vs).mergeSort leD)) else none) = some d := e5
        obtain ⟨hc, e6⟩ := ite_some' e5
        cases e6
        simp only [Bool.and_eq_true] at hc
        obtain ⟨a, kvs, rfl, pa, ha, rfl, rs⟩ := dic_parts r1
        refine ⟨a, kvs, _, vs, rfl, ha, rs, hc.1.1, hc.1.2, hc.2, fun H' p ws x2 hp hpl rw => ?_⟩
        have him : D.imms ((pairsD (kvs.map fun p => keyD p.1) vs).mergeSort leD) = true := by
          have h0 := imms_pairs kvs hc.2
          have go : ∀ l : List D, (∀ x ∈ l, x.imm = true) → D.imms l = true := by
            intro l
            induction l with
            | nil => exact fun _ => rfl
            | cons x l ih =>
              intro h
              simp only [D.imms, Bool.and_eq_true]
              exact ⟨h x List.mem_cons_self, ih fun y hy => h y (List.mem_cons_of_mem _ hy)⟩
          exact go _ fun x hx => imm_of_mem h0 ((List.mergeSort_perm _ _).mem_iff.mp hx)
        have hpn : H p = none := x1.none hp
        exact g _ H' (x1.trans x2) (.lst (.inr hpn) hpl (rw.imm (stay_refl (P := Any)) him)) (fun _ => .lst hpn hpl (rw.imm (stay_refl (P := Any)) him)) (notvar rfl)
    | _ => simp [oprD] at e5
  exact ⟨pv, fun X G => pt_plain (pv X G) fun _ => rfl⟩
end
end Ev
set_option maxHeartbeats 4000000
namespace Ev
open PySem PySem.Spec PyProof.Rows L2
variable [Tabs]
section
variable {T : TC} {C : Oracle} {sc : Scope} {X : Cx}
def bfVal : BF → Value
  | .len => .builtin "len"
  | .abs => .builtin "abs"
  | .int => .type "int"
  | .min => .builtin "min"
  | .max => .builtin "max"
  | .sum => .builtin "sum"
  | .sorted => .builtin "sorted"
  | .tuple => .type "tuple"
  | .list => .type "list"
  | .all => .builtin "all"
  | .any => .builtin "any"
theorem cr_bf (hc : X.calm = true) (hu : X.A.units + 100 < cLine) (f : BF) : CallR X (bfVal f) (rF X.K f) := by
  cases f with
  | len => exact cr_lenD
  | abs => exact cr_absD
  | int => exact cr_intD
  | min => exact cr_minD hc hu
  | max => exact cr_maxD hc hu
  | sum => exact cr_sumD hc
  | sorted => exact cr_sortedD hc hu
  | tuple => exact cr_tupleD
  | list => exact cr_listD
  | all => exact cr_allD hc
  | any => exact cr_anyD hc
theorem mem_of_look {α : Type} {x : Str} {a : α} : ∀ {l : List (Str × α)}, l.lookup x = some a → (x, a) ∈ l
  | [], h => by cases h
  | (y, b) :: l, h => by
    simp only [List.lookup_cons] at h
    split at h
    · rename_i e
      cases h
      rw [eq_of_beq e]
      exact List.mem_cons_self
    · exact List.mem_cons_of_mem _ (mem_of_look h)
theorem bf_ok : ∀ p ∈ bfTab, bootBuiltins p.1 = some (bfVal p.2) ∧ p.1 ∈ bltNames := by
  simp only [bfTab, List.forall_mem_cons, List.not_mem_nil, false_implies, implies_true, and_true]
  decide +kernel
theorem ty_ok : ∀ p ∈ tyTab, bootBuiltins p.1 = some (.type p.2.nm) ∧ p.1 ∈ bltNames := by
  simp only [tyTab, List.forall_mem_cons, List.not_mem_nil, false_implies, implies_true, and_true]
  decide +kernel
theorem isin_ok : bootBuiltins "isinstance" = some (.builtin "isinstance") := by decide +kernel
theorem snd_bf {R : Expr → Option E} (hR : ∀ e E, R e = some E → SndX T C sc e E) {x : Str} {p pos : Pos} {args : List Expr} {Es : List E} {f : BF} (hg : glB sc x = true) (hf : bfTab.lookup x = some f) (hne : args.isEmpty = false) (h : mapO R args = some Es)
    (hs : args.any isStar = false) : SndX T C sc (.Call (.Name x p) args [] pos) (.bf f Es) := by
  obtain ⟨hv, hb⟩ := bf_ok _ (mem_of_look hf)
  have pv : ∀ X, GX T C sc X → PE X (.Call (.Name x p) args [] pos) (tE X.K C (.bf f Es)) := fun X G => by
    obtain ⟨gx, hd, hn⟩ := gl_of G hg
    cases args with
    | nil => cases hne
    | cons e es =>
      have pa := snd_args hR h hs X G
      have hst : isStar e = false ∧ es.any isStar = false := by simpa using hs
      have key : PE X (.Call (.Name x p) (e :: es) [] pos) (tCB (rF X.K f) (tAs X.K C Es)) := by
        have cr := cr_bf G.calm G.hu f (X := X)
        cases f with
        | int => exact pe_callTy cr gx (G.bl x hb) hv pa hn hd (star_cons hst.1) (star_any hst.2)
        | tuple => exact pe_callTy cr gx (G.bl x hb) hv pa hn hd (star_cons hst.1) (star_any hst.2)
        | list => exact pe_callTy cr gx (G.bl x hb) hv pa hn hd (star_cons hst.1) (star_any hst.2)
        | _ => exact pe_callB cr gx (G.bl x hb) hv pa hn hd (star_cons hst.1) (star_any hst.2)
      refine pe_weak key fun σ H Q q => ?_
      obtain ⟨ρ, P, d, sr, ev, g⟩ := q
      simp only [evE, Option.bind_eq_some_iff] at ev
      obtain ⟨ds, e1, e2⟩ := ev
      exact ⟨ρ, P, ds, sr, e1, fun vs H1 x1 r1 => ⟨_, ds, d, r1, e2, g.res (fun z => z) x1⟩⟩
  exact ⟨pv, fun X G => pt_plain (pv X G) fun _ => rfl⟩
theorem snd_isin {a : Expr} {A : E} {x t : Str} {p p2 pos : Pos} {ty : Ty} (hx : x = "isinstance") (hg : glB sc x = true) (hgt : glB sc t = true) (ht : tyTab.lookup t = some ty) (ha : SndX T C sc a A) (hs : isStar a = false) :
    SndX T C sc (.Call (.Name x p) [a, .Name t p2] [] pos) (.isin A ty) := by
  obtain ⟨hv, hb⟩ := ty_ok _ (mem_of_look ht)
  subst hx
  have pv : ∀ X, GX T C sc X → PE X (.Call (.Name "isinstance" p) [a, .Name t p2] [] pos) (tE X.K C (.isin A ty)) := fun X G => by
    obtain ⟨gx, hd, hn⟩ := gl_of G hg
    obtain ⟨gt, hdt, hnt⟩ := gl_of G hgt
    have pt : PE X (.Name t p2) (tC (.ty ty.nm)) := pe_bltn gt (G.bl t hb) hv rfl hnt hdt
    refine pe_weak (pe_callB (cr_isin ty) gx (G.bl _ (by decide)) isin_ok (pa_cons (ha.v X G) (pa_cons pt pa_nil) (star_cons hs)) hn hd (star_cons hs) rfl) fun σ H Q q => ?_
    obtain ⟨ρ, P, d, sr, ev, g⟩ := q
    simp only [evE, Option.bind_eq_some_iff] at ev
    obtain ⟨y, e1, k, e2, e3⟩ := ev
    cases e3
    exact ⟨ρ, P, y, sr, e1, fun v H1 x1 r1 _ _ => ⟨_, v, y, k, rfl, r1, e2, (g.res (fun z => z) x1).bl⟩⟩
  exact ⟨pv, fun X G => pt_plain (pv X G) fun _ => rfl⟩
theorem snd_call {R : Expr → Option E} (hR : ∀ e E, R e = some E → SndX T C sc e E) {x : Str} {p pos : Pos} {args : List Expr} {Es : List E} {i : Nat} (hg : glB sc x = true) (hi : ixOf T.fns x = some i) (h : mapO R args = some Es)
    (hs : args.any isStar = false) : SndX T C sc (.Call (.Name x p) args [] pos) (.call i Es) := by
  have pv : ∀ X, GX T C sc X → PE X (.Call (.Name x p) args [] pos) (tE X.K C (.call i Es)) := fun X G => by
    obtain ⟨gx, hd, hn⟩ := gl_of G hg
    obtain ⟨k, a, fd, ps, hm, hk, hr, hb, F⟩ := G.fn i x (ixOf_some hi)
    have pa := snd_args hR h hs X G
    have key : PE X (.Call (.Name x p) args [] pos) (tCall (spD X.K C i) [] E0 (tAs X.K C Es)) := by
      have hr := hr.mono (Nat.le_add_right k T.g)
      cases args with
      | nil =>
        cases h
        refine pe_weak (pe_call0 (E := E0) F hr gx hm hk hb .nil pass0 hd) fun σ H Q q => ?_
        obtain ⟨ρ, P, ds, sr, ev, g⟩ := q
        cases (show some [] = some ds from by simpa [evEs] using ev)
        exact g [] H (Ext.refl H) .nil
      | cons e es =>
        have hst : isStar e = false ∧ es.any isStar = false := by simpa using hs
        exact pe_call F hr gx hm hk hb .nil pass0 pa hd (star_cons hst.1) (star_any hst.2)
    refine pe_weak key fun σ H Q q => ?_
    obtain ⟨ρ, P, d, sr, ev, g⟩ := q
    simp only [evE, Option.bind_eq_some_iff] at ev
    obtain ⟨ds, e1, e2⟩ := ev
    exact ⟨ρ, P, ds, sr, e1, fun vs H1 x1 r1 => ⟨ds, d, by rw [List.append_nil]; exact r1.any, x1.tk sr.tk, e2, fun v H' x2 r2 =>
      g v H' (x1.trans x2) (r2.mono fun a z => .inr (x1.none z)) (fun _ => r2.mono fun a z => x1.none z) (notvar rfl)⟩⟩
  exact ⟨pv, fun X G => pt_plain (pv X G) fun _ => rfl⟩

/-! ### what is walked -/
/-- J gives the items ds, as long as Gd holds -/
structure Yld (b : Bool) (K : PySem.W.Frag) (P : Addr → Prop) (J : L2.It) (ds : List D) (Gd : Hp → Prop) : Prop where
  go : ∀ i H, Gd H → i < ds.length → J.go i H
  stop : ∀ i H, Gd H → ds.length ≤ i → J.stop i H
  yld : ∀ i H x H', Gd H → i < ds.length → J.yld i H x H' → Ext H H' ∧ ∃ d, ds[i]? = some d ∧ RepT b K H' (PN P H) x d
/-- the sources still stand -/
def Src (K : PySem.W.Frag) (P : Addr → Prop) (src : List (V × D)) : Hp → Prop := fun H => ∀ p ∈ src, Rep K H P p.1 p.2
/-- the values that are walked -/
def It.parts : It → List E
  | .seq e => [e]
  | .rng _ => []
  | .enm e => [e]
  | .zip a b => [a, b]
  | .rv e => [e]
  | .rng3 _ _ _ => []
def tI (K : PySem.W.Frag) (C : Oracle) (b : Bool) (it : It) : TI := fun σ H R => ∃ ρ P ds, SR K H P σ ρ ∧ evI C ρ it = some ds ∧ ∀ J H' src, Ext H H' → Src K (PN P H) src H' → (∀ P', Yld b K P' J ds (Src K P' src)) → ds.length ≤ sizeLine →
  (∀ p ∈ src, ∃ e ∈ it.parts, evE C ρ e = some p.2 ∧ (fr e p.2 = true → Rep K H' (New H) p.1 p.2) ∧ ∀ i, e = .var i → σ[i]? = some (some p.1)) → R J H'
theorem rep_list_fun {K : PySem.W.Frag} {H : Hp} {P : Addr → Prop} {a : Addr} {xs : List V} {ds : List D} (r : Rep K H P (.ref a) (.lst ds)) : ∃ vs, H a = some (.lst vs) ∧ Reps K H P vs ds := by
  obtain ⟨b, vs, e, _, h, s⟩ := r.lst_inv
  cases e
  exact ⟨vs, h, s⟩
theorem yld_list {b : Bool} {K : PySem.W.Frag} {P : Addr → Prop} {a : Addr} {ds : List D} : Yld b K P (Itl K a) ds (Src K P [(.ref a, .lst ds)]) := by
  have inv : ∀ H, Src K P [(.ref a, .lst ds)] H → ∃ vs, H a = some (.lst vs) ∧ Reps K H P vs ds := fun H g => rep_list_fun (xs := []) (g _ List.mem_cons_self)
  refine ⟨fun i H g hi => ?_, fun i H g hi => ?_, fun i H x H' g hi y => ?_⟩
  · obtain ⟨vs, h, r⟩ := inv H g
    have hl := r.length
    exact ⟨vs, vs[i], SqL.of h, by simp [show i < vs.length by omega]⟩
  · obtain ⟨vs, h, r⟩ := inv H g
    have hl := r.length
    exact ⟨vs, SqL.of h, by omega⟩
  · obtain ⟨vs, h, r⟩ := inv H g
    obtain ⟨e, y⟩ := y
    subst e
    have hx := y vs (SqL.of h)
    obtain ⟨d, hd, rd⟩ := r.getV hx
    exact ⟨Ext.refl _, d, hd, .inl (rd.mono fun _ z => .inl z)⟩
theorem yld_tup {b : Bool} {K : PySem.W.Frag} {P : Addr → Prop} {a : Addr} {ds : List D} {vs0 : List V} : Yld b K P (Itt K a) ds (Src K P [(.ref a, .tup ds)]) := by
  have inv : ∀ H, Src K P [(.ref a, .tup ds)] H → ∃ vs, SqT K H a vs ∧ Reps K H P vs ds := fun H g => by
    obtain ⟨b, vs, e, h, s⟩ := (g _ List.mem_cons_self).tup_inv
    cases e
    exact ⟨vs, h, s⟩
  refine ⟨fun i H g hi => ?_, fun i H g hi => ?_, fun i H x H' g hi y => ?_⟩
  · obtain ⟨vs, h, r⟩ := inv H g
    have hl := r.length
    exact ⟨vs, vs[i], h, by simp [show i < vs.length by omega]⟩
  · obtain ⟨vs, h, r⟩ := inv H g
    have hl := r.length
    exact ⟨vs, h, by omega⟩
  · obtain ⟨vs, h, r⟩ := inv H g
    obtain ⟨e, y⟩ := y
    subst e
    obtain ⟨d, hd, rd⟩ := r.getV (y vs h)
    exact ⟨Ext.refl _, d, hd, .inl (rd.mono fun _ z => .inl z)⟩
theorem yld_rng {b : Bool} {K : PySem.W.Frag} {P : Addr → Prop} {lo : Int} {n : Nat} : Yld b K P (Itr lo n) (intsFrom lo n) (Src K P []) := by
  have hl : (intsFrom lo n).length = n := by simp [intsFrom]
  refine ⟨fun i H _ hi => by rw [hl] at hi; exact hi, fun i H _ hi => by rw [hl] at hi; exact hi, fun i H x H' _ hi y => ?_⟩
  obtain ⟨e, rfl⟩ := y
  subst e
  rw [hl] at hi
  refine ⟨Ext.refl _, .int (lo + (i : Int)), ?_, .inl (.int _)⟩
  simp [intsFrom, hi]
structure SndI (T : TC) (C : Oracle) (sc : Scope) (tg e : Expr) (I : It) : Prop where
  run : ∀ X, GX T C sc X → PI X tg e (tI X.K C (tupTg tg) I)
  nofold : ∀ env x, foldedSetIterable e env x = pure x
theorem pi_weak {tg e : Expr} {t t' : TI} (h : PI X tg e t) (w : ∀ σ H R, t' σ H R → t σ H R) : PI X tg e t' := ⟨fun pins s σ H R I q => h.run pins s σ H R I (w _ _ _ q)⟩
theorem nofold_of {e : Expr} (h : isSet e = false) : ∀ env x, foldedSetIterable e env x = pure x := fun env x => by
  cases e <;> first | rfl | cases h
/-- how long a list or tuple is at most -/
def Sized (K : PySem.W.Frag) (v : V) (H : Hp) : Prop := ∀ a xs, v = .ref a → (SqL K H a xs ∨ SqT K H a xs) → xs.length ≤ sizeLine
theorem pe_sized {e : Expr} {t : TE} (h : PE X e t) : PE X e (fun σ H Q => t σ H fun v H' => Sized X.K v H' → Q v H') := by
  refine ⟨fun pins s σ H Q I q => thn (h.run pins s σ H _ I q) fun u s1 hq => ?_⟩
  obtain ⟨v, H', I', r, q'⟩ := hq
  refine ⟨v, H', I', r, q' fun a xs _ hx => ?_⟩
  rcases hx with hx | hx
  · obtain ⟨_, _, _, hz⟩ := I'.list hx
    exact hz
  · obtain ⟨_, _, _, hz⟩ := I'.tuple hx
    exact hz
theorem snd_seq {tg e : Expr} {A : E} (h0 : isSet e = false) (h : SndX T C sc e A) : SndI T C sc tg e (.seq A) := by
  refine ⟨fun X G => ⟨fun pins s σ H R I q => ?_⟩, nofold_of h0⟩
  obtain ⟨ρ, P, ds, sr, ev, g⟩ := q
  simp only [evI, Option.bind_eq_some_iff] at ev
  obtain ⟨x, e1, e2⟩ := ev
  rcases itemsD_inv e2 with rfl | rfl
  · refine (pi_list (tg := tg) (pe_sized (h.v X G))).run pins s σ H R I ⟨ρ, P, _, sr, e1, fun v H1 x1 r1 f1 w1 hsz => ?_⟩
    obtain ⟨a, vs, rfl, _, ha, r⟩ := r1.lst_inv
    exact ⟨a, rfl, ⟨vs, SqL.of ha⟩, g _ H1 [(.ref a, .lst ds)] x1 (fun p hp => by cases List.mem_singleton.mp hp; exact r1) (fun P' => yld_list) (by rw [← r.length]; exact hsz _ _ rfl (.inl (SqL.of ha))) fun p hp => by cases List.mem_singleton.mp hp; exact ⟨A, List.mem_cons_self, e1, f1, w1⟩⟩
  · refine (pi_tup (tg := tg) (pe_sized (h.v X G))).run pins s σ H R I ⟨ρ, P, _, sr, e1, fun v H1 x1 r1 f1 w1 hsz => ?_⟩
    obtain ⟨a, vs, rfl, ha, r⟩ := r1.tup_inv
    exact ⟨a, rfl, ⟨vs, ha⟩, g _ H1 [(.ref a, .tup ds)] x1 (fun p hp => by cases List.mem_singleton.mp hp; exact r1) (fun P' => yld_tup (vs0 := vs)) (by rw [← r.length]; exact hsz _ _ rfl (.inr ha)) fun p hp => by cases List.mem_singleton.mp hp; exact ⟨A, List.mem_cons_self, e1, f1, w1⟩⟩
end
end Ev
set_option maxHeartbeats 4000000
namespace Ev
open PySem PySem.Spec PyProof.Rows L2
variable [Tabs]
section
variable {T : TC} {C : Oracle} {sc : Scope} {X : Cx}
theorem mapO_length {α β : Type} {f : α → Option β} : ∀ {xs : List α} {ys : List β}, mapO f xs = some ys → xs.length = ys.length
  | [], ys, h => by cases h; rfl
  | x :: xs, ys, h => by
    simp only [mapO, Option.bind_eq_some_iff] at h
    obtain ⟨y, _, zs, h2, h3⟩ := h
    cases h3
    simp [mapO_length h2]
theorem evEs_length {C : Oracle} {ρ : EnvD} : ∀ {es : List E} {ds : List D}, evEs C ρ es = some ds → es.length = ds.length
  | [], ds, h => by simp [evEs] at h; subst h; rfl
  | e :: es, ds, h => by
    simp only [evEs, Option.bind_eq_some_iff] at h
    obtain ⟨y, _, zs, h2, h3⟩ := h
    cases h3
    simp [evEs_length h2]
theorem snd_rng {tg : Expr} {R : Expr → Option E} (hR : ∀ e E, R e = some E → SndX T C sc e E) {x : Str} {p pos : Pos} {args : List Expr} {Es : List E} (hx : x = "range") (hg : glB sc x = true) (h : mapO R args = some Es) (hs : args.any isStar = false)
    (hl : (args.length == 1 || args.length == 2) = true) : SndI T C sc tg (.Call (.Name x p) args [] pos) (.rng Es) := by
  subst hx
  refine ⟨fun X G => ⟨fun pins s σ H Rr I q => ?_⟩, nofold_of rfl⟩
  obtain ⟨gx, hd, hn⟩ := gl_of G hg
  have hm : X.mg "range" = none := G.bl _ (by decide)
  have pa := snd_args hR h hs X G
  obtain ⟨ρ, P, ds, sr, ev, g⟩ := q
  simp only [evI, Option.bind_eq_some_iff] at ev
  obtain ⟨as, e1, e2⟩ := ev
  have l1 := mapO_length h
  have l2 := evEs_length e1
  match args, hl, pa, hs, l1 with
  | [a], _, pa, hs, l1 =>
    have hst : isStar a = false := by simpa using hs
    refine (pi_range1 (tg := tg) gx hm pa (star_cons hst)).run pins s σ H Rr I ⟨ρ, P, as, sr, e1, fun vs H1 x1 r1 => ?_⟩
    match as, l2.symm.trans l1.symm, r1, e2 with
    | [y], _, r1, e2 =>
      obtain ⟨v, rfl, ry⟩ := r1.one
      cases y with
      | int n =>
        simp only [rangeD] at e2
        obtain ⟨hc, rfl⟩ := ite_some e2
        simp only [Bool.and_eq_true, decide_eq_true_eq] at hc
        obtain ⟨hc, hln⟩ := hc
        cases ry.int_inv
        exact ⟨n, rfl, hc.1, hc.2, g _ H1 [] x1 (fun p hp => by cases hp) (fun P' => yld_rng) (by simp only [intsFrom, List.length_map, List.length_range]; exact lineOk_iff.mp hln) (fun p hp => by cases hp)⟩
      | _ => cases e2
  | [a, b], _, pa, hs, l1 =>
    have hst : isStar a = false ∧ isStar b = false := by simpa using hs
    refine (pi_range2 (tg := tg) gx hm pa (by rw [star_cons hst.1, star_cons hst.2]; rfl) (star_cons hst.2)).run pins s σ H Rr I ⟨ρ, P, as, sr, e1, fun vs H1 x1 r1 => ?_⟩
    match as, l2.symm.trans l1.symm, r1, e2 with
    | [y, z], _, r1, e2 =>
      obtain ⟨v, u, rfl, ry, rz⟩ := r1.two
      cases y with
      | int n => cases z with
        | int m =>
          simp only [rangeD] at e2
          obtain ⟨hc, rfl⟩ := ite_some e2
          simp only [Bool.and_eq_true, decide_eq_true_eq] at hc
          obtain ⟨hc, hln⟩ := hc
          cases ry.int_inv
          cases rz.int_inv
          exact ⟨n, m, rfl, ⟨hc.1.1.1, hc.1.1.2, hc.1.2, hc.2⟩, g _ H1 [] x1 (fun p hp => by cases hp) (fun P' => yld_rng) (by simp only [intsFrom, List.length_map, List.length_range]; exact lineOk_iff.mp hln) (fun p hp => by cases hp)⟩
        | _ => cases e2
      | _ => cases e2
theorem gl_bl {X : Cx} (G : GX T C sc X) {x : Str} (hg : glB sc x = true) (hb : x ∈ bltNames) : Gl X x ∧ X.mg x = none := ⟨(gl_of G hg).1, G.bl _ hb⟩
/-- the items of a list or tuple, as their places stand -/
theorem enumD_get {ds : List D} {i : Nat} {d : D} (h : ds[i]? = some d) : (enumD ds)[i]? = some (.tup [.int (i : Int), d]) := by
  unfold enumD
  have hi := (List.getElem?_eq_some_iff.mp h).1
  rw [List.getElem?_zipWith, h, List.getElem?_range hi]
theorem enumD_length {ds : List D} : (enumD ds).length = ds.length := by simp [enumD]
theorem zipD_get {ds es : List D} {i : Nat} {d e : D} (h : ds[i]? = some d) (h2 : es[i]? = some e) : (zipD ds es)[i]? = some (.tup [d, e]) := by
  unfold zipD
  rw [List.getElem?_zipWith, h, h2]
theorem zipD_length {ds es : List D} : (zipD ds es).length = min ds.length es.length := by simp [zipD]
theorem rep_pair {K : PySem.W.Frag} {H : Hp} {P : Addr → Prop} {T : Addr} {x y : V} {d e : D} (hT : H T = none) (rx : Rep K H P x d) (ry : Rep K H P y e) : RepT true K (upd H T (.tup [x, y])) (PN P H) (.ref T) (.tup [d, e]) :=
  .inr ⟨rfl, T, [x, y], [d, e], rfl, rfl, SqT.of upd_same, .cons ((rx.ext (Ext.new hT)).mono fun _ z => .inl z) (.cons ((ry.ext (Ext.new hT)).mono fun _ z => .inl z) .nil)⟩
theorem enm_at {K : PySem.W.Frag} {P : Addr → Prop} {H H' : Hp} {T : Addr} {vs : List V} {ds : List D} {i : Nat} {x : V} (r : Reps K H P vs ds) (hT : H T = none) (hx : vs[i]? = some x) (hH : H' = upd H T (.tup [.int (i : Nat), x])) : Ext H H' ∧ ∃ d, (enumD ds)[i]? = some d ∧ RepT true K H' (PN P H) (.ref T) d := by
  subst hH
  obtain ⟨d, hd, rd⟩ := r.getV hx
  exact ⟨Ext.new hT, _, enumD_get hd, rep_pair hT (.int _) rd⟩
theorem yld_enm {K : PySem.W.Frag} {P : Addr → Prop} {a : Addr} {ds : List D} : Yld true K P (Ite K a) (enumD ds) (Src K P [(.ref a, .lst ds)]) := by
  have inv : ∀ H, Src K P [(.ref a, .lst ds)] H → ∃ vs, H a = some (.lst vs) ∧ Reps K H P vs ds := fun H g => rep_list_fun (xs := []) (g _ List.mem_cons_self)
  refine ⟨fun i H g hi => ?_, fun i H g hi => ?_, fun i H x H' g hi y => ?_⟩
  · obtain ⟨vs, h, r⟩ := inv H g
    have hl := r.length
    rw [enumD_length] at hi
    exact ⟨vs, vs[i], SqL.of h, by simp [show i < vs.length by omega]⟩
  · obtain ⟨vs, h, r⟩ := inv H g
    have hl := r.length
    rw [enumD_length] at hi
    exact ⟨vs, SqL.of h, by omega⟩
  · obtain ⟨vs, h, r⟩ := inv H g
    obtain ⟨T, z, rfl, hT, hH, y⟩ := y
    obtain ⟨xx, d, h1, h2⟩ := enm_at r hT (y vs (SqL.of h)) hH
    exact ⟨xx, d, h1, h2.mono fun a z => z.imp id fun z => z⟩
theorem yld_enmT {K : PySem.W.Frag} {P : Addr → Prop} {a : Addr} {ds : List D} : Yld true K P (IteT K a) (enumD ds) (Src K P [(.ref a, .tup ds)]) := by
  have inv : ∀ H, Src K P [(.ref a, .tup ds)] H → ∃ vs, SqT K H a vs ∧ Reps K H P vs ds := fun H g => by
    obtain ⟨b, vs, e, h, s⟩ := (g _ List.mem_cons_self).tup_inv
    cases e
    exact ⟨vs, h, s⟩
  refine ⟨fun i H g hi => ?_, fun i H g hi => ?_, fun i H x H' g hi y => ?_⟩
  · obtain ⟨vs, h, r⟩ := inv H g
    have hl := r.length
    rw [enumD_length] at hi
    exact ⟨vs, vs[i], h, by simp [show i < vs.length by omega]⟩
  · obtain ⟨vs, h, r⟩ := inv H g
    have hl := r.length
    rw [enumD_length] at hi
    exact ⟨vs, h, by omega⟩
  · obtain ⟨vs, h, r⟩ := inv H g
    obtain ⟨T, z, rfl, hT, hH, y⟩ := y
    obtain ⟨xx, d, h1, h2⟩ := enm_at r hT (y vs h) hH
    exact ⟨xx, d, h1, h2.mono fun a z => z.imp id fun z => z⟩
theorem zip_at {K : PySem.W.Frag} {P : Addr → Prop} {H H' : Hp} {T : Addr} {vs ws : List V} {ds es : List D} {i : Nat} {x y : V} (r : Reps K H P vs ds) (r2 : Reps K H P ws es) (hT : H T = none) (hx : vs[i]? = some x) (hy : ws[i]? = some y) (hH : H' = upd H T (.tup [x, y])) : Ext H H' ∧ ∃ d, (zipD ds es)[i]? = some d ∧ RepT true K H' (PN P H) (.ref T) d := by
  subst hH
  obtain ⟨d, hd, rd⟩ := r.getV hx
  obtain ⟨e, he, re⟩ := r2.getV hy
  exact ⟨Ext.new hT, _, zipD_get hd he, rep_pair hT rd re⟩
theorem yld_zip {K : PySem.W.Frag} {P : Addr → Prop} {a b : Addr} {ds es : List D} : Yld true K P (Itz K a b) (zipD ds es) (Src K P [(.ref a, .lst ds), (.ref b, .lst es)]) := by
  have inv : ∀ H, Src K P [(.ref a, .lst ds), (.ref b, .lst es)] H → (∃ vs, H a = some (.lst vs) ∧ Reps K H P vs ds) ∧ ∃ vs, H b = some (.lst vs) ∧ Reps K H P vs es := fun H g => ⟨rep_list_fun (xs := []) (g _ List.mem_cons_self), rep_list_fun (xs := []) (g _ (List.mem_cons_of_mem _ List.mem_cons_self))⟩
  refine ⟨fun i H g hi => ?_, fun i H g hi => ?_, fun i H x H' g hi y => ?_⟩
  · obtain ⟨⟨vs, h, r⟩, ws, h2, r2⟩ := inv H g
    have hl := r.length
    have hl2 := r2.length
    rw [zipD_length] at hi
    exact ⟨vs, ws, vs[i], ws[i], SqL.of h, SqL.of h2, by simp [show i < vs.length by omega], by simp [show i < ws.length by omega]⟩
  · obtain ⟨⟨vs, h, r⟩, ws, h2, r2⟩ := inv H g
    have hl := r.length
    have hl2 := r2.length
    rw [zipD_length] at hi
    exact ⟨vs, ws, SqL.of h, SqL.of h2, by omega⟩
  · obtain ⟨⟨vs, h, r⟩, ws, h2, r2⟩ := inv H g
    obtain ⟨T, z, u, rfl, hT, hH, y1, y2⟩ := y
    obtain ⟨xx, d, h1, h2⟩ := zip_at r r2 hT (y1 vs (SqL.of h)) (y2 ws (SqL.of h2)) hH
    exact ⟨xx, d, h1, h2.mono fun a z => z.imp id fun z => z⟩
theorem yld_zipT {K : PySem.W.Frag} {P : Addr → Prop} {a b : Addr} {ds es : List D} : Yld true K P (RZ.ItzT K a b) (zipD ds es) (Src K P [(.ref a, .tup ds), (.ref b, .tup es)]) := by
  have inv : ∀ H, Src K P [(.ref a, .tup ds), (.ref b, .tup es)] H → (∃ vs, SqT K H a vs ∧ Reps K H P vs ds) ∧ ∃ vs, SqT K H b vs ∧ Reps K H P vs es := fun H g => by
    obtain ⟨b1, vs, e, h, s⟩ := (g _ List.mem_cons_self).tup_inv
    obtain ⟨b2, ws, e2, h2, s2⟩ := (g _ (List.mem_cons_of_mem _ List.mem_cons_self)).tup_inv
    cases e
    cases e2
    exact ⟨⟨vs, h, s⟩, ws, h2, s2⟩
  refine ⟨fun i H g hi => ?_, fun i H g hi => ?_, fun i H x H' g hi y => ?_⟩
  · obtain ⟨⟨vs, h, r⟩, ws, h2, r2⟩ := inv H g
    have hl := r.length
    have hl2 := r2.length
    rw [zipD_length] at hi
    exact ⟨vs, ws, vs[i], ws[i], h, h2, by simp [show i < vs.length by omega], by simp [show i < ws.length by omega]⟩
  · obtain ⟨⟨vs, h, r⟩, ws, h2, r2⟩ := inv H g
    have hl := r.length
    have hl2 := r2.length
    rw [zipD_length] at hi
    exact ⟨vs, ws, h, h2, by omega⟩
  · obtain ⟨⟨vs, h, r⟩, ws, h2, r2⟩ := inv H g
    obtain ⟨T, z, u, rfl, hT, hH, y1, y2⟩ := y
    obtain ⟨xx, d, h1, h2⟩ := zip_at r r2 hT (y1 vs h) (y2 ws h2) hH
    exact ⟨xx, d, h1, h2.mono fun a z => z.imp id fun z => z⟩
theorem yld_zipTL {K : PySem.W.Frag} {P : Addr → Prop} {a b : Addr} {ds es : List D} {n1 n2 : Nat} (h1 : n1 = ds.length) (h2 : n2 = es.length) : Yld true K P (ItzTL K a b n1 n2) (zipD ds es) (Src K P [(.ref a, .tup ds), (.ref b, .lst es)]) := by
  subst h1 h2
  have inv : ∀ H, Src K P [(.ref a, .tup ds), (.ref b, .lst es)] H → (∃ vs, SqT K H a vs ∧ Reps K H P vs ds) ∧ ∃ vs, SqL K H b vs ∧ Reps K H P vs es := fun H g => by
    have g1 := g _ List.mem_cons_self
    have g2 := g _ (List.mem_cons_of_mem _ List.mem_cons_self)
    refine ⟨?_, ?_⟩
    · obtain ⟨c, vs, e, h, s⟩ := g1.tup_inv; cases e; exact ⟨vs, h, s⟩
    · obtain ⟨c, vs, e, _, h, s⟩ := g2.lst_inv; cases e; exact ⟨vs, SqL.of h, s⟩
  refine ⟨fun i H g hi => ?_, fun i H g hi => ?_, fun i H x H' g hi y => ?_⟩
  · obtain ⟨⟨vs, h, r⟩, ws, h2, r2⟩ := inv H g
    have hl := r.length
    have hl2 := r2.length
    rw [zipD_length] at hi
    refine ⟨vs, ws, vs[i]'(by omega), ws[i]'(by omega), h, h2, hl, hl2, ?_, ?_⟩ <;> simp
  · obtain ⟨⟨vs, h, r⟩, ws, h2, r2⟩ := inv H g
    have hl := r.length
    have hl2 := r2.length
    rw [zipD_length] at hi
    refine ⟨vs, ws, h, h2, hl, hl2, ?_⟩; omega
  · obtain ⟨⟨vs, h, r⟩, ws, h2, r2⟩ := inv H g
    obtain ⟨T, z, u, rfl, hT, hH, y1, y2⟩ := y
    obtain ⟨xx, d, h1, h2⟩ := zip_at r r2 hT (y1 vs h) (y2 ws h2) hH
    exact ⟨xx, d, h1, h2.mono fun _ z => z⟩
theorem yld_zipLT {K : PySem.W.Frag} {P : Addr → Prop} {a b : Addr} {ds es : List D} {n1 n2 : Nat} (h1 : n1 = ds.length) (h2 : n2 = es.length) : Yld true K P (ItzLT K a b n1 n2) (zipD ds es) (Src K P [(.ref a, .lst ds), (.ref b, .tup es)]) := by
  subst h1 h2
  have inv : ∀ H, Src K P [(.ref a, .lst ds), (.ref b, .tup es)] H → (∃ vs, SqL K H a vs ∧ Reps K H P vs ds) ∧ ∃ vs, SqT K H b vs ∧ Reps K H P vs es := fun H g => by
    have g1 := g _ List.mem_cons_self
    have g2 := g _ (List.mem_cons_of_mem _ List.mem_cons_self)
    refine ⟨?_, ?_⟩
    · obtain ⟨c, vs, e, _, h, s⟩ := g1.lst_inv; cases e; exact ⟨vs, SqL.of h, s⟩
    · obtain ⟨c, vs, e, h, s⟩ := g2.tup_inv; cases e; exact ⟨vs, h, s⟩
  refine ⟨fun i H g hi => ?_, fun i H g hi => ?_, fun i H x H' g hi y => ?_⟩
  · obtain ⟨⟨vs, h, r⟩, ws, h2, r2⟩ := inv H g
    have hl := r.length
    have hl2 := r2.length
    rw [zipD_length] at hi
    refine ⟨vs, ws, vs[i]'(by omega), ws[i]'(by omega), h, h2, hl, hl2, ?_, ?_⟩ <;> simp
  · obtain ⟨⟨vs, h, r⟩, ws, h2, r2⟩ := inv H g
    have hl := r.length
    have hl2 := r2.length
    rw [zipD_length] at hi
    refine ⟨vs, ws, h, h2, hl, hl2, ?_⟩; omega
  · obtain ⟨⟨vs, h, r⟩, ws, h2, r2⟩ := inv H g
    obtain ⟨T, z, u, rfl, hT, hH, y1, y2⟩ := y
    obtain ⟨xx, d, h1, h2⟩ := zip_at r r2 hT (y1 vs h) (y2 ws h2) hH
    exact ⟨xx, d, h1, h2.mono fun _ z => z⟩
theorem snd_enm {tg : Expr} {x : Str} {p pos : Pos} {a : Expr} {A : E} (hx : x = "enumerate") (hg : glB sc x = true) (hs : isStar a = false) (ht : tupTg tg = true) (h : SndX T C sc a A) : SndI T C sc tg (.Call (.Name x p) [a] [] pos) (.enm A) := by
  subst hx
  cases tg with
  | Tuple elts kk tpos =>
    refine ⟨fun X G => ⟨fun pins s σ H Rr I q => ?_⟩, nofold_of rfl⟩
    obtain ⟨gx, hm⟩ := gl_bl G hg (by decide)
    obtain ⟨ρ, P, ds, sr, ev, g⟩ := q
    simp only [evI, Option.bind_eq_some_iff] at ev
    obtain ⟨x, e1, xs, e2, e3⟩ := ev
    cases e3
    refine (pi_enumA (elts := elts) (kk := kk) (tpos := tpos) gx hm (pa_cons (pe_sized (h.v X G)) pa_nil (star_cons hs)) (star_cons hs)).run pins s σ H Rr I ⟨ρ, P, _, sr, e1, fun v H1 x1 r1 f1 w1 hsz => ?_⟩
    rcases itemsD_inv e2 with rfl | rfl
    · obtain ⟨b, vs, rfl, _, hb, r⟩ := r1.lst_inv
      exact ⟨b, vs, rfl, .inl ⟨SqL.of hb, g _ H1 [(.ref b, .lst xs)] x1 (fun p hp => by cases List.mem_singleton.mp hp; exact r1) (fun P' => ht ▸ yld_enm) (by rw [enumD_length, ← r.length]; exact hsz _ _ rfl (.inl (SqL.of hb))) fun p hp => by cases List.mem_singleton.mp hp; exact ⟨A, List.mem_cons_self, e1, f1, w1⟩⟩⟩
    · obtain ⟨b, vs, rfl, hb, r⟩ := r1.tup_inv
      exact ⟨b, vs, rfl, .inr ⟨hb, g _ H1 [(.ref b, .tup xs)] x1 (fun p hp => by cases List.mem_singleton.mp hp; exact r1) (fun P' => ht ▸ yld_enmT) (by rw [enumD_length, ← r.length]; exact hsz _ _ rfl (.inr hb)) fun p hp => by cases List.mem_singleton.mp hp; exact ⟨A, List.mem_cons_self, e1, f1, w1⟩⟩⟩
  | _ => cases ht
theorem pairD_inv {x y : D} {zs : List D} (h : pairD x y = some zs) : ∃ xs ys, zs = zipD xs ys ∧ ((x = .lst xs ∧ y = .lst ys) ∨ (x = .tup xs ∧ y = .tup ys) ∨ (x = .tup xs ∧ y = .lst ys) ∨ (x = .lst xs ∧ y = .tup ys)) := by
  unfold pairD at h
  split at h
  · cases h; exact ⟨_, _, rfl, .inl ⟨rfl, rfl⟩⟩
  · cases h; exact ⟨_, _, rfl, .inr (.inl ⟨rfl, rfl⟩)⟩
  · cases h; exact ⟨_, _, rfl, .inr (.inr (.inl ⟨rfl, rfl⟩))⟩
  · cases h; exact ⟨_, _, rfl, .inr (.inr (.inr ⟨rfl, rfl⟩))⟩
  · cases h
theorem snd_zip {tg : Expr} {x : Str} {p pos : Pos} {a b : Expr} {A B : E} (hx : x = "zip") (hg : glB sc x = true) (hs : isStar a = false) (hs2 : isStar b = false) (ht : tupTg tg = true) (h : SndX T C sc a A) (h2 : SndX T C sc b B) : SndI T C sc tg (.Call (.Name x p) [a, b] [] pos) (.zip A B) := by
  subst hx
  cases tg with
  | Tuple elts kk tpos =>
    refine ⟨fun X G => ⟨fun pins s σ H Rr I q => ?_⟩, nofold_of rfl⟩
    obtain ⟨gx, hm⟩ := gl_bl G hg (by decide)
    obtain ⟨ρ, P, ds, sr, ev, g⟩ := q
    simp only [evI, Option.bind_eq_some_iff] at ev
    obtain ⟨x, e1, y, e2, e3⟩ := ev
    have pa : PA X [a, b] _ := pa_cons (pe_sized (h.v X G)) (pa_cons (h2.v X G) pa_nil (star_cons hs2)) (star_cons hs)
    refine (pi_zip4 (elts := elts) (kk := kk) (tpos := tpos) gx hm pa (star_cons hs) (by rw [star_cons hs2]; rfl)).run pins s σ H Rr I ⟨ρ, P, _, sr, e1, fun v H1 x1 r1 f1 w1 hsz => ⟨ρ, P, _, sr.ext x1, e2, fun u H2 x2 r2 f2 w2 => ?_⟩⟩
    have r1' := (r1.ext x2)
    have src : ∀ p, p ∈ [(v, x), (u, y)] → ∃ e ∈ (It.zip A B).parts, evE C ρ e = some p.2 ∧ (fr e p.2 = true → Rep X.K H2 (New H) p.1 p.2) ∧ ∀ i, e = .var i → σ[i]? = some (some p.1) := fun p hp => by
      rcases List.mem_cons.mp hp with rfl | hp
      · exact ⟨A, List.mem_cons_self, e1, fun z => (f1 z).ext x2, w1⟩
      · cases List.mem_singleton.mp hp
        exact ⟨B, List.mem_cons_of_mem _ List.mem_cons_self, e2, fun z => (f2 z).mono fun a z => x1.none z, w2⟩
    have here : Src X.K (PN P H) [(v, x), (u, y)] H2 := fun p hp => by
      rcases List.mem_cons.mp hp with rfl | hp
      · exact r1'
      · cases List.mem_singleton.mp hp
        exact r2.mono fun a z => pn_step x1 z
    obtain ⟨xs, ys, rfl, hk⟩ := pairD_inv e3
    rcases hk with ⟨rfl, rfl⟩ | ⟨rfl, rfl⟩ | ⟨rfl, rfl⟩ | ⟨rfl, rfl⟩
    · obtain ⟨c, vs, rfl, _, hc, r⟩ := r1.lst_inv
      obtain ⟨d, ws, rfl, _, hd, r'⟩ := r2.lst_inv
      obtain ⟨c', vs', e0, _, hc', r0⟩ := r1'.lst_inv
      cases e0
      refine ⟨c, d, vs', ws, rfl, .inl ⟨SqL.of hc', SqL.of hd, g _ H2 [(.ref c, .lst xs), (.ref d, .lst ys)] (x1.trans x2) here (fun P' => ht ▸ yld_zip) ?_ src⟩⟩
      have := hsz _ _ rfl (.inl (SqL.of hc))
      rw [r.length] at this
      rw [zipD_length]; omega
    · obtain ⟨c, vs, rfl, hc, r⟩ := r1.tup_inv
      obtain ⟨d, ws, rfl, hd, r'⟩ := r2.tup_inv
      obtain ⟨c', vs', e0, hc', r0⟩ := r1'.tup_inv
      cases e0
      refine ⟨c, d, vs', ws, rfl, .inr (.inl ⟨hc', hd, g _ H2 [(.ref c, .tup xs), (.ref d, .tup ys)] (x1.trans x2) here (fun P' => ht ▸ yld_zipT) ?_ src⟩)⟩
      have := hsz _ _ rfl (.inr hc)
      rw [r.length] at this
      rw [zipD_length]; omega
    · obtain ⟨c, vs, rfl, hc, r⟩ := r1.tup_inv
      obtain ⟨d, ws, rfl, _, hd, r'⟩ := r2.lst_inv
      obtain ⟨c', vs', e0, hc', r0⟩ := r1'.tup_inv
      cases e0
      refine ⟨c, d, vs', ws, rfl, .inr (.inr (.inl ⟨hc', SqL.of hd, g _ H2 [(.ref c, .tup xs), (.ref d, .lst ys)] (x1.trans x2) here (fun P' => ht ▸ yld_zipTL r0.length r'.length) ?_ src⟩))⟩
      have := hsz _ _ rfl (.inr hc)
      rw [r.length] at this
      rw [zipD_length]; omega
    · obtain ⟨c, vs, rfl, _, hc, r⟩ := r1.lst_inv
      obtain ⟨d, ws, rfl, hd, r'⟩ := r2.tup_inv
      obtain ⟨c', vs', e0, _, hc', r0⟩ := r1'.lst_inv
      cases e0
      refine ⟨c, d, vs', ws, rfl, .inr (.inr (.inr ⟨SqL.of hc', hd, g _ H2 [(.ref c, .lst xs), (.ref d, .tup ys)] (x1.trans x2) here (fun P' => ht ▸ yld_zipLT r0.length r'.length) ?_ src⟩))⟩
      have := hsz _ _ rfl (.inl (SqL.of hc))
      rw [r.length] at this
      rw [zipD_length]; omega
  | _ => cases ht
/-- range(a, b, c) -/
theorem yld_rng3 {b0 : Bool} {K : PySem.W.Frag} {P : Addr → Prop} {lo c : Int} {n : Nat} : Yld b0 K P (Itc lo c n) ((List.range n).map fun (k : Nat) => D.int (lo + (k : Int) * c)) (Src K P []) := by
  have hl : ((List.range n).map fun (k : Nat) => D.int (lo + (k : Int) * c)).length = n := by simp
  refine ⟨fun i H _ hi => by rw [hl] at hi; exact hi, fun i H _ hi => by rw [hl] at hi; exact hi, fun i H x H' _ hi y => ?_⟩
  obtain ⟨e, rfl⟩ := y
  subst e
  rw [hl] at hi
  exact ⟨Ext.refl _, .int (lo + (i : Int) * c), by simp [hi], .inl (.int _)⟩
theorem snd_rng3 {tg a b c : Expr} {x : Str} {p pos : Pos} {A B E : E} (hx : x = "range") (hg : glB sc x = true) (sa : isStar a = false) (sb : isStar b = false) (sc' : isStar c = false) (ha : SndX T C sc a A) (hb : SndX T C sc b B) (hc : SndX T C sc c E) :
    SndI T C sc tg (.Call (.Name x p) [a, b, c] [] pos) (.rng3 A B E) := by
  subst hx
  refine ⟨fun X G => ?_, nofold_of rfl⟩
  obtain ⟨gx, hm⟩ := gl_bl G hg (by decide)
  refine pi_weak (pi_range3 gx hm (pa_cons (ha.v X G) (pa_cons (hb.v X G) (pa_cons (hc.v X G) pa_nil (star_cons sc')) (star_cons sb)) (star_cons sa)) (star_cons sa) (by rw [star_cons sb, star_cons sc']; rfl)) fun σ H R q => ?_
  obtain ⟨ρ, P, ds, sr, ev, g⟩ := q
  simp only [evI, Option.bind_eq_some_iff] at ev
  obtain ⟨x1, e1, x2, e2, x3, e3, e4⟩ := ev
  unfold range3D at e4
  split at e4
  · rename_i i j k
    obtain ⟨hc, rfl⟩ := ite_some e4
    simp only [Bool.and_eq_true, decide_eq_true_eq] at hc
    obtain ⟨⟨⟨⟨c1, c2⟩, c3⟩, c4⟩, c5⟩ := hc
    refine ⟨ρ, P, _, sr, e1, fun v H1 y1 r1 _ _ => ⟨ρ, P, _, sr.ext y1, e2, fun u H2 y2 r2 _ _ => ⟨ρ, P, _, sr.ext (y1.trans y2), e3, fun w H3 y3 r3 _ _ => ?_⟩⟩⟩
    refine ⟨i, j, k, (Builtin.Range.rangeSize i j k).toNat, by rw [r1.int_inv, r2.int_inv, r3.int_inv], ⟨c1, c2, c3, by omega⟩, ?_⟩
    refine g _ H3 [] (y1.trans (y2.trans y3)) (fun p hp => by cases hp) (fun P' => yld_rng3) ?_ (fun p hp => by cases hp)
    simp only [List.length_map, List.length_range]
    exact lineOk_iff.mp c4
  · cases e4
/-- reversed(x) -/
theorem yld_rvL {b0 : Bool} {K : PySem.W.Frag} {P : Addr → Prop} {a : Addr} {ds : List D} : Yld b0 K P (Itv K a ds.length) ds.reverse (Src K P [(.ref a, .lst ds)]) := by
  have inv : ∀ H, Src K P [(.ref a, .lst ds)] H → ∃ vs, H a = some (.lst vs) ∧ Reps K H P vs ds := fun H g => rep_list_fun (xs := []) (g _ List.mem_cons_self)
  refine ⟨fun i H g hi => ?_, fun i H g hi => ?_, fun i H x H' g hi y => ?_⟩
  · obtain ⟨vs, h, r⟩ := inv H g
    have hl := r.length
    rw [List.length_reverse] at hi
    exact ⟨hi, vs, vs[ds.length - 1 - i], SqL.of h, List.getElem?_eq_getElem _⟩
  · rw [List.length_reverse] at hi
    exact hi
  · obtain ⟨vs, h, r⟩ := inv H g
    obtain ⟨e, y⟩ := y
    subst e
    obtain ⟨d, hd, rd⟩ := r.getV (y vs (SqL.of h))
    rw [List.length_reverse] at hi
    exact ⟨Ext.refl _, d, by rw [List.getElem?_reverse hi]; exact hd, .inl (rd.mono fun _ z => .inl z)⟩
theorem yld_rvT {b0 : Bool} {K : PySem.W.Frag} {P : Addr → Prop} {a : Addr} {ds : List D} : Yld b0 K P (RT.ItvT K a ds.length) ds.reverse (Src K P [(.ref a, .tup ds)]) := by
  have inv : ∀ H, Src K P [(.ref a, .tup ds)] H → ∃ vs, SqT K H a vs ∧ Reps K H P vs ds := fun H g => by
    obtain ⟨b, vs, e, h, s⟩ := (g _ List.mem_cons_self).tup_inv
    cases e
    exact ⟨vs, h, s⟩
  refine ⟨fun i H g hi => ?_, fun i H g hi => ?_, fun i H x H' g hi y => ?_⟩
  · obtain ⟨vs, h, r⟩ := inv H g
    have hl := r.length
    rw [List.length_reverse] at hi
    exact ⟨hi, vs, vs[ds.length - 1 - i], h, List.getElem?_eq_getElem _⟩
  · rw [List.length_reverse] at hi
    exact hi
  · obtain ⟨vs, h, r⟩ := inv H g
    obtain ⟨e, y⟩ := y
    subst e
    obtain ⟨d, hd, rd⟩ := r.getV (y vs h)
    rw [List.length_reverse] at hi
    exact ⟨Ext.refl _, d, by rw [List.getElem?_reverse hi]; exact hd, .inl (rd.mono fun _ z => .inl z)⟩
theorem snd_rv {tg a : Expr} {x : Str} {p pos : Pos} {A : E} (hx : x = "reversed") (hg : glB sc x = true) (sa : isStar a = false) (ha : SndX T C sc a A) : SndI T C sc tg (.Call (.Name x p) [a] [] pos) (.rv A) := by
  subst hx
  refine ⟨fun X G => ?_, nofold_of rfl⟩
  obtain ⟨gx, hm⟩ := gl_bl G hg (by decide)
  refine ⟨fun pins s σ H R I q => (RT.pi_revA (tg := tg) (p := p) (pos := pos) gx hm (pe_sized (ha.v X G)) (star_cons sa)).run pins s σ H R I ?_⟩
  obtain ⟨ρ, P, ds, sr, ev, g⟩ := q
  simp only [evI, Option.bind_eq_some_iff] at ev
  obtain ⟨y, e1, xs, e2, e3⟩ := ev
  cases e3
  rcases itemsD_inv e2 with rfl | rfl
  · refine ⟨ρ, P, _, sr, e1, fun v H1 x1 r1 f1 w1 hsz => ?_⟩
    obtain ⟨b, vs, rfl, _, hb, r⟩ := r1.lst_inv
    refine ⟨b, vs, rfl, .inl ⟨SqL.of hb, ?_⟩⟩
    rw [r.length]
    exact g _ H1 [(.ref b, .lst xs)] x1 (fun p hp => by cases List.mem_singleton.mp hp; exact r1) (fun P' => yld_rvL) (by rw [List.length_reverse, ← r.length]; exact hsz _ _ rfl (.inl (SqL.of hb))) fun p hp => by cases List.mem_singleton.mp hp; exact ⟨A, List.mem_cons_self, e1, f1, w1⟩
  · refine ⟨ρ, P, _, sr, e1, fun v H1 x1 r1 f1 w1 hsz => ?_⟩
    obtain ⟨b, vs, rfl, hb, r⟩ := r1.tup_inv
    refine ⟨b, vs, rfl, .inr ⟨hb, ?_⟩⟩
    rw [r.length]
    exact g _ H1 [(.ref b, .tup xs)] x1 (fun p hp => by cases List.mem_singleton.mp hp; exact r1) (fun P' => yld_rvT) (by rw [List.length_reverse, ← r.length]; exact hsz _ _ rfl (.inr hb)) fun p hp => by cases List.mem_singleton.mp hp; exact ⟨A, List.mem_cons_self, e1, f1, w1⟩
theorem snd_It {tg : Expr} {R : Rc} (hR : ∀ e E, R sc e = some E → SndX T C sc e E) {e : Expr} {I : It} (h : trI T R sc tg e = some I) : SndI T C sc tg e I := by
  unfold trI at h
  split at h
  · rename_i x p args kws pos
    by_cases hx : x = "range"
    · rw [if_pos (decide_eq_true hx)] at h
      obtain ⟨hc, h'⟩ := ite_some' h
      clear h
      simp only [Bool.and_eq_true, Bool.not_eq_true', List.isEmpty_iff] at hc
      obtain ⟨⟨hg, hk⟩, hs⟩ := hc
      subst hk
      by_cases hl : (args.length == 1 || args.length == 2) = true
      · rw [if_pos hl] at h'
        obtain ⟨Es, h1, rfl⟩ := Option.map_eq_some_iff.mp h'
        exact snd_rng (R := R sc) hR hx hg h1 hs hl
      · rw [if_neg hl] at h'
        split at h'
        · rename_i a b c
          simp only [Option.bind_eq_some_iff] at h'
          obtain ⟨A, h1, B, h2, h3⟩ := h'
          obtain ⟨E, h5, rfl⟩ := Option.map_eq_some_iff.mp h3
          have hs3 : isStar a = false ∧ isStar b = false ∧ isStar c = false := by simpa using hs
          exact snd_rng3 hx hg hs3.1 hs3.2.1 hs3.2.2 (hR _ A h1) (hR _ B h2) (hR _ E h5)
        · cases h'
    · rw [if_neg (by simpa using hx)] at h
      by_cases hv : x = "reversed"
      · rw [if_pos (decide_eq_true hv)] at h
        obtain ⟨hc, h'⟩ := ite_some' h
        clear h
        simp only [Bool.and_eq_true, Bool.not_eq_true', List.isEmpty_iff] at hc
        obtain ⟨⟨hg, hk⟩, hs⟩ := hc
        subst hk
        match args, hs, h' with
        | [a], hs, h =>
          obtain ⟨A, h1, rfl⟩ := Option.map_eq_some_iff.mp h
          exact snd_rv hv hg (by simpa using hs) (hR _ A h1)
        | [], _, h => cases h
        | _ :: _ :: _, _, h => cases h
      rw [if_neg (by simpa using hv)] at h
      by_cases he : x = "enumerate"
      · rw [if_pos (decide_eq_true he)] at h
        obtain ⟨hc, h'⟩ := ite_some' h
        clear h
        simp only [Bool.and_eq_true, Bool.not_eq_true', List.isEmpty_iff] at hc
        obtain ⟨⟨⟨hg, hk⟩, hs⟩, ht⟩ := hc
        subst hk
        match args, hs, h' with
        | [a], hs, h =>
          obtain ⟨A, h1, rfl⟩ := Option.map_eq_some_iff.mp h
          exact snd_enm he hg (by simpa using hs) ht (hR _ A h1)
        | [], _, h => cases h
        | _ :: _ :: _, _, h => cases h
      · rw [if_neg (by simpa using he)] at h
        by_cases hz : x = "zip"
        · rw [if_pos (decide_eq_true hz)] at h
          obtain ⟨hc, h'⟩ := ite_some' h
          clear h
          simp only [Bool.and_eq_true, Bool.not_eq_true', List.isEmpty_iff] at hc
          obtain ⟨⟨⟨hg, hk⟩, hs⟩, ht⟩ := hc
          subst hk
          match args, hs, h' with
          | [a, b], hs, h =>
            simp only [Option.bind_eq_some_iff] at h
            obtain ⟨A, h1, h⟩ := h
            obtain ⟨B, h2, rfl⟩ := Option.map_eq_some_iff.mp h
            have hs2 : isStar a = false ∧ isStar b = false := by simpa using hs
            exact snd_zip hz hg hs2.1 hs2.2 ht (hR _ A h1) (hR _ B h2)
          | [], _, h => cases h
          | [_], _, h => cases h
          | _ :: _ :: _ :: _, _, h => cases h
        · rw [if_neg (by simpa using hz)] at h
          obtain ⟨A, h1, rfl⟩ := Option.map_eq_some_iff.mp h
          exact snd_seq rfl (hR _ A h1)
  · by_cases hs : isSet e = true
    · rw [if_pos hs] at h; cases h
    · rw [if_neg hs] at h
      obtain ⟨A, h1, rfl⟩ := Option.map_eq_some_iff.mp h
      exact snd_seq (by simpa using hs) (hR _ A h1)

/-! ### list(range(..)) -/
theorem reps_rg {K : PySem.W.Frag} {H : Hp} {P : Addr → Prop} (a b : Int) : Reps K H P (rgV a b) (intsFrom a (b - a).toNat) := by
  unfold rgV intsFrom
  induction List.range (b - a).toNat with
  | nil => exact .nil
  | cons x xs ih => exact .cons (.int _) ih
theorem rangeD_ok {ds xs : List D} (h : rangeD ds = some xs) : ∃ a b : Int, RgOk a b ∧ xs = intsFrom a (b - a).toNat ∧ ((ds = [.int b] ∧ a = 0) ∨ ds = [.int a, .int b]) := by
  unfold rangeD at h
  split at h
  · rename_i n
    obtain ⟨hc, rfl⟩ := ite_some h
    simp only [Bool.and_eq_true, decide_eq_true_eq] at hc
    have := lineOk_iff.mp hc.2
    rw [sizeLine_eq] at this
    exact ⟨0, n, ⟨by omega, by omega, hc.1.1, hc.1.2, by omega⟩, by rw [Int.sub_zero], .inl ⟨rfl, rfl⟩⟩
  · rename_i a b
    obtain ⟨hc, rfl⟩ := ite_some h
    simp only [Bool.and_eq_true, decide_eq_true_eq] at hc
    have := lineOk_iff.mp hc.2
    rw [sizeLine_eq] at this
    exact ⟨a, b, ⟨hc.1.1.1.1, hc.1.1.1.2, hc.1.1.2, hc.1.2, by omega⟩, rfl, .inr rfl⟩
  · cases h
theorem snd_rg {R : Expr → Option E} (hR : ∀ e E, R e = some E → SndX T C sc e E) {x : Str} {p pos : Pos} {args rs : List Expr} {Es : List E} (hg : glB sc x = true) (hrg : rgOf sc x args = some rs) (h : mapO R rs = some Es) : SndX T C sc (.Call (.Name x p) args [] pos) (.rg (decide (x = "tuple")) Es) := by
  have pv : ∀ X, GX T C sc X → PE X (.Call (.Name x p) args [] pos) (tE X.K C (.rg (decide (x = "tuple")) Es)) := fun X G => by
    unfold rgOf at hrg
    obtain ⟨hx, hrg⟩ := ite_some' hrg
    split at hrg
    · rename_i y p2 rs' pos2 _
      obtain ⟨hc, hrs⟩ := ite_some' hrg
      cases hrs
      simp only [Bool.and_eq_true, decide_eq_true_eq, Bool.not_eq_true'] at hc
      obtain ⟨⟨⟨rfl, hgy⟩, hs⟩, hl⟩ := hc
      have gx := (gl_of G hg).1
      have gy := gl_bl G hgy (by decide)
      -- the range
      have prg : PRg X (.Call (.Name "range" p2) rs [] pos2) (fun σ H Q => ∃ ρ P ds xs, SR X.K H P σ ρ ∧ evEs C ρ Es = some ds ∧ rangeD ds = some xs ∧ ∀ a b H', xs = intsFrom a (b - a).toNat → RgOk a b → Ext H H' → Q a b H') := by
        match rs, hl, hs, h with
        | [a], _, hs, h =>
          simp only [mapO, Option.bind_eq_some_iff] at h
          obtain ⟨A, h1, _, h2, h3⟩ := h
          cases h2
          cases h3
          have hst : isStar a = false := by simpa using hs
          intro pins s σ H Q I q
          refine prg_1 gy.1 gy.2 ((hR a A h1).v X G) (star_cons hst) pins s σ H Q I ?_
          obtain ⟨ρ, P, ds, xs, sr, e1, e2, g⟩ := q
          simp only [evEs, Option.bind_eq_some_iff, Option.bind_some] at e1
          obtain ⟨d, e1, e3⟩ := e1
          cases e3
          obtain ⟨i, j, ok, ex, hd⟩ := rangeD_ok e2
          rcases hd with ⟨hd, rfl⟩ | hd
          · cases hd
            exact ⟨ρ, P, _, sr, e1, fun v H1 x1 r1 _ _ => ⟨j, r1.int_inv, g 0 j H1 ex ok x1⟩⟩
          · cases hd
        | [a, b], _, hs, h =>
          simp only [mapO, Option.bind_eq_some_iff] at h
          obtain ⟨A, h1, _, ⟨B, h2, _, h4, h5⟩, h3⟩ := h
          cases h4
          cases h5
          cases h3
          have hst : isStar a = false ∧ isStar b = false := by simpa using hs
          intro pins s σ H Q I q
          refine prg_2 gy.1 gy.2 ((hR a A h1).v X G) ((hR b B h2).v X G) (star_cons hst.1) (star_cons hst.2) (by rw [star_cons hst.2]; rfl) pins s σ H Q I ?_
          obtain ⟨ρ, P, ds, xs, sr, e1, e2, g⟩ := q
          simp only [evEs, Option.bind_eq_some_iff, Option.bind_some] at e1
          obtain ⟨d, e1, _, ⟨d', e4, e5⟩, e3⟩ := e1
          cases e5
          cases e3
          obtain ⟨i, j, ok, ex, hd⟩ := rangeD_ok e2
          rcases hd with ⟨hd, rfl⟩ | hd
          · cases hd
          · cases hd
            exact ⟨ρ, P, _, sr, e1, fun v H1 x1 r1 _ _ => ⟨ρ, P, _, sr.ext x1, e4, fun u H2 x2 r2 _ _ => ⟨i, j, r1.int_inv, r2.int_inv, g i j H2 ex ok (x1.trans x2)⟩⟩⟩
      simp only [Bool.or_eq_true, decide_eq_true_eq] at hx
      rcases hx with rfl | rfl
      · refine pe_weak (pe_tupRgN G.calm gx (G.bl _ (by decide)) prg (by rfl)) fun σ H Q q => ?_
        obtain ⟨ρ, P, d, sr, ev, g⟩ := q
        simp only [evE, Option.bind_eq_some_iff] at ev
        obtain ⟨ds, e1, xs, e2, e3⟩ := ev
        cases e3
        refine ⟨ρ, P, ds, xs, sr, e1, e2, fun a b H1 ex ok x1 => ⟨ok, fun q o hq ho => ?_⟩⟩
        subst ex
        exact (g.res (fun z => z) x1).tup (reps_rg a b) hq ho
      · refine pe_weak (pe_listRg G.calm gx (G.bl _ (by decide)) prg (by rfl)) fun σ H Q q => ?_
        obtain ⟨ρ, P, d, sr, ev, g⟩ := q
        simp only [evE, Option.bind_eq_some_iff] at ev
        obtain ⟨ds, e1, xs, e2, e3⟩ := ev
        cases e3
        refine ⟨ρ, P, ds, xs, sr, e1, e2, fun a b H1 ex ok x1 => ⟨ok, fun q hq => ?_⟩⟩
        subst ex
        exact (g.res (fun z => z) x1).lst (reps_rg a b) hq
    · cases hrg
  exact ⟨pv, fun X G => pt_plain (pv X G) fun _ => rfl⟩
/-! ### sorted(set(..)), len(set(..)) -/
theorem insS_mem {k x : Int} : ∀ {l : List Int}, k ∈ insS x l ↔ k = x ∨ k ∈ l
  | [] => by simp [insS]
  | y :: ys => by
    unfold insS
    split
    · simp
    · split
      · rename_i h; subst h; simp
      · rw [List.mem_cons, insS_mem, List.mem_cons]
        constructor
        · rintro (h | h | h)
          · exact .inr (.inl h)
          · exact .inl h
          · exact .inr (.inr h)
        · rintro (h | h | h)
          · exact .inr (.inl h)
          · exact .inl h
          · exact .inr (.inr h)
theorem insS_pw {x : Int} : ∀ {l : List Int}, l.Pairwise (· < ·) → (insS x l).Pairwise (· < ·)
  | [], _ => by simp [insS]
  | y :: ys, h => by
    have h2 := List.pairwise_cons.mp h
    unfold insS
    split
    · rename_i hl
      refine List.pairwise_cons.mpr ⟨fun z hz => ?_, h⟩
      rcases List.mem_cons.mp hz with rfl | hz
      · exact hl
      · have := h2.1 z hz; omega
    · split
      · exact h
      · rename_i h3 h4
        refine List.pairwise_cons.mpr ⟨fun z hz => ?_, insS_pw h2.2⟩
        rcases insS_mem.mp hz with rfl | hz
        · omega
        · exact h2.1 z hz
theorem ded_mem {k : Int} : ∀ {l : List Int}, k ∈ ded l ↔ k ∈ l
  | [] => Iff.rfl
  | x :: xs => by rw [ded, insS_mem, ded_mem, List.mem_cons]
theorem ded_pw : ∀ l : List Int, (ded l).Pairwise (· < ·)
  | [] => List.Pairwise.nil
  | x :: xs => insS_pw (ded_pw xs)
theorem rising_one : ∀ {xs ys : List Int}, xs.Pairwise (· < ·) → ys.Pairwise (· < ·) → (∀ k, k ∈ xs ↔ k ∈ ys) → xs = ys
  | [], [], _, _, _ => rfl
  | [], y :: ys, _, _, h => by have := (h y).mpr List.mem_cons_self; cases this
  | x :: xs, [], _, _, h => by have := (h x).mp List.mem_cons_self; cases this
  | x :: xs, y :: ys, h1, h2, h => by
    have p1 := List.pairwise_cons.mp h1
    have p2 := List.pairwise_cons.mp h2
    have e : x = y := by
      have a := (h x).mp List.mem_cons_self
      have b := (h y).mpr List.mem_cons_self
      rcases List.mem_cons.mp a with a | a
      · exact a
      · rcases List.mem_cons.mp b with b | b
        · exact b.symm
        · have := p2.1 x a; have := p1.1 y b; omega
    subst e
    rw [rising_one p1.2 p2.2 fun k => ?_]
    constructor
    · intro hk
      rcases List.mem_cons.mp ((h k).mp (List.mem_cons_of_mem _ hk)) with rfl | q
      · have := p1.1 k hk; omega
      · exact q
    · intro hk
      rcases List.mem_cons.mp ((h k).mpr (List.mem_cons_of_mem _ hk)) with rfl | q
      · have := p2.1 k hk; omega
      · exact q
theorem nodup_of_pw {l : List Int} (h : l.Pairwise (· < ·)) : l.Nodup := h.imp fun q e => by subst e; omega
theorem reps_nums {K : PySem.W.Frag} {H : Hp} {P : Addr → Prop} : ∀ ns : List Int, Reps K H P (ns.map V.int) (ns.map D.int)
  | [] => .nil
  | n :: ns => .cons (.int n) (reps_nums ns)
theorem reps_nums_inv {K : PySem.W.Frag} {H : Hp} {P : Addr → Prop} : ∀ {ns : List Int} {vs : List V}, Reps K H P vs (ns.map D.int) → vs = ns.map V.int
  | [], _, .nil => rfl
  | n :: ns, _, .cons r t => by rw [r.int_inv, reps_nums_inv t]; rfl
theorem ofInts_of {K : PySem.W.Frag} {H : Hp} {P : Addr → Prop} {v : V} {d : D} {xs : List D} {ns : List Int} (r : Rep K H P v d) (e : itemsD d = some xs) (e2 : mapO intOf xs = some ns) (hn : ns.length < 4000 ∧ (ded ns).length < 64) : OfInts K H v ns := by
  have hl : ∀ l : List Int, l.Nodup → (∀ k, k ∈ l ↔ k ∈ ns) → l.length < 64 := fun l nd mem => by
    rw [((List.perm_ext_iff_of_nodup nd (nodup_of_pw (ded_pw ns))).mpr fun k => (mem k).trans ded_mem.symm).length_eq]; exact hn.2
  have hx := mapO_py_int e2
  subst hx
  rcases itemsD_inv e with rfl | rfl
  · obtain ⟨a, vs, rfl, _, ha, s⟩ := r.lst_inv
    have := reps_nums_inv s
    subst this
    exact ⟨a, rfl, .inl (SqL.of ha), hn.1, hl⟩
  · obtain ⟨a, vs, rfl, ha, s⟩ := r.tup_inv
    have := reps_nums_inv s
    subst this
    exact ⟨a, rfl, .inr ha, hn.1, hl⟩
theorem tupInts_inv {d : D} {k : List Int} (h : tupInts d = some k) : d = eTI k := by
  cases d with
  | tup ds => rw [mapO_py_int h]; rfl
  | _ => cases h
theorem mapO_tups : ∀ {xs : List D} {ks : List (List Int)}, mapO tupInts xs = some ks → xs = ks.map eTI
  | [], ks, e => by simp [mapO] at e; subst e; rfl
  | x :: xs, ks, e => by
    simp only [mapO, Option.bind_eq_some_iff] at e
    obtain ⟨k, h1, ms, h2, h3⟩ := e
    cases h3
    rw [mapO_tups h2, tupInts_inv h1]; rfl
/-- the objects of a row of tuples of ints -/
theorem reps_tups {K : PySem.W.Frag} {H : Hp} {P : Addr → Prop} : ∀ {ks : List (List Int)} {vs : List V}, Reps K H P vs (ks.map eTI) → ∃ as : List (Addr × List Int), vs = as.map (fun p => V.ref p.1) ∧ as.map (·.2) = ks ∧ ∀ p ∈ as, Rep K H P (.ref p.1) (eTI p.2)
  | [], _, .nil => ⟨[], rfl, rfl, fun p hp => by cases hp⟩
  | k :: ks, _, .cons r t => by
    obtain ⟨as, rfl, h2, h3⟩ := reps_tups t
    obtain ⟨b, ws, rfl, _, _⟩ := id r.tup_inv
    refine ⟨(b, k) :: as, rfl, by rw [List.map_cons, h2], fun p hp => ?_⟩
    rcases List.mem_cons.mp hp with rfl | hp
    · exact r
    · exact h3 p hp
theorem rep_sqT {K : PySem.W.Frag} {H : Hp} {P : Addr → Prop} {b : Addr} {k : List Int} (r : Rep K H P (.ref b) (eTI k)) : SqT K H b (k.map V.int) := by
  obtain ⟨c, vs, e, h, s⟩ := r.tup_inv
  cases e
  rw [reps_nums_inv s] at h
  exact h
theorem ofTups_of {K : PySem.W.Frag} {H : Hp} {P : Addr → Prop} {v : V} {d : D} {xs : List D} {ks : List (List Int)} (r : Rep K H P v d) (e : itemsD d = some xs) (e2 : mapO tupInts xs = some ks) (hn : ks.length < 64) : ∃ as : List (Addr × List Int), OfTups K H v as ∧ as.map (·.2) = ks ∧ ∀ p ∈ as, Rep K H P (.ref p.1) (eTI p.2) := by
  have hx := mapO_tups e2
  subst hx
  rcases itemsD_inv e with rfl | rfl
  · obtain ⟨a, vs, rfl, _, ha, s⟩ := r.lst_inv
    obtain ⟨as, rfl, h2, h3⟩ := reps_tups s
    exact ⟨as, ⟨a, rfl, .inl (SqL.of ha), fun p hp => rep_sqT (h3 p hp), by rw [← h2, List.length_map] at hn; exact hn⟩, h2, h3⟩
  · obtain ⟨a, vs, rfl, ha, s⟩ := r.tup_inv
    obtain ⟨as, rfl, h2, h3⟩ := reps_tups s
    exact ⟨as, ⟨a, rfl, .inr ha, fun p hp => rep_sqT (h3 p hp), by rw [← h2, List.length_map] at hn; exact hn⟩, h2, h3⟩
theorem reps_back {K : PySem.W.Frag} {H : Hp} {P : Addr → Prop} : ∀ {L : List (Addr × List Int)}, (∀ p ∈ L, Rep K H P (.ref p.1) (eTI p.2)) → Reps K H P (L.map fun p => V.ref p.1) ((L.map (·.2)).map eTI)
  | [], _ => .nil
  | p :: L, h => .cons (h p List.mem_cons_self) (reps_back fun q hq => h q (List.mem_cons_of_mem _ hq))
theorem snd_sset {x : Str} {p pos : Pos} {args : List Expr} {q : Bool × Expr} {A : E} (hg : glB sc x = true) (hs : ssOf sc x args = some q) (ha : SndX T C sc q.2 A) : SndX T C sc (.Call (.Name x p) args [] pos) (.sset q.1 A) := by
  have pv : ∀ X, GX T C sc X → PE X (.Call (.Name x p) args [] pos) (tE X.K C (.sset q.1 A)) := fun X G => by
    unfold ssOf at hs
    obtain ⟨hx, hs⟩ := ite_some' hs
    split at hs
    · rename_i y p2 a qp
      obtain ⟨hc, hs⟩ := ite_some' hs
      cases hs
      simp only [Bool.and_eq_true, decide_eq_true_eq, Bool.not_eq_true'] at hc
      obtain ⟨⟨rfl, hgy⟩, hst⟩ := hc
      have gx := (gl_of G hg).1
      have gy := gl_bl G hgy (by decide)
      simp only [Bool.or_eq_true, decide_eq_true_eq] at hx
      rcases hx with rfl | rfl
      · have hk : decide (("sorted" : Str) = "sorted") = true := by simp
        dsimp only
        rw [hk]
        refine pe_weak (pe_sortedSetX G.calm G.hu gx (G.bl _ (by decide)) gy.1 gy.2 (ha.v X G) (star_cons hst)) fun σ H Q w => ?_
        obtain ⟨ρ, P, d, sr, ev, g⟩ := w
        simp only [evE, ssetD, Option.bind_eq_some_iff] at ev
        obtain ⟨dx, e1, xs, e3, e5⟩ := ev
        split at e5
        · rename_i ns e4
          split at e5
          · rename_i hn
            cases e5
            refine ⟨ρ, P, dx, sr, e1, fun v H1 x1 r1 _ _ => .inl ⟨ns, ofInts_of r1 e3 e4 hn, fun p1 r c ms h0 hr pw mem => ?_⟩⟩
            have hm := rising_one pw (ded_pw ns) fun k => (mem k).trans ded_mem.symm
            subst hm
            exact (g.res (fun z => z) (x1.trans (Ext.new h0))).lst (reps_nums _) hr
          · cases e5
        · obtain ⟨ks, e4, e6⟩ := Option.bind_eq_some_iff.mp e5
          split at e6
          · rename_i hn
            cases e6
            refine ⟨ρ, P, dx, sr, e1, fun v H1 x1 r1 _ _ => ?_⟩
            obtain ⟨as, h1, h2, h3⟩ := ofTups_of r1 e3 e4 hn
            refine .inr ⟨as, h1, fun p1 r L L' h0 hr hL hsub => ?_⟩
            rw [h2] at hL
            have hrep : Reps X.K (upd H1 p1 (SetTO X.prog X.w p1 L)) (PN P H) (L'.map fun p => V.ref p.1) ((dedT ks).map eTI) := by
              rw [← hL]
              exact reps_back fun p hp => (h3 p (hsub p hp)).ext (Ext.new h0)
            exact (g.res (fun z => z) (x1.trans (Ext.new h0))).lst hrep hr
          · cases e6
      · have hk : decide (("len" : Str) = "sorted") = false := by decide
        dsimp only
        rw [hk]
        refine pe_weak (pe_lenSetX G.calm G.hu gx (G.bl _ (by decide)) gy.1 gy.2 (ha.v X G) (star_cons hst)) fun σ H Q w => ?_
        obtain ⟨ρ, P, d, sr, ev, g⟩ := w
        simp only [evE, ssetD, Option.bind_eq_some_iff] at ev
        obtain ⟨dx, e1, xs, e3, e5⟩ := ev
        split at e5
        · rename_i ns e4
          split at e5
          · rename_i hn
            cases e5
            refine ⟨ρ, P, dx, sr, e1, fun v H1 x1 r1 _ _ => .inl ⟨ns, ofInts_of r1 e3 e4 hn, fun p1 c ms h0 nd mem hl => ?_⟩⟩
            have hp := (List.perm_ext_iff_of_nodup nd (nodup_of_pw (ded_pw ns))).mpr fun k => (mem k).trans ded_mem.symm
            subst hl
            rw [hp.length_eq]
            exact (g.res (fun z => z) (x1.trans (Ext.new h0))).int
          · cases e5
        · obtain ⟨ks, e4, e6⟩ := Option.bind_eq_some_iff.mp e5
          split at e6
          · rename_i hn
            cases e6
            refine ⟨ρ, P, dx, sr, e1, fun v H1 x1 r1 _ _ => ?_⟩
            obtain ⟨as, h1, h2, h3⟩ := ofTups_of r1 e3 e4 hn
            refine .inr ⟨as, h1, fun p1 L h0 => ?_⟩
            rw [h2]
            exact (g.res (fun z => z) (x1.trans (Ext.new h0))).int
          · cases e6
    · cases hs
  exact ⟨pv, fun X G => pt_plain (pv X G) fun _ => rfl⟩
/-! ### targets -/
/-- the slots of a row of names, stored from the left -/
def setAll {α : Type} (ρ : List (Option α)) : List Nat → List α → List (Option α)
  | i :: is, d :: ds => setAll (ρ.set i (some d)) is ds
  | _, _ => ρ
omit [Tabs] in
theorem setAll_fold {α : Type} : ∀ (is : List Nat) (ds : List α) (ρ : List (Option α)), (is.zip ds).foldl (fun r p => r.set p.1 (some p.2)) ρ = setAll ρ is ds
  | [], ds, ρ => by simp [setAll]
  | i :: is, [], ρ => by simp [setAll]
  | i :: is, d :: ds, ρ => by simp only [List.zip_cons_cons, List.foldl_cons, setAll]; exact setAll_fold is ds _
def gNames : List Nat → TGs
  | [] => gNil
  | i :: is => gCons (gName i) (gNames is)
theorem gNames_run {Q : L2.St → Hp → Prop} : ∀ (is : List Nat) (vs : List V) (σ : L2.St) (H : Hp), is.length = vs.length → Q (setAll σ is vs) H → gNames is vs σ H Q
  | [], [], σ, H, _, q => ⟨rfl, q⟩
  | [], v :: vs, σ, H, hl, q => by cases hl
  | i :: is, [], σ, H, hl, q => by cases hl
  | i :: is, v :: vs, σ, H, hl, q => ⟨v, vs, rfl, gNames_run is vs _ H (by simpa using hl) q⟩
/-- what a target's names ask of the context -/
def OwnOk (X : Cx) (own : List (Str × Nat)) : Prop := ∀ p ∈ own, X.N[p.2]? = some p.1 ∧ Loc X.env.scope p.1 ∧ (X.fn p.1 = true ∨ X.env.scope.names.lookup p.1 = some .local)
theorem pgs_names (hN : X.N.Nodup) : ∀ {es : List Expr} {own : List (Str × Nat)}, mapO (trTg1 X.N) es = some own → OwnOk X own → PGs X es (gNames (own.map Prod.snd)) ∧ (assignEach es X.env).length = own.length ∧ (assignEach es X.env).findIdx? (·.1) = none
  | [], own, h, _ => by cases h; exact ⟨pgs_nil, rfl, rfl⟩
  | e :: es, own, h, o => by
    simp only [mapO, Option.bind_eq_some_iff] at h
    obtain ⟨p, h1, ps, h2, h3⟩ := h
    cases h3
    cases e with
    | Name x pos =>
      obtain ⟨i, hi, rfl⟩ := Option.map_eq_some_iff.mp h1
      obtain ⟨a1, a2, a3⟩ := o (x, i) List.mem_cons_self
      obtain ⟨b1, b2, b3⟩ := pgs_names hN h2 fun q hq => o q (List.mem_cons_of_mem _ hq)
      refine ⟨pgs_cons (pg_name hN a1 a2 a3) b1, ?_, ?_⟩
      · show (assignEach es X.env).length + 1 = _
        rw [b2]; rfl
      · show ((false, _) :: assignEach es X.env).findIdx? (·.1) = none
        simp [List.findIdx?_cons, b3]
    | _ => cases h1
theorem setAll_get {α : Type} {j : Nat} {x : Option α} : ∀ (is : List Nat) (ds : List α) (ρ : List (Option α)), (setAll ρ is ds)[j]? = some x → (∃ (k : Nat) (d : α), is[k]? = some j ∧ ds[k]? = some d ∧ x = some d) ∨ ρ[j]? = some x
  | [], ds, ρ, h => .inr (by simpa [setAll] using h)
  | i :: is, [], ρ, h => .inr (by simpa [setAll] using h)
  | i :: is, d :: ds, ρ, h => by
    rcases setAll_get is ds _ h with ⟨k, d', h1, h2, h3⟩ | h
    · exact .inl ⟨k + 1, d', by simpa using h1, by simpa using h2, h3⟩
    · by_cases e : i = j
      · subst e
        by_cases hl : i < ρ.length
        · rw [List.getElem?_set_self hl] at h
          cases h
          exact .inl ⟨0, d, rfl, rfl, rfl⟩
        · rw [List.getElem?_eq_none (by simpa using hl)] at h
          cases h
      · rw [List.getElem?_set_ne e] at h
        exact .inr h
theorem sr_set {K : PySem.W.Frag} {H : Hp} {P : Addr → Prop} {σ : L2.St} {ρ : EnvD} {i : Nat} {v : V} {d : D} (s : SR K H P σ ρ) (r : Rep K H P v d) (hl : i < σ.length) : SR K H P (σ.set i (some v)) (ρ.set i (some d)) := ⟨fun j d' h => by
  by_cases e : i = j
  · subst e
    have hρ : i < ρ.length := by
      by_cases z : i < ρ.length
      · exact z
      · rw [List.getElem?_eq_none (by simpa using z)] at h; cases h
    rw [List.getElem?_set_self hρ] at h
    cases h
    exact ⟨v, by rw [List.getElem?_set_self hl], r⟩
  · rw [List.getElem?_set_ne e] at h
    obtain ⟨u, h1, h2⟩ := s.get j d' h
    exact ⟨u, by rw [List.getElem?_set_ne e]; exact h1, h2⟩, s.tk⟩
theorem sr_setAll {K : PySem.W.Frag} {H : Hp} {P : Addr → Prop} : ∀ {is : List Nat} {vs : List V} {ds : List D} {σ : L2.St} {ρ : EnvD}, SR K H P σ ρ → Reps K H P vs ds → (∀ i ∈ is, i < σ.length) → SR K H P (setAll σ is vs) (setAll ρ is ds)
  | [], _, _, _, _, s, _, _ => by simpa [setAll] using s
  | _ :: _, _, _, _, _, s, .nil, _ => by simpa [setAll] using s
  | i :: is, _, _, σ, ρ, s, .cons r t, hl => by
    simp only [setAll]
    exact sr_setAll (sr_set s r (hl i List.mem_cons_self)) t fun j hj => by rw [List.length_set]; exact hl j (List.mem_cons_of_mem _ hj)
/-- a target's reading -/
def gTg (K : PySem.W.Frag) : Tg → TG
  | .nm i => gName i
  | .tup is => gTup K is.length (gNames is)
  | .pr i is => gTup K 2 (gCons (gName i) (gCons (gTup K is.length (gNames is)) gNil))
theorem trTg_tupE {N : List Str} {es : List Expr} {k : Nat} {pos : Pos} {t : Tg} {own : List (Str × Nat)} (h : trTg N (.Tuple es k pos) = some (t, own)) : (mapO (trTg1 N) es = some own ∧ t = .tup (own.map (·.2))) ∨
    ∃ x p fs k2 p2 i ps, es = [.Name x p, .Tuple fs k2 p2] ∧ ixOf N x = some i ∧ mapO (trTg1 N) fs = some ps ∧ t = .pr i (ps.map (·.2)) ∧ own = (x, i) :: ps := by
  simp only [trTg] at h
  split at h
  · rename_i x p fs k2 p2
    simp only [Option.bind_eq_some_iff] at h
    obtain ⟨i, h1, h2⟩ := h
    obtain ⟨ps, h3, e⟩ := Option.map_eq_some_iff.mp h2
    cases e
    exact .inr ⟨x, p, fs, k2, p2, i, ps, rfl, h1, h3, rfl, rfl⟩
  · obtain ⟨ps, h3, e⟩ := Option.map_eq_some_iff.mp h
    cases e
    exact .inl ⟨h3, rfl⟩
theorem pg_tg (hc : X.calm = true) (hN : X.N.Nodup) {tg : Expr} {t : Tg} {own : List (Str × Nat)} (h : trTg X.N tg = some (t, own)) (o : OwnOk X own) : PG X tg (gTg X.K t) := by
  cases tg with
  | Name x pos =>
    obtain ⟨i, hi, e⟩ := Option.map_eq_some_iff.mp h
    cases e
    obtain ⟨a1, a2, a3⟩ := o (x, i) List.mem_cons_self
    exact pg_name hN a1 a2 a3
  | Tuple es k pos =>
    rcases trTg_tupE h with ⟨hi, rfl⟩ | ⟨x, p, fs, k2, p2, i, ps, rfl, hi, hf, rfl, rfl⟩
    · obtain ⟨b1, b2, b3⟩ := pgs_names hN hi o
      have := pg_tup (pos := pos) (k := k) hc b1 (n := (own.map Prod.snd).length) (by rw [b2, List.length_map]) b3
      exact this
    · obtain ⟨b1, b2, b3⟩ := pgs_names hN hf fun p hp => o p (List.mem_cons_of_mem _ hp)
      have inner := pg_tup (pos := p2) (k := k2) hc b1 (n := (ps.map Prod.snd).length) (by rw [b2, List.length_map]) b3
      obtain ⟨a1, a2, a3⟩ := o (x, i) List.mem_cons_self
      exact pg_tup (pos := pos) (k := k) (n := 2) hc (pgs_cons (pg_name (pos := p) hN a1 a2 a3) (pgs_cons inner pgs_nil)) rfl rfl
  | _ => cases h
def Tg.slots : Tg → List Nat
  | .nm i => [i]
  | .tup is => is
  | .pr i is => i :: is
/-- storing an item -/
def isTupT : Tg → Bool
  | .nm _ => false
  | .tup _ => true
  | .pr _ _ => true
omit [Tabs] in
theorem bindT_pr {i : Nat} {is : List Nat} {d1 : D} {ds : List D} (hl : is.length = ds.length) (ρ : EnvD) : bindT (.pr i is) (.tup [d1, .tup ds]) ρ = some (setAll (ρ.set i (some d1)) is ds) := by
  simp only [bindT]
  rw [if_pos hl, setAll_fold]
omit [Tabs] in
theorem bindT_pr_cases {i : Nat} {is : List Nat} {d : D} : (∀ ρ, bindT (.pr i is) d ρ = none) ∨ ∃ d1 ds, d = .tup [d1, .tup ds] ∧ is.length = ds.length := by
  match d with
  | .tup [d1, .tup ds] =>
    by_cases hl : is.length = ds.length
    · exact .inr ⟨d1, ds, rfl, hl⟩
    · exact .inl fun ρ => by simp only [bindT]; rw [if_neg hl]
  | .tup [] => exact .inl fun ρ => rfl
  | .tup [_] => exact .inl fun ρ => rfl
  | .tup (_ :: _ :: _ :: _) => exact .inl fun ρ => by simp only [bindT]
  | .tup [_, .non] => exact .inl fun ρ => rfl
  | .tup [_, .bl _] => exact .inl fun ρ => rfl
  | .tup [_, .int _] => exact .inl fun ρ => rfl
  | .tup [_, .str _] => exact .inl fun ρ => rfl
  | .tup [_, .lst _] => exact .inl fun ρ => rfl
  | .tup [_, .scr _] => exact .inl fun ρ => rfl
  | .tup [_, .dic _ _ _] => exact .inl fun ρ => rfl
  | .non => exact .inl fun ρ => rfl
  | .bl _ => exact .inl fun ρ => rfl
  | .int _ => exact .inl fun ρ => rfl
  | .str _ => exact .inl fun ρ => rfl
  | .lst _ => exact .inl fun ρ => rfl
  | .scr _ => exact .inl fun ρ => rfl
  | .dic _ _ _ => exact .inl fun ρ => rfl
omit [Tabs] in
theorem bindT_pr_inv {i : Nat} {is : List Nat} {d : D} {ρ ρ' : EnvD} (h : bindT (.pr i is) d ρ = some ρ') : ∃ d1 ds, d = .tup [d1, .tup ds] ∧ is.length = ds.length ∧ ρ' = setAll (ρ.set i (some d1)) is ds := by
  rcases bindT_pr_cases (i := i) (is := is) (d := d) with h2 | ⟨d1, ds, rfl, hl⟩
  · rw [h2] at h; cases h
  · rw [bindT_pr hl] at h
    exact ⟨d1, ds, rfl, hl, (Option.some.inj h).symm⟩
theorem reps2 {K : PySem.W.Frag} {H : Hp} {P : Addr → Prop} {vs : List V} {d e : D} (r : Reps K H P vs [d, e]) : ∃ x y, vs = [x, y] ∧ Rep K H P x d ∧ Rep K H P y e := by
  cases r with
  | cons a t =>
    cases t with
    | cons b n =>
      cases n
      exact ⟨_, _, rfl, a, b⟩
theorem trTg_tup {N : List Str} {tg : Expr} {t : Tg} {own : List (Str × Nat)} (h : trTg N tg = some (t, own)) : tupTg tg = isTupT t := by
  cases tg with
  | Name x pos =>
    obtain ⟨i, hi, e⟩ := Option.map_eq_some_iff.mp h
    cases e; rfl
  | Tuple es k pos =>
    rcases trTg_tupE h with ⟨hi, rfl⟩ | ⟨x, p, fs, k2, p2, i, ps, rfl, hi, hf, rfl, rfl⟩ <;> rfl
  | _ => cases h
theorem tg_store {K : PySem.W.Frag} {H : Hp} {P : Addr → Prop} {t : Tg} {x : V} {d : D} {σ : L2.St} {ρ ρ' : EnvD} {Q : L2.St → Hp → Prop} (s : SR K H P σ ρ) (r : RepT (isTupT t) K H P x d) (h : bindT t d ρ = some ρ')
    (hl : ∀ i ∈ t.slots, i < σ.length) (q : ∀ σ', SR K H P σ' ρ' → (∃ vs, σ' = setAll σ t.slots vs) → Q σ' H) : gTg K t x σ H Q := by
  cases t with
  | nm i =>
    cases h
    exact q _ (sr_set s r.nm (hl i List.mem_cons_self)) ⟨[x], rfl⟩
  | tup is =>
    cases d with
    | tup ds =>
      obtain ⟨hlen, rfl⟩ := ite_some h
      obtain ⟨a, vs, rfl, ha, rs⟩ := r.tup
      have hv := rs.length
      refine ⟨a, vs, rfl, ha, by omega, gNames_run is vs σ H (by omega) (q _ ?_ ⟨vs, rfl⟩)⟩
      rw [setAll_fold]
      exact sr_setAll s rs hl
    | _ => cases h
  | pr i is =>
    obtain ⟨d1, ds, rfl, hlen, rfl⟩ := bindT_pr_inv h
    obtain ⟨a, vs, rfl, ha, rs⟩ := r.tup
    obtain ⟨x1, x2, rfl, q1, q2⟩ := reps2 rs
    obtain ⟨b, ws, rfl, hb, rw'⟩ := q2.tup_inv
    have hv := rw'.length
    refine ⟨a, _, rfl, ha, rfl, _, _, rfl, _, _, rfl, b, ws, rfl, hb, by omega, gNames_run is ws _ H (by omega) ⟨rfl, ?_⟩⟩
    exact q _ (sr_setAll (sr_set s q1 (hl i List.mem_cons_self)) rw' fun j hj => by rw [List.length_set]; exact hl j (List.mem_cons_of_mem _ hj)) ⟨x1 :: ws, rfl⟩
end
end Ev
set_option maxHeartbeats 4000000
namespace Ev
open PySem PySem.Spec PyProof.Rows L2
variable [Tabs]
section
variable {T : TC} {C : Oracle} {sc : Scope} {X : Cx}
theorem wipe_length {α : Type} (ρ : List (Option α)) : ∀ vs : List Nat, (wipe ρ vs).length = ρ.length
  | [] => rfl
  | v :: vs => by unfold wipe; rw [List.length_set, wipe_length ρ vs]
theorem wipe_get {α : Type} (ρ : List (Option α)) (j : Nat) : ∀ vs : List Nat, (wipe ρ vs)[j]? = if j ∈ vs ∧ j < ρ.length then some none else ρ[j]?
  | [] => by simp [wipe]
  | v :: vs => by
    unfold wipe
    have ih := wipe_get ρ j vs
    by_cases e : v = j
    · subst e
      by_cases hl : v < ρ.length
      · rw [List.getElem?_set_self (by rw [wipe_length]; exact hl)]
        simp [hl]
      · rw [List.getElem?_eq_none (by rw [List.length_set, wipe_length]; omega)]
        simp [hl]
    · rw [List.getElem?_set_ne e, ih]
      have : (j ∈ v :: vs ∧ j < ρ.length) ↔ (j ∈ vs ∧ j < ρ.length) := by
        simp only [List.mem_cons]
        constructor
        · rintro ⟨h | h, h2⟩
          · exact absurd h.symm e
          · exact ⟨h, h2⟩
        · rintro ⟨h, h2⟩; exact ⟨.inr h, h2⟩
      simp only [this]
theorem wipe_L2 (σ : L2.St) : ∀ vs : List Nat, L2.wipe σ vs = wipe σ vs
  | [] => rfl
  | v :: vs => by unfold L2.wipe wipe; rw [wipe_L2 σ vs]
theorem setAll_length {α : Type} : ∀ (is : List Nat) (ds : List α) (ρ : List (Option α)), (setAll ρ is ds).length = ρ.length
  | [], ds, ρ => by simp [setAll]
  | i :: is, [], ρ => by simp [setAll]
  | i :: is, d :: ds, ρ => by simp only [setAll]; rw [setAll_length is ds, List.length_set]
theorem setAll_out {α : Type} {j : Nat} : ∀ (is : List Nat) (ds : List α) (ρ : List (Option α)), j ∉ is → (setAll ρ is ds)[j]? = ρ[j]?
  | [], ds, ρ, _ => by simp [setAll]
  | i :: is, [], ρ, _ => by simp [setAll]
  | i :: is, d :: ds, ρ, h => by
    simp only [List.mem_cons, not_or] at h
    simp only [setAll]
    rw [setAll_out is ds _ h.2, List.getElem?_set_ne (fun e => h.1 e.symm)]
theorem wipe_setAll {α : Type} (ρ : List (Option α)) (is vs : List Nat) (ds : List α) (h : ∀ i ∈ is, i ∈ vs) : wipe (setAll (wipe ρ vs) is ds) vs = wipe ρ vs := by
  apply List.ext_getElem?
  intro j
  rw [wipe_get, wipe_get, setAll_length, wipe_length]
  by_cases hj : j ∈ vs ∧ j < ρ.length
  · rw [if_pos hj, if_pos hj]
  · rw [if_neg hj, if_neg hj]
    by_cases hi : j ∈ is
    · have hv := h j hi
      have hl : ρ.length ≤ j := by
        by_cases z : j < ρ.length
        · exact absurd ⟨hv, z⟩ hj
        · omega
      rw [List.getElem?_eq_none (by rw [setAll_length, wipe_length]; exact hl), List.getElem?_eq_none hl]
    · rw [setAll_out _ _ _ hi, wipe_get, if_neg hj]
theorem sr_wipe {K : PySem.W.Frag} {H : Hp} {P : Addr → Prop} {σ : L2.St} {ρ : EnvD} (s : SR K H P σ ρ) (vs : List Nat) : SR K H P (L2.wipe σ vs) (wipe ρ vs) := ⟨fun j d h => by
  rw [wipe_L2]
  rw [wipe_get] at h
  by_cases hj : j ∈ vs ∧ j < ρ.length
  · rw [if_pos hj] at h; cases h
  · rw [if_neg hj] at h
    have hv : j ∉ vs := fun z => hj ⟨z, by
      by_cases z2 : j < ρ.length
      · exact z2
      · rw [List.getElem?_eq_none (by omega)] at h; cases h⟩
    obtain ⟨v, h1, h2⟩ := s.get j d h
    exact ⟨v, by rw [wipe_get, if_neg (fun z => hv z.1)]; exact h1, h2⟩, s.tk⟩
theorem ext_upd {H H' : Hp} {D : Addr} {o : HO} (e : Ext H H') (h : H D = none) : Ext H (upd H' D o) :=
  ⟨fun a u q n => by rw [upd_ne (ne_of_none q h)]; exact e.at_ a u q n, fun a ps q => by rw [upd_ne (ne_of_none q h)]; exact e.tb a ps q⟩
theorem mut_tup {u : HO} {xs : List V} (h : MutO u) : HO.tup xs ≠ u := fun z => by subst z; exact h
theorem mut_frz {u w : HO} {o : Obj} (h : MutO u) : HO.frz o w ≠ u := fun z => by subst z; exact h
theorem stay_upd {H : Hp} {D : Addr} {u : HO} {o : HO} {P : Addr → Prop} (h : H D = some u) (hm : MutO u) (hp : ∀ a, P a → a ≠ D) : Stay P H (upd H D o) :=
  ⟨fun a xs q => by rw [upd_ne (ne_of q h (mut_tup hm))]; exact q, fun a o u q => by rw [upd_ne (ne_of q h (mut_frz hm))]; exact q, fun a xs p q => by rw [upd_ne (hp a p)]; exact q, fun a u p _ q => by rw [upd_ne (hp a p)]; exact q⟩
theorem reps_of {K : PySem.W.Frag} {H : Hp} {P : Addr → Prop} : ∀ {vs : List V} {ds : List D}, vs.length = ds.length → (∀ (k : Nat) v d, vs[k]? = some v → ds[k]? = some d → Rep K H P v d) → Reps K H P vs ds
  | [], [], _, _ => .nil
  | [], _ :: _, h, _ => by cases h
  | _ :: _, [], h, _ => by cases h
  | v :: vs, d :: ds, h, f => .cons (f 0 v d rfl rfl) (reps_of (by simpa using h) fun k v' d' h1 h2 => f (k + 1) v' d' (by simpa using h1) (by simpa using h2))
theorem gx_blk (G : GX T C sc X) {scope : Scope} (hk : scope.kind = .function) (s : Shared) (H : Hp) (Ca : Addr) (cl : List (Str × Addr)) (fp : List Addr) : GX T C (relS scope sc) (X.blk s H scope (compEnvC scope cl Ca X.env) fp) where
  hN := G.hN
  nd := G.nd
  hsc := by
    show relS scope X.env.scope = _
    rw [G.hsc]
  kind := hk
  calm := G.calm
  hu := G.hu
  rm := G.rm
  tab := G.tab
  bl := G.bl
  fn := G.fn
  gl := G.gl
theorem trTg_slots {N : List Str} {tg : Expr} {t : Tg} {own : List (Str × Nat)} (h : trTg N tg = some (t, own)) : t.slots = own.map Prod.snd := by
  cases tg with
  | Name x pos =>
    obtain ⟨i, hi, e⟩ := Option.map_eq_some_iff.mp h
    cases e; rfl
  | Tuple es k pos =>
    rcases trTg_tupE h with ⟨hi, rfl⟩ | ⟨x, p, fs, k2, p2, i, ps, rfl, hi, hf, rfl, rfl⟩ <;> rfl
  | _ => cases h
/-- a clause's test, as a reading -/
def tIfs (K : PySem.W.Frag) (C : Oracle) : Option E → TT
  | none => tYes
  | some e => tT K C e
def stepF (C : Oracle) (ρ : EnvD) (vs : List Nat) (tg : Tg) (c : Option E) (elt : E) : D → Option (Option D) := fun x => (bindT tg x (wipe ρ vs)).bind fun ρ' =>
      (evC C ρ' c).bind fun k => if k then (evE C ρ' elt).bind fun y => some (some y) else some none
theorem comp_core {K : PySem.W.Frag} {H H1 : Hp} {P : Addr → Prop} {σ : L2.St} {ρ : EnvD} {vs : List Nat} {t : Tg} {it : It} {c : Option E} {elt : E} {xs ys : List D} {Q : VK} {J : L2.It} {src : List (V × D)}
    (sr : SR K H P σ ρ) (hl : ∀ i ∈ vs, i < σ.length) (hvs : t.slots = vs) (e2 : compL (stepF C ρ vs t c elt) xs = some ys) (g : Got K σ H P (.comp elt vs t it c) (.lst ys) Q) (hz : xs.length ≤ sizeLine)
    (x1 : Ext H H1) (hsrc : Src K (PN P H) src H1) (Y : ∀ P', Yld (isTupT t) K P' J xs (Src K P' src)) (D : Addr) (hD : H1 D = none) :
    ∃ W : Nat → Nat → Hp → Prop, (∃ m, W 0 m (upd H1 D (.lst []))) ∧ ∀ i m H, W i m H →
      (J.stop i H ∧ Q (.ref D) H) ∨ (J.go i H ∧ ∃ Nx : Hp → Prop, (∀ H', Nx H' → ∃ m', m' < m ∧ W (i + 1) m' H') ∧ ∀ x H', J.yld i H x H' → gTg K t x (L2.wipe σ vs) H' fun σ2 H2 => L2.wipe σ2 vs = L2.wipe σ vs ∧ tIfs K C c σ2 H2 fun b H3 =>
        if b = true then tE K C elt σ2 H3 fun y H4 => ∃ acc, H4 D = some (.lst acc) ∧ acc.length < sizeLine ∧ Nx (upd H4 D (.lst (acc ++ [y]))) else Nx H3) := by
  have hDH : H D = none := x1.none hD
  let P2 : Addr → Prop := fun a => PN P H a ∧ a ≠ D
  let PF : Addr → Prop := fun a => New H a ∧ a ≠ D
  let Inv : Nat → Hp → Prop := fun i Hc => Ext H1 Hc ∧ ∃ acc ys1 ys2, Hc D = some (.lst acc) ∧ ys = ys1 ++ ys2 ∧ compL (stepF C ρ vs t c elt) (xs.drop i) = some ys2 ∧ acc.length ≤ i ∧ Reps K Hc P2 acc ys1 ∧
    ∀ (k : Nat) v y, acc[k]? = some v → ys1[k]? = some y → fr elt y = true → Rep K Hc PF v y
  refine ⟨fun i m Hc => m = xs.length - i ∧ i ≤ xs.length ∧ Inv i Hc, ⟨xs.length, by simp, Nat.zero_le _, Ext.new hD, [], [], ys, upd_same, rfl, by simpa using e2, Nat.le_refl _, .nil, fun k v y h => by simp at h⟩, ?_⟩
  rintro i m Hc ⟨rfl, hi, x2, acc, ys1, ys2, hacc, hys, hc2, hal, hr, hf⟩
  have srcC : Src K (fun a => PN P H a ∧ H1 a ≠ none) src Hc := fun p hp => (hsrc p hp).there.ext x2
  by_cases hlt : i < xs.length
  · refine .inr ⟨(Y _).go i Hc srcC hlt, Inv (i + 1), fun H' n => ⟨xs.length - (i + 1), by omega, rfl, hlt, n⟩, fun x H' y => ?_⟩
    obtain ⟨x3, d, hd, rd⟩ := (Y _).yld i Hc x H' srcC hlt y
    have hdrop : xs.drop i = d :: xs.drop (i + 1) := by
      obtain ⟨h1, h2⟩ := List.getElem?_eq_some_iff.mp hd
      rw [← h2, List.drop_eq_getElem_cons h1]
    rw [hdrop] at hc2
    simp only [compL, Option.bind_eq_some_iff] at hc2
    obtain ⟨o, hF, ys3, hrest, ho⟩ := hc2
    simp only [stepF, Option.bind_eq_some_iff] at hF
    obtain ⟨ρ', hb, k, hk, hkk⟩ := hF
    -- what may be read in the turn
    let P3 : Addr → Prop := fun a => (P a ∧ H a ≠ none) ∨ ((PN P H a ∧ H1 a ≠ none) ∨ Hc a = none)
    have hDc : Hc D ≠ none := by rw [hacc]; simp
    have p3 : ∀ a, P3 a → P2 a := fun a h => by
      rcases h with ⟨h1, h2⟩ | ⟨h1, h2⟩ | h1
      · exact ⟨.inl h1, fun e => by rw [e] at h2; exact h2 hDH⟩
      · exact ⟨h1, fun e => by rw [e] at h2; exact h2 hD⟩
      · exact ⟨.inr ((x1.trans x2).none h1), fun e => by rw [e] at h1; exact hDc h1⟩
    have x13 : Ext H H' := x1.trans (x2.trans x3)
    have srT : SR K H' P3 (L2.wipe σ vs) (wipe ρ vs) := ((sr_wipe sr.there vs).ext x13).mono fun a z => .inl z
    have rdT : RepT (isTupT t) K H' P3 x d := rd.mono fun a z => .inr z
    refine tg_store srT rdT hb (fun i h => ?_) fun σ' s' hs' => ?_
    · rw [wipe_L2, wipe_length]
      exact hl i (hvs ▸ h)
    · obtain ⟨us, rfl⟩ := hs'
      refine ⟨?_, ?_⟩
      · rw [wipe_L2, wipe_L2]
        exact wipe_setAll σ _ vs us fun i h => hvs ▸ h
      · -- the test, then the element
        have skip : ∀ H3, Ext H' H3 → o = none → Inv (i + 1) H3 := fun H3 x4 e => by
          subst e
          cases ho
          refine ⟨x2.trans (x3.trans x4), acc, ys1, ys3, (x3.trans x4).at_ _ _ hacc (fun _ z => by cases z), hys, hrest, by omega, hr.ext (x3.trans x4), fun k v y h1 h2 h3 => (hf k v y h1 h2 h3).ext (x3.trans x4)⟩
        have take : ∀ H3 y, Ext H' H3 → o = some y → evE C ρ' elt = some y → tE K C elt (setAll (L2.wipe σ vs) t.slots us) H3 fun y H4 => ∃ acc, H4 D = some (.lst acc) ∧ acc.length < sizeLine ∧ Inv (i + 1) (upd H4 D (.lst (acc ++ [y]))) := fun H3 y x4 e hy => by
          subst e
          cases ho
          refine ⟨ρ', P3, y, s'.ext x4, hy, fun v H4 x5 rv fv _ => ?_⟩
          have x35 : Ext Hc H4 := x3.trans (x4.trans x5)
          have hacc4 : H4 D = some (.lst acc) := x35.at_ _ _ hacc (fun _ z => by cases z)
          have hD3 : H3 D ≠ none := by rw [(x3.trans x4).at_ _ _ hacc (fun _ z => by cases z)]; simp
          have st2 : Stay P2 H4 (upd H4 D (.lst (acc ++ [v]))) := stay_upd hacc4 trivial fun a z => z.2
          have stF : Stay PF H4 (upd H4 D (.lst (acc ++ [v]))) := stay_upd hacc4 trivial fun a z => z.2
          have x14 : Ext H H3 := x13.trans x4
          refine ⟨acc, hacc4, by omega, ext_upd (x2.trans x35) hD, acc ++ [v], ys1 ++ [y], ys3, upd_same, by rw [hys]; simp, hrest, by simp; omega, ?_, ?_⟩
          · refine ((hr.ext x35).append (.cons (rv.mono fun a z => ?_) .nil)).stay' st2 fun a z => z
            rcases z with z | z
            · exact p3 a z
            · exact ⟨.inr (x14.none z), fun e => by rw [e] at z; exact hD3 z⟩
          · intro k w yy h1 h2 h3
            have hlen := hr.length
            by_cases hk : k < acc.length
            · rw [List.getElem?_append_left hk] at h1
              rw [List.getElem?_append_left (by omega)] at h2
              exact ((hf k w yy h1 h2 h3).ext x35).stay' stF fun a z => z
            · have hk2 : k = acc.length := by
                obtain ⟨h4, _⟩ := List.getElem?_eq_some_iff.mp h1
                simp at h4; omega
              subst hk2
              rw [List.getElem?_append_right (Nat.le_refl _)] at h1
              rw [List.getElem?_append_right (by omega)] at h2
              have hsub : acc.length - ys1.length = 0 := by omega
              rw [hsub] at h2
              simp at h1 h2
              subst h1 h2
              refine ((fv h3).mono fun a z => ⟨x14.none z, fun e => by rw [e] at z; exact hD3 z⟩).stay' stF fun a z => z
        cases c with
        | none =>
          cases (show k = true by simpa [evC] using hk.symm)
          simp only [if_true, Option.bind_eq_some_iff] at hkk
          obtain ⟨y, hy, ho'⟩ := hkk
          simp only [tIfs, tYes, if_true]
          exact take H' y (Ext.refl _) (Option.some.inj ho').symm hy
        | some ce =>
          simp only [evC, Option.bind_eq_some_iff] at hk
          obtain ⟨dc, hk1, hk2⟩ := hk
          refine ⟨ρ', P3, dc, k, s', hk1, hk2, fun H3 x4 => ?_⟩
          cases k with
          | true =>
            simp only [if_true, Option.bind_eq_some_iff] at hkk ⊢
            obtain ⟨y, hy, ho'⟩ := hkk
            exact take H3 y x4 (Option.some.inj ho').symm hy
          | false =>
            simp only [Bool.false_eq_true, if_false] at hkk ⊢
            exact skip H3 x4 (Option.some.inj hkk).symm
  · have e : i = xs.length := by omega
    subst e
    have hy2 : ys2 = [] := by
      rw [List.drop_length] at hc2
      exact (Option.some.inj hc2).symm
    subst hy2
    rw [List.append_nil] at hys
    subst hys
    refine .inl ⟨(Y _).stop _ Hc srcC (Nat.le_refl _), g _ Hc (x1.trans x2) (.lst (.inr hDH) hacc hr) (fun hfr => ?_) (notvar rfl)⟩
    refine .lst hDH hacc ?_
    simp only [fr, Bool.or_eq_true, List.all_eq_true] at hfr
    rcases hfr with h | h
    · exact hr.imm stay_refl (P := P2) (R := P2) h
    · exact reps_of hr.length fun k v y h1 h2 => hf k v y h1 h2 (h y (List.mem_of_getElem? h2))
theorem loc_of {sc : Scope} {x : Str} (h : locB sc x = true) : Loc sc x := by
  unfold locB at h
  split at h
  · exact .inl (by assumption)
  · exact .inr (by assumption)
  · cases h
theorem comp_lc {K : PySem.W.Frag} {σ : L2.St} {H : Hp} {Q : VK} {A : E} {vs : List Nat} {t : Tg} {it : It} {c : Option E} (hl : ∀ i ∈ vs, i < σ.length) (hs : t.slots = vs) (q : tE K C (.comp A vs t it c) σ H Q) :
    tLc (tI K C (isTupT t) it) (gTg K t) (tIfs K C c) (tE K C A) vs σ H Q := by
  obtain ⟨ρ, P, d, sr, ev, g⟩ := q
  simp only [evE, Option.bind_eq_some_iff] at ev
  obtain ⟨xs, e1, ys, e2, e3⟩ := ev
  cases e3
  exact ⟨ρ, P, xs, sr, e1, fun J H1 src x1 hsrc Y hz _ D hD => comp_core sr hl hs e2 g hz x1 hsrc Y D hD⟩
theorem comp_parts {R : Rc} (hR : ∀ sc e E, R sc e = some E → SndX T C sc e E) {elt tg iter : Expr} {ifs : List Expr} {k : Int} {scope : Scope} {pos : Pos} {t : Tg} {own : List (Str × Nat)} {it : It} {c : Option E} {A : E} (ht : trTg T.N tg = some (t, own))
    (hb : blkC T.N sc scope own = true) (hk : k = 0) (ho : own.all (fun p => locB (relS scope sc) p.1 && (isCell scope p.1 || isLocal (relS scope sc) p.1)) = true) (hi : trI T R sc tg iter = some it) (hc : trIf (R (relS scope sc)) ifs = some c) (he : R (relS scope sc) elt = some A) :
    ∀ X, GX T C sc X → PI X tg iter (tI X.K C (isTupT t) it) ∧ BlkOk X.N X.env.scope scope own ∧
      (∀ (s : Shared) (H : Hp) (Ca : Addr) (cl : List (Str × Addr)) (fp : List Addr), PG (X.blk s H scope (compEnvC scope cl Ca X.env) fp) tg (gTg X.K t)) ∧
      (∀ (s : Shared) (H : Hp) (Ca : Addr) (cl : List (Str × Addr)) (fp : List Addr), PTs (X.blk s H scope (compEnvC scope cl Ca X.env) fp) ifs (tIfs X.K C c)) ∧
      (∀ (s : Shared) (H : Hp) (Ca : Addr) (cl : List (Str × Addr)) (fp : List Addr), PE (X.blk s H scope (compEnvC scope cl Ca X.env) fp) elt (tE X.K C A)) ∧ (∀ x, foldedSetIterable iter X.env x = pure x) ∧
      (∀ i ∈ own.map Prod.snd, i < T.N.length) := by
  have si := snd_It (hR sc) hi
  have bk := blkOk_by hb
  have oo : ∀ (X : Cx) (G : GX T C sc X) (s : Shared) (H : Hp) (Ca : Addr) (cl : List (Str × Addr)) (fp : List Addr), OwnOk (X.blk s H scope (compEnvC scope cl Ca X.env) fp) own := fun X G s H Ca cl fp p hp => by
    have h1 := List.all_eq_true.mp ho p hp
    simp only [Bool.and_eq_true, Bool.or_eq_true] at h1
    have gb := gx_blk G bk.kind s H Ca cl fp
    refine ⟨by rw [gb.hN]; exact bk.ix p hp, by rw [gb.hsc]; exact loc_of h1.1, ?_⟩
    rcases h1.2 with h2 | h2
    · refine .inl ?_
      show (scope.names.lookup p.1 == some .cell) = true
      unfold isCell at h2
      split at h2
      · rename_i e
        rw [e]; rfl
      · cases h2
    · refine .inr ?_
      rw [gb.hsc]
      unfold isLocal at h2
      split at h2
      · assumption
      · cases h2
  intro X G
  refine ⟨trTg_tup ht ▸ si.run X G, by rw [G.hN, G.hsc]; exact bk, fun s H Ca cl fp => pg_tg (X := X.blk s H scope (compEnvC scope cl Ca X.env) fp) G.calm (by show X.N.Nodup; rw [G.hN]; exact G.nd) (by show trTg X.N tg = _; rw [G.hN]; exact ht) (oo X G s H Ca cl fp),
    fun s H Ca cl fp => ?_, fun s H Ca cl fp => (hR _ _ _ he).v _ (gx_blk G bk.kind s H Ca cl fp), fun x => si.nofold _ x, fun i hi => ?_⟩
  · have gb := gx_blk G bk.kind s H Ca cl fp
    cases ifs with
    | nil => cases hc; exact pts_nil
    | cons e r => cases r with
      | nil =>
        obtain ⟨Ec, h1, rfl⟩ := Option.map_eq_some_iff.mp hc
        exact pts_one ((hR _ _ _ h1).t _ gb)
      | cons _ _ => cases hc
  · obtain ⟨p, hp, rfl⟩ := List.mem_map.mp hi
    have := bk.ix p hp
    obtain ⟨h1, _⟩ := List.getElem?_eq_some_iff.mp this
    exact h1
theorem snd_comp {R : Rc} (hR : ∀ sc e E, R sc e = some E → SndX T C sc e E) {elt tg iter : Expr} {ifs : List Expr} {k : Int} {scope : Scope} {pos : Pos} {t : Tg} {own : List (Str × Nat)} {it : It} {c : Option E} {A : E} (ht : trTg T.N tg = some (t, own))
    (hb : blkC T.N sc scope own = true) (hk : k = 0) (ho : own.all (fun p => locB (relS scope sc) p.1 && (isCell scope p.1 || isLocal (relS scope sc) p.1)) = true) (hi : trI T R sc tg iter = some it) (hc : trIf (R (relS scope sc)) ifs = some c) (he : R (relS scope sc) elt = some A) :
    SndX T C sc (.ListComp elt [⟨tg, iter, ifs, k⟩] scope pos) (.comp A (own.map Prod.snd) t it c) := by
  have pv : ∀ X, GX T C sc X → PE X (.ListComp elt [⟨tg, iter, ifs, k⟩] scope pos) (tE X.K C (.comp A (own.map Prod.snd) t it c)) := fun X G => by
    obtain ⟨h1, h2, h3, h4, h5, h6, h7⟩ := comp_parts (pos := pos) hR ht hb hk ho hi hc he X G
    subst hk
    have base := pe_lc (X := X) (own := own) (pos := pos) (ifs := ifs) G.calm (by rw [G.hN]; exact G.nd) h1 h2 h3 h4 h5 h6
    exact ⟨fun pins s σ H Q I q => base.run pins s σ H Q I (comp_lc (fun i hi => by rw [I.len, G.hN]; exact h7 i hi) (trTg_slots ht) q)⟩
  exact ⟨pv, fun X G => pt_plain (pv X G) fun _ => rfl⟩

/-! ### two clauses -/
/-- H without D -/
def erD (D : Addr) (H : Hp) : Hp := fun a => if a = D then none else H a
theorem erD_ne {D a : Addr} {H : Hp} (h : a ≠ D) : erD D H a = H a := if_neg h
theorem erD_at {D : Addr} {H : Hp} : erD D H D = none := if_pos rfl
theorem ext_er {H H' : Hp} {D : Addr} (e : Ext H H') (h : H D = none) : Ext H (erD D H') :=
  ⟨fun a u q n => by rw [erD_ne (ne_of_none q h)]; exact e.at_ a u q n, fun a ps q => by rw [erD_ne (ne_of_none q h)]; exact e.tb a ps q⟩
theorem er_ext {H H' : Hp} {D : Addr} (e : Ext H H') : Ext (erD D H) H' :=
  ⟨fun a u q n => by
    by_cases h : a = D
    · rw [h, erD_at] at q; cases q
    · rw [erD_ne h] at q; exact e.at_ a u q n, fun a ps q => by
    by_cases h : a = D
    · rw [h, erD_at] at q; cases q
    · rw [erD_ne h] at q; exact e.tb a ps q⟩
theorem stay_er {H : Hp} {D : Addr} {acc : List V} {P : Addr → Prop} (h : H D = some (.lst acc)) (hp : ∀ a, P a → a ≠ D) : Stay P H (erD D H) :=
  ⟨fun a xs q => by rw [erD_ne (ne_of q h (by intro z; cases z))]; exact q, fun a o u q => by rw [erD_ne (ne_of q h (by intro z; cases z))]; exact q, fun a xs p q => by rw [erD_ne (hp a p)]; exact q, fun a u p _ q => by rw [erD_ne (hp a p)]; exact q⟩
/-- the inner loop: D has acc0 ahead of it -/
theorem comp_in {K : PySem.W.Frag} {H H1 Hs : Hp} {P P2 PF : Addr → Prop} {σ : L2.St} {ρ : EnvD} {vs : List Nat} {t : Tg} {c : Option E} {elt : E} {xs ys0 ysA : List D} {acc0 : List V} {J : L2.It} {src : List (V × D)} {D : Addr} {End : Hp → Prop}
    (sr : SR K H P σ ρ) (hl : ∀ i ∈ vs, i < σ.length) (hvs : ∀ i ∈ t.slots, i ∈ vs) (e2 : compL (stepF C ρ vs t c elt) xs = some ysA) (hz : ys0.length + ysA.length ≤ sizeLine)
    (x1 : Ext H H1) (hsrc : Src K (PN P H) src H1) (Y : ∀ P', Yld (isTupT t) K P' J xs (Src K P' src)) (hDH : H D = none) (hD : H1 D = none)
    (h2 : ∀ a, P a → H a ≠ none → P2 a) (hnew : ∀ a, a ≠ D → H a = none → P2 a ∧ PF a) (ne2 : ∀ a, P2 a → a ≠ D) (neF : ∀ a, PF a → a ≠ D)
    (xs0 : Ext H1 Hs) (hs0 : Hs D = some (.lst acc0)) (hr0 : Reps K Hs P2 acc0 ys0) (hf0 : ∀ (k : Nat) v y, acc0[k]? = some v → ys0[k]? = some y → fr elt y = true → Rep K Hs PF v y)
    (hend : ∀ Hc acc, Ext H1 Hc → Hc D = some (.lst acc) → Reps K Hc P2 acc (ys0 ++ ysA) → (∀ (k : Nat) v y, acc[k]? = some v → (ys0 ++ ysA)[k]? = some y → fr elt y = true → Rep K Hc PF v y) → End Hc) :
    ∃ W : Nat → Nat → Hp → Prop, (∃ m, W 0 m Hs) ∧ ∀ i m H, W i m H →
      (J.stop i H ∧ End H) ∨ (J.go i H ∧ ∃ Nx : Hp → Prop, (∀ H', Nx H' → ∃ m', m' < m ∧ W (i + 1) m' H') ∧ ∀ x H', J.yld i H x H' → gTg K t x (L2.wipe σ vs) H' fun σ2 H2 => L2.wipe σ2 vs = L2.wipe σ vs ∧ tIfs K C c σ2 H2 fun b H3 =>
        if b = true then tE K C elt σ2 H3 fun y H4 => ∃ acc, H4 D = some (.lst acc) ∧ acc.length < sizeLine ∧ Nx (upd H4 D (.lst (acc ++ [y]))) else Nx H3) := by
  let Inv : Nat → Hp → Prop := fun i Hc => Ext H1 Hc ∧ ∃ acc ys1 ys2, Hc D = some (.lst acc) ∧ ys0 ++ ysA = ys1 ++ ys2 ∧ compL (stepF C ρ vs t c elt) (xs.drop i) = some ys2 ∧ Reps K Hc P2 acc ys1 ∧
    ∀ (k : Nat) v y, acc[k]? = some v → ys1[k]? = some y → fr elt y = true → Rep K Hc PF v y
  refine ⟨fun i m Hc => m = xs.length - i ∧ i ≤ xs.length ∧ Inv i Hc, ⟨xs.length, by simp, Nat.zero_le _, xs0, acc0, ys0, ysA, hs0, rfl, by simpa using e2, hr0, hf0⟩, ?_⟩
  rintro i m Hc ⟨rfl, hi, x2, acc, ys1, ys2, hacc, hys, hc2, hr, hf⟩
  have srcC : Src K (fun a => PN P H a ∧ H1 a ≠ none) src Hc := fun p hp => (hsrc p hp).there.ext x2
  by_cases hlt : i < xs.length
  · refine .inr ⟨(Y _).go i Hc srcC hlt, Inv (i + 1), fun H' n => ⟨xs.length - (i + 1), by omega, rfl, hlt, n⟩, fun x H' y => ?_⟩
    obtain ⟨x3, d, hd, rd⟩ := (Y _).yld i Hc x H' srcC hlt y
    have hdrop : xs.drop i = d :: xs.drop (i + 1) := by
      obtain ⟨h1, h2⟩ := List.getElem?_eq_some_iff.mp hd
      rw [← h2, List.drop_eq_getElem_cons h1]
    rw [hdrop] at hc2
    simp only [compL, Option.bind_eq_some_iff] at hc2
    obtain ⟨o, hF, ys3, hrest, ho⟩ := hc2
    simp only [stepF, Option.bind_eq_some_iff] at hF
    obtain ⟨ρ', hb, k, hk, hkk⟩ := hF
    let P3 : Addr → Prop := fun a => (P a ∧ H a ≠ none) ∨ ((PN P H a ∧ H1 a ≠ none) ∨ Hc a = none)
    have hDc : Hc D ≠ none := by rw [hacc]; simp
    have p3 : ∀ a, P3 a → P2 a := fun a h => by
      rcases h with ⟨q1, q2⟩ | ⟨q1, q2⟩ | q1
      · exact h2 a q1 q2
      · have hne : a ≠ D := fun e => by rw [e] at q2; exact q2 hD
        by_cases hn : H a = none
        · exact (hnew a hne hn).1
        · rcases q1 with q1 | q1
          · exact h2 a q1 hn
          · exact absurd q1 hn
      · exact (hnew a (fun e => by rw [e] at q1; exact hDc q1) ((x1.trans x2).none q1)).1
    have x13 : Ext H H' := x1.trans (x2.trans x3)
    have srT : SR K H' P3 (L2.wipe σ vs) (wipe ρ vs) := ((sr_wipe sr.there vs).ext x13).mono fun a z => .inl z
    have rdT : RepT (isTupT t) K H' P3 x d := rd.mono fun a z => .inr z
    refine tg_store srT rdT hb (fun i h => ?_) fun σ' s' hs' => ?_
    · rw [wipe_L2, wipe_length]
      exact hl i (hvs i h)
    · obtain ⟨us, rfl⟩ := hs'
      refine ⟨?_, ?_⟩
      · rw [wipe_L2, wipe_L2]
        exact wipe_setAll σ _ vs us fun i h => hvs i h
      · have skip : ∀ H3, Ext H' H3 → o = none → Inv (i + 1) H3 := fun H3 x4 e => by
          subst e
          cases ho
          refine ⟨x2.trans (x3.trans x4), acc, ys1, ys3, (x3.trans x4).at_ _ _ hacc (fun _ z => by cases z), hys, hrest, hr.ext (x3.trans x4), fun k v y h1 h2 h3 => (hf k v y h1 h2 h3).ext (x3.trans x4)⟩
        have take : ∀ H3 y, Ext H' H3 → o = some y → evE C ρ' elt = some y → tE K C elt (setAll (L2.wipe σ vs) t.slots us) H3 fun y H4 => ∃ acc, H4 D = some (.lst acc) ∧ acc.length < sizeLine ∧ Inv (i + 1) (upd H4 D (.lst (acc ++ [y]))) := fun H3 y x4 e hy => by
          subst e
          cases ho
          refine ⟨ρ', P3, y, s'.ext x4, hy, fun v H4 x5 rv fv _ => ?_⟩
          have x35 : Ext Hc H4 := x3.trans (x4.trans x5)
          have hacc4 : H4 D = some (.lst acc) := x35.at_ _ _ hacc (fun _ z => by cases z)
          have hD3 : H3 D ≠ none := by rw [(x3.trans x4).at_ _ _ hacc (fun _ z => by cases z)]; simp
          have st2 : Stay P2 H4 (upd H4 D (.lst (acc ++ [v]))) := stay_upd hacc4 trivial ne2
          have stF : Stay PF H4 (upd H4 D (.lst (acc ++ [v]))) := stay_upd hacc4 trivial neF
          have x14 : Ext H H3 := x13.trans x4
          have hal : acc.length < sizeLine := by
            have q1 := hr.length
            have q2 := congrArg List.length hys
            simp at q2
            omega
          have hnw : ∀ a, H3 a = none → P2 a ∧ PF a := fun a z => hnew a (fun e => by rw [e] at z; exact hD3 z) (x14.none z)
          refine ⟨acc, hacc4, hal, ext_upd (x2.trans x35) hD, acc ++ [v], ys1 ++ [y], ys3, upd_same, by rw [hys]; simp, hrest, ?_, ?_⟩
          · refine ((hr.ext x35).append (.cons (rv.mono fun a z => ?_) .nil)).stay' st2 fun a z => z
            rcases z with z | z
            · exact p3 a z
            · exact (hnw a z).1
          · intro k w yy h1 h2 h3
            have hlen := hr.length
            by_cases hk : k < acc.length
            · rw [List.getElem?_append_left hk] at h1
              rw [List.getElem?_append_left (by omega)] at h2
              exact ((hf k w yy h1 h2 h3).ext x35).stay' stF fun a z => z
            · have hk2 : k = acc.length := by
                obtain ⟨h4, _⟩ := List.getElem?_eq_some_iff.mp h1
                simp at h4; omega
              subst hk2
              rw [List.getElem?_append_right (Nat.le_refl _)] at h1
              rw [List.getElem?_append_right (by omega)] at h2
              have hsub : acc.length - ys1.length = 0 := by omega
              rw [hsub] at h2
              simp at h1 h2
              subst h1 h2
              refine ((fv h3).mono fun a z => (hnw a z).2).stay' stF fun a z => z
        cases c with
        | none =>
          cases (show k = true by simpa [evC] using hk.symm)
          simp only [if_true, Option.bind_eq_some_iff] at hkk
          obtain ⟨y, hy, ho'⟩ := hkk
          simp only [tIfs, tYes, if_true]
          exact take H' y (Ext.refl _) (Option.some.inj ho').symm hy
        | some ce =>
          simp only [evC, Option.bind_eq_some_iff] at hk
          obtain ⟨dc, hk1, hk2⟩ := hk
          refine ⟨ρ', P3, dc, k, s', hk1, hk2, fun H3 x4 => ?_⟩
          cases k with
          | true =>
            simp only [if_true, Option.bind_eq_some_iff] at hkk ⊢
            obtain ⟨y, hy, ho'⟩ := hkk
            exact take H3 y x4 (Option.some.inj ho').symm hy
          | false =>
            simp only [Bool.false_eq_true, if_false] at hkk ⊢
            exact skip H3 x4 (Option.some.inj hkk).symm
  · have e : i = xs.length := by omega
    subst e
    have hy2 : ys2 = [] := by
      rw [List.drop_length] at hc2
      exact (Option.some.inj hc2).symm
    subst hy2
    rw [List.append_nil] at hys
    subst hys
    exact .inl ⟨(Y _).stop _ Hc srcC (Nat.le_refl _), hend Hc acc x2 hacc hr hf⟩
def stepF2 (C : Oracle) (ρ : EnvD) (vs vs1 : List Nat) (tg : Tg) (c : Option E) (tg1 : Tg) (it1 : It) (c1 : Option E) (elt : E) : D → Option (List D) := fun x => (bindT tg x (wipe ρ vs)).bind fun ρ' =>
      (evC C ρ' c).bind fun k => if k then (evI C ρ' it1).bind fun zs => compL (stepF C ρ' vs1 tg1 c1 elt) zs else some []
theorem comp2_core {K : PySem.W.Frag} {H H1 : Hp} {P : Addr → Prop} {σ : L2.St} {ρ : EnvD} {vs vs1 : List Nat} {t t1 : Tg} {it it1 : It} {c c1 : Option E} {elt : E} {xs ys : List D} {Q : VK} {J : L2.It} {src : List (V × D)}
    (sr : SR K H P σ ρ) (hl : ∀ i ∈ vs, i < σ.length) (hvs : ∀ i ∈ t.slots, i ∈ vs) (hvs1 : ∀ i ∈ t1.slots, i ∈ vs1) (hsub : ∀ i ∈ vs1, i ∈ vs) (e2 : compL2 (stepF2 C ρ vs vs1 t c t1 it1 c1 elt) xs = some ys) (hz : ys.length ≤ sizeLine) (g : Got K σ H P (.comp2 elt vs vs1 t it c t1 it1 c1) (.lst ys) Q)
    (x1 : Ext H H1) (hsrc : Src K (PN P H) src H1) (Y : ∀ P', Yld (isTupT t) K P' J xs (Src K P' src)) (D : Addr) (hD : H1 D = none) :
    ∃ W : Nat → Nat → Hp → Prop, (∃ m, W 0 m (upd H1 D (.lst []))) ∧ ∀ i m H, W i m H →
      (J.stop i H ∧ Q (.ref D) H) ∨ (J.go i H ∧ ∃ Nx : Hp → Prop, (∀ H', Nx H' → ∃ m', m' < m ∧ W (i + 1) m' H') ∧ ∀ x H', J.yld i H x H' → gTg K t x (L2.wipe σ vs) H' fun σ2 H2 => L2.wipe σ2 vs = L2.wipe σ vs ∧ tIfs K C c σ2 H2 fun b H3 =>
        if b = true then tI K C (isTupT t1) it1 σ2 H3 fun J1 H4 => ∃ W1 : Nat → Nat → Hp → Prop, (∃ m, W1 0 m H4) ∧ ∀ j k H, W1 j k H →
          (J1.stop j H ∧ Nx H) ∨ (J1.go j H ∧ ∃ Nx1 : Hp → Prop, (∀ H', Nx1 H' → ∃ k', k' < k ∧ W1 (j + 1) k' H') ∧ ∀ x H', J1.yld j H x H' → gTg K t1 x (L2.wipe σ2 vs1) H' fun σ3 H5 => L2.wipe σ3 vs1 = L2.wipe σ2 vs1 ∧ tIfs K C c1 σ3 H5 fun b H6 =>
            if b = true then tE K C elt σ3 H6 fun y H7 => ∃ acc, H7 D = some (.lst acc) ∧ acc.length < sizeLine ∧ Nx1 (upd H7 D (.lst (acc ++ [y]))) else Nx1 H6)
        else Nx H3) := by
  have hDH : H D = none := x1.none hD
  let P2 : Addr → Prop := fun a => PN P H a ∧ a ≠ D
  let PF : Addr → Prop := fun a => New H a ∧ a ≠ D
  let Inv : Nat → Hp → Prop := fun i Hc => Ext H1 Hc ∧ ∃ acc ys1 ys2, Hc D = some (.lst acc) ∧ ys = ys1 ++ ys2 ∧ compL2 (stepF2 C ρ vs vs1 t c t1 it1 c1 elt) (xs.drop i) = some ys2 ∧ Reps K Hc P2 acc ys1 ∧
    ∀ (k : Nat) v y, acc[k]? = some v → ys1[k]? = some y → fr elt y = true → Rep K Hc PF v y
  refine ⟨fun i m Hc => m = xs.length - i ∧ i ≤ xs.length ∧ Inv i Hc, ⟨xs.length, by simp, Nat.zero_le _, Ext.new hD, [], [], ys, upd_same, rfl, by simpa using e2, .nil, fun k v y h => by simp at h⟩, ?_⟩
  rintro i m Hc ⟨rfl, hi, x2, acc, ys1, ys2, hacc, hys, hc2, hr, hf⟩
  have srcC : Src K (fun a => PN P H a ∧ H1 a ≠ none) src Hc := fun p hp => (hsrc p hp).there.ext x2
  by_cases hlt : i < xs.length
  · refine .inr ⟨(Y _).go i Hc srcC hlt, Inv (i + 1), fun H' n => ⟨xs.length - (i + 1), by omega, rfl, hlt, n⟩, fun x H' y => ?_⟩
    obtain ⟨x3, d, hd, rd⟩ := (Y _).yld i Hc x H' srcC hlt y
    have hdrop : xs.drop i = d :: xs.drop (i + 1) := by
      obtain ⟨h1, h2⟩ := List.getElem?_eq_some_iff.mp hd
      rw [← h2, List.drop_eq_getElem_cons h1]
    rw [hdrop] at hc2
    simp only [compL2, Option.bind_eq_some_iff] at hc2
    obtain ⟨ysA, hF, ysB, hrest, ho⟩ := hc2
    cases ho
    simp only [stepF2, Option.bind_eq_some_iff] at hF
    obtain ⟨ρ', hb, k, hk, hkk⟩ := hF
    let P3 : Addr → Prop := fun a => (P a ∧ H a ≠ none) ∨ ((PN P H a ∧ H1 a ≠ none) ∨ Hc a = none)
    have hDc : Hc D ≠ none := by rw [hacc]; simp
    have p3 : ∀ a, P3 a → P2 a := fun a h => by
      rcases h with ⟨h1, h2⟩ | ⟨h1, h2⟩ | h1
      · exact ⟨.inl h1, fun e => by rw [e] at h2; exact h2 hDH⟩
      · exact ⟨h1, fun e => by rw [e] at h2; exact h2 hD⟩
      · exact ⟨.inr ((x1.trans x2).none h1), fun e => by rw [e] at h1; exact hDc h1⟩
    have x13 : Ext H H' := x1.trans (x2.trans x3)
    have srT : SR K H' P3 (L2.wipe σ vs) (wipe ρ vs) := ((sr_wipe sr.there vs).ext x13).mono fun a z => .inl z
    have rdT : RepT (isTupT t) K H' P3 x d := rd.mono fun a z => .inr z
    have hlen2 : ∀ us : List V, (setAll (L2.wipe σ vs) t.slots us).length = σ.length := fun us => by rw [setAll_length, wipe_L2, wipe_length]
    refine tg_store srT rdT hb (fun i h => ?_) fun σ' s' hs' => ?_
    · rw [wipe_L2, wipe_length]
      exact hl i (hvs i h)
    · obtain ⟨us, rfl⟩ := hs'
      refine ⟨?_, ?_⟩
      · rw [wipe_L2, wipe_L2]
        exact wipe_setAll σ _ vs us fun i h => hvs i h
      · have skip : ∀ H3, Ext H' H3 → ysA = [] → Inv (i + 1) H3 := fun H3 x4 e => by
          subst e
          refine ⟨x2.trans (x3.trans x4), acc, ys1, ysB, (x3.trans x4).at_ _ _ hacc (fun _ z => by cases z), by simpa using hys, hrest, hr.ext (x3.trans x4), fun k v y h1 h2 h3 => (hf k v y h1 h2 h3).ext (x3.trans x4)⟩
        have inner : ∀ H3 zs, Ext H' H3 → evI C ρ' it1 = some zs → compL (stepF C ρ' vs1 t1 c1 elt) zs = some ysA → tI K C (isTupT t1) it1 (setAll (L2.wipe σ vs) t.slots us) H3 fun J1 H4 => ∃ W1 : Nat → Nat → Hp → Prop, (∃ m, W1 0 m H4) ∧ ∀ j k H, W1 j k H →
            (J1.stop j H ∧ Inv (i + 1) H) ∨ (J1.go j H ∧ ∃ Nx1 : Hp → Prop, (∀ H', Nx1 H' → ∃ k', k' < k ∧ W1 (j + 1) k' H') ∧ ∀ x H', J1.yld j H x H' → gTg K t1 x (L2.wipe (setAll (L2.wipe σ vs) t.slots us) vs1) H' fun σ3 H5 => L2.wipe σ3 vs1 = L2.wipe (setAll (L2.wipe σ vs) t.slots us) vs1 ∧ tIfs K C c1 σ3 H5 fun b H6 =>
              if b = true then tE K C elt σ3 H6 fun y H7 => ∃ acc, H7 D = some (.lst acc) ∧ acc.length < sizeLine ∧ Nx1 (upd H7 D (.lst (acc ++ [y]))) else Nx1 H6) := fun H3 zs x4 hz1 hcA => by
          refine ⟨ρ', P3, zs, s'.ext x4, hz1, fun J1 H4 src1 x5 hsrc1 Y1 hzl _ => ?_⟩
          have hacc3 : H3 D = some (.lst acc) := (x3.trans x4).at_ _ _ hacc (fun _ z => by cases z)
          have hacc4 : H4 D = some (.lst acc) := x5.at_ _ _ hacc3 (fun _ z => by cases z)
          have n3 : ∀ a, P3 a → a ≠ D := fun a h => (p3 a h).2
          have n3' : ∀ a, PN P3 H3 a → a ≠ D := fun a h => by
            rcases h with h | h
            · exact n3 a h
            · intro e; rw [e, hacc3] at h; cases h
          have srE : SR K (erD D H3) P3 (setAll (L2.wipe σ vs) t.slots us) ρ' := ⟨fun i d h => by
            obtain ⟨v, h1, h2⟩ := (s'.ext x4).get i d h
            exact ⟨v, h1, h2.stay' (stay_er hacc3 n3) fun a z => z⟩, fun p hp => by
            obtain ⟨ps, q1, q2⟩ := (s'.ext x4).tk p hp
            refine ⟨ps, ?_, q2⟩
            rw [erD_ne (fun e => by rw [e, hacc3] at q1; cases q1)]
            exact q1⟩
          have hsE : Src K (PN P3 (erD D H3)) src1 (erD D H4) := fun p hp => ((hsrc1 p hp).stay' (stay_er hacc4 n3') fun a z => z).mono fun a z => by
            rcases z with z | z
            · exact .inl z
            · right
              by_cases e : a = D
              · rw [e]; exact erD_at
              · rw [erD_ne e]; exact z
          have x14 : Ext H H3 := x13.trans x4
          refine comp_in (H := erD D H3) (H1 := erD D H4) (Hs := H4) (P := P3) (P2 := P2) (PF := PF) srE (fun i h => by rw [hlen2]; exact hl i (hsub i h)) hvs1 hcA (by
            have q2 := congrArg List.length hys
            simp at q2
            omega) (ext_er (er_ext x5) erD_at) hsE Y1 erD_at erD_at (fun a h _ => p3 a h) (fun a hne hn => ?_) (fun a h => h.2) (fun a h => h.2) (er_ext (Ext.refl H4)) hacc4 (hr.ext (x3.trans (x4.trans x5))) (fun k v y h1 h2 h3 => (hf k v y h1 h2 h3).ext (x3.trans (x4.trans x5))) fun Hd acc' q1 q2 q3 q4 => ?_
          · rw [erD_ne hne] at hn
            exact ⟨⟨.inr (x14.none hn), hne⟩, ⟨x14.none hn, hne⟩⟩
          · refine ⟨(ext_er (x2.trans (x3.trans (x4.trans x5))) hD).trans q1, acc', ys1 ++ ysA, ysB, q2, by rw [hys]; simp, hrest, q3, q4⟩
        cases c with
        | none =>
          cases (show k = true by simpa [evC] using hk.symm)
          simp only [if_true, Option.bind_eq_some_iff] at hkk
          obtain ⟨zs, hz1, hcA⟩ := hkk
          simp only [tIfs, tYes, if_true]
          exact inner H' zs (Ext.refl _) hz1 hcA
        | some ce =>
          simp only [evC, Option.bind_eq_some_iff] at hk
          obtain ⟨dc, hk1, hk2⟩ := hk
          refine ⟨ρ', P3, dc, k, s', hk1, hk2, fun H3 x4 => ?_⟩
          cases k with
          | true =>
            simp only [if_true, Option.bind_eq_some_iff] at hkk ⊢
            obtain ⟨zs, hz1, hcA⟩ := hkk
            exact inner H3 zs x4 hz1 hcA
          | false =>
            simp only [Bool.false_eq_true, if_false] at hkk ⊢
            exact skip H3 x4 (Option.some.inj hkk).symm
  · have e : i = xs.length := by omega
    subst e
    have hy2 : ys2 = [] := by
      rw [List.drop_length] at hc2
      exact (Option.some.inj hc2).symm
    subst hy2
    rw [List.append_nil] at hys
    subst hys
    refine .inl ⟨(Y _).stop _ Hc srcC (Nat.le_refl _), g _ Hc (x1.trans x2) (.lst (.inr hDH) hacc hr) (fun hfr => ?_) (notvar rfl)⟩
    refine .lst hDH hacc ?_
    simp only [fr, Bool.or_eq_true, List.all_eq_true] at hfr
    rcases hfr with h | h
    · exact hr.imm stay_refl (P := P2) (R := P2) h
    · exact reps_of hr.length fun k v y h1 h2 => hf k v y h1 h2 (h y (List.mem_of_getElem? h2))
theorem comp2_lc {K : PySem.W.Frag} {σ : L2.St} {H : Hp} {Q : VK} {A : E} {vs vs1 : List Nat} {t t1 : Tg} {it it1 : It} {c c1 : Option E} (hl : ∀ i ∈ vs, i < σ.length) (hs : ∀ i ∈ t.slots, i ∈ vs) (hs1 : ∀ i ∈ t1.slots, i ∈ vs1) (hsub : ∀ i ∈ vs1, i ∈ vs) (q : tE K C (.comp2 A vs vs1 t it c t1 it1 c1) σ H Q) :
    tLc2 (tI K C (isTupT t) it) (gTg K t) (tIfs K C c) (tI K C (isTupT t1) it1) (gTg K t1) (tIfs K C c1) (tE K C A) vs vs1 σ H Q := by
  obtain ⟨ρ, P, d, sr, ev, g⟩ := q
  simp only [evE, Option.bind_eq_some_iff] at ev
  obtain ⟨xs, e1, ys, e2, e3⟩ := ev
  obtain ⟨hz, rfl⟩ := ite_some e3
  exact ⟨ρ, P, xs, sr, e1, fun J H1 src x1 hsrc Y _ _ D hD => comp2_core sr hl hs hs1 hsub e2 (lineOk_iff.mp hz) g x1 hsrc Y D hD⟩
theorem comp2_parts {R : Rc} (hR : ∀ sc e E, R sc e = some E → SndX T C sc e E) {elt tg iter tg1 iter1 : Expr} {ifs ifs1 : List Expr} {k k1 : Int} {scope : Scope} {pos : Pos} {t t1 : Tg} {own own1 : List (Str × Nat)} {it it1 : It} {c c1 : Option E} {A : E} (ht : trTg T.N tg = some (t, own)) (ht1 : trTg T.N tg1 = some (t1, own1))
    (hb : blkC T.N sc scope (own ++ own1) = true) (ho : (own ++ own1).all (fun p => locB (relS scope sc) p.1 && (isCell scope p.1 || isLocal (relS scope sc) p.1)) = true) (hi : trI T R sc tg iter = some it) (hc : trIf (R (relS scope sc)) ifs = some c) (hi1 : trI T R (relS scope sc) tg1 iter1 = some it1) (hc1 : trIf (R (relS scope sc)) ifs1 = some c1) (he : R (relS scope sc) elt = some A) :
    ∀ X, GX T C sc X → PI X tg iter (tI X.K C (isTupT t) it) ∧ BlkOk X.N X.env.scope scope (own ++ own1) ∧
      (∀ (s : Shared) (H : Hp) (Ca : Addr) (cl : List (Str × Addr)) (fp : List Addr), PG (X.blk s H scope (compEnvC scope cl Ca X.env) fp) tg (gTg X.K t)) ∧
      (∀ (s : Shared) (H : Hp) (Ca : Addr) (cl : List (Str × Addr)) (fp : List Addr), PTs (X.blk s H scope (compEnvC scope cl Ca X.env) fp) ifs (tIfs X.K C c)) ∧
      (∀ (s : Shared) (H : Hp) (Ca : Addr) (cl : List (Str × Addr)) (fp : List Addr), PI (X.blk s H scope (compEnvC scope cl Ca X.env) fp) tg1 iter1 (tI X.K C (isTupT t1) it1)) ∧
      (∀ (s : Shared) (H : Hp) (Ca : Addr) (cl : List (Str × Addr)) (fp : List Addr), PG (X.blk s H scope (compEnvC scope cl Ca X.env) fp) tg1 (gTg X.K t1)) ∧
      (∀ (s : Shared) (H : Hp) (Ca : Addr) (cl : List (Str × Addr)) (fp : List Addr), PTs (X.blk s H scope (compEnvC scope cl Ca X.env) fp) ifs1 (tIfs X.K C c1)) ∧
      (∀ (s : Shared) (H : Hp) (Ca : Addr) (cl : List (Str × Addr)) (fp : List Addr), PE (X.blk s H scope (compEnvC scope cl Ca X.env) fp) elt (tE X.K C A)) ∧ (∀ x, foldedSetIterable iter X.env x = pure x) ∧ (∀ env x, foldedSetIterable iter1 env x = pure x) ∧
      (∀ i ∈ (own ++ own1).map Prod.snd, i < T.N.length) := by
  have si := snd_It (hR sc) hi
  have si1 := snd_It (hR (relS scope sc)) hi1
  have bk := blkOk_by hb
  have oo : ∀ (own' : List (Str × Nat)) (hsub : ∀ p ∈ own', p ∈ own ++ own1) (X : Cx) (G : GX T C sc X) (s : Shared) (H : Hp) (Ca : Addr) (cl : List (Str × Addr)) (fp : List Addr), OwnOk (X.blk s H scope (compEnvC scope cl Ca X.env) fp) own' := fun own' hsub X G s H Ca cl fp p hp => by
    have h1 := List.all_eq_true.mp ho p (hsub p hp)
    simp only [Bool.and_eq_true, Bool.or_eq_true] at h1
    have gb := gx_blk G bk.kind s H Ca cl fp
    refine ⟨by rw [gb.hN]; exact bk.ix p (hsub p hp), by rw [gb.hsc]; exact loc_of h1.1, ?_⟩
    rcases h1.2 with h2 | h2
    · refine .inl ?_
      show (scope.names.lookup p.1 == some .cell) = true
      unfold isCell at h2
      split at h2
      · rename_i e
        rw [e]; rfl
      · cases h2
    · refine .inr ?_
      rw [gb.hsc]
      unfold isLocal at h2
      split at h2
      · assumption
      · cases h2
  have tests : ∀ (X : Cx) (G : GX T C sc X) (ifs : List Expr) (c : Option E), trIf (R (relS scope sc)) ifs = some c → ∀ (s : Shared) (H : Hp) (Ca : Addr) (cl : List (Str × Addr)) (fp : List Addr), PTs (X.blk s H scope (compEnvC scope cl Ca X.env) fp) ifs (tIfs X.K C c) := fun X G ifs c hc s H Ca cl fp => by
    have gb := gx_blk G bk.kind s H Ca cl fp
    cases ifs with
    | nil => cases hc; exact pts_nil
    | cons e r => cases r with
      | nil =>
        obtain ⟨Ec, h1, rfl⟩ := Option.map_eq_some_iff.mp hc
        exact pts_one ((hR _ _ _ h1).t _ gb)
      | cons _ _ => cases hc
  intro X G
  refine ⟨trTg_tup ht ▸ si.run X G, by rw [G.hN, G.hsc]; exact bk, fun s H Ca cl fp => pg_tg (X := X.blk s H scope (compEnvC scope cl Ca X.env) fp) G.calm (by show X.N.Nodup; rw [G.hN]; exact G.nd) (by show trTg X.N tg = _; rw [G.hN]; exact ht) (oo own (fun p h => List.mem_append_left _ h) X G s H Ca cl fp),
    tests X G ifs c hc, fun s H Ca cl fp => trTg_tup ht1 ▸ si1.run _ (gx_blk G bk.kind s H Ca cl fp), fun s H Ca cl fp => pg_tg (X := X.blk s H scope (compEnvC scope cl Ca X.env) fp) G.calm (by show X.N.Nodup; rw [G.hN]; exact G.nd) (by show trTg X.N tg1 = _; rw [G.hN]; exact ht1) (oo own1 (fun p h => List.mem_append_right _ h) X G s H Ca cl fp),
    tests X G ifs1 c1 hc1, fun s H Ca cl fp => (hR _ _ _ he).v _ (gx_blk G bk.kind s H Ca cl fp), fun x => si.nofold _ x, fun env x => si1.nofold env x, fun i hi => ?_⟩
  obtain ⟨p, hp, rfl⟩ := List.mem_map.mp hi
  obtain ⟨h1, _⟩ := List.getElem?_eq_some_iff.mp (bk.ix p hp)
  exact h1
theorem comp2_subs {N : List Str} {tg tg1 : Expr} {t t1 : Tg} {own own1 : List (Str × Nat)} (h : trTg N tg = some (t, own)) (h1 : trTg N tg1 = some (t1, own1)) : (∀ i ∈ t.slots, i ∈ (own ++ own1).map Prod.snd) ∧ (∀ i ∈ t1.slots, i ∈ own1.map Prod.snd) ∧ ∀ i ∈ own1.map Prod.snd, i ∈ (own ++ own1).map Prod.snd := by
  refine ⟨fun i hi => ?_, fun i hi => by rw [trTg_slots h1] at hi; exact hi, fun i hi => ?_⟩
  · rw [trTg_slots h] at hi
    rw [List.map_append]; exact List.mem_append_left _ hi
  · rw [List.map_append]; exact List.mem_append_right _ hi
theorem snd_comp2 {R : Rc} (hR : ∀ sc e E, R sc e = some E → SndX T C sc e E) {elt tg iter tg1 iter1 : Expr} {ifs ifs1 : List Expr} {k k1 : Int} {scope : Scope} {pos : Pos} {t t1 : Tg} {own own1 : List (Str × Nat)} {it it1 : It} {c c1 : Option E} {A : E} (ht : trTg T.N tg = some (t, own)) (ht1 : trTg T.N tg1 = some (t1, own1))
    (hb : blkC T.N sc scope (own ++ own1) = true) (hk : k = 0) (hk1 : k1 = 0) (ho : (own ++ own1).all (fun p => locB (relS scope sc) p.1 && (isCell scope p.1 || isLocal (relS scope sc) p.1)) = true) (hi : trI T R sc tg iter = some it) (hc : trIf (R (relS scope sc)) ifs = some c) (hi1 : trI T R (relS scope sc) tg1 iter1 = some it1) (hc1 : trIf (R (relS scope sc)) ifs1 = some c1) (he : R (relS scope sc) elt = some A) :
    SndX T C sc (.ListComp elt [⟨tg, iter, ifs, k⟩, ⟨tg1, iter1, ifs1, k1⟩] scope pos) (.comp2 A ((own ++ own1).map Prod.snd) (own1.map Prod.snd) t it c t1 it1 c1) := by
  have pv : ∀ X, GX T C sc X → PE X (.ListComp elt [⟨tg, iter, ifs, k⟩, ⟨tg1, iter1, ifs1, k1⟩] scope pos) (tE X.K C (.comp2 A ((own ++ own1).map Prod.snd) (own1.map Prod.snd) t it c t1 it1 c1)) := fun X G => by
    obtain ⟨h1, h2, h3, h4, h5, h6, h7, h8, h9, h10, h11⟩ := comp2_parts (k := k) (k1 := k1) (pos := pos) hR ht ht1 hb ho hi hc hi1 hc1 he X G
    subst hk hk1
    obtain ⟨s1, s2, s3⟩ := comp2_subs ht ht1
    have base := pe_lc2 (X := X) (own := own ++ own1) (vs1 := own1.map Prod.snd) (pos := pos) (ifs := ifs) (ifs1 := ifs1) G.calm (by rw [G.hN]; exact G.nd) h1 h2 s3 h3 h4 h5 h6 h7 h8 h9 h10
    exact ⟨fun pins s σ H Q I q => base.run pins s σ H Q I (comp2_lc (fun i hi => by rw [I.len, G.hN]; exact h11 i hi) s1 s2 s3 q)⟩
  exact ⟨pv, fun X G => pt_plain (pv X G) fun _ => rfl⟩

/-! ### generator expressions -/
theorem gx_gen (G : GX T C sc X) (h1 : T.g = 1) {scope : Scope} (hk : scope.kind = .function) {elt tg iter : Expr} {ifs : List Expr} {gpos : Pos} (s : Shared) (H : Hp) (n : Nat) (cd : Value) (fp : List Addr) (it : Addr) :
    GX T.dec C scope (GenD.gCx X s H scope (GenD.gEnv X n scope cd) fp (GenD.turnA X.A (GenD.gEnv X n scope cd) elt tg iter ifs scope gpos it)) := by
  have rm := G.rm
  rw [h1] at rm
  have r0 : Room 0 (GenD.turnA X.A (GenD.gEnv X n scope cd) elt tg iter ifs scope gpos it) := GenD.turnA_room rm
  refine ⟨G.hN, G.nd, rfl, hk, G.calm, ?_, r0, fun h => ?_, G.bl, fun f x hf => ?_, G.gl⟩
  · have := r0.un
    show (GenD.turnA X.A (GenD.gEnv X n scope cd) elt tg iter ifs scope gpos it).units + 100 < cLine
    omega
  · exact nomatch (show 0 = 1 from h)
  · obtain ⟨k, a, fd, ps, q1, q2, q3, q4, q5⟩ := G.fn f x hf
    rw [h1] at q3
    exact ⟨k, a, fd, ps, q1, q2, GenD.turnA_room q3, q4, q5⟩
theorem genOf_some {x : Str} {args : List Expr} {G : Gn} (h : genOf x args = some G) : args = [.GeneratorExp G.elt [⟨G.tg, G.iter, G.ifs, 0⟩] G.scope G.pos] ∧ isLE G.iter = false ∧ ((x = "any" ∧ G.k = false) ∨ (x = "all" ∧ G.k = true)) := by
  unfold genOf at h
  split at h
  · obtain ⟨hc, h3⟩ := ite_some' h
    simp only [Bool.and_eq_true, decide_eq_true_eq, Bool.not_eq_true'] at hc
    obtain ⟨hk, hl⟩ := hc
    subst hk
    by_cases h1 : x = "any"
    · rw [if_pos (decide_eq_true h1)] at h3
      cases h3
      exact ⟨rfl, hl, .inl ⟨h1, rfl⟩⟩
    · rw [if_neg (by simpa using h1)] at h3
      obtain ⟨h2, h4⟩ := ite_some' h3
      cases h4
      exact ⟨rfl, hl, .inr ⟨of_decide_eq_true h2, rfl⟩⟩
  · cases h
def stepG (C : Oracle) (ρ : EnvD) (vs : List Nat) (tg : Tg) (c : Option E) (elt : E) : D → Option (Option Bool) := fun x => (bindT tg x (wipe ρ vs)).bind fun ρ' =>
      (evC C ρ' c).bind fun b => if b then (evE C ρ' elt).bind fun y => (boolOf y).bind fun t => some (some t) else some none
theorem gen_core {K : PySem.W.Frag} {H H1 : Hp} {P : Addr → Prop} {σ : L2.St} {ρ : EnvD} {vs : List Nat} {t : Tg} {c : Option E} {elt : E} {xs : List D} {Q : VK} {J : L2.It} {src : List (V × D)} {k r : Bool}
    (sr : SR K H P σ ρ) (hl : ∀ i ∈ vs, i < σ.length) (hvs : t.slots = vs) (e2 : genL k (stepG C ρ vs t c elt) xs = some (.bl r)) (g : ∀ H', Ext H H' → Q (.bl r) H')
    (x1 : Ext H H1) (hsrc : Src K (PN P H) src H1) (Y : ∀ P', Yld (isTupT t) K P' J xs (Src K P' src)) :
    ∃ W : Nat → Nat → Hp → Prop, (∃ m, W 0 m H1) ∧ ∀ i m H, W i m H →
      (J.stop i H ∧ Q (.bl k) H) ∨ (J.go i H ∧ ∃ Nx : Hp → Prop, (∀ H', Nx H' → ∃ m', m' < m ∧ W (i + 1) m' H') ∧ ∀ x H', J.yld i H x H' → gTg K t x (L2.wipe σ vs) H' fun σ2 H2 => L2.wipe σ2 vs = L2.wipe σ vs ∧ tIfs K C c σ2 H2 fun b H3 =>
        if b = true then tE K C elt σ2 H3 fun y H4 => ∃ t, y = .bl t ∧ (t = k → Nx H4) ∧ (t ≠ k → Q (.bl t) H4) else Nx H3) := by
  let Inv : Nat → Hp → Prop := fun i Hc => Ext H1 Hc ∧ genL k (stepG C ρ vs t c elt) (xs.drop i) = some (.bl r)
  refine ⟨fun i m Hc => m = xs.length - i ∧ i ≤ xs.length ∧ Inv i Hc, ⟨xs.length, by simp, Nat.zero_le _, Ext.refl _, by simpa using e2⟩, ?_⟩
  rintro i m Hc ⟨rfl, hi, x2, hc2⟩
  have srcC : Src K (fun a => PN P H a ∧ H1 a ≠ none) src Hc := fun p hp => (hsrc p hp).there.ext x2
  by_cases hlt : i < xs.length
  · refine .inr ⟨(Y _).go i Hc srcC hlt, Inv (i + 1), fun H' n => ⟨xs.length - (i + 1), by omega, rfl, hlt, n⟩, fun x H' y => ?_⟩
    obtain ⟨x3, d, hd, rd⟩ := (Y _).yld i Hc x H' srcC hlt y
    have hdrop : xs.drop i = d :: xs.drop (i + 1) := by
      obtain ⟨h1, h2⟩ := List.getElem?_eq_some_iff.mp hd
      rw [← h2, List.drop_eq_getElem_cons h1]
    rw [hdrop] at hc2
    simp only [genL, Option.bind_eq_some_iff] at hc2
    obtain ⟨o, hF, ho⟩ := hc2
    simp only [stepG, Option.bind_eq_some_iff] at hF
    obtain ⟨ρ', hb, b, hk, hkk⟩ := hF
    have x13 : Ext H H' := x1.trans (x2.trans x3)
    have srT : SR K H' Any (L2.wipe σ vs) (wipe ρ vs) := ((sr_wipe sr vs).ext x13).mono fun _ _ => trivial
    refine tg_store srT rd.any hb (fun i h => ?_) fun σ' s' hs' => ?_
    · rw [wipe_L2, wipe_length]
      exact hl i (hvs ▸ h)
    · obtain ⟨us, rfl⟩ := hs'
      refine ⟨?_, ?_⟩
      · rw [wipe_L2, wipe_L2]
        exact wipe_setAll σ _ vs us fun i h => hvs ▸ h
      · have skip : ∀ H3, Ext H' H3 → o = none → Inv (i + 1) H3 := fun H3 x4 e => by
          subst e
          exact ⟨x2.trans (x3.trans x4), ho⟩
        have take : ∀ H3 y, Ext H' H3 → evE C ρ' elt = some y → (boolOf y).bind (fun t => some (some t)) = some o → tE K C elt (setAll (L2.wipe σ vs) t.slots us) H3 fun y H4 => ∃ t, y = .bl t ∧ (t = k → Inv (i + 1) H4) ∧ (t ≠ k → Q (.bl t) H4) := fun H3 y x4 hy hto => by
          refine ⟨ρ', Any, y, s'.ext x4, hy, fun v H4 x5 rv fv _ => ?_⟩
          cases y with
          | bl t =>
            cases hto
            change (if t = k then _ else _) = _ at ho
            refine ⟨t, rv.bl_inv, fun e => ?_, fun e => ?_⟩
            · rw [if_pos e] at ho
              exact ⟨x2.trans (x3.trans (x4.trans x5)), ho⟩
            · rw [if_neg e] at ho
              cases ho
              exact g _ (x13.trans (x4.trans x5))
          | _ => cases hto
        cases c with
        | none =>
          cases (show b = true by simpa [evC] using hk.symm)
          simp only [if_true, Option.bind_eq_some_iff] at hkk
          obtain ⟨y, hy, t, hto, hot⟩ := hkk
          simp only [tIfs, tYes, if_true]
          exact take H' y (Ext.refl _) hy (by rw [hto]; exact hot)
        | some ce =>
          simp only [evC, Option.bind_eq_some_iff] at hk
          obtain ⟨dc, hk1, hk2⟩ := hk
          refine ⟨ρ', Any, dc, b, s', hk1, hk2, fun H3 x4 => ?_⟩
          cases b with
          | true =>
            simp only [if_true, Option.bind_eq_some_iff] at hkk ⊢
            obtain ⟨y, hy, t, hto, hot⟩ := hkk
            exact take H3 y x4 hy (by rw [hto]; exact hot)
          | false =>
            simp only [Bool.false_eq_true, if_false] at hkk ⊢
            exact skip H3 x4 (Option.some.inj hkk).symm
  · have e : i = xs.length := by omega
    subst e
    rw [List.drop_length] at hc2
    have hk : k = r := by cases hc2; rfl
    rw [hk]
    exact .inl ⟨(Y _).stop _ Hc srcC (Nat.le_refl _), g _ (x1.trans x2)⟩
theorem genL_bl {k : Bool} {f : D → Option (Option Bool)} : ∀ {xs : List D} {d : D}, genL k f xs = some d → ∃ r, d = .bl r
  | [], d, h => ⟨k, (Option.some.inj h).symm⟩
  | x :: xs, d, h => by
    simp only [genL, Option.bind_eq_some_iff] at h
    obtain ⟨o, _, h⟩ := h
    cases o with
    | none => exact genL_bl h
    | some t =>
      by_cases e : t = k
      · simp only [if_pos e] at h
        exact genL_bl h
      · simp only [if_neg e] at h
        exact ⟨t, (Option.some.inj h).symm⟩
theorem snd_gen {R Rg : Rc} (hR : ∀ sc e E, R sc e = some E → SndX T C sc e E) (hRg : ∀ sc e E, Rg sc e = some E → T.g = 1 → SndX T.dec C sc e E) {x : Str} {p pos : Pos} {args : List Expr} {G0 : Gn} {E : E} (hgl : glB sc x = true) (hG : genOf x args = some G0) (h : trG T R Rg sc G0 = some E) :
    SndX T C sc (.Call (.Name x p) args [] pos) E := by
  obtain ⟨rfl, hl, hxk⟩ := genOf_some hG
  obtain ⟨k, tg, iter, ifs, scope, elt, gpos⟩ := G0
  simp only [trG, Option.bind_eq_some_iff] at h
  obtain ⟨⟨t, own⟩, htg, h⟩ := h
  obtain ⟨hok, h⟩ := ite_some' h
  simp only [gnOk, Bool.and_eq_true, decide_eq_true_eq, Bool.not_eq_true'] at hok
  obtain ⟨h1, hblk, hco, hdot, hown⟩ := hok
  simp only [Option.bind_eq_some_iff] at h
  obtain ⟨it, hit, c, hc, A, hA, h⟩ := h
  cases h
  have bk := blkOk_by hblk
  have si := snd_It (hR sc) hit
  have pv : ∀ X, GX T C sc X → PE X (.Call (.Name x p) [.GeneratorExp elt [⟨tg, iter, ifs, 0⟩] scope gpos] [] pos) (tE X.K C (.gen k A (own.map Prod.snd) t it c)) := fun X G => by
    obtain ⟨gx, hd, hn⟩ := gl_of G hgl
    obtain ⟨⟨cc, P⟩, hP, TB, hcode⟩ := G.tab h1
    have hmg : X.mg x = none := G.bl x (by rcases hxk with ⟨rfl, _⟩ | ⟨rfl, _⟩ <;> decide)
    have gb := fun s H n cd fp ita => gx_gen G h1 bk.kind (elt := elt) (tg := tg) (iter := iter) (ifs := ifs) (gpos := gpos) s H n cd fp ita
    have base := GenD.pe_gen (X := X) (elt := elt) (tg := tg) (iter := iter) (ifs := ifs) (scope := scope) (p := p) (pos := pos) (gpos := gpos) (own := own) (k := k) (nm := x) (g := gTg X.K t) (tt := tIfs X.K C c) (te := tE X.K C A) (wi := tI X.K C (isTupT t) it) (c := cc) (P := P) (j := T.g)
      hxk gx hmg G.rm G.calm (by rw [G.hN]; exact G.nd) TB hcode hco hdot (trTg_tup htg ▸ si.run X G) (by rw [G.hN, G.hsc]; exact bk)
      (fun s H n cd fp ita => by
        refine pg_tg (X := GenD.gCx X s H scope (GenD.gEnv X n scope cd) fp (GenD.turnA X.A (GenD.gEnv X n scope cd) elt tg iter ifs scope gpos ita)) G.calm (by show X.N.Nodup; rw [G.hN]; exact G.nd) (by show trTg X.N tg = _; rw [G.hN]; exact htg) fun p hp => ?_
        have h2 := List.all_eq_true.mp hown p hp
        simp only [Bool.and_eq_true, Bool.or_eq_true] at h2
        refine ⟨by show X.N[p.2]? = _; rw [G.hN]; exact bk.ix p hp, loc_of h2.1, ?_⟩
        rcases h2.2 with h3 | h3
        · refine .inl ?_
          show (scope.names.lookup p.1 == some .cell) = true
          unfold isCell at h3
          split at h3
          · rename_i e
            rw [e]; rfl
          · cases h3
        · refine .inr ?_
          show scope.names.lookup p.1 = some .local
          unfold isLocal at h3
          split at h3
          · assumption
          · cases h3)
      (fun s H n cd fp ita => by
        cases ifs with
        | nil => cases hc; exact pts_nil
        | cons e r => cases r with
          | nil =>
            obtain ⟨Ec, h2, rfl⟩ := Option.map_eq_some_iff.mp hc
            exact pts_one ((hRg _ _ _ h2 h1).t _ (gb s H n cd fp ita))
          | cons _ _ => cases hc)
      (fun s H n cd fp ita => (hRg _ _ _ hA h1).v _ (gb s H n cd fp ita))
      (fun v => by
        unfold genFold
        cases iter with
        | List _ _ => cases hl
        | _ => exact si.nofold _ v)
    refine ⟨fun pins s σ H Q I q => base.run pins s σ H Q I ?_⟩
    obtain ⟨ρ, Pr, d, sr, ev, g⟩ := q
    simp only [evE, Option.bind_eq_some_iff] at ev
    obtain ⟨xs, e1, e2⟩ := ev
    obtain ⟨r, rfl⟩ := genL_bl e2
    refine ⟨ρ, Pr, xs, sr, e1, fun J H1 src x1 hsrc Y hz _ => ⟨(x1.tk sr.tk) (cc, P) hP, fun H2 hT => ?_⟩⟩
    have x2 : Ext H1 H2 := ext_tabbed ((x1.tk sr.tk) (cc, P) hP) hT
    refine gen_core sr (fun i hi => ?_) (trTg_slots htg) e2 (fun H' x => g _ H' x (.bl r) (fun _ => .bl r) (notvar rfl)) (x1.trans x2) (fun p hp => (hsrc p hp).ext x2) Y
    rw [I.len, G.hN]
    obtain ⟨q, hq, rfl⟩ := List.mem_map.mp hi
    exact (List.getElem?_eq_some_iff.mp (bk.ix q hq)).1
  exact ⟨pv, fun X G => pt_plain (pv X G) fun _ => rfl⟩

/-! ### THE EXPRESSIONS -/
/-! ### dicts -/
theorem isD_of {K : PySem.W.Frag} {H : Hp} {P : Addr → Prop} {v : V} {ks ds : List D} (r : Rep K H P v (.dic false ks ds)) : ∃ a, v = .ref a ∧ IsD H a := by
  obtain ⟨a, vs, rfl, _, ⟨kvs, h1, _⟩, _⟩ := r.mut_inv rfl
  exact ⟨a, rfl, .inl ⟨kvs, .inl h1⟩⟩
theorem dgetD_inv {x y z d : D} (h : dgetD x y z = some d) : ∃ ks vs key, x = .dic false ks vs ∧ kOf y = some key ∧ d = (getK ks vs key).getD z := by
  unfold dgetD at h
  split at h
  · obtain ⟨key, h1, rfl⟩ := Option.map_eq_some_iff.mp h
    exact ⟨_, _, key, rfl, h1, rfl⟩
  · cases h
theorem snd_dnew {pos : Pos} : SndX T C sc (.Dict [] [] pos) .dnew := by
  have pv : ∀ X, GX T C sc X → PE X (.Dict [] [] pos) (tE X.K C .dnew) := fun X G => by
    refine pe_weak pe_dnewK fun σ H Q q => ?_
    obtain ⟨ρ, P, d, sr, ev, g⟩ := q
    simp only [evE] at ev
    cases ev
    exact fun p hp => g _ _ (Ext.new hp) (.dic (.inr hp) ⟨[], upd_same, rfl, rfl⟩ .nil) (fun _ => .dic hp ⟨[], upd_same, rfl, rfl⟩ .nil) (notvar rfl)
  exact ⟨pv, fun X G => pt_plain (pv X G) fun _ => rfl⟩
theorem snd_dsing {pos : Pos} {k a : Expr} {Kk A : E} (hk : SndX T C sc k Kk) (ha : SndX T C sc a A) : SndX T C sc (.Dict [some k] [a] pos) (.dsing Kk A) := by
  have pv : ∀ X, GX T C sc X → PE X (.Dict [some k] [a] pos) (tE X.K C (.dsing Kk A)) := fun X G => by
    refine pe_weak (pe_disp (pps_cons (hk.v X G) (ha.v X G) pps_nil) rfl rfl (by simp) (by simp)) fun σ H Q q => ?_
    obtain ⟨ρ, P, d, sr, ev, g⟩ := q
    simp only [evE, Option.bind_eq_some_iff] at ev
    obtain ⟨dy, e1, dz, e2, e3⟩ := ev
    obtain ⟨key, hkey, rfl⟩ := Option.map_eq_some_iff.mp e3
    intro p hp
    have s0 : SR X.K (upd H p (.dK [])) (fun a => P a ∧ H a ≠ none) σ ρ := sr.there.ext (Ext.new hp)
    refine ⟨ρ, _, dy, s0, e1, fun y H1 x1 r1 _ _ => ⟨ρ, _, dz, s0.ext x1, e2, fun z H2 x2 r2 _ _ => ?_⟩⟩
    have x02 : Ext (upd H p (.dK [])) H2 := x1.trans x2
    have hp2 : H2 p = some (.dK []) := x02.at_ _ _ upd_same (fun _ w => by cases w)
    have hy := r1.key hkey
    subst hy
    refine ⟨hp2, [(key, z)], rfl, by simp, ?_⟩
    have hm : mergeK [] [(key, z)] = [(key, z)] := rfl
    rw [hm]
    have xH : Ext H (upd H2 p (.dK [(key, z)])) := ext_upd ((Ext.new hp).trans x02) hp
    have np : ∀ b, PN (fun a => P a ∧ H a ≠ none) H1 b → b ≠ p := fun b w e => by
      subst e
      rcases w with w | w
      · exact w.2 hp
      · rw [x1.at_ _ _ upd_same (fun _ w => by cases w)] at w; cases w
    have st := stay_upd (o := .dK [(key, z)]) hp2 trivial np
    have old : ∀ b, PN (fun a => P a ∧ H a ≠ none) H1 b → PN P H b := fun b w => by
      rcases w with w | w
      · exact .inl w.1
      · refine .inr ((Ext.new hp).none (x1.none w))
    refine g _ _ xH (.dic (.inr hp) ⟨_, upd_same, rfl, rfl⟩ (.cons (r2.stay' st fun b w => w |> fun w => ?_) .nil)) (fun hf => ?_) (notvar rfl)
    · exact ⟨old b w, np b w⟩
    · have hi : dz.imm = true := by simpa [fr, D.imm1, D.imms] using hf
      exact .dic hp ⟨_, upd_same, rfl, rfl⟩ (.cons (r2.imm st hi) .nil)
  exact ⟨pv, fun X G => pt_plain (pv X G) fun _ => rfl⟩
theorem snd_dget {x m : Str} {p apos cpos : Pos} {k : Expr} {O Kk : E} (hm : m = "get") (ho : SndX T C sc (.Name x p) O) (hk : SndX T C sc k Kk) (hs : isStar k = false) (hl : (apos.endLine == cpos.line) = true) :
    SndX T C sc (.Call (.Attribute (.Name x p) m apos) [k] [] cpos) (.dget O Kk) := by
  subst hm
  have pv : ∀ X, GX T C sc X → PE X (.Call (.Attribute (.Name x p) "get" apos) [k] [] cpos) (tE X.K C (.dget O Kk)) := fun X G => by
    refine pe_weak (pe_dget1 (by have := G.hu; omega) (ho.v X G) (hk.v X G) ⟨rfl, by rw [star_cons hs]; rfl, hl, by rw [star_cons hs]; rfl⟩) fun σ H Q q => ?_
    obtain ⟨ρ, P, d, sr, ev, g⟩ := q
    simp only [evE, Option.bind_eq_some_iff] at ev
    obtain ⟨dx, e1, dy, e2, e3⟩ := ev
    obtain ⟨ks, vs, key, rfl, h1, rfl⟩ := dgetD_inv e3
    refine ⟨ρ, P, _, sr, e1, fun v H1 x1 r1 _ _ => ?_⟩
    obtain ⟨a, rfl, hD⟩ := isD_of r1
    refine ⟨a, rfl, hD, ρ, P, dy, sr.ext x1, e2, fun y H2 x2 r2 _ _ => ?_⟩
    obtain ⟨b, o, eb, g1, g2⟩ := dic_rep (key := key) (r1.ext x2)
    cases eb
    have hy := r2.key h1
    subst hy
    refine ⟨o, g1, g.old (fun z => z) (x1.trans x2) ?_⟩
    cases hg : getK ks vs key with
    | none => rw [hg] at g2; rw [g2]; exact .non
    | some d => rw [hg] at g2; obtain ⟨v, rfl, rv⟩ := g2; exact rv
  exact ⟨pv, fun X G => pt_plain (pv X G) fun _ => rfl⟩
theorem snd_dgetx {x m : Str} {p apos cpos : Pos} {k f : Expr} {O Kk Fx : E} (hm : m = "get") (ho : SndX T C sc (.Name x p) O) (hk : SndX T C sc k Kk) (hf : SndX T C sc f Fx) (hs : isStar k = false) (hs2 : isStar f = false) (hl : (apos.endLine == cpos.line) = true) :
    SndX T C sc (.Call (.Attribute (.Name x p) m apos) [k, f] [] cpos) (.dgetx O Kk Fx) := by
  subst hm
  have pv : ∀ X, GX T C sc X → PE X (.Call (.Attribute (.Name x p) "get" apos) [k, f] [] cpos) (tE X.K C (.dgetx O Kk Fx)) := fun X G => by
    refine pe_weak (pe_dget2 (by have := G.hu; omega) (ho.v X G) (hk.v X G) (hf.v X G) ⟨rfl, by rw [star_cons hs, star_cons hs2]; rfl, hl, by rw [star_cons hs, star_cons hs2]; rfl⟩) fun σ H Q q => ?_
    obtain ⟨ρ, P, d, sr, ev, g⟩ := q
    simp only [evE, Option.bind_eq_some_iff] at ev
    obtain ⟨dx, e1, dy, e2, dz, e4, e3⟩ := ev
    obtain ⟨ks, vs, key, rfl, h1, rfl⟩ := dgetD_inv e3
    refine ⟨ρ, P, _, sr, e1, fun v H1 x1 r1 _ _ => ?_⟩
    obtain ⟨a, rfl, hD⟩ := isD_of r1
    refine ⟨a, rfl, hD, ρ, P, dy, sr.ext x1, e2, fun y H2 x2 r2 _ _ => ⟨ρ, P, dz, sr.ext (x1.trans x2), e4, fun w H3 x3 r3 _ _ => ?_⟩⟩
    obtain ⟨b, o, eb, g1, g2⟩ := dic_rep (key := key) (r1.ext (x2.trans x3))
    cases eb
    have hy := r2.key h1
    subst hy
    refine ⟨o, g1, g.old (fun z => z) (x1.trans (x2.trans x3)) ?_⟩
    cases hg : getK ks vs key with
    | none => rw [hg] at g2; rw [g2]; exact r3.mono fun _ z => pn_step (x1.trans x2) z
    | some d => rw [hg] at g2; obtain ⟨v, rfl, rv⟩ := g2; exact rv
  exact ⟨pv, fun X G => pt_plain (pv X G) fun _ => rfl⟩
theorem snd_step {R Rg : Rc} (hR : ∀ sc e E, R sc e = some E → SndX T C sc e E) (hRg : ∀ sc e E, Rg sc e = some E → T.g = 1 → SndX T.dec C sc e E) : ∀ {e : Expr} {E : E}, trStep T R Rg sc e = some E → SndX T C sc e E := by
  intro e E h
  cases e with
  | Constant c k pos =>
    obtain ⟨d, h1, rfl⟩ := Option.map_eq_some_iff.mp h
    exact snd_const h1
  | Name x pos =>
    simp only [trStep] at h
    split at h
    · rename_i i h1
      cases h
      exact snd_name h1
    · obtain ⟨hg, h⟩ := ite_some' h
      obtain ⟨d, h1, rfl⟩ := Option.map_eq_some_iff.mp h
      exact snd_glob hg h1
  | BinOp a op b pos =>
    simp only [trStep, Option.bind_eq_some_iff] at h
    obtain ⟨A, h1, B, h2, h3⟩ := h
    cases h3
    exact snd_bin (hR _ _ _ h1) (hR _ _ _ h2)
  | UnaryOp op a pos =>
    cases op with
    | USub =>
      obtain ⟨A, h1, rfl⟩ := Option.map_eq_some_iff.mp h
      exact snd_neg (hR _ _ _ h1)
    | Not =>
      obtain ⟨A, h1, rfl⟩ := Option.map_eq_some_iff.mp h
      exact snd_not (hR _ _ _ h1)
    | _ => cases h
  | BoolOp op es pos =>
    simp only [trStep] at h
    split at h
    · rename_i a b r
      have := fun X G => snd_bool (pos := pos) (hR sc) h X G
      exact ⟨fun X G => (this X G).1, fun X G => (this X G).2.pt⟩
    · cases h
  | Compare a ops bs pos =>
    simp only [trStep] at h
    split at h
    · rename_i op b
      by_cases hm : behindInMarks op b = true
      · rw [if_pos hm] at h; cases h
      · rw [if_neg hm] at h
        simp only [Option.bind_eq_some_iff] at h
        obtain ⟨A, h1, B, h2, h3⟩ := h
        cases h3
        exact snd_cmp (by simpa using hm) (hR _ _ _ h1) (hR _ _ _ h2)
    · rename_i op op' b c
      by_cases hm : lastMarks [op, op'] [b, c] = true
      · rw [if_pos hm] at h; cases h
      · rw [if_neg hm] at h
        simp only [Option.bind_eq_some_iff] at h
        obtain ⟨A, h1, B, h2, D', h3, h4⟩ := h
        cases h4
        exact snd_chain (by simpa using hm) (hR _ _ _ h1) (hR _ _ _ h2) (hR _ _ _ h3)
    · rename_i op op' op2 b c d
      by_cases hm : lastMarks [op, op', op2] [b, c, d] = true
      · rw [if_pos hm] at h; cases h
      · rw [if_neg hm] at h
        simp only [Option.bind_eq_some_iff] at h
        obtain ⟨A, h1, B, h2, D', h3, F', h4, h5⟩ := h
        cases h5
        exact snd_chain3 (by simpa using hm) (hR _ _ _ h1) (hR _ _ _ h2) (hR _ _ _ h3) (hR _ _ _ h4)
    · cases h
  | IfExp c a b pos =>
    simp only [trStep, Option.bind_eq_some_iff] at h
    obtain ⟨D', h1, A, h2, B, h3, h4⟩ := h
    cases h4
    exact snd_ite (hR _ _ _ h1) (hR _ _ _ h2) (hR _ _ _ h3)
  | Tuple es k pos =>
    simp only [trStep] at h
    by_cases hs : es.any isStar = true
    · rw [if_pos hs] at h; cases h
    · rw [if_neg hs] at h
      obtain ⟨Es, h1, rfl⟩ := Option.map_eq_some_iff.mp h
      exact snd_tup (hR sc) h1 (by simpa using hs)
  | List es pos =>
    simp only [trStep] at h
    by_cases hs : es.any isStar = true
    · rw [if_pos hs] at h; cases h
    · rw [if_neg hs] at h
      obtain ⟨Es, h1, rfl⟩ := Option.map_eq_some_iff.mp h
      exact snd_lst (hR sc) h1 (by simpa using hs)
  | Subscript a b pos =>
    simp only [trStep] at h
    split at h
    · rename_i lo hi p
      simp only [Option.bind_eq_some_iff] at h
      obtain ⟨A, h1, L, h2, U, h3, h4⟩ := h
      cases h4
      exact snd_sl (hR sc) (hR _ _ _ h1) h2 h3
    · obtain ⟨A, h1, rfl⟩ := Option.map_eq_some_iff.mp h
      exact snd_rev (hR _ _ _ h1)
    · obtain ⟨hk, h⟩ := ite_some' h
      obtain ⟨A, h1, rfl⟩ := Option.map_eq_some_iff.mp h
      exact snd_sls (of_decide_eq_true hk) (hR _ _ _ h1)
    · by_cases hs : isSlice b = true
      · rw [if_pos hs] at h; cases h
      · rw [if_neg hs] at h
        simp only [Option.bind_eq_some_iff] at h
        obtain ⟨A, h1, B, h2, h3⟩ := h
        cases h3
        exact snd_ix (by simpa using hs) (hR _ _ _ h1) (hR _ _ _ h2)
  | Call f args kws pos =>
    simp only [trStep] at h
    split at h
    · rename_i x p
      by_cases hg : (!glB sc x || args.any isStar) = true
      · rw [if_pos hg] at h; cases h
      · rw [if_neg hg] at h
        simp only [Bool.or_eq_true, Bool.not_eq_true', not_or, Bool.not_eq_true, Bool.not_eq_false] at hg
        split at h
        · rename_i i hi
          obtain ⟨Es, h1, rfl⟩ := Option.map_eq_some_iff.mp h
          exact snd_call (hR sc) hg.1 hi h1 hg.2
        · by_cases hx : x = "isinstance"
          · rw [if_pos (decide_eq_true hx)] at h
            split at h
            · rename_i a t p2
              by_cases ht : (!glB sc t || (ixOf T.fns t).isSome) = true
              · rw [if_pos ht] at h; cases h
              · rw [if_neg ht] at h
                simp only [Bool.or_eq_true, Bool.not_eq_true', not_or, Bool.not_eq_true, Bool.not_eq_false] at ht
                simp only [Option.bind_eq_some_iff] at h
                obtain ⟨ty, h1, h2⟩ := h
                obtain ⟨A, h3, rfl⟩ := Option.map_eq_some_iff.mp h2
                have hst : isStar a = false := by
                  have := hg.2
                  simp only [List.any_cons, Bool.or_eq_false_iff] at this
                  exact this.1
                exact snd_isin hx hg.1 ht.1 h1 (hR _ _ _ h3) hst
            · cases h
          · rw [if_neg (by simpa using hx)] at h
            split at h
            · rename_i rs hrg
              obtain ⟨Es, h1, rfl⟩ := Option.map_eq_some_iff.mp h
              exact snd_rg (hR sc) hg.1 hrg h1
            split at h
            · rename_i G0 hG0
              exact snd_gen hR hRg hg.1 hG0 h
            split at h
            · rename_i q hq
              obtain ⟨A, h1, rfl⟩ := Option.map_eq_some_iff.mp h
              exact snd_sset hg.1 hq (hR sc _ A h1)
            split at h
            · rename_i q hq
              obtain ⟨A, h1, rfl⟩ := Option.map_eq_some_iff.mp h
              obtain ⟨rfl, y, p2, apos, cpos, rfl, hl, rfl⟩ := siOf_some hq
              exact snd_sit hg.1 hl (hR sc _ A h1)
            simp only [Option.bind_eq_some_iff] at h
            obtain ⟨f, h1, h2⟩ := h
            by_cases he : args.isEmpty = true
            · rw [if_pos he] at h2; cases h2
            · rw [if_neg he] at h2
              obtain ⟨Es, h3, rfl⟩ := Option.map_eq_some_iff.mp h2
              exact snd_bf (hR sc) hg.1 h1 (by simpa using he) h3 hg.2
    · rename_i x p m apos
      by_cases hget : (!decide (m = "get")) = true
      · rw [if_pos hget] at h
        split at h
        · rename_i a
          obtain ⟨hc, h⟩ := ite_some' h
          simp only [Bool.and_eq_true, Bool.not_eq_true'] at hc
          simp only [Option.bind_eq_some_iff] at h
          obtain ⟨f, h1, O, h2, A, h3, h4⟩ := h
          cases h4
          exact snd_mth h1 (hR _ _ _ h2) (hR _ _ _ h3) rfl hc.1 hc.2
        · cases h
      rw [if_neg hget] at h
      obtain ⟨hc, h⟩ := ite_some' h
      simp only [Bool.and_eq_true, decide_eq_true_eq, Bool.not_eq_true'] at hc
      obtain ⟨⟨⟨hm, hsl⟩, hst⟩, hl⟩ := hc
      split at h
      · rename_i k
        simp only [Option.bind_eq_some_iff] at h
        obtain ⟨O, h1, Kk, h2, h3⟩ := h
        cases h3
        exact snd_dget hm (hR _ _ _ h1) (hR _ _ _ h2) (by simpa using hst) hl
      · rename_i k f
        simp only [Option.bind_eq_some_iff] at h
        obtain ⟨O, h1, Kk, h2, Fx, h4, h3⟩ := h
        cases h3
        simp only [List.any_cons, List.any_nil, Bool.or_false, Bool.or_eq_false_iff] at hst
        exact snd_dgetx hm (hR _ _ _ h1) (hR _ _ _ h2) (hR _ _ _ h4) hst.1 hst.2 hl
      · cases h
    · rename_i o m apos _
      split at h
      · rename_i a
        obtain ⟨hc, h⟩ := ite_some' h
        simp only [Bool.and_eq_true, Bool.not_eq_true'] at hc
        simp only [Option.bind_eq_some_iff] at h
        obtain ⟨f, h1, O, h2, A, h3, h4⟩ := h
        cases h4
        exact snd_mth h1 (hR _ _ _ h2) (hR _ _ _ h3) hc.1.1 hc.1.2 hc.2
      · cases h
    · cases h
  | Dict keys values pos =>
    simp only [trStep] at h
    split at h
    · cases h
      exact snd_dnew
    · simp only [Option.bind_eq_some_iff] at h
      obtain ⟨Kk, h1, A, h2, h3⟩ := h
      cases h3
      exact snd_dsing (hR _ _ _ h1) (hR _ _ _ h2)
    · cases h
  | ListComp elt gens scope pos =>
    simp only [trStep] at h
    split at h
    · rename_i tg iter ifs k
      simp only [Option.bind_eq_some_iff] at h
      obtain ⟨z, h1, h2⟩ := h
      obtain ⟨hc, h2⟩ := ite_some' h2
      simp only [Bool.and_eq_true, decide_eq_true_eq] at hc
      simp only [Option.bind_eq_some_iff] at h2
      obtain ⟨it, h3, c, h4, A, h5, h6⟩ := h2
      cases h6
      obtain ⟨t, own⟩ := z
      exact snd_comp hR h1 hc.1.1 hc.1.2 (by simpa using hc.2) h3 h4 h5
    · rename_i tg iter ifs k tg1 iter1 ifs1 k1
      simp only [Option.bind_eq_some_iff] at h
      obtain ⟨z, h1, z1, h1', h2⟩ := h
      obtain ⟨hc, h2⟩ := ite_some' h2
      rw [Bool.and_eq_true, Bool.and_eq_true, Bool.and_eq_true, decide_eq_true_eq, decide_eq_true_eq] at hc
      simp only [Option.bind_eq_some_iff] at h2
      obtain ⟨it, h3, c, h4, it1, h5, c1, h6, A, h7, h8⟩ := h2
      cases h8
      obtain ⟨t, own⟩ := z
      obtain ⟨t1, own1⟩ := z1
      exact snd_comp2 hR h1 h1' hc.1.1.1 hc.1.1.2 hc.1.2 hc.2 h3 h4 h5 h6 h7
    · cases h
  | _ => cases h
end
theorem snd_tr0 {C : Oracle} : ∀ (n : Nat) (T : TC) (sc : Scope) (e : Expr) (E : E), tr T n sc e = some E → SndX T C sc e E
  | 0, _, _, _, _, h => by cases h
  | n + 1, T, sc, e, E, h => snd_step (snd_tr0 n T) (fun sc e E h1 h2 => by
      rw [if_pos h2] at h1
      exact snd_tr0 n T.dec sc e E h1) h
theorem snd_tr {C : Oracle} {T : TC} (n : Nat) (sc : Scope) (e : Expr) (E : E) (h : tr T n sc e = some E) : SndX T C sc e E := snd_tr0 n T sc e E h
end Ev
set_option maxHeartbeats 4000000
namespace Ev
open PySem PySem.Spec PyProof.Rows L2
variable [Tabs]

/-! ### which slots are read -/
mutual
def E.uses (i : Nat) : E → Bool
  | .var j => i == j
  | .cst _ => false
  | .bin _ a b => a.uses i || b.uses i
  | .neg a => a.uses i
  | .rev a => a.uses i
  | .rg _ es => usesL i es
  | .not a => a.uses i
  | .and a b => a.uses i || b.uses i
  | .or a b => a.uses i || b.uses i
  | .cmp _ a b => a.uses i || b.uses i
  | .chain _ _ a b c => a.uses i || (b.uses i || c.uses i)
  | .ite c a b => c.uses i || (a.uses i || b.uses i)
  | .tup es => usesL i es
  | .lst es => usesL i es
  | .ix a b => a.uses i || b.uses i
  | .sl a lo hi => a.uses i || (usesO i lo || usesO i hi)
  | .bf _ es => usesL i es
  | .isin a _ => a.uses i
  | .sset _ a => a.uses i
  | .dnew => false
  | .dsing k x => k.uses i || x.uses i
  | .dget o k => o.uses i || k.uses i
  | .dgetx o k x => o.uses i || (k.uses i || x.uses i)
  | .call _ es => usesL i es
  | .op _ es => usesL i es
  | .comp elt _ _ it c => it.uses i || (elt.uses i || usesO i c)
  | .gen _ elt _ _ it c => it.uses i || (elt.uses i || usesO i c)
  | .chain3 _ _ _ a b c d => a.uses i || (b.uses i || (c.uses i || d.uses i))
  | .comp2 elt _ _ _ it c _ it1 c1 => it.uses i || (elt.uses i || (usesO i c || (it1.uses i || usesO i c1)))
def It.uses (i : Nat) : It → Bool
  | .seq a => a.uses i
  | .rng es => usesL i es
  | .enm a => a.uses i
  | .zip a b => a.uses i || b.uses i
  | .rv a => a.uses i
  | .rng3 a b c => a.uses i || (b.uses i || c.uses i)
def usesO (i : Nat) : Option E → Bool
  | none => false
  | some e => e.uses i
def usesL (i : Nat) : List E → Bool
  | [] => false
  | e :: es => e.uses i || usesL i es
end
/-- two frames that agree where it is read -/
structure Agree (U : Nat → Bool) (ρ ρ' : EnvD) : Prop where
  len : ρ.length = ρ'.length
  get : ∀ i, U i = true → ρ[i]? = ρ'[i]?
theorem Agree.sub {U U' : Nat → Bool} {ρ ρ' : EnvD} (a : Agree U ρ ρ') (h : ∀ i, U' i = true → U i = true) : Agree U' ρ ρ' := ⟨a.len, fun i z => a.get i (h i z)⟩
theorem Agree.wipe {U : Nat → Bool} {ρ ρ' : EnvD} (a : Agree U ρ ρ') (vs : List Nat) : Agree U (wipe ρ vs) (wipe ρ' vs) :=
  ⟨by rw [wipe_length, wipe_length, a.len], fun i z => by rw [wipe_get, wipe_get, a.len, a.get i z]⟩
theorem Agree.set {U : Nat → Bool} {ρ ρ' : EnvD} (a : Agree U ρ ρ') (j : Nat) (x : Option D) : Agree U (ρ.set j x) (ρ'.set j x) :=
  ⟨by simp [a.len], fun i z => by
    by_cases e : j = i
    · subst e
      by_cases hl : j < ρ.length
      · rw [List.getElem?_set_self hl, List.getElem?_set_self (by rw [← a.len]; exact hl)]
      · rw [List.getElem?_eq_none (by simpa using hl), List.getElem?_eq_none (by simpa [← a.len] using hl)]
    · rw [List.getElem?_set_ne e, List.getElem?_set_ne e, a.get i z]⟩
theorem Agree.setAll {U : Nat → Bool} : ∀ (is : List Nat) (ds : List D) {ρ ρ' : EnvD}, Agree U ρ ρ' → Agree U (setAll ρ is ds) (setAll ρ' is ds)
  | [], ds, _, _, a => by simpa [Ev.setAll] using a
  | i :: is, [], _, _, a => by simpa [Ev.setAll] using a
  | i :: is, d :: ds, _, _, a => by simp only [Ev.setAll]; exact Agree.setAll is ds (a.set i _)
theorem Agree.bind {U : Nat → Bool} {t : Tg} {d : D} {ρ ρ' : EnvD} (a : Agree U ρ ρ') : (bindT t d ρ = none ∧ bindT t d ρ' = none) ∨ ∃ ρ1 ρ2, bindT t d ρ = some ρ1 ∧ bindT t d ρ' = some ρ2 ∧ Agree U ρ1 ρ2 := by
  cases t with
  | nm i => exact .inr ⟨_, _, rfl, rfl, a.set i _⟩
  | tup is =>
    cases d with
    | tup ds =>
      simp only [bindT]
      by_cases hl : is.length = ds.length
      · rw [if_pos hl, if_pos hl]
        exact .inr ⟨_, _, rfl, rfl, by rw [setAll_fold, setAll_fold]; exact a.setAll _ _⟩
      · rw [if_neg hl, if_neg hl]; exact .inl ⟨rfl, rfl⟩
    | _ => exact .inl ⟨rfl, rfl⟩
  | pr i is =>
    rcases bindT_pr_cases (i := i) (is := is) (d := d) with h | ⟨d1, ds, rfl, hl⟩
    · exact .inl ⟨h ρ, h ρ'⟩
    · exact .inr ⟨_, _, bindT_pr hl ρ, bindT_pr hl ρ', (a.set i _).setAll _ _⟩
theorem or_l {a b : Bool} (h : a = true) : (a || b) = true := by rw [h]; rfl
theorem or_r {a b : Bool} (h : b = true) : (a || b) = true := by rw [h]; simp
theorem compL_congr {f g : D → Option (Option D)} (h : ∀ x, f x = g x) (xs : List D) : compL f xs = compL g xs := by
  have : f = g := funext h
  rw [this]
theorem compL2_congr {f g : D → Option (List D)} (h : ∀ x, f x = g x) (xs : List D) : compL2 f xs = compL2 g xs := by
  have : f = g := funext h
  rw [this]
theorem genL_congr {k : Bool} {f g : D → Option (Option Bool)} (h : ∀ x, f x = g x) (xs : List D) : genL k f xs = genL k g xs := by
  have : f = g := funext h
  rw [this]
mutual
theorem evE_congr (C : Oracle) : ∀ (e : E) {ρ ρ' : EnvD}, Agree (fun i => e.uses i) ρ ρ' → evE C ρ e = evE C ρ' e
  | .var j, ρ, ρ', a => by simp only [evE]; rw [a.get j (by simp [E.uses])]
  | .cst _, _, _, _ => by simp only [evE]
  | .bin op x y, _, _, a => by
    simp only [evE]
    rw [evE_congr C x (a.sub fun i h => by simp only [E.uses]; exact or_l h), evE_congr C y (a.sub fun i h => by simp only [E.uses]; exact or_r h)]
  | .neg x, _, _, a => by simp only [evE]; rw [evE_congr C x (a.sub fun i h => by simp only [E.uses]; exact h)]
  | .rg tp es, _, _, a => by simp only [evE]; rw [evEs_congr C es (a.sub fun i h => by simp only [E.uses]; exact h)]
  | .rev x, _, _, a => by simp only [evE]; rw [evE_congr C x (a.sub fun i h => by simp only [E.uses]; exact h)]
  | .not x, _, _, a => by simp only [evE]; rw [evE_congr C x (a.sub fun i h => by simp only [E.uses]; exact h)]
  | .and x y, _, _, a => by
    simp only [evE]
    rw [evE_congr C x (a.sub fun i h => by simp only [E.uses]; exact or_l h), evE_congr C y (a.sub fun i h => by simp only [E.uses]; exact or_r h)]
  | .or x y, _, _, a => by
    simp only [evE]
    rw [evE_congr C x (a.sub fun i h => by simp only [E.uses]; exact or_l h), evE_congr C y (a.sub fun i h => by simp only [E.uses]; exact or_r h)]
  | .cmp op x y, _, _, a => by
    simp only [evE]
    rw [evE_congr C x (a.sub fun i h => by simp only [E.uses]; exact or_l h), evE_congr C y (a.sub fun i h => by simp only [E.uses]; exact or_r h)]
  | .chain op op' x y z, _, _, a => by
    simp only [evE]
    rw [evE_congr C x (a.sub fun i h => by simp only [E.uses]; exact or_l h), evE_congr C y (a.sub fun i h => by simp only [E.uses]; exact or_r (or_l h)), evE_congr C z (a.sub fun i h => by simp only [E.uses]; exact or_r (or_r h))]
  | .ite x y z, _, _, a => by
    simp only [evE]
    rw [evE_congr C x (a.sub fun i h => by simp only [E.uses]; exact or_l h), evE_congr C y (a.sub fun i h => by simp only [E.uses]; exact or_r (or_l h)), evE_congr C z (a.sub fun i h => by simp only [E.uses]; exact or_r (or_r h))]
  | .tup es, _, _, a => by simp only [evE]; rw [evEs_congr C es (a.sub fun i h => by simp only [E.uses]; exact h)]
  | .lst es, _, _, a => by simp only [evE]; rw [evEs_congr C es (a.sub fun i h => by simp only [E.uses]; exact h)]
  | .ix x y, _, _, a => by
    simp only [evE]
    rw [evE_congr C x (a.sub fun i h => by simp only [E.uses]; exact or_l h), evE_congr C y (a.sub fun i h => by simp only [E.uses]; exact or_r h)]
  | .sl x lo hi, _, _, a => by
    simp only [evE]
    rw [evE_congr C x (a.sub fun i h => by simp only [E.uses]; exact or_l h), evO_congr C lo (a.sub fun i h => by simp only [E.uses]; exact or_r (or_l h)), evO_congr C hi (a.sub fun i h => by simp only [E.uses]; exact or_r (or_r h))]
  | .bf _ es, _, _, a => by simp only [evE]; rw [evEs_congr C es (a.sub fun i h => by simp only [E.uses]; exact h)]
  | .isin x _, _, _, a => by simp only [evE]; rw [evE_congr C x (a.sub fun i h => by simp only [E.uses]; exact h)]
  | .sset _ x, _, _, a => by simp only [evE]; rw [evE_congr C x (a.sub fun i h => by simp only [E.uses]; exact h)]
  | .dnew, _, _, _ => by simp only [evE]
  | .dsing x y, _, _, a => by
    simp only [evE]
    rw [evE_congr C x (a.sub fun i h => by simp only [E.uses]; exact or_l h), evE_congr C y (a.sub fun i h => by simp only [E.uses]; exact or_r h)]
  | .dget x y, _, _, a => by
    simp only [evE]
    rw [evE_congr C x (a.sub fun i h => by simp only [E.uses]; exact or_l h), evE_congr C y (a.sub fun i h => by simp only [E.uses]; exact or_r h)]
  | .dgetx x y z, _, _, a => by
    simp only [evE]
    rw [evE_congr C x (a.sub fun i h => by simp only [E.uses]; exact or_l h), evE_congr C y (a.sub fun i h => by simp only [E.uses]; exact or_r (or_l h)), evE_congr C z (a.sub fun i h => by simp only [E.uses]; exact or_r (or_r h))]
  | .call _ es, _, _, a => by simp only [evE]; rw [evEs_congr C es (a.sub fun i h => by simp only [E.uses]; exact h)]
  | .op _ es, _, _, a => by simp only [evE]; rw [evEs_congr C es (a.sub fun i h => by simp only [E.uses]; exact h)]
  | .comp elt vs tg it c, ρ, ρ', a => by
    simp only [evE]
    rw [evI_congr C it (a.sub fun i h => by simp only [E.uses]; exact or_l h)]
    congr 1
    funext xs
    rw [compL_congr fun x => ?_]
    rcases (a.wipe vs).bind (t := tg) (d := x) with ⟨h1, h2⟩ | ⟨ρ1, ρ2, h1, h2, a2⟩
    · rw [h1, h2]
    · rw [h1, h2]
      simp only [Option.bind_some]
      rw [evC_congr C c (a2.sub fun i h => by simp only [E.uses]; exact or_r (or_r h)), evE_congr C elt (a2.sub fun i h => by simp only [E.uses]; exact or_r (or_l h))]
  | .chain3 op op' op2 x y z w, _, _, a => by
    simp only [evE]
    rw [evE_congr C x (a.sub fun i h => by simp only [E.uses]; exact or_l h), evE_congr C y (a.sub fun i h => by simp only [E.uses]; exact or_r (or_l h)), evE_congr C z (a.sub fun i h => by simp only [E.uses]; exact or_r (or_r (or_l h))), evE_congr C w (a.sub fun i h => by simp only [E.uses]; exact or_r (or_r (or_r h)))]
  | .comp2 elt vs vs1 tg it c tg1 it1 c1, ρ, ρ', a => by
    simp only [evE]
    rw [evI_congr C it (a.sub fun i h => by simp only [E.uses]; exact or_l h)]
    congr 1
    funext xs
    rw [compL2_congr fun x => ?_]
    rcases (a.wipe vs).bind (t := tg) (d := x) with ⟨h1, h2⟩ | ⟨ρ1, ρ2, h1, h2, a2⟩
    · rw [h1, h2]
    · rw [h1, h2]
      simp only [Option.bind_some]
      rw [evC_congr C c (a2.sub fun i h => by simp only [E.uses]; exact or_r (or_r (or_l h))), evI_congr C it1 (a2.sub fun i h => by simp only [E.uses]; exact or_r (or_r (or_r (or_l h))))]
      congr 1
      funext k
      by_cases hk : k = true
      · rw [if_pos hk, if_pos hk]
        congr 1
        funext zs
        rw [compL_congr fun z => ?_]
        rcases (a2.wipe vs1).bind (t := tg1) (d := z) with ⟨h3, h4⟩ | ⟨ρ3, ρ4, h3, h4, a3⟩
        · rw [h3, h4]
        · rw [h3, h4]
          simp only [Option.bind_some]
          rw [evC_congr C c1 (a3.sub fun i h => by simp only [E.uses]; exact or_r (or_r (or_r (or_r h)))), evE_congr C elt (a3.sub fun i h => by simp only [E.uses]; exact or_r (or_l h))]
      · rw [if_neg hk, if_neg hk]
  | .gen k elt vs tg it c, ρ, ρ', a => by
    simp only [evE]
    rw [evI_congr C it (a.sub fun i h => by simp only [E.uses]; exact or_l h)]
    congr 1
    funext xs
    rw [genL_congr fun x => ?_]
    rcases (a.wipe vs).bind (t := tg) (d := x) with ⟨h1, h2⟩ | ⟨ρ1, ρ2, h1, h2, a2⟩
    · rw [h1, h2]
    · rw [h1, h2]
      simp only [Option.bind_some]
      rw [evC_congr C c (a2.sub fun i h => by simp only [E.uses]; exact or_r (or_r h)), evE_congr C elt (a2.sub fun i h => by simp only [E.uses]; exact or_r (or_l h))]
theorem evI_congr (C : Oracle) : ∀ (it : It) {ρ ρ' : EnvD}, Agree (fun i => it.uses i) ρ ρ' → evI C ρ it = evI C ρ' it
  | .seq x, _, _, a => by simp only [evI]; rw [evE_congr C x (a.sub fun i h => by simp only [It.uses]; exact h)]
  | .rng es, _, _, a => by simp only [evI]; rw [evEs_congr C es (a.sub fun i h => by simp only [It.uses]; exact h)]
  | .enm x, _, _, a => by simp only [evI]; rw [evE_congr C x (a.sub fun i h => by simp only [It.uses]; exact h)]
  | .zip x y, _, _, a => by
    simp only [evI]
    rw [evE_congr C x (a.sub fun i h => by simp only [It.uses]; exact or_l h), evE_congr C y (a.sub fun i h => by simp only [It.uses]; exact or_r h)]
  | .rv x, _, _, a => by simp only [evI]; rw [evE_congr C x (a.sub fun i h => by simp only [It.uses]; exact h)]
  | .rng3 x y z, _, _, a => by
    simp only [evI]
    rw [evE_congr C x (a.sub fun i h => by simp only [It.uses]; exact or_l h), evE_congr C y (a.sub fun i h => by simp only [It.uses]; exact or_r (or_l h)), evE_congr C z (a.sub fun i h => by simp only [It.uses]; exact or_r (or_r h))]
theorem evC_congr (C : Oracle) : ∀ (o : Option E) {ρ ρ' : EnvD}, Agree (fun i => usesO i o) ρ ρ' → evC C ρ o = evC C ρ' o
  | none, _, _, _ => by simp only [evC]
  | some e, _, _, a => by simp only [evC]; rw [evE_congr C e (a.sub fun i h => by simp only [usesO]; exact h)]
theorem evO_congr (C : Oracle) : ∀ (o : Option E) {ρ ρ' : EnvD}, Agree (fun i => usesO i o) ρ ρ' → evO C ρ o = evO C ρ' o
  | none, _, _, _ => by simp only [evO]
  | some e, _, _, a => by simp only [evO]; rw [evE_congr C e (a.sub fun i h => by simp only [usesO]; exact h)]
theorem evEs_congr (C : Oracle) : ∀ (es : List E) {ρ ρ' : EnvD}, Agree (fun i => usesL i es) ρ ρ' → evEs C ρ es = evEs C ρ' es
  | [], _, _, _ => by simp only [evEs]
  | e :: es, _, _, a => by
    simp only [evEs]
    rw [evE_congr C e (a.sub fun i h => by simp only [usesL]; exact or_l h), evEs_congr C es (a.sub fun i h => by simp only [usesL]; exact or_r h)]
end
/-- it reads no slot of M -/
def clean (M : List Nat) (e : E) : Bool := M.all fun i => !e.uses i
def cleanI (M : List Nat) (e : It) : Bool := M.all fun i => !e.uses i
theorem agree_wipe {U : Nat → Bool} {M : List Nat} {ρ : EnvD} (h : (M.all fun i => !U i) = true) : Agree U ρ (wipe ρ M) := by
  refine ⟨(wipe_length ρ M).symm, fun i z => ?_⟩
  rw [wipe_get, if_neg]
  rintro ⟨hi, _⟩
  have := List.all_eq_true.mp h i hi
  rw [z] at this
  cases this
theorem clean_ev {C : Oracle} {M : List Nat} {ρ : EnvD} {e : E} (h : clean M e = true) : evE C (wipe ρ M) e = evE C ρ e := (evE_congr C e (agree_wipe h)).symm
theorem cleanI_ev {C : Oracle} {M : List Nat} {ρ : EnvD} {e : It} (h : cleanI M e = true) : evI C (wipe ρ M) e = evI C ρ e := (evI_congr C e (agree_wipe h)).symm

/-! ### statements -/
inductive S where
  | asg (t : Tg) (e : E)
  | sub (i : Nat) (k e : E)
  | app (i : Nat) (e : E)
  | ext (i : Nat) (e : E)
  | aug (i : Nat) (o : Operator) (e : E)
  | pop (t : Option Nat) (i : Nat) (k : Option E)
  | rem (i : Nat) (e : E)
  | ret (e : E) | retN
  | ite (c : E) (a b : List S)
  | for_ (t : Tg) (it : It) (b : List S)
  | while_ (c : E) (b : List S)
  | brk | cnt | pass
instance : Inhabited S := ⟨.pass⟩
inductive Fl where
  | nx | bk | ct | rt (d : D)
abbrev isLst : D → Bool := isMut
def freeT (M : List Nat) (t : Tg) : Bool := t.slots.all fun i => !M.contains i
def bindOK (M : List Nat) (t : Tg) (e : E) (d : D) : Bool :=
  if freeT M t then clean M e || (d.imm || fr e d) else (d.imm || (match t with
    | .nm _ => fr e d && isLst d
    | _ => false))
def isVar (i : Nat) : E → Bool
  | .var j => i == j
  | _ => false
/-- an owned list that goes over to another name -/
def mvD (M : List Nat) (ρ : EnvD) (d : D) : Tg → E → Option (Fl × EnvD)
  | .nm i, .var j => if M.contains j && !(i == j) && isLst d then some (.nx, (ρ.set i (some d)).set j none) else none
  | _, _ => none
mutual
def touch (i : Nat) : S → Bool
  | .asg t e => t.slots.contains i || isVar i e
  | .sub j _ _ => i == j
  | .app j _ => i == j
  | .ext j _ => i == j
  | .aug j _ _ => i == j
  | .pop t j _ => i == j || (match t with | some t => i == t | none => false)
  | .rem j _ => i == j
  | .ret _ => false
  | .retN => false
  | .ite _ a b => touchs i a || touchs i b
  | .for_ t _ b => t.slots.contains i || touchs i b
  | .while_ _ b => touchs i b
  | .brk => false
  | .cnt => false
  | .pass => false
def touchs (i : Nat) : List S → Bool
  | [] => false
  | s :: r => touch i s || touchs i r
end
/-- the value that is walked stands still while the body runs -/
def partOK (C : Oracle) (M : List Nat) (ρ : EnvD) (t : Tg) (b : List S) (e : E) : Bool := match evE C ρ e with
  | some d => d.imm || fr e d || (match e with
    | .var i => M.contains i && !(t.slots.contains i || touchs i b)
    | _ => false)
  | none => false
def forOK (C : Oracle) (M : List Nat) (ρ : EnvD) (t : Tg) (it : It) (b : List S) (xs : List D) : Bool := (cleanI M it && freeT M t) || ((cleanI M it || it.parts.all (partOK C M ρ t b)) && D.imms xs)
def forD (t : Tg) (body : EnvD → Option (Fl × EnvD)) : List D → EnvD → Option (Fl × EnvD)
  | [], ρ => some (.nx, ρ)
  | x :: xs, ρ => (bindT t x ρ).bind fun ρ1 => (body ρ1).bind fun r => match r.1 with
    | .nx => forD t body xs r.2
    | .ct => forD t body xs r.2
    | .bk => some (.nx, r.2)
    | .rt d => some (.rt d, r.2)
def whileD (c : EnvD → Option Bool) (body : EnvD → Option (Fl × EnvD)) : Nat → EnvD → Option (Fl × EnvD)
  | 0, _ => none
  | n + 1, ρ => (c ρ).bind fun k => if k then (body ρ).bind fun r => (match r.1 with
      | .nx => whileD c body n r.2
      | .ct => whileD c body n r.2
      | .bk => some (.nx, r.2)
      | .rt d => some (.rt d, r.2)) else some (.nx, ρ)
def extD (M : List Nat) (ρ : EnvD) (i : Nat) : D → D → Option (Fl × EnvD)
  | .lst ds, .lst es => if M.contains i && D.imms es && decide (ds.length + es.length ≤ sizeLine) then some (.nx, ρ.set i (some (.lst (ds ++ es)))) else none
  | _, _ => none
/-- x[k] = e, x an owned list or dict -/
def stoD (M : List Nat) (ρ : EnvD) (i : Nat) (f : Bool) (d kd : D) : D → Option (Fl × EnvD)
  | .lst ds => (intOf kd).bind fun j => (ixN ds.length j).bind fun n => if M.contains i && f then some (.nx, ρ.set i (some (.lst (ds.set n d)))) else none
  | .dic false ks vs => (kOf kd).bind fun key => if M.contains i && f && decide (ks.length < sizeLine) then some (.nx, ρ.set i (some (.dic false (putKs ks key) (putVs ks vs key d)))) else none
  | _ => none
omit [Tabs] in
theorem stoD_inv {M : List Nat} {ρ : EnvD} {i : Nat} {f : Bool} {d kd l : D} {r : Fl × EnvD} (h : stoD M ρ i f d kd l = some r) : (i ∈ M ∧ f = true) ∧ ((∃ ds j n, l = .lst ds ∧ intOf kd = some j ∧ ixN ds.length j = some n ∧ r = (.nx, ρ.set i (some (.lst (ds.set n d))))) ∨
    ∃ ks vs key, l = .dic false ks vs ∧ kOf kd = some key ∧ ks.length < sizeLine ∧ r = (.nx, ρ.set i (some (.dic false (putKs ks key) (putVs ks vs key d))))) := by
  unfold stoD at h
  split at h
  · obtain ⟨j, h1, h⟩ := Option.bind_eq_some_iff.mp h
    obtain ⟨n, h2, h⟩ := Option.bind_eq_some_iff.mp h
    obtain ⟨hc, h⟩ := ite_some' h
    cases h
    simp only [Bool.and_eq_true, List.contains_eq_mem, decide_eq_true_eq] at hc
    exact ⟨hc, .inl ⟨_, j, n, rfl, h1, h2, rfl⟩⟩
  · obtain ⟨key, h1, h⟩ := Option.bind_eq_some_iff.mp h
    obtain ⟨hc, h⟩ := ite_some' h
    cases h
    simp only [Bool.and_eq_true, List.contains_eq_mem, decide_eq_true_eq] at hc
    exact ⟨hc.1, .inr ⟨_, _, key, rfl, h1, hc.2, rfl⟩⟩
  · cases h
omit [Tabs] in
theorem ite_or {p : Prop} [Decidable p] {α : Type} {a b o : α} (h : (if p then a else b) = o) : (p ∧ a = o) ∨ (¬ p ∧ b = o) := by
  by_cases hp : p
  · rw [if_pos hp] at h; exact .inl ⟨hp, h⟩
  · rw [if_neg hp] at h; exact .inr ⟨hp, h⟩
/-- what the frame owns, and what cannot be changed -/
def keepD (M : List Nat) : Nat → EnvD → EnvD
  | _, [] => []
  | i, none :: r => none :: keepD M (i + 1) r
  | i, some d :: r => (match M.contains i || d.imm with | true => some d | false => none) :: keepD M (i + 1) r
/-- x += e for numbers -/
def augD (M : List Nat) (ρ : EnvD) (i : Nat) (o : Operator) : D → D → Option (Fl × EnvD)
  | .int a, .int b => (match o with
    | .Add => some (.nx, ρ.set i (some (.int (a + b))))
    | .Sub => some (.nx, ρ.set i (some (.int (a - b))))
    | .Mult => if small a then some (.nx, ρ.set i (some (.int (a * b)))) else none
    | _ => none)
  | _, _ => none
/-- a slot that is set, if there is one -/
def setT {α : Type} (ρ : List (Option α)) : Option Nat → α → List (Option α)
  | some t, d => ρ.set t (some d)
  | none, _ => ρ
/-- t = x.pop(k), x an owned list: the place, the item -/
def popD (M : List Nat) (ρ : EnvD) (t : Option Nat) (i : Nat) (k : Option Int) : D → Option (Fl × EnvD)
  | .lst ds => if M.contains i && (match t with | some t => !(t == i) | none => true) && (match k with | some k => decide (-(2 ^ 63) ≤ k) && decide (k < 2 ^ 63) | none => true) then
      (ixN ds.length (k.getD (-1))).bind fun n => (ds[n]?).bind fun d => if d.imm then some (.nx, setT (ρ.set i (some (.lst (ds.eraseIdx n)))) t d) else none else none
  | _ => none
/-- x.remove(e) -/
def remD (M : List Nat) (ρ : EnvD) (i : Nat) (y : D) : D → Option (Fl × EnvD)
  | .lst ds => if M.contains i && wfs ds && y.wf then (ds.findIdx? fun z => PyData.eqv z.py y.py).bind fun n => some (.nx, ρ.set i (some (.lst (ds.eraseIdx n)))) else none
  | _ => none
def fuel : Nat := 1000000
mutual
def evS (C : Oracle) (M : List Nat) (ρ : EnvD) : S → Option (Fl × EnvD)
  | .asg t e => (evE C ρ e).bind fun d => if bindOK M t e d then (bindT t d ρ).bind fun ρ' => some (.nx, ρ') else mvD M ρ d t e
  | .sub i k e => (evE C ρ e).bind fun d => (evE C ρ k).bind fun kd => (ρ[i]?.bind id).bind fun l => stoD M ρ i (d.imm || fr e d) d kd l
  | .app i e => (evE C ρ e).bind fun d => (ρ[i]?.bind id).bind fun l => (match l with
    | .lst ds => if M.contains i && (d.imm || fr e d) && decide (ds.length < sizeLine) then some (.nx, ρ.set i (some (.lst (ds ++ [d])))) else none
    | _ => none)
  | .ext i e => (evE C ρ e).bind fun d => (ρ[i]?.bind id).bind fun l => extD M ρ i l d
  | .aug i o e => (ρ[i]?.bind id).bind fun l => (evE C ρ e).bind fun d => augD M ρ i o l d
  | .pop t i k => (ρ[i]?.bind id).bind fun l => (evO C ρ k).bind fun k' => popD M ρ t i k' l
  | .rem i e => (evE C ρ e).bind fun d => (ρ[i]?.bind id).bind fun l => remD M ρ i d l
  | .ret e => (evE C ρ e).bind fun d => if d.imm || fr e d || (match e with | .var i => M.contains i | _ => false) then some (.rt d, ρ) else (evE C (keepD M 0 ρ) e).bind fun d' => some (.rt d', ρ)
  | .retN => some (.rt .non, ρ)
  | .ite c a b => (evE C ρ c).bind fun d => (truthD d).bind fun k => if k then evSs C M ρ a else evSs C M ρ b
  | .for_ t it b => (evI C ρ it).bind fun xs => if forOK C M ρ t it b xs then forD t (fun ρ => evSs C M ρ b) xs ρ else none
  | .while_ c b => whileD (fun ρ => (evE C ρ c).bind truthD) (fun ρ => evSs C M ρ b) fuel ρ
  | .brk => some (.bk, ρ)
  | .cnt => some (.ct, ρ)
  | .pass => some (.nx, ρ)
def evSs (C : Oracle) (M : List Nat) (ρ : EnvD) : List S → Option (Fl × EnvD)
  | [] => some (.nx, ρ)
  | s :: r => (evS C M ρ s).bind fun x => match x.1 with
    | .nx => evSs C M x.2 r
    | _ => some x
end
end Ev
set_option maxHeartbeats 4000000
namespace Ev
open PySem PySem.Spec PyProof.Rows L2
variable [Tabs]

/-- the address of a list that a slot of M owns -/
def Own (M : List Nat) (σ : L2.St) (ρ : EnvD) (a : Addr) : Prop := ∃ i ∈ M, ∃ d, isMut d = true ∧ ρ[i]? = some (some d) ∧ σ[i]? = some (some (.ref a))
structure SS (K : PySem.W.Frag) (M : List Nat) (H0 : Hp) (Z : Addr → Prop) (σ : L2.St) (ρ : EnvD) (H : Hp) : Prop where
  ext : Ext H0 H
  zt : ∀ a, Z a → H a ≠ none ∧ ¬ Own M σ ρ a
  free : ∀ (i : Nat) (d : D), i ∉ M → ρ[i]? = some (some d) → ∃ v, σ[i]? = some (some v) ∧ Rep K H (fun a => ¬ Own M σ ρ a) v d
  own : ∀ (i : Nat) (d : D), i ∈ M → ρ[i]? = some (some d) → ∃ v, σ[i]? = some (some v) ∧ ((d.imm = true ∧ Rep K H Any v d) ∨
    ∃ a vs, v = .ref a ∧ BxAt H a d vs ∧ H0 a = none ∧ Reps K H (fun b => ¬ Own M σ ρ b ∧ H0 b = none) vs (inside d))
  dis : ∀ (i j : Nat) (a : Addr) (ds es : D), isMut ds = true → isMut es = true → i ∈ M → j ∈ M → ρ[i]? = some (some ds) → ρ[j]? = some (some es) → σ[i]? = some (some (.ref a)) → σ[j]? = some (some (.ref a)) → i = j
  tk0 : Tk H0
section
variable {K : PySem.W.Frag} {M : List Nat} {H0 H H1 H' : Hp} {Z Z' : Addr → Prop} {σ σ' : L2.St} {ρ ρ' : EnvD} {v : V} {d : D}
theorem Ext.keep {H H' : Hp} {a : Addr} (e : Ext H H') (h : H a ≠ Option.none) : H' a ≠ Option.none := fun z => h (Ext.none e z)
theorem SS.step (s : SS K M H0 Z σ ρ H) (e : Ext H H') : SS K M H0 Z σ ρ H' where
  ext := s.ext.trans e
  zt := fun a z => ⟨e.keep (s.zt a z).1, (s.zt a z).2⟩
  free := fun i d hi hd => by
    obtain ⟨v, h1, h2⟩ := s.free i d hi hd
    exact ⟨v, h1, h2.ext e⟩
  own := fun i d hi hd => by
    obtain ⟨v, h1, h2⟩ := s.own i d hi hd
    refine ⟨v, h1, ?_⟩
    rcases h2 with ⟨h2, h3⟩ | ⟨a, vs, rfl, h2, h3, h4⟩
    · exact .inl ⟨h2, h3.ext e⟩
    · exact .inr ⟨a, vs, rfl, h2.ext e, h3, h4.ext e⟩
  dis := s.dis
  tk0 := s.tk0
theorem SS.less (s : SS K M H0 Z σ ρ H) (h : ∀ a, Z' a → Z a) : SS K M H0 Z' σ ρ H := ⟨s.ext, fun a z => s.zt a (h a z), s.free, s.own, s.dis, s.tk0⟩
theorem SS.more (s : SS K M H0 Z σ ρ H) (h : ∀ a, Z' a → H a ≠ none ∧ ¬ Own M σ ρ a) : SS K M H0 (fun a => Z a ∨ Z' a) σ ρ H := ⟨s.ext, fun a z => z.elim (s.zt a) (h a), s.free, s.own, s.dis, s.tk0⟩
theorem Own.there (s : SS K M H0 Z σ ρ H) {a : Addr} (o : Own M σ ρ a) : ∃ u, H a = some u ∧ MutO u := by
  obtain ⟨i, hi, d, hm, h1, h2⟩ := o
  obtain ⟨v, h3, h4⟩ := s.own i _ hi h1
  rw [h2] at h3
  cases h3
  rcases h4 with ⟨h4, _⟩ | ⟨b, vs, e1, h4, _⟩
  · exact (imm_mut h4 hm).elim
  · cases e1
    exact h4.there
/-- all slots, to be read -/
theorem SS.sr (s : SS K M H0 Z σ ρ H) : SR K H Any σ ρ := ⟨fun i d hd => by
  by_cases hi : i ∈ M
  · obtain ⟨v, h1, h2⟩ := s.own i d hi hd
    refine ⟨v, h1, ?_⟩
    rcases h2 with ⟨_, h3⟩ | ⟨a, vs, rfl, h2, h3, h4⟩
    · exact h3
    · refine h2.rep trivial (h4.mono fun b z => ⟨trivial, fun e => z.1 ?_⟩)
      subst e
      exact ⟨i, hi, d, h2.mut, hd, h1⟩
  · obtain ⟨v, h1, h2⟩ := s.free i d hi hd
    exact ⟨v, h1, h2.any⟩, s.ext.tk s.tk0⟩
/-- the slots that are not of M -/
theorem SS.srw (s : SS K M H0 Z σ ρ H) : SR K H (fun a => ¬ Own M σ ρ a) σ (wipe ρ M) := ⟨fun i d hd => by
  rw [wipe_get] at hd
  by_cases hi : i ∈ M ∧ i < ρ.length
  · rw [if_pos hi] at hd; cases hd
  · rw [if_neg hi] at hd
    have hl : i < ρ.length := by
      by_cases z : i < ρ.length
      · exact z
      · rw [List.getElem?_eq_none (by omega)] at hd; cases hd
    exact s.free i d (fun z => hi ⟨z, hl⟩) hd, s.ext.tk s.tk0⟩
theorem get_set {α : Type} {ρ : List (Option α)} {i j : Nat} {x : Option α} {d : α} (h : (ρ.set i x)[j]? = some (some d)) : (j = i ∧ x = some d) ∨ (j ≠ i ∧ ρ[j]? = some (some d)) := by
  by_cases e : i = j
  · subst e
    by_cases hl : i < ρ.length
    · rw [List.getElem?_set_self hl] at h
      exact .inl ⟨rfl, Option.some.inj h⟩
    · rw [List.getElem?_eq_none (by simpa using hl)] at h; cases h
  · rw [List.getElem?_set_ne e] at h
    exact .inr ⟨fun z => e z.symm, h⟩
/-- a store to a slot that is not of M -/
theorem SS.setFree (s : SS K M H0 Z σ ρ H) {i : Nat} (hi : i ∉ M) (hl : i < σ.length) (r : Rep K H (fun a => ¬ Own M σ ρ a) v d) : SS K M H0 Z (σ.set i (some v)) (ρ.set i (some d)) H := by
  have ho : ∀ a, Own M (σ.set i (some v)) (ρ.set i (some d)) a ↔ Own M σ ρ a := fun a => by
    constructor
    · rintro ⟨j, hj, ds, hm, h1, h2⟩
      have e : i ≠ j := fun z => hi (z ▸ hj)
      rw [List.getElem?_set_ne e] at h1 h2
      exact ⟨j, hj, ds, hm, h1, h2⟩
    · rintro ⟨j, hj, ds, hm, h1, h2⟩
      have e : i ≠ j := fun z => hi (z ▸ hj)
      exact ⟨j, hj, ds, hm, by rw [List.getElem?_set_ne e]; exact h1, by rw [List.getElem?_set_ne e]; exact h2⟩
  refine ⟨s.ext, fun a z => ⟨(s.zt a z).1, fun q => (s.zt a z).2 ((ho a).mp q)⟩, fun j d' hj hd => ?_, fun j d' hj hd => ?_, fun j k a ds es m1 m2 hj hk h1 h2 h3 h4 => ?_, s.tk0⟩
  · rcases get_set hd with ⟨rfl, e⟩ | ⟨hne, hd⟩
    · cases e
      exact ⟨v, List.getElem?_set_self hl, r.mono fun a z q => z ((ho a).mp q)⟩
    · obtain ⟨u, h1, h2⟩ := s.free j d' hj hd
      exact ⟨u, by rw [List.getElem?_set_ne (fun z => hne z.symm)]; exact h1, h2.mono fun a z q => z ((ho a).mp q)⟩
  · have e : i ≠ j := fun z => hi (z ▸ hj)
    rw [List.getElem?_set_ne e] at hd ⊢
    obtain ⟨u, h1, h2⟩ := s.own j d' hj hd
    refine ⟨u, h1, ?_⟩
    rcases h2 with h2 | ⟨a, vs, rfl, h2, h3, h4⟩
    · exact .inl h2
    · exact .inr ⟨a, vs, rfl, h2, h3, h4.mono fun b z => ⟨fun q => z.1 ((ho b).mp q), z.2⟩⟩
  · have e : i ≠ j := fun z => hi (z ▸ hj)
    have e' : i ≠ k := fun z => hi (z ▸ hk)
    rw [List.getElem?_set_ne e] at h1 h3
    rw [List.getElem?_set_ne e'] at h2 h4
    exact s.dis j k a ds es m1 m2 hj hk h1 h2 h3 h4
/-- an owned list goes over to another name -/
theorem SS.move (s : SS K M H0 Z σ ρ H) {i j : Nat} {d0 : D} (m0 : isMut d0 = true) (hi : i ∈ M) (hj : j ∈ M) (hij : i ≠ j) (hl : i < σ.length) (hd : ρ[j]? = some (some d0)) (hv : σ[j]? = some (some v)) : SS K M H0 Z (σ.set i (some v)) ((ρ.set i (some d0)).set j none) H := by
  have get : ∀ {k : Nat} {d : D}, ((ρ.set i (some d0)).set j none)[k]? = some (some d) → (k = i ∧ d = d0) ∨ (k ≠ i ∧ k ≠ j ∧ ρ[k]? = some (some d)) := fun {k d} h => by
    rcases get_set h with ⟨_, e⟩ | ⟨hn, h⟩
    · cases e
    · rcases get_set h with ⟨rfl, e⟩ | ⟨hn', h⟩
      · cases e; exact .inl ⟨rfl, rfl⟩
      · exact .inr ⟨hn', hn, h⟩
  have ho : ∀ a, Own M (σ.set i (some v)) ((ρ.set i (some d0)).set j none) a → Own M σ ρ a := by
    rintro a ⟨k, hk, es, hm, h1, h2⟩
    rcases get h1 with ⟨rfl, e⟩ | ⟨n1, _, h1⟩
    · subst e
      rw [List.getElem?_set_self hl] at h2
      exact ⟨j, hj, _, hm, hd, hv.trans (Option.some.inj h2 ▸ rfl)⟩
    · rw [List.getElem?_set_ne (fun z => n1 z.symm)] at h2
      exact ⟨k, hk, es, hm, h1, h2⟩
  refine ⟨s.ext, fun a z => ⟨(s.zt a z).1, fun q => (s.zt a z).2 (ho a q)⟩, fun k d' hk h => ?_, fun k d' hk h => ?_, fun k k' a es es' m1 m2 hk hk' h1 h2 h3 h4 => ?_, s.tk0⟩
  · rcases get h with ⟨rfl, _⟩ | ⟨n1, _, h⟩
    · exact absurd hi hk
    · obtain ⟨u, h1, h2⟩ := s.free k d' hk h
      exact ⟨u, by rw [List.getElem?_set_ne (fun z => n1 z.symm)]; exact h1, h2.mono fun a z q => z (ho a q)⟩
  · rcases get h with ⟨rfl, rfl⟩ | ⟨n1, _, h⟩
    · obtain ⟨u, h1, h2⟩ := s.own j _ hj hd
      rw [hv] at h1
      cases h1
      refine ⟨v, List.getElem?_set_self hl, ?_⟩
      rcases h2 with h2 | ⟨a, vs, rfl, h2, h3, h4⟩
      · exact .inl h2
      · exact .inr ⟨a, vs, rfl, h2, h3, h4.mono fun b z => ⟨fun q => z.1 (ho b q), z.2⟩⟩
    · rw [List.getElem?_set_ne (fun z => n1 z.symm)]
      obtain ⟨u, h1, h2⟩ := s.own k d' hk h
      refine ⟨u, h1, ?_⟩
      rcases h2 with h2 | ⟨a, vs, rfl, h2, h3, h4⟩
      · exact .inl h2
      · exact .inr ⟨a, vs, rfl, h2, h3, h4.mono fun b z => ⟨fun q => z.1 (ho b q), z.2⟩⟩
  · rcases get h1 with ⟨rfl, e⟩ | ⟨n1, mm1, q1⟩
    · subst e
      rw [List.getElem?_set_self hl] at h3
      rcases get h2 with ⟨rfl, e⟩ | ⟨n2, mm2, q2⟩
      · rfl
      · rw [List.getElem?_set_ne (fun z => n2 z.symm)] at h4
        exact absurd (s.dis j k' a _ es' m0 m2 hj hk' hd q2 (hv.trans (Option.some.inj h3 ▸ rfl)) h4).symm mm2
    · rw [List.getElem?_set_ne (fun z => n1 z.symm)] at h3
      rcases get h2 with ⟨rfl, e⟩ | ⟨n2, mm2, q2⟩
      · subst e
        rw [List.getElem?_set_self hl] at h4
        exact absurd (s.dis k j a es _ m1 m0 hk hj q1 hd h3 (hv.trans (Option.some.inj h4 ▸ rfl))) mm1
      · rw [List.getElem?_set_ne (fun z => n2 z.symm)] at h4
        exact s.dis k k' a es es' m1 m2 hk hk' q1 q2 h3 h4
theorem SS.drop (s : SS K M H0 Z σ ρ H) (j : Nat) : SS K M H0 Z σ (ρ.set j none) H := by
  have get : ∀ {k : Nat} {d : D}, (ρ.set j none)[k]? = some (some d) → k ≠ j ∧ ρ[k]? = some (some d) := fun {k d} h => by
    rcases get_set h with ⟨_, e⟩ | ⟨hn, h⟩
    · cases e
    · exact ⟨hn, h⟩
  have ho : ∀ a, Own M σ (ρ.set j none) a → Own M σ ρ a := fun a ⟨k, hk, es, hm, h1, h2⟩ => ⟨k, hk, es, hm, (get h1).2, h2⟩
  refine ⟨s.ext, fun a z => ⟨(s.zt a z).1, fun q => (s.zt a z).2 (ho a q)⟩, fun k d' hk h => ?_, fun k d' hk h => ?_, fun k k' a es es' m1 m2 hk hk' h1 h2 h3 h4 => s.dis k k' a es es' m1 m2 hk hk' (get h1).2 (get h2).2 h3 h4, s.tk0⟩
  · obtain ⟨u, h1, h2⟩ := s.free k d' hk (get h).2
    exact ⟨u, h1, h2.mono fun a z q => z (ho a q)⟩
  · obtain ⟨u, h1, h2⟩ := s.own k d' hk (get h).2
    refine ⟨u, h1, ?_⟩
    rcases h2 with h2 | ⟨a, vs, rfl, h2, h3, h4⟩
    · exact .inl h2
    · exact .inr ⟨a, vs, rfl, h2, h3, h4.mono fun b z => ⟨fun q => z.1 (ho b q), z.2⟩⟩
/-- an owned list goes over to a name that owns nothing -/
theorem SS.release (s : SS K M H0 Z σ ρ H) {i j : Nat} {d0 : D} (m0 : isMut d0 = true) (hi : i ∉ M) (hj : j ∈ M) (hl : i < σ.length) (hd : ρ[j]? = some (some d0)) (hv : σ[j]? = some (some v)) : SS K M H0 Z (σ.set i (some v)) ((ρ.set i (some d0)).set j none) H := by
  have hij : i ≠ j := fun e => hi (e ▸ hj)
  rw [List.set_comm _ _ hij]
  refine (s.drop j).setFree hi hl ?_
  obtain ⟨u, h1, h2⟩ := s.own j _ hj hd
  rw [hv] at h1
  cases h1
  rcases h2 with ⟨h2, r⟩ | ⟨a, vs, rfl, h2, h3, h4⟩
  · exact r.imm (stay_refl (P := Any)) h2
  · have ho : Own M σ ρ a := ⟨j, hj, _, m0, hd, hv⟩
    have less : ∀ b, Own M σ (ρ.set j none) b → Own M σ ρ b := fun b ⟨k, hk, es, hm, q1, q2⟩ => by
      rcases get_set q1 with ⟨_, e⟩ | ⟨hn, h⟩
      · cases e
      · exact ⟨k, hk, es, hm, h, q2⟩
    have no : ¬ Own M σ (ρ.set j none) a := fun ⟨k, hk, es, hm, q1, q2⟩ => by
      rcases get_set q1 with ⟨_, e⟩ | ⟨hn, h⟩
      · cases e
      · exact hn (s.dis k j a es d0 hm m0 hk hj h hd q2 hv)
    have h5 := h4.mono (Q := fun b => ¬ Own M σ (ρ.set j none) b ∧ b ≠ a) fun b z => ⟨fun q => z.1 (less b q), fun e => z.1 (e ▸ ho)⟩
    cases d0 with
    | lst ds => exact .lst no h2 h5
    | dic t ks ds => exact .dic no h2 h5
    | _ => cases m0
/-- a store of something that cannot be changed -/
theorem SS.setImm (s : SS K M H0 Z σ ρ H) {i : Nat} (hl : i < σ.length) (r : Rep K H Any v d) (hd0 : d.imm = true) : SS K M H0 Z (σ.set i (some v)) (ρ.set i (some d)) H := by
  have ho : ∀ a, Own M (σ.set i (some v)) (ρ.set i (some d)) a → Own M σ ρ a := by
    rintro a ⟨j, hj, ds, hm, h1, h2⟩
    rcases get_set h1 with ⟨rfl, e⟩ | ⟨hne, h1⟩
    · cases e; exact (imm_mut hd0 hm).elim
    · rw [List.getElem?_set_ne (fun z => hne z.symm)] at h2
      exact ⟨j, hj, ds, hm, h1, h2⟩
  have hnl : ∀ {j : Nat} {ds : D}, isMut ds = true → (ρ.set i (some d))[j]? = some (some ds) → j ≠ i ∧ ρ[j]? = some (some ds) := fun {j ds} hm h => by
    rcases get_set h with ⟨rfl, e⟩ | h
    · cases e; exact (imm_mut hd0 hm).elim
    · exact h
  refine ⟨s.ext, fun a z => ⟨(s.zt a z).1, fun q => (s.zt a z).2 (ho a q)⟩, fun j d' hj hd => ?_, fun j d' hj hd => ?_, fun j k a ds es m1 m2 hj hk h1 h2 h3 h4 => ?_, s.tk0⟩
  · rcases get_set hd with ⟨rfl, e⟩ | ⟨hne, hd⟩
    · cases e
      exact ⟨v, List.getElem?_set_self hl, r.imm (stay_refl (P := Any)) hd0⟩
    · obtain ⟨u, h1, h2⟩ := s.free j d' hj hd
      exact ⟨u, by rw [List.getElem?_set_ne (fun z => hne z.symm)]; exact h1, h2.mono fun a z q => z (ho a q)⟩
  · rcases get_set hd with ⟨rfl, e⟩ | ⟨hne, hd⟩
    · cases e
      exact ⟨v, List.getElem?_set_self hl, .inl ⟨hd0, r⟩⟩
    · rw [List.getElem?_set_ne (fun z => hne z.symm)]
      obtain ⟨u, h1, h2⟩ := s.own j d' hj hd
      refine ⟨u, h1, ?_⟩
      rcases h2 with h2 | ⟨a, vs, rfl, h2, h3, h4⟩
      · exact .inl h2
      · exact .inr ⟨a, vs, rfl, h2, h3, h4.mono fun b z => ⟨fun q => z.1 (ho b q), z.2⟩⟩
  · obtain ⟨n1, h1⟩ := hnl m1 h1
    obtain ⟨n2, h2⟩ := hnl m2 h2
    rw [List.getElem?_set_ne (fun z => n1 z.symm)] at h3
    rw [List.getElem?_set_ne (fun z => n2 z.symm)] at h4
    exact s.dis j k a ds es m1 m2 hj hk h1 h2 h3 h4
/-- a store of a new list or dict to a slot of M: H is ahead of its making -/
theorem SS.setNew (s : SS K M H0 Z σ ρ H) (e : Ext H H') {i : Nat} {d0 : D} (m0 : isMut d0 = true) (hi : i ∈ M) (hl : i < σ.length) (r : Rep K H' (New H) v d0) : SS K M H0 Z (σ.set i (some v)) (ρ.set i (some d0)) H' := by
  obtain ⟨a, vs, rfl, ha, hat, rs⟩ := r.mut_inv m0
  have ha : H a = none := ha
  have s' := s.step e
  have ho : ∀ b, Own M (σ.set i (some (.ref a))) (ρ.set i (some d0)) b → Own M σ ρ b ∨ b = a := by
    rintro b ⟨j, hj, es, hm, h1, h2⟩
    rcases get_set h1 with ⟨rfl, e⟩ | ⟨hne, h1⟩
    · rw [List.getElem?_set_self hl] at h2
      cases h2
      exact .inr rfl
    · rw [List.getElem?_set_ne (fun z => hne z.symm)] at h2
      exact .inl ⟨j, hj, es, hm, h1, h2⟩
  have na : ∀ b, H b ≠ none → b ≠ a := fun b h z => h (z ▸ ha)
  have ownH : ∀ b, Own M σ ρ b → H b ≠ none := fun b o => by
    obtain ⟨vs, h, _⟩ := o.there s
    rw [h]; simp
  have avoid : ∀ b, (¬ Own M σ ρ b ∧ H b ≠ none) → ¬ Own M (σ.set i (some (.ref a))) (ρ.set i (some d0)) b := fun b z q => by
    rcases ho b q with h | h
    · exact z.1 h
    · exact na b z.2 h
  refine ⟨s'.ext, fun b z => ⟨(s'.zt b z).1, fun q => ?_⟩, fun j d' hj hd => ?_, fun j d' hj hd => ?_, fun j k b es fs m1 m2 hj hk h1 h2 h3 h4 => ?_, s.tk0⟩
  · exact avoid b ⟨(s.zt b z).2, (s.zt b z).1⟩ q
  · rcases get_set hd with ⟨rfl, _⟩ | ⟨hne, hd⟩
    · exact absurd hi hj
    · obtain ⟨u, h1, h2⟩ := s.free j d' hj hd
      exact ⟨u, by rw [List.getElem?_set_ne (fun z => hne z.symm)]; exact h1, (h2.there.ext e).mono avoid⟩
  · rcases get_set hd with ⟨rfl, q⟩ | ⟨hne, hd⟩
    · cases q
      refine ⟨.ref a, List.getElem?_set_self hl, .inr ⟨a, vs, rfl, hat, s.ext.none ha, rs.mono fun b z => ⟨fun q => ?_, s.ext.none z.1⟩⟩⟩
      rcases ho b q with h | h
      · exact ownH b h z.1
      · exact z.2 h
    · rw [List.getElem?_set_ne (fun z => hne z.symm)]
      obtain ⟨u, h1, h2⟩ := s.own j d' hj hd
      refine ⟨u, h1, ?_⟩
      rcases h2 with ⟨h2, h3⟩ | ⟨b, ws, rfl, h2, h3, h4⟩
      · exact .inl ⟨h2, h3.ext e⟩
      · exact .inr ⟨b, ws, rfl, h2.ext e, h3, (h4.there.ext e).mono fun c z => ⟨avoid c ⟨z.1.1, z.2⟩, z.1.2⟩⟩
  · have ex : ∀ {j : Nat} {es : D}, isMut es = true → j ∈ M → j ≠ i → ρ[j]? = some (some es) → σ[j]? = some (some (.ref b)) → b ≠ a := fun {j es} hm hj hne h1 h3 => na b (ownH b ⟨j, hj, es, hm, h1, h3⟩)
    rcases get_set h1 with ⟨rfl, _⟩ | ⟨n1, q1⟩
    · rcases get_set h2 with ⟨rfl, _⟩ | ⟨n2, q2⟩
      · rfl
      · rw [List.getElem?_set_self hl] at h3
        cases h3
        rw [List.getElem?_set_ne (fun z => n2 z.symm)] at h4
        exact absurd rfl (ex m2 hk n2 q2 h4)
    · rw [List.getElem?_set_ne (fun z => n1 z.symm)] at h3
      rcases get_set h2 with ⟨rfl, _⟩ | ⟨n2, q2⟩
      · rw [List.getElem?_set_self hl] at h4
        cases h4
        exact absurd rfl (ex m1 hj n1 q1 h3)
      · rw [List.getElem?_set_ne (fun z => n2 z.symm)] at h4
        exact s.dis j k b es fs m1 m2 hj hk q1 q2 h3 h4
/-- the list or dict that a slot of M owns is changed -/
theorem SS.change (s : SS K M H0 Z σ ρ H) {i : Nat} {a : Addr} {u0 u1 : HO} {ws : List V} {d0 d1 : D} (m0 : isMut d0 = true) (hi : i ∈ M) (hρ : ρ[i]? = some (some d0)) (hσ : σ[i]? = some (some (.ref a))) (hat : H a = some u0) (hu0 : MutO u0)
    (hn : H0 a = none) (b1 : BxAt (upd H a u1) a d1 ws) (r : Reps K H (fun b => ¬ Own M σ ρ b ∧ H0 b = none) ws (inside d1)) : SS K M H0 Z σ (ρ.set i (some d1)) (upd H a u1) ∧ Stay Z H (upd H a u1) := by
  have hlen : i < ρ.length := (List.getElem?_eq_some_iff.mp hρ).1
  have oa : Own M σ ρ a := ⟨i, hi, d0, m0, hρ, hσ⟩
  have ho : ∀ b, Own M σ (ρ.set i (some d1)) b ↔ Own M σ ρ b := fun b => by
    constructor
    · rintro ⟨j, hj, fs, hm, h1, h2⟩
      rcases get_set h1 with ⟨rfl, e⟩ | ⟨hne, h1⟩
      · exact ⟨j, hj, d0, m0, hρ, h2⟩
      · exact ⟨j, hj, fs, hm, h1, h2⟩
    · rintro ⟨j, hj, fs, hm, h1, h2⟩
      by_cases e : j = i
      · subst e
        exact ⟨j, hj, d1, b1.mut, List.getElem?_set_self hlen, h2⟩
      · exact ⟨j, hj, fs, hm, by rw [List.getElem?_set_ne (fun z => e z.symm)]; exact h1, h2⟩
  have st : ∀ {P : Addr → Prop}, (∀ b, P b → ¬ Own M σ ρ b) → Stay P H (upd H a u1) := fun h => stay_upd hat hu0 fun b p z => h b p (z ▸ oa)
  refine ⟨⟨ext_upd s.ext hn, fun b z => ⟨?_, fun q => (s.zt b z).2 ((ho b).mp q)⟩, fun j d' hj hd => ?_, fun j d' hj hd => ?_, fun j k b fs gs m1 m2 hj hk h1 h2 h3 h4 => ?_, s.tk0⟩, st fun b z => (s.zt b z).2⟩
  · have : b ≠ a := fun q => (s.zt b z).2 (q ▸ oa)
    rw [upd_ne this]
    exact (s.zt b z).1
  · have e : j ≠ i := fun z => hj (z ▸ hi)
    rw [List.getElem?_set_ne (fun z => e z.symm)] at hd
    obtain ⟨u, h1, h2⟩ := s.free j d' hj hd
    exact ⟨u, h1, h2.stay' (st fun b p => p) fun b z q => z ((ho b).mp q)⟩
  · rcases get_set hd with ⟨rfl, q⟩ | ⟨hne, hd⟩
    · cases q
      exact ⟨.ref a, hσ, .inr ⟨a, ws, rfl, b1, hn, r.stay' (st fun b p => p.1) fun b z => ⟨fun q => z.1 ((ho b).mp q), z.2⟩⟩⟩
    · obtain ⟨u, h1, h2⟩ := s.own j d' hj hd
      refine ⟨u, h1, ?_⟩
      rcases h2 with ⟨h2, h3⟩ | ⟨b, us, rfl, h2, h3, h4⟩
      · exact .inl ⟨h2, h3.imm (st (P := fun b => ¬ Own M σ ρ b) fun b p => p) h2⟩
      · have hb : b ≠ a := fun q => hne (s.dis j i a d' d0 h2.mut m0 hj hi hd hρ (q ▸ h1) hσ)
        exact .inr ⟨b, us, rfl, h2.same fun u _ q => by rw [upd_ne hb]; exact q, h3, h4.stay' (st fun b p => p.1) fun b z => ⟨fun q => z.1 ((ho b).mp q), z.2⟩⟩
  · have lk : ∀ {j : Nat} {fs : D}, isMut fs = true → (ρ.set i (some d1))[j]? = some (some fs) → ∃ gs, isMut gs = true ∧ ρ[j]? = some (some gs) := fun {j fs} hm h => by
      rcases get_set h with ⟨rfl, q⟩ | ⟨_, h⟩
      · exact ⟨d0, m0, hρ⟩
      · exact ⟨_, hm, h⟩
    obtain ⟨f2, n1, g1⟩ := lk m1 h1
    obtain ⟨f3, n2, g2⟩ := lk m2 h2
    exact s.dis j k b f2 f3 n1 n2 hj hk g1 g2 h3 h4
end
end Ev
set_option maxHeartbeats 4000000
namespace Ev
open PySem PySem.Spec PyProof.Rows L2
variable [Tabs]

/-! ### statements, from Python's trees -/
def isTupE : Expr → Bool
  | .Tuple _ _ _ => true
  | _ => false
def isListE : Expr → Bool
  | .List _ _ => true
  | _ => false
/-- the block of a comprehension whose value is stored straight into the name -/
def swapB (sc : Scope) (x : Str) (px : Pos) : Expr → Bool
  | .ListComp elt gs s pos => isLocal sc x && (px.line == pos.line) && !(s.names.any fun (n, k) => n == x && (k == .local || k == .cell))
  | _ => false
def isComp : Expr → Bool
  | .ListComp _ _ _ _ => true
  | .SetComp _ _ _ _ => true
  | .DictComp _ _ _ _ _ => true
  | _ => false
def ownB (sc : Scope) (own : List (Str × Nat)) : Bool := own.all fun p => locB sc p.1
/-- the method of a name: its slot -/
def mthB (T : TC) (sc : Scope) (x : Str) (apos cpos : Pos) : Option Nat := if (apos.endLine == cpos.line) = true then slotOf T.N sc x else none
def argPop (R : Rc) (sc : Scope) : List Expr → Option (Option E)
  | [] => some none
  | [a] => if isStar a then none else (R sc a).map some
  | _ => none
def trX (T : TC) (R : Rc) (sc : Scope) : Stmt → Option S
  | .AugAssign tg op e _ => (match tg with
    | .Name x p => if locB sc x then (ixOf T.N x).bind fun i => (R sc e).bind fun e' => some (.aug i op e') else none
    | _ => none)
  | .Expr e _ => (match e with
    | .Call (.Attribute (.Name x p) m apos) args [] cpos => if decide (m = "pop") then (mthB T sc x apos cpos).bind fun i => (argPop R sc args).bind fun k => some (.pop none i k)
      else if decide (m = "remove") then (match args with
        | [a] => if isStar a then none else (mthB T sc x apos cpos).bind fun i => (R sc a).bind fun a' => some (.rem i a')
        | _ => none) else none
    | _ => none)
  | .Assign tgs e _ => (match tgs, e with
    | [.Name t pt], .Call (.Attribute (.Name x p) m apos) args [] cpos => if decide (m = "pop") && locB sc t then (ixOf T.N t).bind fun j => (mthB T sc x apos cpos).bind fun i => (argPop R sc args).bind fun k => some (.pop (some j) i k) else none
    | _, _ => none)
  | _ => none
def trS0 (T : TC) (R : Rc) (RS : List Stmt → Option (List S)) (sc : Scope) : Stmt → Option S
  | .Assign tgs e pos => (match tgs with
    | [.Subscript o k p2] => (match o with
      | .Name x p => if isSlice k || isComp e then none else (slotOf T.N sc x).bind fun i => (R sc k).bind fun k' => (R sc e).bind fun e' => some (.sub i k' e')
      | _ => none)
    | [tg] => if isTupE tg && isTupE e then none else (trTg T.N tg).bind fun (z : Tg × List (Str × Nat)) => if ownB sc z.2 then (R sc e).bind fun e' => some (.asg z.1 e') else none
    | _ => none)
  | .Expr e pos => (match e with
    | .Call (.Attribute (.Name x p) m apos) [a] [] cpos => if decide (m = "append") && !isStar a && (apos.endLine == cpos.line) then (slotOf T.N sc x).bind fun i => (R sc a).bind fun a' => some (.app i a')
      else if decide (m = "extend") && !isStar a && (apos.endLine == cpos.line) then (slotOf T.N sc x).bind fun i => (R sc a).bind fun a' => some (.ext i a') else none
    | .Constant (.str _) _ _ => some .pass
    | _ => none)
  | .Return o _ => (match o with
    | some e => (R sc e).map .ret
    | none => some .retN)
  | .If c a b _ => (R sc c).bind fun c' => (RS a).bind fun a' => (RS b).bind fun b' => some (.ite c' a' b')
  | .For tg it b els _ => (match els with
    | [] => (trTg T.N tg).bind fun (z : Tg × List (Str × Nat)) => if ownB sc z.2 then (trI T R sc tg it).bind fun it' => (RS b).bind fun b' => some (.for_ z.1 it' b') else none
    | _ => none)
  | .While c b els _ => (match els with
    | [] => (R sc c).bind fun c' => (RS b).bind fun b' => some (.while_ c' b')
    | _ => none)
  | .Break _ => some .brk
  | .Continue _ => some .cnt
  | .Pass _ => some .pass
  | _ => none
def trS1 (T : TC) (R : Rc) (RS : List Stmt → Option (List S)) (sc : Scope) (st : Stmt) : Option S := match trX T R sc st with
  | some s => some s
  | none => trS0 T R RS sc st
def trSs (T : TC) (R : Rc) (sc : Scope) : Nat → List Stmt → Option (List S)
  | 0, _ => none
  | n + 1, sts => mapO (trS1 T R (trSs T R sc n) sc) sts

/-! ### readings -/
structure Aft (K : PySem.W.Frag) (M : List Nat) (H0 : Hp) (Z : Addr → Prop) (σ : L2.St) (ρ : EnvD) (H : Hp) (tch : Nat → Bool) (ρ' : EnvD) (σ' : L2.St) (H' : Hp) : Prop where
  ss : SS K M H0 Z σ' ρ' H'
  st : Stay Z H H'
  un : ∀ i, tch i = false → σ'[i]? = σ[i]? ∧ ρ'[i]? = ρ[i]?
  ln : σ'.length = σ.length
def Fin (K : PySem.W.Frag) (M : List Nat) (H0 : Hp) (Z : Addr → Prop) (σ : L2.St) (ρ : EnvD) (H : Hp) (tch : Nat → Bool) (D : Ends) (fl : Fl) (ρ' : EnvD) : Prop := match fl with
  | .nx => ∀ σ' H', Aft K M H0 Z σ ρ H tch ρ' σ' H' → D.nx σ' H'
  | .bk => ∀ σ' H', Aft K M H0 Z σ ρ H tch ρ' σ' H' → D.bk σ' H'
  | .ct => ∀ σ' H', Aft K M H0 Z σ ρ H tch ρ' σ' H' → D.ct σ' H'
  | .rt d => ∀ v H', Ext H0 H' → Rep K H' (New H0) v d → D.rt v H'
def tS (K : PySem.W.Frag) (C : Oracle) (M : List Nat) (s : S) : TS := fun D σ H => ∃ ρ H0 Z fl ρ', SS K M H0 Z σ ρ H ∧ evS C M ρ s = some (fl, ρ') ∧ Fin K M H0 Z σ ρ H (fun i => touch i s) D fl ρ'
def tSs (K : PySem.W.Frag) (C : Oracle) (M : List Nat) (ss : List S) : TS := fun D σ H => ∃ ρ H0 Z fl ρ', SS K M H0 Z σ ρ H ∧ evSs C M ρ ss = some (fl, ρ') ∧ Fin K M H0 Z σ ρ H (fun i => touchs i ss) D fl ρ'
section
variable {K : PySem.W.Frag} {M : List Nat} {H0 H H1 H' : Hp} {Z Z' : Addr → Prop} {σ σ' σ1 : L2.St} {ρ ρ' ρ1 : EnvD} {v : V} {d : D} {tch tch' : Nat → Bool} {De : Ends} {C : Oracle}
theorem Stay.trans {P : Addr → Prop} {A B D : Hp} (a : Stay P A B) (b : Stay P B D) : Stay P A D := ⟨fun x xs h => b.tup x xs (a.tup x xs h), fun x o u h => b.frz x o u (a.frz x o u h), fun x xs p h => b.lst x xs p (a.lst x xs p h), fun x u p i h => b.dic x u p i (a.dic x u p i h)⟩
theorem Aft.trans (a : Aft K M H0 Z σ ρ H tch ρ1 σ1 H1) (b : Aft K M H0 Z σ1 ρ1 H1 tch' ρ' σ' H') : Aft K M H0 Z σ ρ H (fun i => tch i || tch' i) ρ' σ' H' :=
  ⟨b.ss, a.st.trans b.st, fun i h => by
    simp only [Bool.or_eq_false_iff] at h
    obtain ⟨h1, h2⟩ := a.un i h.1
    obtain ⟨h3, h4⟩ := b.un i h.2
    exact ⟨h3.trans h1, h4.trans h2⟩, b.ln.trans a.ln⟩
theorem Aft.weak (a : Aft K M H0 Z σ ρ H tch ρ' σ' H') (h : ∀ i, tch' i = false → tch i = false) : Aft K M H0 Z σ ρ H tch' ρ' σ' H' := ⟨a.ss, a.st, fun i z => a.un i (h i z), a.ln⟩
/-- behind a part of the way -/
theorem Fin.after (a : Aft K M H0 Z σ ρ H tch ρ1 σ1 H1) {fl : Fl} (f : Fin K M H0 Z σ ρ H tch' De fl ρ') {t2 : Nat → Bool} (h1 : ∀ i, tch' i = false → tch i = false) (h2 : ∀ i, tch' i = false → t2 i = false) : Fin K M H0 Z σ1 ρ1 H1 t2 De fl ρ' := by
  have go : ∀ {σ' H'}, Aft K M H0 Z σ1 ρ1 H1 t2 ρ' σ' H' → Aft K M H0 Z σ ρ H tch' ρ' σ' H' := fun b => (a.trans b).weak fun i z => by rw [h1 i z, h2 i z]; rfl
  cases fl with
  | nx => exact fun σ' H' b => f σ' H' (go b)
  | bk => exact fun σ' H' b => f σ' H' (go b)
  | ct => exact fun σ' H' b => f σ' H' (go b)
  | rt d => exact f
theorem Aft.here (s : SS K M H0 Z σ ρ H) (e : Ext H H') : Aft K M H0 Z σ ρ H tch ρ σ H' := ⟨s.step e, e.stay Z, fun _ _ => ⟨rfl, rfl⟩, rfl⟩
theorem keepD_get {M : List Nat} : ∀ {ρ : EnvD} {k i : Nat} {d : D}, (keepD M k ρ)[i]? = some (some d) → ρ[i]? = some (some d) ∧ (k + i ∈ M ∨ d.imm = true)
  | [], k, i, d, h => by cases i <;> cases h
  | none :: r, k, 0, d, h => by cases h
  | none :: r, k, i + 1, d, h => by
    have := keepD_get (ρ := r) (k := k + 1) (i := i) (d := d) h
    exact ⟨this.1, by rw [show k + (i + 1) = k + 1 + i by omega]; exact this.2⟩
  | some x :: r, k, 0, d, h => by
    simp only [keepD, List.getElem?_cons_zero] at h
    split at h
    · rename_i hc
      cases h
      refine ⟨rfl, ?_⟩
      simpa using hc
    · cases h
  | some x :: r, k, i + 1, d, h => by
    have := keepD_get (ρ := r) (k := k + 1) (i := i) (d := d) h
    exact ⟨this.1, by rw [show k + (i + 1) = k + 1 + i by omega]; exact this.2⟩
/-- what the frame owns, for itself -/
theorem SS.srk (s : SS K M H0 Z σ ρ H) : SR K H (New H0) σ (keepD M 0 ρ) := ⟨fun i d hd => by
  obtain ⟨h, hm⟩ := keepD_get hd
  rw [Nat.zero_add] at hm
  by_cases hi : i ∈ M
  · obtain ⟨v, h1, h2⟩ := s.own i d hi h
    refine ⟨v, h1, ?_⟩
    rcases h2 with ⟨h2, h3⟩ | ⟨a, vs, rfl, h2, h3, h4⟩
    · exact h3.imm (stay_refl (P := Any)) h2
    · refine h2.rep h3 (h4.mono fun b z => ⟨z.2, fun q => z.1 ?_⟩)
      subst q
      exact ⟨i, hi, d, h2.mut, h, h1⟩
  · obtain ⟨v, h1, h2⟩ := s.free i d hi h
    exact ⟨v, h1, h2.any.imm (stay_refl (P := Any)) (hm.resolve_left hi)⟩, s.ext.tk s.tk0⟩
/-- an expression whose value goes out of the frame -/
theorem out_rep {e : E} (s : SS K M H0 Z σ ρ H) (h : (d.imm || fr e d || (match e with | .var i => M.contains i | _ => false)) = true) (ev : evE C ρ e = some d) (x : Ext H H1) (r : Rep K H1 (PN Any H) v d) (f : fr e d = true → Rep K H1 (New H) v d) (w : ∀ i, e = .var i → σ[i]? = some (some v)) : Rep K H1 (New H0) v d := by
  simp only [Bool.or_eq_true] at h
  rcases h with (h | h) | h
  · exact r.imm (stay_refl (P := Any)) h
  · exact (f h).mono fun a z => s.ext.none z
  · cases e with
    | var i =>
      have hi : i ∈ M := by simpa using h
      have hd : ρ[i]? = some (some d) := by
        simp only [evE] at ev
        cases q : ρ[i]? with
        | none => rw [q] at ev; cases ev
        | some o => cases o with
          | none => rw [q] at ev; cases ev
          | some d' => rw [q] at ev; cases ev; rfl
      obtain ⟨u, h1, h2⟩ := s.own i d hi hd
      rw [w i rfl] at h1
      cases h1
      rcases h2 with ⟨h2, h3⟩ | ⟨a, vs, rfl, h2, h3, h4⟩
      · exact r.imm (stay_refl (P := Any)) h2
      · refine Rep.ext (h2.rep h3 (h4.mono fun b z => ⟨z.2, fun q => z.1 ?_⟩)) x
        subst q
        exact ⟨i, hi, d, h2.mut, hd, w i rfl⟩
    | _ => cases h
/-! storing -/
theorem SS.setFrees : ∀ {is : List Nat} {vs : List V} {ds : List D} {σ : L2.St} {ρ : EnvD}, SS K M H0 Z σ ρ H → (∀ i ∈ is, i ∉ M) → (∀ i ∈ is, i < σ.length) → Reps K H (fun a => ¬ Own M σ ρ a) vs ds → SS K M H0 Z (setAll σ is vs) (setAll ρ is ds) H
  | [], _, _, _, _, s, _, _, _ => by simpa [setAll] using s
  | _ :: _, _, _, _, _, s, _, _, .nil => by simpa [setAll] using s
  | i :: is, _, _, σ, ρ, s, h1, h2, .cons (v := v) (d := d) r t => by
    simp only [setAll]
    have hi := h1 i List.mem_cons_self
    have hl := h2 i List.mem_cons_self
    refine SS.setFrees (s.setFree hi hl r) (fun j hj => h1 j (List.mem_cons_of_mem _ hj)) (fun j hj => by rw [List.length_set]; exact h2 j (List.mem_cons_of_mem _ hj)) (t.mono fun a z q => z ?_)
    obtain ⟨j, hj, es, hm, g1, g2⟩ := q
    have e : i ≠ j := fun z => hi (z ▸ hj)
    rw [List.getElem?_set_ne e] at g1 g2
    exact ⟨j, hj, es, hm, g1, g2⟩
theorem SS.setImms : ∀ {is : List Nat} {vs : List V} {ds : List D} {σ : L2.St} {ρ : EnvD}, SS K M H0 Z σ ρ H → (∀ i ∈ is, i < σ.length) → Reps K H Any vs ds → D.imms ds = true → SS K M H0 Z (setAll σ is vs) (setAll ρ is ds) H
  | [], _, _, _, _, s, _, _, _ => by simpa [setAll] using s
  | _ :: _, _, _, _, _, s, _, .nil, _ => by simpa [setAll] using s
  | i :: is, _, _, σ, ρ, s, h2, .cons r t, hd => by
    simp only [D.imms, Bool.and_eq_true] at hd
    simp only [setAll]
    exact SS.setImms (s.setImm (h2 i List.mem_cons_self) r hd.1) (fun j hj => by rw [List.length_set]; exact h2 j (List.mem_cons_of_mem _ hj)) t hd.2
theorem un_setAll {α : Type} {is : List Nat} {vs : List α} {σ : List (Option α)} {j : Nat} (h : is.contains j = false) : (setAll σ is vs)[j]? = σ[j]? := setAll_out is vs σ (by simpa using h)
/-- what is stored: free targets, not owned -/
theorem tg_free {t : Tg} {Q : L2.St → Hp → Prop} (s : SS K M H0 Z σ ρ H) (hf : freeT M t = true) (hl : ∀ i ∈ t.slots, i < σ.length) (r : RepT (isTupT t) K H (fun a => ¬ Own M σ ρ a) v d) (hb : bindT t d ρ = some ρ')
    (q : ∀ σ', Aft K M H0 Z σ ρ H (fun i => t.slots.contains i) ρ' σ' H → Q σ' H) : gTg K t v σ H Q := by
  have hfm : ∀ i ∈ t.slots, i ∉ M := fun i hi z => by
    have := List.all_eq_true.mp hf i hi
    simp only [Bool.not_eq_true', List.contains_eq_mem, decide_eq_false_iff_not] at this
    exact this z
  cases t with
  | nm i =>
    cases hb
    exact q _ ⟨s.setFree (hfm i List.mem_cons_self) (hl i List.mem_cons_self) r.nm, stay_refl, fun j hj => ⟨un_setAll (is := [i]) (vs := [v]) hj, un_setAll (is := [i]) (vs := [d]) hj⟩, List.length_set⟩
  | tup is =>
    cases d with
    | tup ds =>
      obtain ⟨hlen, rfl⟩ := ite_some hb
      obtain ⟨a, vs, rfl, ha, rs⟩ := r.tup
      have hv := rs.length
      refine ⟨a, vs, rfl, ha, by omega, gNames_run is vs σ H (by omega) (q _ ?_)⟩
      rw [setAll_fold]
      exact ⟨SS.setFrees s hfm hl rs, stay_refl, fun j hj => ⟨un_setAll hj, un_setAll hj⟩, setAll_length _ _ _⟩
    | _ => cases hb
  | pr i is =>
    obtain ⟨d1, ds, rfl, hlen, rfl⟩ := bindT_pr_inv hb
    obtain ⟨a, vs, rfl, ha, rs⟩ := r.tup
    obtain ⟨x1, x2, rfl, q1, q2⟩ := reps2 rs
    obtain ⟨b, ws, rfl, hb', rw'⟩ := q2.tup_inv
    have hv := rw'.length
    refine ⟨a, _, rfl, ha, rfl, _, _, rfl, _, _, rfl, b, ws, rfl, hb', by omega, gNames_run is ws _ H (by omega) ⟨rfl, q _ ?_⟩⟩
    have h3 : SS K M H0 Z (setAll σ (i :: is) (x1 :: ws)) (setAll ρ (i :: is) (d1 :: ds)) H := SS.setFrees s hfm hl (.cons q1 rw')
    exact ⟨h3, stay_refl, fun j hj => ⟨un_setAll (is := i :: is) (vs := x1 :: ws) hj, un_setAll (is := i :: is) (vs := d1 :: ds) hj⟩, setAll_length (i :: is) (x1 :: ws) σ⟩
theorem tg_imm {t : Tg} {Q : L2.St → Hp → Prop} (s : SS K M H0 Z σ ρ H) (hl : ∀ i ∈ t.slots, i < σ.length) (r : RepT (isTupT t) K H Any v d) (hd : d.imm = true) (hb : bindT t d ρ = some ρ')
    (q : ∀ σ', Aft K M H0 Z σ ρ H (fun i => t.slots.contains i) ρ' σ' H → Q σ' H) : gTg K t v σ H Q := by
  cases t with
  | nm i =>
    cases hb
    exact q _ ⟨s.setImm (hl i List.mem_cons_self) r.nm hd, stay_refl, fun j hj => ⟨un_setAll (is := [i]) (vs := [v]) hj, un_setAll (is := [i]) (vs := [d]) hj⟩, List.length_set⟩
  | tup is =>
    cases d with
    | tup ds =>
      obtain ⟨hlen, rfl⟩ := ite_some hb
      obtain ⟨a, vs, rfl, ha, rs⟩ := r.tup
      have hv := rs.length
      refine ⟨a, vs, rfl, ha, by omega, gNames_run is vs σ H (by omega) (q _ ?_)⟩
      rw [setAll_fold]
      exact ⟨SS.setImms s hl rs (by simpa [D.imm] using hd), stay_refl, fun j hj => ⟨un_setAll hj, un_setAll hj⟩, setAll_length _ _ _⟩
    | _ => cases hb
  | pr i is =>
    obtain ⟨d1, ds, rfl, hlen, rfl⟩ := bindT_pr_inv hb
    obtain ⟨a, vs, rfl, ha, rs⟩ := r.tup
    obtain ⟨x1, x2, rfl, q1, q2⟩ := reps2 rs
    obtain ⟨b, ws, rfl, hb', rw'⟩ := q2.tup_inv
    have hv := rw'.length
    have hd2 : d1.imm = true ∧ D.imms ds = true := by simpa [D.imm, D.imms] using hd
    refine ⟨a, _, rfl, ha, rfl, _, _, rfl, _, _, rfl, b, ws, rfl, hb', by omega, gNames_run is ws _ H (by omega) ⟨rfl, q _ ?_⟩⟩
    have h3 : SS K M H0 Z (setAll σ (i :: is) (x1 :: ws)) (setAll ρ (i :: is) (d1 :: ds)) H := SS.setImms s hl (.cons q1 rw') (by simp [D.imms, hd2])
    exact ⟨h3, stay_refl, fun j hj => ⟨un_setAll (is := i :: is) (vs := x1 :: ws) hj, un_setAll (is := i :: is) (vs := d1 :: ds) hj⟩, setAll_length (i :: is) (x1 :: ws) σ⟩
theorem not_own_new (s : SS K M H0 Z σ ρ H) {a : Addr} (h : H a = none) : ¬ Own M σ ρ a := fun o => by
  obtain ⟨vs, q, _⟩ := o.there s
  rw [h] at q; cases q
/-- t = e -/
theorem asg_core {t : Tg} {e : E} {Q : L2.St → Hp → Prop} (s : SS K M H0 Z σ ρ H) (ev : evE C ρ e = some d) (ok : bindOK M t e d = true) (hb : bindT t d ρ = some ρ') (hl : ∀ i ∈ t.slots, i < σ.length)
    (q : ∀ σ' H', Aft K M H0 Z σ ρ H (fun i => t.slots.contains i) ρ' σ' H' → Q σ' H') : tE K C e σ H (fun x H1 => gTg K t x σ H1 Q) := by
  unfold bindOK at ok
  have join : ∀ {H1 σ'}, Ext H H1 → Aft K M H0 Z σ ρ H1 (fun i => t.slots.contains i) ρ' σ' H1 → Aft K M H0 Z σ ρ H (fun i => t.slots.contains i) ρ' σ' H1 := fun x a => ((Aft.here (tch := fun _ => false) s x).trans a).weak fun i z => by simpa using z
  by_cases hf : freeT M t = true
  · rw [if_pos hf] at ok
    simp only [Bool.or_eq_true] at ok
    rcases ok with h | h
    · exact ⟨wipe ρ M, _, d, s.srw, (clean_ev h).trans ev, fun v H1 x r _ _ => tg_free (s.step x) hf hl (.inl (r.mono fun a z => z.elim id (not_own_new s))) hb fun σ' a => q σ' H1 (join x a)⟩
    · refine ⟨ρ, Any, d, s.sr, ev, fun v H1 x r f _ => tg_free (s.step x) hf hl (.inl ?_) hb fun σ' a => q σ' H1 (join x a)⟩
      rcases h with h | h
      · exact r.imm (stay_refl (P := Any)) h
      · exact (f h).mono fun a z => not_own_new s z
  · rw [if_neg hf] at ok
    simp only [Bool.or_eq_true] at ok
    refine ⟨ρ, Any, d, s.sr, ev, fun v H1 x r f _ => ?_⟩
    rcases ok with h | h
    · exact tg_imm (s.step x) hl (.inl r.any) h hb fun σ' a => q σ' H1 (join x a)
    · cases t with
      | nm i =>
        simp only [Bool.and_eq_true] at h
        cases hb
        have hi : i ∈ M := by
          have hf' : ¬ (([i] : List Nat).all fun i => !M.contains i) = true := hf
          simpa using hf'
        exact q _ H1 ⟨s.setNew x h.2 hi (hl i List.mem_cons_self) (f h.1), x.stay Z, fun j hj => ⟨un_setAll (is := [i]) (vs := [v]) hj, un_setAll (is := [i]) (vs := [d]) hj⟩, List.length_set⟩
      | tup is => cases h
      | pr j is => cases h
theorem mv_core {t : Tg} {e : E} {fl : Fl} {Q : L2.St → Hp → Prop} (s : SS K M H0 Z σ ρ H) (ev : evE C ρ e = some d) (hm : mvD M ρ d t e = some (fl, ρ')) (hl : ∀ i ∈ t.slots, i < σ.length)
    (q : ∀ σ' H', Aft K M H0 Z σ ρ H (fun i => t.slots.contains i || isVar i e) ρ' σ' H' → Q σ' H') : fl = .nx ∧ tE K C e σ H (fun x H1 => gTg K t x σ H1 Q) := by
  cases t with
  | tup is => cases hm
  | pr j is => cases hm
  | nm i =>
    cases e with
    | var j =>
      simp only [mvD] at hm
      obtain ⟨hc, hm⟩ := ite_some' hm
      cases hm
      simp only [Bool.and_eq_true, List.contains_eq_mem, decide_eq_true_eq, Bool.not_eq_true', beq_eq_false_iff_ne] at hc
      obtain ⟨⟨hj, hij⟩, hd⟩ := hc
      refine ⟨rfl, ρ, Any, d, s.sr, ev, fun v H1 x r f w => ?_⟩
      have hr : ρ[j]? = some (some d) := by
        simp only [evE] at ev
        cases h : ρ[j]? with
        | none => rw [h] at ev; cases ev
        | some o => rw [h] at ev; exact congrArg some ev
      have goes : ∀ {v H1}, Ext H H1 → ρ[j]? = some (some d) → σ[j]? = some (some v) → SS K M H0 Z (σ.set i (some v)) ((ρ.set i (some d)).set j none) H1 := fun {v H1} x hr w => by
        by_cases hi : i ∈ M
        · exact (s.step x).move hd hi hj hij (hl i List.mem_cons_self) hr w
        · exact (s.step x).release hd hi hj (hl i List.mem_cons_self) hr w
      have join : ∀ {σ'}, Aft K M H0 Z σ ρ H1 (fun k => ([i] : List Nat).contains k || isVar k (.var j)) ((ρ.set i (some d)).set j none) σ' H1 → Aft K M H0 Z σ ρ H (fun k => ([i] : List Nat).contains k || isVar k (.var j)) ((ρ.set i (some d)).set j none) σ' H1 := fun a => ((Aft.here (tch := fun _ => false) s x).trans a).weak fun k z => by simpa using z
      refine q _ H1 (join ⟨goes x hr (w j rfl), stay_refl, fun k hk => ?_, List.length_set⟩)
      simp only [List.contains_eq_mem, List.mem_singleton, isVar, Bool.or_eq_false_iff, decide_eq_false_iff_not, beq_eq_false_iff_ne] at hk
      exact ⟨List.getElem?_set_ne fun z => hk.1 z.symm, by rw [List.getElem?_set_ne fun z => hk.2 z.symm, List.getElem?_set_ne fun z => hk.1 z.symm]⟩
    | _ => cases hm
end
end Ev
set_option maxHeartbeats 4000000
namespace Ev
open PySem PySem.Spec PyProof.Rows L2
variable [Tabs]

structure GS (T : TC) (C : Oracle) (sc : Scope) (X : Cx) : Prop where
  g : GX T C sc X
  hp : PassesOwn (model X.prog X.w) X.A X.env X.xe
  fnt : ∀ x, X.fn x = true
def SndS (T : TC) (C : Oracle) (M : List Nat) (sc : Scope) (st : Stmt) (s : S) : Prop := ∀ X, GS T C sc X → PS X st (tS X.K C M s)
def SndSs (T : TC) (C : Oracle) (M : List Nat) (sc : Scope) (st : List Stmt) (s : List S) : Prop := ∀ X, GS T C sc X → PSs X st (tSs X.K C M s)
section
variable {T : TC} {C : Oracle} {M : List Nat} {sc : Scope} {X : Cx} {n : Nat}
theorem ps_weak {st : Stmt} {t t' : TS} (h : PS X st t) (w : ∀ pins s σ H D, Inv X pins σ H s → t' D σ H → t D σ H) : PS X st t' := ⟨fun pins s σ H D I q => h.run pins s σ H D I (w _ _ _ _ _ I q)⟩
theorem pss_weak {st : List Stmt} {t t' : TS} (h : PSs X st t) (w : ∀ pins s σ H D, Inv X pins σ H s → t' D σ H → t D σ H) : PSs X st t' := ⟨fun pins s σ H D I q => h.run pins s σ H D I (w _ _ _ _ _ I q)⟩
/-! blocks -/
theorem snd_nil : SndSs T C M sc [] [] := fun X G => pss_weak pss_nil fun pins s σ H D I q => by
  obtain ⟨ρ, H0, Z, fl, ρ', ss, ev, f⟩ := q
  simp only [evSs] at ev
  cases ev
  exact f σ H (Aft.here ss (Ext.refl H))
theorem snd_cons {st : Stmt} {r : List Stmt} {a : S} {b : List S} (h1 : SndS T C M sc st a) (h2 : SndSs T C M sc r b) : SndSs T C M sc (st :: r) (a :: b) := fun X G => pss_weak (pss_cons (h1 X G) (h2 X G)) fun pins s σ H D I q => by
  obtain ⟨ρ, H0, Z, fl, ρ', ss, ev, f⟩ := q
  simp only [evSs, Option.bind_eq_some_iff] at ev
  obtain ⟨⟨fl1, ρ1⟩, e1, e2⟩ := ev
  refine ⟨ρ, H0, Z, fl1, ρ1, ss, e1, ?_⟩
  have w1 : ∀ i, touchs i (a :: b) = false → touch i a = false := fun i h => by simp only [touchs, Bool.or_eq_false_iff] at h; exact h.1
  have w2 : ∀ i, touchs i (a :: b) = false → touchs i b = false := fun i h => by simp only [touchs, Bool.or_eq_false_iff] at h; exact h.2
  cases fl1 with
  | nx => exact fun σ1 H1 aft => ⟨ρ1, H0, Z, fl, ρ', aft.ss, e2, Fin.after aft f w1 w2⟩
  | bk => cases e2; exact fun σ1 H1 aft => f σ1 H1 (aft.weak w1)
  | ct => cases e2; exact fun σ1 H1 aft => f σ1 H1 (aft.weak w1)
  | rt d => cases e2; exact f
/-! the small ones -/
theorem snd_pass {pos : Pos} : SndS T C M sc (.Pass pos) .pass := fun X G => ps_weak ps_pass fun pins s σ H D I q => by
  obtain ⟨ρ, H0, Z, fl, ρ', ss, ev, f⟩ := q
  simp only [evS] at ev
  cases ev
  exact f σ H (Aft.here ss (Ext.refl H))
theorem snd_doc {x : Str} {k : Nat} {pos pos' : Pos} : SndS T C M sc (.Expr (.Constant (.str x) k pos) pos') .pass := fun X G => ps_weak ps_doc fun pins s σ H D I q => by
  obtain ⟨ρ, H0, Z, fl, ρ', ss, ev, f⟩ := q
  simp only [evS] at ev
  cases ev
  exact f σ H (Aft.here ss (Ext.refl H))
theorem snd_brk {pos : Pos} : SndS T C M sc (.Break pos) .brk := fun X G => ps_weak ps_break fun pins s σ H D I q => by
  obtain ⟨ρ, H0, Z, fl, ρ', ss, ev, f⟩ := q
  simp only [evS] at ev
  cases ev
  exact f σ H (Aft.here ss (Ext.refl H))
theorem snd_cnt {pos : Pos} : SndS T C M sc (.Continue pos) .cnt := fun X G => ps_weak ps_continue fun pins s σ H D I q => by
  obtain ⟨ρ, H0, Z, fl, ρ', ss, ev, f⟩ := q
  simp only [evS] at ev
  cases ev
  exact f σ H (Aft.here ss (Ext.refl H))
theorem snd_ret {e : Expr} {E : E} {pos : Pos} (h : SndX T C sc e E) : SndS T C M sc (.Return (some e) pos) (.ret E) := fun X G => ps_weak (ps_ret (h.v X G.g)) fun pins s σ H D I q => by
  obtain ⟨ρ, H0, Z, fl, ρ', ss, ev, f⟩ := q
  simp only [evS, Option.bind_eq_some_iff] at ev
  obtain ⟨d, e1, e2⟩ := ev
  rcases ite_or e2 with ⟨hc, e2⟩ | ⟨hc, e2⟩
  · cases e2
    exact ⟨ρ, Any, d, ss.sr, e1, fun v H1 x r fr w => f v H1 (ss.ext.trans x) (out_rep ss hc e1 x r fr w)⟩
  · simp only [Option.bind_eq_some_iff] at e2
    obtain ⟨d', e5, e6⟩ := e2
    cases e6
    exact ⟨keepD M 0 ρ, New H0, d', ss.srk, e5, fun v H1 x r fr w => f v H1 (ss.ext.trans x) (r.mono fun a z => z.elim id (ss.ext.none))⟩
theorem snd_retN {pos : Pos} : SndS T C M sc (.Return none pos) .retN := fun X G => ps_weak ps_retN fun pins s σ H D I q => by
  obtain ⟨ρ, H0, Z, fl, ρ', ss, ev, f⟩ := q
  simp only [evS] at ev
  cases ev
  exact f .non H ss.ext .non
theorem snd_if {c : Expr} {a b : List Stmt} {E : E} {A B : List S} {pos : Pos} (hc : SndX T C sc c E) (ha : SndSs T C M sc a A) (hb : SndSs T C M sc b B) : SndS T C M sc (.If c a b pos) (.ite E A B) := fun X G => ps_weak (ps_if (hc.t X G.g) (ha X G) (hb X G)) fun pins s σ H D I q => by
  obtain ⟨ρ, H0, Z, fl, ρ', ss, ev, f⟩ := q
  simp only [evS, Option.bind_eq_some_iff] at ev
  obtain ⟨d, e1, k, e2, e3⟩ := ev
  refine ⟨ρ, Any, d, k, ss.sr, e1, e2, fun H1 x => ?_⟩
  have af : Aft X.K M H0 Z σ ρ H (fun _ => false) ρ σ H1 := Aft.here ss x
  cases k with
  | true => exact ⟨ρ, H0, Z, fl, ρ', af.ss, e3, Fin.after af f (fun _ _ => rfl) fun i h => by simp only [touch, Bool.or_eq_false_iff] at h; exact h.1⟩
  | false => exact ⟨ρ, H0, Z, fl, ρ', af.ss, e3, Fin.after af f (fun _ _ => rfl) fun i h => by simp only [touch, Bool.or_eq_false_iff] at h; exact h.2⟩
/-! t = e -/
theorem trTg_lt {N : List Str} {tg : Expr} {t : Tg} {own : List (Str × Nat)} (h : trTg N tg = some (t, own)) : ∀ p ∈ own, N[p.2]? = some p.1 := by
  have go : ∀ {es : List Expr} {ps : List (Str × Nat)}, mapO (trTg1 N) es = some ps → ∀ p ∈ ps, N[p.2]? = some p.1 := by
    intro es
    induction es with
    | nil => intro ps h; cases h; intro p hp; cases hp
    | cons e es ih =>
      intro ps h
      simp only [mapO, Option.bind_eq_some_iff] at h
      obtain ⟨q, h1, qs, h2, h3⟩ := h
      cases h3
      intro p hp
      rcases List.mem_cons.mp hp with rfl | hp
      · cases e with
        | Name x pos =>
          obtain ⟨i, hi, rfl⟩ := Option.map_eq_some_iff.mp h1
          exact ixOf_some hi
        | _ => cases h1
      · exact ih h2 p hp
  cases tg with
  | Name x pos =>
    obtain ⟨i, hi, e⟩ := Option.map_eq_some_iff.mp h
    cases e
    intro p hp
    cases List.mem_singleton.mp hp
    exact ixOf_some hi
  | Tuple es k pos =>
    rcases trTg_tupE h with ⟨hi, rfl⟩ | ⟨x, p, fs, k2, p2, i, ps, rfl, hi, hf, rfl, rfl⟩
    · exact go hi
    · intro p hp
      rcases List.mem_cons.mp hp with rfl | hp
      · exact ixOf_some hi
      · exact go hf p hp
  | _ => cases h
theorem own_ok (G : GS T C sc X) {tg : Expr} {t : Tg} {own : List (Str × Nat)} (h : trTg T.N tg = some (t, own)) (ho : ownB sc own = true) : OwnOk X own := fun p hp => by
  refine ⟨by rw [G.g.hN]; exact trTg_lt h p hp, ?_, .inl (G.fnt _)⟩
  rw [G.g.hsc]
  exact loc_of (List.all_eq_true.mp ho p hp)
theorem slots_lt (G : GS T C sc X) {tg : Expr} {t : Tg} {own : List (Str × Nat)} (h : trTg T.N tg = some (t, own)) {pins : List (Addr × Obj)} {s : Shared} {σ : L2.St} {H : Hp} (I : Inv X pins σ H s) : ∀ i ∈ t.slots, i < σ.length := fun i hi => by
  rw [trTg_slots h] at hi
  obtain ⟨p, hp, rfl⟩ := List.mem_map.mp hi
  rw [I.len, G.g.hN]
  exact (List.getElem?_eq_some_iff.mp (trTg_lt h p hp)).1
theorem asg_read {K : PySem.W.Frag} {t : Tg} {e : E} {D : Ends} {σ : L2.St} {H : Hp} (hl : ∀ i ∈ t.slots, i < σ.length) (q : tS K C M (.asg t e) D σ H) : tE K C e σ H (fun x H1 => gTg K t x σ H1 D.nx) := by
  obtain ⟨ρ, H0, Z, fl, ρ', ss, ev, f⟩ := q
  simp only [evS, Option.bind_eq_some_iff] at ev
  obtain ⟨d, e1, e2⟩ := ev
  by_cases hc : bindOK M t e d = true
  · rw [if_pos hc] at e2
    simp only [Option.bind_eq_some_iff] at e2
    obtain ⟨ρ1, e3, e4⟩ := e2
    cases e4
    exact asg_core ss e1 hc e3 hl fun σ' H' a => f σ' H' (a.weak fun i z => by simp only [touch, Bool.or_eq_false_iff] at z; exact z.1)
  · rw [if_neg hc] at e2
    cases fl with
    | nx => exact (mv_core ss e1 e2 hl fun σ' H' a => f σ' H' (a.weak fun i z => by simpa only [touch] using z)).2
    | _ =>
      have := (mv_core (Q := fun _ _ => True) ss e1 e2 hl fun _ _ _ => trivial).1
      cases this
theorem tr_comp {elt : Expr} {gens : List Comprehension} {scope : Scope} {pos : Pos} {E : E} (h : tr T n sc (.ListComp elt gens scope pos) = some E) : (∃ m, n = m + 1 ∧ ∃ (tg iter : Expr) (ifs : List Expr) (k : Int) (t : Tg) (own : List (Str × Nat)) (it : It) (c : Option Ev.E) (A : Ev.E), gens = [⟨tg, iter, ifs, k⟩] ∧ trTg T.N tg = some (t, own) ∧ blkC T.N sc scope own = true ∧ k = 0 ∧
    own.all (fun p => locB (relS scope sc) p.1 && (isCell scope p.1 || isLocal (relS scope sc) p.1)) = true ∧ trI T (tr T m) sc tg iter = some it ∧ trIf (tr T m (relS scope sc)) ifs = some c ∧ tr T m (relS scope sc) elt = some A ∧ E = .comp A (own.map Prod.snd) t it c) ∨
  (∃ m, n = m + 1 ∧ ∃ (tg iter tg1 iter1 : Expr) (ifs ifs1 : List Expr) (k k1 : Int) (t t1 : Tg) (own own1 : List (Str × Nat)) (it it1 : It) (c c1 : Option Ev.E) (A : Ev.E), gens = [⟨tg, iter, ifs, k⟩, ⟨tg1, iter1, ifs1, k1⟩] ∧ trTg T.N tg = some (t, own) ∧ trTg T.N tg1 = some (t1, own1) ∧ blkC T.N sc scope (own ++ own1) = true ∧ k = 0 ∧ k1 = 0 ∧
    (own ++ own1).all (fun p => locB (relS scope sc) p.1 && (isCell scope p.1 || isLocal (relS scope sc) p.1)) = true ∧ trI T (tr T m) sc tg iter = some it ∧ trIf (tr T m (relS scope sc)) ifs = some c ∧ trI T (tr T m) (relS scope sc) tg1 iter1 = some it1 ∧ trIf (tr T m (relS scope sc)) ifs1 = some c1 ∧ tr T m (relS scope sc) elt = some A ∧ E = .comp2 A ((own ++ own1).map Prod.snd) (own1.map Prod.snd) t it c t1 it1 c1) := by
  cases n with
  | zero => cases h
  | succ m =>
    have h : trStep T (tr T m) (if T.g = 1 then tr T.dec m else fun _ _ => none) sc (.ListComp elt gens scope pos) = some E := h
    simp only [trStep] at h
    split at h
    · rename_i tg iter ifs k
      simp only [Option.bind_eq_some_iff] at h
      obtain ⟨z, h1, h2⟩ := h
      obtain ⟨hc, h2⟩ := ite_some' h2
      simp only [Bool.and_eq_true, decide_eq_true_eq] at hc
      simp only [Option.bind_eq_some_iff] at h2
      obtain ⟨it, h3, c, h4, A, h5, h6⟩ := h2
      cases h6
      obtain ⟨t, own⟩ := z
      exact .inl ⟨m, rfl, _, _, _, _, t, own, it, c, A, rfl, h1, hc.1.1, hc.1.2, by simpa using hc.2, h3, h4, h5, rfl⟩
    · rename_i tg iter ifs k tg1 iter1 ifs1 k1
      simp only [Option.bind_eq_some_iff] at h
      obtain ⟨z, h1, z1, h1', h2⟩ := h
      obtain ⟨hc, h2⟩ := ite_some' h2
      rw [Bool.and_eq_true, Bool.and_eq_true, Bool.and_eq_true, decide_eq_true_eq, decide_eq_true_eq] at hc
      simp only [Option.bind_eq_some_iff] at h2
      obtain ⟨it, h3, c, h4, it1, h5, c1, h6, A, h7, h8⟩ := h2
      cases h8
      obtain ⟨t, own⟩ := z
      obtain ⟨t1, own1⟩ := z1
      exact .inr ⟨m, rfl, _, _, _, _, _, _, _, _, t, t1, own, own1, it, it1, c, c1, A, rfl, h1, h1', hc.1.1.1, hc.1.1.2, hc.1.2, hc.2, h3, h4, h5, h6, h7, rfl⟩
    · cases h
theorem snd_asgN {x : Str} {px pos : Pos} {e : Expr} {E : E} {i : Nat} (hi : ixOf T.N x = some i) (hx : locB sc x = true) (he : tr T n sc e = some E) : SndS T C M sc (.Assign [.Name x px] e pos) (.asg (.nm i) E) := fun X G => by
  have htg : trTg T.N (.Name x px) = some (.nm i, [(x, i)]) := by
    show (ixOf T.N x).map (fun i => (Tg.nm i, [(x, i)])) = _
    rw [hi]; rfl
  have hxi : X.N[i]? = some x := by rw [G.g.hN]; exact ixOf_some hi
  have hloc : Loc X.env.scope x := by rw [G.g.hsc]; exact loc_of hx
  have nd : X.N.Nodup := by rw [G.g.hN]; exact G.g.nd
  have plain : swapsWith e (some (.Name x px)) pos.line X.env = pure false → PS X (.Assign [.Name x px] e pos) (tS X.K C M (.asg (.nm i) E)) := fun hs =>
    ps_weak (ps_set nd hxi hloc ((snd_tr n sc e E he).v X G.g) hs (.inl (G.fnt x))) fun pins s σ H D I q => asg_read (slots_lt G htg I) q
  cases e with
  | ListComp elt gens scope p =>
    have hsw : swapsWith (.ListComp elt gens scope p) (some (.Name x px)) pos.line X.env = pure (X.env.blockKind == .function && X.env.kindOf x == some .local && px.line == p.line && !(scope.names.any fun (n, k) => n == x && (k == .local || k == .cell))) := rfl
    by_cases hb : (X.env.blockKind == .function && X.env.kindOf x == some .local && px.line == p.line && !(scope.names.any fun (n, k) => n == x && (k == .local || k == .cell))) = true
    · rw [hb] at hsw
      have hyl : X.env.scope.names.lookup x = some .local := by
        simp only [Bool.and_eq_true] at hb
        have := hb.1.1.2
        exact eq_of_beq this
      rcases tr_comp he with ⟨m, rfl, tg, iter, ifs, k, t, own, it, c, A, rfl, h1, h2, h3, h4, h5, h6, h7, rfl⟩ | ⟨m, rfl, tg, iter, tg1, iter1, ifs, ifs1, k, k1, t, t1, own, own1, it, it1, c, c1, A, rfl, h1, h1', h2, h3, h3', h4, h5, h6, h5', h6', h7, rfl⟩
      · obtain ⟨g1, g2, g3, g4, g5, g6, g7⟩ := comp_parts (pos := p) (snd_tr m) h1 h2 h3 h4 h5 h6 h7 X G.g
        subst h3
        refine ps_weak (ps_setLc G.g.calm nd hxi hyl hsw g1 g2 g3 g4 g5 g6) fun pins s σ H D I q => ?_
        have q2 := asg_read (slots_lt G htg I) q
        exact comp_lc (fun j hj => by rw [I.len, G.g.hN]; exact g7 j hj) (trTg_slots h1) q2
      · obtain ⟨g1, g2, g3, g4, g5, g6, g7, g8, g9, g10, g11⟩ := comp2_parts (k := k) (k1 := k1) (pos := p) (snd_tr m) h1 h1' h2 h4 h5 h6 h5' h6' h7 X G.g
        subst h3 h3'
        obtain ⟨s1, s2, s3⟩ := comp2_subs h1 h1'
        refine ps_weak (ps_setLc2 (own := own ++ own1) (vs1 := own1.map Prod.snd) G.g.calm nd hxi hyl hsw g1 g2 s3 g3 g4 g5 g6 g7 g8 g9 g10) fun pins s σ H D I q => ?_
        have q2 := asg_read (slots_lt G htg I) q
        exact comp2_lc (fun j hj => by rw [I.len, G.g.hN]; exact g11 j hj) s1 s2 s3 q2
    · have hb' : (X.env.blockKind == .function && X.env.kindOf x == some .local && px.line == p.line && !(scope.names.any fun (n, k) => n == x && (k == .local || k == .cell))) = false := Bool.eq_false_iff.mpr hb
      rw [hb'] at hsw
      exact plain hsw
  | SetComp _ _ _ _ => cases n <;> cases he
  | DictComp _ _ _ _ _ => cases n <;> cases he
  | _ => exact plain rfl
theorem snd_asgT {es : List Expr} {kt : Nat} {pt pos : Pos} {e : Expr} {E : E} {t : Tg} {own : List (Str × Nat)} (htg : trTg T.N (.Tuple es kt pt) = some (t, own)) (ho : ownB sc own = true) (hne : isTupE e = false) (he : SndX T C sc e E) :
    SndS T C M sc (.Assign [.Tuple es kt pt] e pos) (.asg t E) := fun X G => by
  have nd : X.N.Nodup := by rw [G.g.hN]; exact G.g.nd
  have pg := pg_tg G.g.calm nd (tg := .Tuple es kt pt) (by rw [G.g.hN]; exact htg) (own_ok G htg ho)
  have hs : swapsWithSole [.Tuple es kt pt] e pos.line X.env = pure false := by cases e <;> rfl
  have hw : swappedStores [.Tuple es kt pt] e X.env = pure none := by cases e <;> first | rfl | cases hne
  exact ps_weak (ps_asg (he.v X G.g) pg hs hw rfl) fun pins s σ H D I q => asg_read (slots_lt G htg I) q
theorem var_get {ρ : EnvD} {i : Nat} {d : D} (h : ρ[i]?.bind id = some d) : ρ[i]? = some (some d) := by
  cases q : ρ[i]? with
  | none => rw [q] at h; cases h
  | some o => cases o with
    | none => rw [q] at h; cases h
    | some d' => rw [q] at h; cases h; rfl
theorem fresh_rep {K : PySem.W.Frag} {H0 H H1 : Hp} {Z : Addr → Prop} {σ : L2.St} {ρ : EnvD} {v : V} {d : D} {e : Ev.E} (s : SS K M H0 Z σ ρ H) (h : (d.imm || fr e d) = true) (r : Rep K H1 (PN Any H) v d) (f : fr e d = true → Rep K H1 (New H) v d) : Rep K H1 (fun b => ¬ Own M σ ρ b ∧ H0 b = none) v d := by
  simp only [Bool.or_eq_true] at h
  rcases h with h | h
  · exact r.imm (stay_refl (P := Any)) h
  · exact (f h).mono fun a z => ⟨not_own_new s z, s.ext.none z⟩
/-- what a slot of M has, a list -/
theorem own_lst {K : PySem.W.Frag} {H0 H : Hp} {Z : Addr → Prop} {σ : L2.St} {ρ : EnvD} {i : Nat} {ds : List D} (s : SS K M H0 Z σ ρ H) (hi : i ∈ M) (hd : ρ[i]? = some (some (.lst ds))) : ∃ a vs, σ[i]? = some (some (.ref a)) ∧ H a = some (.lst vs) ∧ H0 a = none ∧ Reps K H (fun b => ¬ Own M σ ρ b ∧ H0 b = none) vs ds := by
  obtain ⟨v, h1, h2⟩ := s.own i _ hi hd
  rcases h2 with ⟨h2, _⟩ | ⟨a, vs, rfl, h2, h3, h4⟩
  · simp [D.imm] at h2
  · exact ⟨a, vs, h1, h2, h3, h4⟩
theorem aft_change {K : PySem.W.Frag} {H0 H H1 : Hp} {Z : Addr → Prop} {σ : L2.St} {ρ : EnvD} {i : Nat} {a : Addr} {vs ws : List V} {ds es : List D} (s : SS K M H0 Z σ ρ H) (x : Ext H H1) (hi : i ∈ M) (hρ : ρ[i]? = some (some (.lst ds))) (hσ : σ[i]? = some (some (.ref a)))
    (hat : H1 a = some (.lst vs)) (hn : H0 a = none) (r : Reps K H1 (fun b => ¬ Own M σ ρ b ∧ H0 b = none) ws es) : Aft K M H0 Z σ ρ H (fun j => j == i) (ρ.set i (some (.lst es))) σ (upd H1 a (.lst ws)) := by
  obtain ⟨h1, h2⟩ := (s.step x).change (u1 := .lst ws) (d1 := .lst es) rfl hi hρ hσ hat trivial hn upd_same r
  refine ⟨h1, (x.stay Z).trans h2, fun j hj => ⟨rfl, ?_⟩, rfl⟩
  have : j ≠ i := by simpa using hj
  exact List.getElem?_set_ne (fun z => this z.symm)
theorem aft_box {K : PySem.W.Frag} {H0 H H1 : Hp} {Z : Addr → Prop} {σ : L2.St} {ρ : EnvD} {i : Nat} {a : Addr} {u0 u1 : HO} {ws : List V} {d0 d1 : D} (s : SS K M H0 Z σ ρ H) (x : Ext H H1) (hi : i ∈ M) (m0 : isMut d0 = true) (hρ : ρ[i]? = some (some d0)) (hσ : σ[i]? = some (some (.ref a)))
    (hat : H1 a = some u0) (hu : MutO u0) (hn : H0 a = none) (b1 : BxAt (upd H1 a u1) a d1 ws) (r : Reps K H1 (fun b => ¬ Own M σ ρ b ∧ H0 b = none) ws (inside d1)) : Aft K M H0 Z σ ρ H (fun j => j == i) (ρ.set i (some d1)) σ (upd H1 a u1) := by
  obtain ⟨h1, h2⟩ := (s.step x).change m0 hi hρ hσ hat hu hn b1 r
  refine ⟨h1, (x.stay Z).trans h2, fun j hj => ⟨rfl, ?_⟩, rfl⟩
  have : j ≠ i := by simpa using hj
  exact List.getElem?_set_ne (fun z => this z.symm)
theorem snd_app {x : Str} {p apos cpos pos : Pos} {a : Expr} {A : Ev.E} {i : Nat} (hi : slotOf T.N sc x = some i) (ha : SndX T C sc a A) (hs : isStar a = false) (hl : (apos.endLine == cpos.line) = true) :
    SndS T C M sc (.Expr (.Call (.Attribute (.Name x p) "append" apos) [a] [] cpos) pos) (.app i A) := fun X G => by
  unfold slotOf at hi
  obtain ⟨hc, hi⟩ := ite_some' hi
  simp only [Bool.and_eq_true, Bool.not_eq_true'] at hc
  have pn : PE X (.Name x p) (tVar i) := pe_var (i := i) (by rw [G.g.hN]; exact ixOf_some hi) (by rw [G.g.hsc]; exact vis_of hc.1.1) hc.1.2 hc.2
  have he : PE X (.Call (.Attribute (.Name x p) "append" apos) [a] [] cpos) (tBM X.K "list" rAppend (tVar i) (tCons (tE X.K C A) tNil)) :=
    pe_bm PySem.F.plainAttrs_list PySem.F.slot_list_append PySem.F.type_list_append mt_append pn (pa_cons (ha.v X G.g) pa_nil (star_cons hs)) rfl (by rw [star_cons hs]; rfl) hl (star_cons hs) rfl
  refine ps_weak (ps_expr he rfl) fun pins s σ H D I q => ?_
  obtain ⟨ρ, H0, Z, fl, ρ', ss, ev, f⟩ := q
  simp only [evS, Option.bind_eq_some_iff] at ev
  obtain ⟨d, e1, l, e2, e3⟩ := ev
  have hd := var_get (by simpa [Option.bind_eq_some_iff] using e2)
  cases l with
  | lst ds =>
    obtain ⟨hc2, e4⟩ := ite_some e3
    cases e4
    simp only [Bool.and_eq_true, decide_eq_true_eq, List.contains_eq_mem] at hc2
    obtain ⟨⟨hm, hf⟩, hz⟩ := hc2
    obtain ⟨b, vs, h1, h2, h3, h4⟩ := own_lst ss hm hd
    refine ⟨.ref b, h1, Or.inl ⟨rfl, vs, SqL.of h2⟩, ρ, Any, d, ss.sr, e1, fun v H1 x1 r1 f1 _ => ?_⟩
    have hb : H1 b = some (.lst vs) := x1.at_ _ _ h2 (fun _ z => by cases z)
    refine ⟨b, vs, v, rfl, rfl, hb, by rw [h4.length]; exact hz, ?_⟩
    exact f σ _ (aft_change ss x1 hm hd h1 hb h3 ((h4.ext x1).append (.cons (fresh_rep ss hf r1 f1) .nil)))
  | _ => cases e3
theorem snd_ext {x : Str} {p apos cpos pos : Pos} {a : Expr} {A : Ev.E} {i : Nat} (hi : slotOf T.N sc x = some i) (ha : SndX T C sc a A) (hs : isStar a = false) (hl : (apos.endLine == cpos.line) = true) :
    SndS T C M sc (.Expr (.Call (.Attribute (.Name x p) "extend" apos) [a] [] cpos) pos) (.ext i A) := fun X G => by
  unfold slotOf at hi
  obtain ⟨hc, hi⟩ := ite_some' hi
  simp only [Bool.and_eq_true, Bool.not_eq_true'] at hc
  have pn : PE X (.Name x p) (tVar i) := pe_var (i := i) (by rw [G.g.hN]; exact ixOf_some hi) (by rw [G.g.hsc]; exact vis_of hc.1.1) hc.1.2 hc.2
  have he : PE X (.Call (.Attribute (.Name x p) "extend" apos) [a] [] cpos) (tBM X.K "list" rExtend (tVar i) (tCons (tE X.K C A) tNil)) :=
    pe_bm PySem.F.plainAttrs_list PySem.F.slot_list_extend PySem.F.type_list_extend mt_extend pn (pa_cons (ha.v X G.g) pa_nil (star_cons hs)) rfl (by rw [star_cons hs]; rfl) hl (star_cons hs) rfl
  refine ps_weak (ps_expr he rfl) fun pins s σ H D I q => ?_
  obtain ⟨ρ, H0, Z, fl, ρ', ss, ev, f⟩ := q
  simp only [evS, Option.bind_eq_some_iff] at ev
  obtain ⟨d, e1, l, e2, e3⟩ := ev
  have hd := var_get (by simpa [Option.bind_eq_some_iff] using e2)
  unfold extD at e3
  split at e3
  · rename_i ds es
    obtain ⟨hc2, e4⟩ := ite_some e3
    cases e4
    simp only [Bool.and_eq_true, decide_eq_true_eq, List.contains_eq_mem] at hc2
    obtain ⟨⟨hm, hf⟩, hz⟩ := hc2
    obtain ⟨b, vs, h1, h2, h3, h4⟩ := own_lst ss hm hd
    refine ⟨.ref b, h1, Or.inl ⟨rfl, vs, SqL.of h2⟩, ρ, Any, _, ss.sr, e1, fun v H1 x1 r1 f1 _ => ?_⟩
    have hb : H1 b = some (.lst vs) := x1.at_ _ _ h2 (fun _ z => by cases z)
    obtain ⟨c, ws, rfl, _, hc1, r2⟩ := r1.lst_inv
    refine ⟨b, c, vs, ws, rfl, rfl, hb, hc1, by rw [h4.length, r2.length]; exact hz, ?_⟩
    exact f σ _ (aft_change ss x1 hm hd h1 hb h3 ((h4.ext x1).append (r2.imm (R := Any) stay_refl hf)))
  · cases e3
theorem ixN_lt {n : Nat} {k : Int} {j : Nat} (h : ixN n k = some j) : j < n := (ixN_seq h).2.1
/-- x[k] = e of a list or a dict -/
def rSetLD : TSet := fun o i v H Q => rSetL o i v H Q ∨ rSetD o i v H Q
theorem set_LD {X : Cx} (hu : X.A.units + 1 < cLine) : PSet X rSetLD := by
  intro pins s σ H o i v ov iv u Q I ro ri rv h
  rcases h with h | h
  · exact set_list pins s σ H o i v ov iv u Q I ro ri rv h
  · exact set_dict hu pins s σ H o i v ov iv u Q I ro ri rv h
theorem own_dic {K : PySem.W.Frag} {H0 H : Hp} {Z : Addr → Prop} {σ : L2.St} {ρ : EnvD} {i : Nat} {ks ds : List D} (s : SS K M H0 Z σ ρ H) (hi : i ∈ M) (hd : ρ[i]? = some (some (.dic false ks ds))) : ∃ a kvs, σ[i]? = some (some (.ref a)) ∧ H a = some (.dK kvs) ∧ ks = kvs.map (fun p => keyD p.1) ∧ H0 a = none ∧ Reps K H (fun b => ¬ Own M σ ρ b ∧ H0 b = none) (kvs.map fun p => p.2) ds := by
  obtain ⟨v, h1, h2⟩ := s.own i _ hi hd
  rcases h2 with ⟨h2, _⟩ | ⟨a, vs, rfl, ⟨kvs, g1, g2, g3⟩, h3, h4⟩
  · simp [D.imm] at h2
  · subst g3
    exact ⟨a, kvs, h1, g1, g2.symm, h3, h4⟩
theorem snd_sub {x : Str} {p p2 pos : Pos} {k e : Expr} {Kk E : Ev.E} {i : Nat} (hi : slotOf T.N sc x = some i) (hk : SndX T C sc k Kk) (he : SndX T C sc e E) (h0 : isSlice k = false) (h1 : isComp e = false) :
    SndS T C M sc (.Assign [.Subscript (.Name x p) k p2] e pos) (.sub i Kk E) := fun X G => by
  unfold slotOf at hi
  obtain ⟨hc, hi⟩ := ite_some' hi
  simp only [Bool.and_eq_true, Bool.not_eq_true'] at hc
  have pn : PE X (.Name x p) (tVar i) := pe_var (i := i) (by rw [G.g.hN]; exact ixOf_some hi) (by rw [G.g.hsc]; exact vis_of hc.1.1) hc.1.2 hc.2
  have pg : PG X (.Subscript (.Name x p) k p2) (gSub (tVar i) (tE X.K C Kk) rSetLD) := pg_sub pn (hk.v X G.g) (set_LD (by have := G.g.hu; omega)) (by intro v; cases k <;> first | rfl | cases h0)
  have hs : swapsWithSole [.Subscript (.Name x p) k p2] e pos.line X.env = pure false := by cases e <;> first | rfl | cases h1
  have hw : swappedStores [.Subscript (.Name x p) k p2] e X.env = pure none := by cases e <;> rfl
  refine ps_weak (ps_asg (he.v X G.g) pg hs hw rfl) fun pins s σ H D I q => ?_
  obtain ⟨ρ, H0, Z, fl, ρ', ss, ev, f⟩ := q
  simp only [evS, Option.bind_eq_some_iff] at ev
  obtain ⟨d, e1, kd, e2, l, e4, e5⟩ := ev
  have hd := var_get (by simpa [Option.bind_eq_some_iff] using e4)
  obtain ⟨⟨hm, hf⟩, ⟨ds, j, m, rfl, e3, e6, e⟩ | ⟨ks, ds, key, rfl, e3, e6, e⟩⟩ := stoD_inv e5
  · cases e
    obtain ⟨b, vs, g1, g2, g3, g4⟩ := own_lst ss hm hd
    refine ⟨ρ, Any, d, ss.sr, e1, fun v H1 x1 r1 f1 _ => ⟨.ref b, g1, ρ, Any, kd, (ss.step x1).sr, e2, fun u H2 x2 r2 _ _ => .inl ?_⟩⟩
    have hb : H2 b = some (.lst vs) := (x1.trans x2).at_ _ _ g2 (fun _ z => by cases z)
    have hu : u = .int j := by
      cases kd <;> first | cases e3 | skip
      exact r2.int_inv
    refine ⟨b, vs, j, m, rfl, hu, hb, by rw [g4.length]; exact e6, ?_⟩
    have rv : Rep X.K H2 (fun b => ¬ Own M σ ρ b ∧ H0 b = none) v d := (fresh_rep ss hf r1 f1).ext x2
    exact f σ _ (aft_change ss (x1.trans x2) hm hd g1 hb g3 (Reps.set rv m (g4.ext (x1.trans x2))))
  · cases e
    obtain ⟨b, kvs, g1, g2, rfl, g3, g4⟩ := own_dic ss hm hd
    refine ⟨ρ, Any, d, ss.sr, e1, fun v H1 x1 r1 f1 _ => ⟨.ref b, g1, ρ, Any, kd, (ss.step x1).sr, e2, fun u H2 x2 r2 _ _ => .inr ?_⟩⟩
    have hb : H2 b = some (.dK kvs) := (x1.trans x2).at_ _ _ g2 (fun _ z => by cases z)
    have hu : u = kV key := r2.key e3
    subst hu
    refine ⟨b, _, rfl, DPut.k hb (by simpa using e6), ?_⟩
    have rv : Rep X.K H2 (fun b => ¬ Own M σ ρ b ∧ H0 b = none) v d := (fresh_rep ss hf r1 f1).ext x2
    obtain ⟨q1, q2⟩ := put_rep (k := key) rv (g4.ext (x1.trans x2))
    exact f σ _ (aft_box ss (x1.trans x2) hm rfl hd g1 hb trivial g3 (show BxAt _ b (.dic false _ _) _ from ⟨_, upd_same, q1, rfl⟩) q2)
end
end Ev
set_option maxHeartbeats 4000000
/-! ### more statements: x += e, x.pop(), x.remove(e) -/
namespace Ev
open PySem PySem.Spec PySem.SeqAt PyProof.Rows L2
variable [Tabs]
section
variable {T : TC} {C : Oracle} {M : List Nat} {sc : Scope} {X : Cx} {n : Nat}
/-- what += of two numbers gives -/
def augI : Operator → Int → Int → Option Int
  | .Add, a, b => some (a + b)
  | .Sub, a, b => some (a - b)
  | .Mult, a, b => if small a then some (a * b) else none
  | _, _, _ => none
omit [Tabs] in
theorem augD_inv {M : List Nat} {ρ : EnvD} {i : Nat} {o : Operator} {l d : D} {r : Fl × EnvD} (h : augD M ρ i o l d = some r) : ∃ a b c, l = .int a ∧ d = .int b ∧ augI o a b = some c ∧ r = (.nx, ρ.set i (some (.int c))) := by
  unfold augD at h
  split at h
  · rename_i a b
    cases o with
    | Add => cases h; exact ⟨a, b, _, rfl, rfl, rfl, rfl⟩
    | Sub => cases h; exact ⟨a, b, _, rfl, rfl, rfl, rfl⟩
    | Mult =>
      obtain ⟨hs, h⟩ := ite_some' h
      cases h
      exact ⟨a, b, _, rfl, rfl, by simp only [augI]; rw [if_pos hs], rfl⟩
    | _ => cases h
  · cases h
def ipD (o : Operator) : TIp := fun x y H Q => ∃ i j c, x = .int i ∧ y = .int j ∧ augI o i j = some c ∧ Q (.int c) H
theorem ip_D (o : Operator) : PIp X o (ipD o) := by
  intro pins s σ H x y v u Q I r1 r2 h
  obtain ⟨i, j, c, rfl, rfl, e, q⟩ := h
  obtain ⟨t, rfl⟩ := r1
  obtain ⟨t', rfl⟩ := r2
  cases o with
  | Add => cases e; exact iadd_int ⟨.int _, H, I.tok _, ⟨_, rfl⟩, q⟩
  | Sub => cases e; exact isub_int ⟨.int _, H, I.tok _, ⟨_, rfl⟩, q⟩
  | Mult =>
    obtain ⟨hs, e⟩ := ite_some e
    subst e
    have hm : CMul i j := small_mul (by rw [hs]; rfl)
    exact imul_int (t := t) (u := t') (⟨.int _, H, I.tok _, ⟨_, rfl⟩, q⟩) hm.ok
  | _ => cases e
theorem snd_aug {x : Str} {p pos : Pos} {op : Operator} {e : Expr} {E : Ev.E} {i : Nat} (hx : locB sc x = true) (hi : ixOf T.N x = some i) (he : SndX T C sc e E) : SndS T C M sc (.AugAssign (.Name x p) op e pos) (.aug i op E) := fun X G => by
  have hN : X.N[i]? = some x := by rw [G.g.hN]; exact ixOf_some hi
  have lx : Loc X.env.scope x := by rw [G.g.hsc]; exact loc_of hx
  refine ps_weak (ps_aug (by rw [G.g.hN]; exact G.g.nd) hN lx (he.v X G.g) (ip_D op) (.inl (G.fnt x))) fun pins s σ H D I q => ?_
  obtain ⟨ρ, H0, Z, fl, ρ', ss, ev, f⟩ := q
  simp only [evS, Option.bind_eq_some_iff] at ev
  obtain ⟨l, e1, d, e2, e3⟩ := ev
  have hd := var_get (by simpa [Option.bind_eq_some_iff] using e1)
  obtain ⟨a, b, c, rfl, rfl, ec, er⟩ := augD_inv e3
  cases er
  obtain ⟨v, h1, h2⟩ := ss.sr.get i _ hd
  cases h2
  have hl : i < σ.length := (List.getElem?_eq_some_iff.mp h1).1
  refine ⟨_, h1, ρ, Any, _, ss.sr, e2, fun u H1 x1 r1 _ _ => ⟨a, b, c, rfl, r1.int_inv, ec, ?_⟩⟩
  refine f _ _ ⟨(ss.step x1).setImm hl (.int c) rfl, x1.stay Z, fun j hj => ?_, List.length_set⟩
  have hne : j ≠ i := by simpa [touch] using hj
  exact ⟨List.getElem?_set_ne fun z => hne z.symm, List.getElem?_set_ne fun z => hne z.symm⟩
theorem Reps.erase {K : PySem.W.Frag} {H : Hp} {P : Addr → Prop} : ∀ {vs : List V} {ds : List D} (n : Nat), Reps K H P vs ds → Reps K H P (vs.eraseIdx n) (ds.eraseIdx n)
  | _, _, _, .nil => by simp; exact .nil
  | _, _, 0, .cons _ t => t
  | _, _, n + 1, .cons r t => .cons r (Reps.erase n t)
/-- x.remove(e) over data -/
def rRemD (K : PySem.W.Frag) : V → List V → Hp → VK → Prop := fun x xs H Q => ∃ (l : Addr) (vs : List V) (ds : List D) (y : V) (dy : D) (P : Addr → Prop) (j : Nat), x = .ref l ∧ xs = [y] ∧ H l = some (.lst vs) ∧ Reps K H P vs ds ∧ Rep K H P y dy ∧ wfs ds = true ∧ dy.wf = true ∧
  ds.findIdx? (fun z => PyData.eqv z.py dy.py) = some j ∧ Q .non (upd H l (.lst (vs.eraseIdx j)))
theorem mt_remD (hu : X.A.units + 100 < cLine) : MtM X "list.remove" (rRemD X.K) := by
  intro pins s σ H x xs v us Q I rx rxs h
  obtain ⟨l, vs, ds, y, dy, P, j, rfl, rfl, hH, rs, ry, w1, w2, hj, q⟩ := h
  cases rx
  obtain ⟨u, rfl, ru⟩ := rxs.one
  obtain ⟨p2, l2⟩ := wfs_iff.mp w1
  obtain ⟨p1, l1⟩ := wf_iff.mp w2
  obtain ⟨bs, b1⟩ := ry.reads I p1 ru
  obtain ⟨z, its, n, r, hl, e⟩ := I.lstM hH
  obtain ⟨as, a1⟩ := rs.reads I p2 r
  have hj2 : dataPlace (D.pys ds) dy.py = some j := by
    unfold dataPlace
    rw [findIdx_pys (f := fun z => PyData.eqv z dy.py)]
    exact hj
  obtain ⟨hjl, hit, hno⟩ := hit_at (vs := its.toArray) a1 p2 hj2
  refine call_meets PySem.F.slot_list_remove ⟨_, e, rfl⟩ PySem.F.entry_list_remove (PySem.F.args_list_remove_2 _ _) (list_removeAt l its.toArray n none #[] u _ j hjl hit hno (by rw [List.size_toArray]; omega)) ⟨e, items_plain (vs := its.toArray) a1 b1 p2 p1 (by omega), ?_⟩
  refine ⟨.non, _, I.lset (its' := its.eraseIdx j) (t' := s.toks) hH e ?_ (r.eraseIdx j) ?_, rfl, q⟩
  · show its.toArray.eraseIdxIfInBounds j = (its.eraseIdx j).toArray
    rw [List.eraseIdxIfInBounds_toArray]
  · have z2 := len_erase vs j
    omega
theorem snd_rem {x m : Str} {p apos cpos pos : Pos} {a : Expr} {A : Ev.E} {i : Nat} (hm : m = "remove") (hi : mthB T sc x apos cpos = some i) (ha : SndX T C sc a A) (hs : isStar a = false) :
    SndS T C M sc (.Expr (.Call (.Attribute (.Name x p) m apos) [a] [] cpos) pos) (.rem i A) := fun X G => by
  subst hm
  obtain ⟨hl, hi⟩ := ite_some' hi
  unfold slotOf at hi
  obtain ⟨hc, hi⟩ := ite_some' hi
  simp only [Bool.and_eq_true, Bool.not_eq_true'] at hc
  have pn : PE X (.Name x p) (tVar i) := pe_var (i := i) (by rw [G.g.hN]; exact ixOf_some hi) (by rw [G.g.hsc]; exact vis_of hc.1.1) hc.1.2 hc.2
  have he : PE X (.Call (.Attribute (.Name x p) "remove" apos) [a] [] cpos) (tBM X.K "list" (rRemD X.K) (tVar i) (tCons (tE X.K C A) tNil)) :=
    pe_bm PySem.F.plainAttrs_list PySem.F.slot_list_remove PySem.F.type_list_remove (mt_remD G.g.hu) pn (pa_cons (ha.v X G.g) pa_nil (star_cons hs)) rfl (by rw [star_cons hs]; rfl) hl (star_cons hs) rfl
  refine ps_weak (ps_expr he rfl) fun pins s σ H D I q => ?_
  obtain ⟨ρ, H0, Z, fl, ρ', ss, ev, f⟩ := q
  simp only [evS, Option.bind_eq_some_iff] at ev
  obtain ⟨d, e1, l, e2, e3⟩ := ev
  have hd := var_get (by simpa [Option.bind_eq_some_iff] using e2)
  unfold remD at e3
  split at e3
  · rename_i ds
    obtain ⟨hc2, e4⟩ := ite_some' e3
    obtain ⟨j, hj, e5⟩ := Option.bind_eq_some_iff.mp e4
    cases e5
    simp only [Bool.and_eq_true, List.contains_eq_mem, decide_eq_true_eq] at hc2
    obtain ⟨b, vs, h1, h2, h3, h4⟩ := own_lst ss hc2.1.1 hd
    refine ⟨.ref b, h1, Or.inl ⟨rfl, vs, SqL.of h2⟩, ρ, Any, d, ss.sr, e1, fun v H1 x1 r1 _ _ => ?_⟩
    have hb : H1 b = some (.lst vs) := x1.at_ _ _ h2 (fun _ z => by cases z)
    refine ⟨b, vs, ds, v, d, Any, j, rfl, rfl, hb, (h4.ext x1).any, r1.any, hc2.1.2, hc2.2, hj, ?_⟩
    exact f σ _ (aft_change ss x1 hc2.1.1 hd h1 hb h3 ((h4.ext x1).erase j))
  · cases e3
omit [Tabs] in
theorem popD_inv {M : List Nat} {ρ : EnvD} {t : Option Nat} {i : Nat} {k : Option Int} {l : D} {r : Fl × EnvD} (h : popD M ρ t i k l = some r) : ∃ ds n d, l = .lst ds ∧ i ∈ M ∧ t ≠ some i ∧ (∀ z, k = some z → -(2 ^ 63) ≤ z ∧ z < 2 ^ 63) ∧ ixN ds.length (k.getD (-1)) = some n ∧ ds[n]? = some d ∧ d.imm = true ∧
    r = (.nx, setT (ρ.set i (some (.lst (ds.eraseIdx n)))) t d) := by
  unfold popD at h
  split at h
  · rename_i ds
    obtain ⟨hc, h⟩ := ite_some' h
    obtain ⟨n, h1, h⟩ := Option.bind_eq_some_iff.mp h
    obtain ⟨d, h2, h⟩ := Option.bind_eq_some_iff.mp h
    obtain ⟨hi, h⟩ := ite_some h
    simp only [Bool.and_eq_true, List.contains_eq_mem, decide_eq_true_eq] at hc
    refine ⟨ds, n, d, rfl, hc.1.1, fun e => ?_, fun z e => ?_, h1, h2, hi, h.symm⟩
    · subst e
      have := hc.1.2
      simp at this
    · subst e
      have := hc.2
      simpa using this
  · cases h
/-- what is left behind a pop -/
theorem aft_pop {K : PySem.W.Frag} {H0 H H1 : Hp} {Z : Addr → Prop} {σ : L2.St} {ρ : EnvD} {i n : Nat} {t : Option Nat} {a : Addr} {vs : List V} {ds : List D} {d : D} {y : V} (s : SS K M H0 Z σ ρ H) (x : Ext H H1) (hi : i ∈ M) (ht : t ≠ some i) (hρ : ρ[i]? = some (some (.lst ds))) (hσ : σ[i]? = some (some (.ref a)))
    (hat : H1 a = some (.lst vs)) (hn : H0 a = none) (r : Reps K H1 (fun b => ¬ Own M σ ρ b ∧ H0 b = none) vs ds) (hd : ds[n]? = some d) (hv : vs[n]? = some y) (im : d.imm = true) (hl : ∀ j, t = some j → j < σ.length) :
    Aft K M H0 Z σ ρ H (fun j => j == i || (match t with | some t => j == t | none => false)) (setT (ρ.set i (some (.lst (ds.eraseIdx n)))) t d)
      (setT σ t y) (upd H1 a (.lst (vs.eraseIdx n))) := by
  have a1 := aft_change s x hi hρ hσ hat hn (r.erase n)
  cases t with
  | none => exact a1.weak fun j hj => by simpa using hj
  | some t =>
    obtain ⟨y', hy', ry⟩ := r.get hd
    rw [hv] at hy'
    cases hy'
    have st : Stay (fun _ : Addr => False) H1 (upd H1 a (.lst (vs.eraseIdx n))) := stay_upd hat trivial fun b p => p.elim
    have ry' : Rep K (upd H1 a (.lst (vs.eraseIdx n))) Any y d := ry.imm st im
    refine ⟨a1.ss.setImm (hl t rfl) ry' im, a1.st, fun j hj => ?_, List.length_set⟩
    simp only [Bool.or_eq_false_iff, beq_eq_false_iff_ne] at hj
    exact ⟨List.getElem?_set_ne fun z => hj.2 z.symm, (List.getElem?_set_ne fun z => hj.2 z.symm).trans (List.getElem?_set_ne fun z => hj.1 z.symm)⟩
def rPopD : V → List V → Hp → VK → Prop := fun x vs H Q => rPop x vs H Q ∨ rPopAt x vs H Q
/-- the call x.pop(..): what it asks -/
theorem pop_call {X : Cx} (G : GS T C sc X) {R : Rc} (hR : ∀ e E, R sc e = some E → SndX T C sc e E) {x : Str} {p apos cpos : Pos} {args : List Expr} {i : Nat} {k : Option Ev.E} (hi : mthB T sc x apos cpos = some i) (hk : argPop R sc args = some k) :
    PE X (.Call (.Attribute (.Name x p) "pop" apos) args [] cpos) (fun σ H Q => ∃ ρ H0 Z ds n d a vs y kk, SS X.K M H0 Z σ ρ H ∧ i ∈ M ∧ ρ[i]? = some (some (.lst ds)) ∧ evO C ρ k = some kk ∧ (∀ z, kk = some z → -(2 ^ 63) ≤ z ∧ z < 2 ^ 63) ∧ ixN ds.length (kk.getD (-1)) = some n ∧ ds[n]? = some d ∧
      σ[i]? = some (some (.ref a)) ∧ H a = some (.lst vs) ∧ H0 a = none ∧ Reps X.K H (fun b => ¬ Own M σ ρ b ∧ H0 b = none) vs ds ∧ vs[n]? = some y ∧ ∀ H1, Ext H H1 → H1 a = some (.lst vs) → Q y (upd H1 a (.lst (vs.eraseIdx n)))) := by
  obtain ⟨hl, hi⟩ := ite_some' hi
  unfold slotOf at hi
  obtain ⟨hc, hi⟩ := ite_some' hi
  simp only [Bool.and_eq_true, Bool.not_eq_true'] at hc
  have pn : PE X (.Name x p) (tVar i) := pe_var (i := i) (by rw [G.g.hN]; exact ixOf_some hi) (by rw [G.g.hsc]; exact vis_of hc.1.1) hc.1.2 hc.2
  match args, hk with
  | [], hk =>
    cases hk
    refine pe_weak (pe_bm0 PySem.F.plainAttrs_list PySem.F.slot_list_pop PySem.F.type_list_pop mt_pop pn rfl hl) fun σ H Q q => ?_
    obtain ⟨ρ, H0, Z, ds, n, d, a, vs, y, kk, ss, hm, hρ, ek, _, hn, hd, hσ, ha, h0, rs, hy, f⟩ := q
    simp only [evO] at ek
    cases ek
    obtain ⟨h1, h2, h3, h4⟩ := ixN_seq hn
    have hvl := rs.length
    have hne : n = vs.length - 1 := by
      have : seqIndex? (-1) ds.length = some n := h1
      unfold seqIndex? at this
      simp only at this
      rw [if_pos (show (-1 : Int) < 0 by decide)] at this
      obtain ⟨_, e⟩ := ite_some this
      omega
    refine ⟨.ref a, hσ, Or.inl ⟨rfl, vs, SqL.of ha⟩, a, vs, y, rfl, rfl, ha, by rw [← hne]; exact hy, ?_⟩
    have e2 : vs.dropLast = vs.eraseIdx n := by rw [hne]; exact (PyProof.Rows.Copied.eraseIdx_last vs).symm
    rw [e2]
    exact f H (Ext.refl H) ha
  | [b], hk =>
    replace hk : (if isStar b then none else (R sc b).map some) = some k := hk
    by_cases hs : isStar b = true
    · rw [if_pos hs] at hk; cases hk
    · rw [if_neg hs] at hk
      have hs : isStar b = false := by simpa using hs
      obtain ⟨B, hB, rfl⟩ := Option.map_eq_some_iff.mp hk
      refine pe_weak (pe_bm PySem.F.plainAttrs_list PySem.F.slot_list_pop PySem.F.type_list_pop mt_popAt pn (pa_cons ((hR b B hB).v X G.g) pa_nil (star_cons hs)) rfl (by rw [star_cons hs]; rfl) hl (star_cons hs) rfl) fun σ H Q q => ?_
      obtain ⟨ρ, H0, Z, ds, n, d, a, vs, y, kk, ss, hm, hρ, ek, hb, hn, hd, hσ, ha, h0, rs, hy, f⟩ := q
      simp only [evO, Option.bind_eq_some_iff] at ek
      obtain ⟨db, e1, z, e2, e3⟩ := ek
      cases e3
      refine ⟨.ref a, hσ, Or.inl ⟨rfl, vs, SqL.of ha⟩, ρ, Any, db, ss.sr, e1, fun v H1 x1 r1 _ _ => ?_⟩
      have ha1 : H1 a = some (.lst vs) := x1.at_ _ _ ha (fun _ z => by cases z)
      have hv : v = .int z := by
        cases db <;> first | cases e2 | skip
        exact r1.int_inv
      obtain ⟨b1, b2⟩ := hb z rfl
      exact ⟨a, vs, z, n, y, rfl, by rw [hv], ha1, b1, b2, by rw [rs.length]; exact (ixN_seq hn).1, hy, f H1 x1 ha1⟩
  | _ :: _ :: _, hk => cases hk
theorem snd_popN {R : Rc} (hR : ∀ e E, R sc e = some E → SndX T C sc e E) {x m : Str} {p apos cpos pos : Pos} {args : List Expr} {i : Nat} {k : Option Ev.E} (hm : m = "pop") (hi : mthB T sc x apos cpos = some i) (hk : argPop R sc args = some k) :
    SndS T C M sc (.Expr (.Call (.Attribute (.Name x p) m apos) args [] cpos) pos) (.pop none i k) := fun X G => by
  subst hm
  refine ps_weak (ps_expr (pop_call (M := M) G hR hi hk) (by cases args <;> rfl)) fun pins s σ H D I q => ?_
  obtain ⟨ρ, H0, Z, fl, ρ', ss, ev, f⟩ := q
  simp only [evS, Option.bind_eq_some_iff] at ev
  obtain ⟨l, e1, kk, e2, e3⟩ := ev
  have hd := var_get (by simpa [Option.bind_eq_some_iff] using e1)
  obtain ⟨ds, n, d, rfl, hm, _, hb, hn, hdn, im, er⟩ := popD_inv e3
  cases er
  obtain ⟨b, vs, h1, h2, h3, h4⟩ := own_lst ss hm hd
  obtain ⟨y, hy, _⟩ := h4.get hdn
  exact ⟨ρ, H0, Z, ds, n, d, b, vs, y, kk, ss, hm, hd, e2, hb, hn, hdn, h1, h2, h3, h4, hy, fun H1 x1 ha1 => f σ _ (aft_pop (t := none) ss x1 hm (by simp) hd h1 ha1 h3 (h4.ext x1) hdn hy im (fun j e => by cases e))⟩
theorem snd_popT {R : Rc} (hR : ∀ e E, R sc e = some E → SndX T C sc e E) {t x m : Str} {pt p apos cpos pos : Pos} {args : List Expr} {i j : Nat} {k : Option Ev.E} (hm : m = "pop") (ht : locB sc t = true) (hj : ixOf T.N t = some j) (hi : mthB T sc x apos cpos = some i) (hk : argPop R sc args = some k) :
    SndS T C M sc (.Assign [.Name t pt] (.Call (.Attribute (.Name x p) m apos) args [] cpos) pos) (.pop (some j) i k) := fun X G => by
  subst hm
  have hN : X.N[j]? = some t := by rw [G.g.hN]; exact ixOf_some hj
  have lt : Loc X.env.scope t := by rw [G.g.hsc]; exact loc_of ht
  have pg : PG X (.Name t pt) (gName j) := pg_name (by rw [G.g.hN]; exact G.g.nd) hN lt (.inl (G.fnt t))
  refine ps_weak (ps_asg (pop_call (M := M) G hR hi hk) pg rfl rfl rfl) fun pins s σ H D I q => ?_
  obtain ⟨ρ, H0, Z, fl, ρ', ss, ev, f⟩ := q
  simp only [evS, Option.bind_eq_some_iff] at ev
  obtain ⟨l, e1, kk, e2, e3⟩ := ev
  have hd := var_get (by simpa [Option.bind_eq_some_iff] using e1)
  obtain ⟨ds, n, d, rfl, hm, hne, hb, hn, hdn, im, er⟩ := popD_inv e3
  cases er
  obtain ⟨b, vs, h1, h2, h3, h4⟩ := own_lst ss hm hd
  obtain ⟨y, hy, _⟩ := h4.get hdn
  refine ⟨ρ, H0, Z, ds, n, d, b, vs, y, kk, ss, hm, hd, e2, hb, hn, hdn, h1, h2, h3, h4, hy, fun H1 x1 ha1 => ?_⟩
  exact f _ _ (aft_pop (t := some j) ss x1 hm hne hd h1 ha1 h3 (h4.ext x1) hdn hy im (fun j' e => by cases e; rw [I.len]; exact (List.getElem?_eq_some_iff.mp hN).1))
theorem snd_X {R : Rc} (hR : ∀ e E, R sc e = some E → SndX T C sc e E) : ∀ {st : Stmt} {s : S}, trX T R sc st = some s → SndS T C M sc st s := by
  intro st s h
  cases st with
  | AugAssign tg op e pos =>
    simp only [trX] at h
    split at h
    · obtain ⟨hx, h⟩ := ite_some' h
      simp only [Option.bind_eq_some_iff] at h
      obtain ⟨i, h1, E, h2, h3⟩ := h
      cases h3
      exact snd_aug hx h1 (hR _ _ h2)
    · cases h
  | Expr e pos =>
    simp only [trX] at h
    split at h
    · rename_i x p m apos args cpos
      by_cases hm : m = "pop"
      · rw [if_pos (decide_eq_true hm)] at h
        simp only [Option.bind_eq_some_iff] at h
        obtain ⟨i, h1, k, h2, h3⟩ := h
        cases h3
        exact snd_popN hR hm h1 h2
      · rw [if_neg (by simpa using hm)] at h
        obtain ⟨hm2, h'⟩ := ite_some' h
        clear h
        match args, h' with
        | [a], h =>
          by_cases hs : isStar a = true
          · replace h : (if isStar a then none else (mthB T sc x apos cpos).bind fun i => (R sc a).bind fun a' => some (.rem i a')) = some s := h
            rw [if_pos hs] at h; cases h
          · replace h : (if isStar a then none else (mthB T sc x apos cpos).bind fun i => (R sc a).bind fun a' => some (.rem i a')) = some s := h
            rw [if_neg hs] at h
            simp only [Option.bind_eq_some_iff] at h
            obtain ⟨i, h1, A, h2, h3⟩ := h
            cases h3
            exact snd_rem (of_decide_eq_true hm2) h1 (hR _ _ h2) (by simpa using hs)
        | [], h => cases h
        | _ :: _ :: _, h => cases h
    · cases h
  | Assign tgs e pos =>
    simp only [trX] at h
    split at h
    · rename_i t pt x p m apos args cpos
      obtain ⟨hc, h⟩ := ite_some' h
      simp only [Bool.and_eq_true, decide_eq_true_eq] at hc
      simp only [Option.bind_eq_some_iff] at h
      obtain ⟨j, h0, i, h1, k, h2, h3⟩ := h
      cases h3
      exact snd_popT hR hc.1 hc.2 h0 h1 h2
    · cases h
  | _ => cases h
end
end Ev
set_option maxHeartbeats 4000000
namespace Ev
open PySem PySem.Spec PyProof.Rows L2
variable [Tabs]
section
variable {T : TC} {C : Oracle} {M : List Nat} {sc : Scope} {X : Cx} {n : Nat}
theorem Aft.less {K : PySem.W.Frag} {H0 H H' : Hp} {Z Z' : Addr → Prop} {σ σ' : L2.St} {ρ ρ' : EnvD} {tch : Nat → Bool} (a : Aft K M H0 Z' σ ρ H tch ρ' σ' H') (h : ∀ b, Z b → Z' b) : Aft K M H0 Z σ ρ H tch ρ' σ' H' := ⟨a.ss.less h, a.st.sub h, a.un, a.ln⟩
theorem for_read {K : PySem.W.Frag} {t : Tg} {it : It} {b : List S} {De : Ends} {σ : L2.St} {H : Hp} (hl : ∀ i ∈ t.slots, i < σ.length)
    (q : tS K C M (.for_ t it b) De σ H) : tFor (tI K C (isTupT t) it) (gTg K t) (tSs K C M b) De σ H := by
  obtain ⟨ρ, H0, Z, fl, ρ', ss, ev, f⟩ := q
  simp only [evS, Option.bind_eq_some_iff] at ev
  obtain ⟨xs, e1, e2⟩ := ev
  obtain ⟨hok, e2⟩ := ite_some' e2
  -- the loop, once the sources are known to stand
  have core : ∀ (J : L2.It) (H1 : Hp) (src : List (V × D)) (Zs : Addr → Prop), Ext H H1 → (∀ P', Yld (isTupT t) K P' J xs (Src K P' src)) → (∀ a, Zs a → H1 a ≠ none ∧ ¬ Own M σ ρ a) →
      (∀ p ∈ src, Rep K H1 Zs p.1 p.2 ∨ ∃ i, (t.slots.contains i || touchs i b) = false ∧ σ[i]? = some (some p.1) ∧ ρ[i]? = some (some p.2)) → (D.imms xs = true ∨ (freeT M t = true ∧ ∀ p ∈ src, Rep K H1 Zs p.1 p.2)) →
      ∃ W : Nat → Nat → L2.St → Hp → Prop, (∃ m, W 0 m σ H1) ∧ ∀ i m σ H, W i m σ H →
        (J.stop i H ∧ De.nx σ H) ∨ (J.go i H ∧ ∃ N : L2.St → Hp → Prop, (∀ σ' H', N σ' H' → ∃ m', m' < m ∧ W (i + 1) m' σ' H') ∧ ∀ x H', J.yld i H x H' → gTg K t x σ H' fun σ2 H2 => tSs K C M b { De with nx := N, ct := N, bk := De.nx } σ2 H2) := by
    intro J H1 src Zs x1 Y hZs hst himm
    let Z' : Addr → Prop := fun a => Z a ∨ Zs a
    let tch : Nat → Bool := fun i => t.slots.contains i || touchs i b
    have ss1 : SS K M H0 Z' σ ρ H1 := (ss.step x1).more hZs
    have finish : ∀ {σc ρc Hc}, Aft K M H0 Z' σ ρ H1 tch ρc σc Hc → Aft K M H0 Z σ ρ H (fun i => touch i (.for_ t it b)) ρc σc Hc := fun a =>
      ((Aft.here (tch := fun _ => false) ss x1).trans (a.less fun _ z => .inl z)).weak fun i z => by
        show (false || tch i) = false
        simp only [touch] at z
        exact z
    let W : Nat → L2.St → Hp → Prop := fun i σc Hc => ∃ ρc, forD t (fun ρ => evSs C M ρ b) (xs.drop i) ρc = some (fl, ρ') ∧ Aft K M H0 Z' σ ρ H1 tch ρc σc Hc
    refine ⟨fun i m σc Hc => m = xs.length - i ∧ i ≤ xs.length ∧ W i σc Hc, ⟨xs.length, by simp, Nat.zero_le _, ρ, by simpa using e2, Aft.here ss1 (Ext.refl _)⟩, ?_⟩
    rintro i m σc Hc ⟨rfl, hi, ρc, hfor, aft⟩
    have srcAny : Src K Any src Hc := fun p hp => by
      rcases hst p hp with h | ⟨j, h1, h2, h3⟩
      · exact (h.stay' (aft.st.sub fun a z => .inr z) fun a z => z).any
      · obtain ⟨u1, u2⟩ := aft.un j h1
        obtain ⟨v, g1, g2⟩ := aft.ss.sr.get j p.2 (by rw [u2]; exact h3)
        rw [u1, h2] at g1
        cases g1
        exact g2
    by_cases hlt : i < xs.length
    · refine .inr ⟨(Y Any).go i Hc srcAny hlt, W (i + 1), fun σ' H' w => ⟨xs.length - (i + 1), by omega, rfl, hlt, w⟩, fun x H' y => ?_⟩
      have item : ∃ d, xs[i]? = some d ∧ Ext Hc H' ∧ ((d.imm = true ∧ RepT (isTupT t) K H' Any x d) ∨ (freeT M t = true ∧ RepT (isTupT t) K H' (fun a => ¬ Own M σc ρc a) x d)) := by
        rcases himm with h | ⟨h, h2⟩
        · obtain ⟨xx, d, hd, rd⟩ := (Y Any).yld i Hc x H' srcAny hlt y
          exact ⟨d, hd, xx, .inl ⟨imm_of_mem h (List.mem_of_getElem? hd), rd.any⟩⟩
        · have sz : Src K Zs src Hc := fun p hp => (h2 p hp).stay' (aft.st.sub fun a z => .inr z) fun a z => z
          obtain ⟨xx, d, hd, rd⟩ := (Y Zs).yld i Hc x H' sz hlt y
          refine ⟨d, hd, xx, .inr ⟨h, rd.mono fun a z => ?_⟩⟩
          rcases z with z | z
          · exact (aft.ss.zt a (.inr z)).2
          · exact not_own_new aft.ss z
      obtain ⟨d, hd, xx, hx⟩ := item
      have hdrop : xs.drop i = d :: xs.drop (i + 1) := by
        obtain ⟨h1, h2⟩ := List.getElem?_eq_some_iff.mp hd
        rw [← h2, List.drop_eq_getElem_cons h1]
      rw [hdrop] at hfor
      simp only [forD, Option.bind_eq_some_iff] at hfor
      obtain ⟨ρ1, hb, ⟨flb, ρ2⟩, hbody, hrest⟩ := hfor
      have aftC : Aft K M H0 Z' σ ρ H1 tch ρc σc H' := (aft.trans (Aft.here (tch := fun _ => false) aft.ss xx)).weak fun i z => by
        show (tch i || false) = false
        rw [z]; rfl
      have next : ∀ σ2, Aft K M H0 Z' σc ρc H' (fun i => t.slots.contains i) ρ1 σ2 H' → tSs K C M b { De with nx := W (i + 1), ct := W (i + 1), bk := De.nx } σ2 H' := fun σ2 a2 => by
        have a3 : Aft K M H0 Z' σ ρ H1 tch ρ1 σ2 H' := (aftC.trans a2).weak fun i z => by
          have z' : (t.slots.contains i || touchs i b) = false := z
          simp only [Bool.or_eq_false_iff] at z'
          show (tch i || t.slots.contains i) = false
          rw [z, z'.1]; rfl
        have join : ∀ {σ3 H3}, Aft K M H0 Z' σ2 ρ1 H' (fun i => touchs i b) ρ2 σ3 H3 → Aft K M H0 Z' σ ρ H1 tch ρ2 σ3 H3 := fun a4 => (a3.trans a4).weak fun i z => by
          have z' : (t.slots.contains i || touchs i b) = false := z
          simp only [Bool.or_eq_false_iff] at z'
          show (tch i || touchs i b) = false
          rw [z, z'.2]; rfl
        refine ⟨ρ1, H0, Z', flb, ρ2, a2.ss, hbody, ?_⟩
        cases flb with
        | nx => exact fun σ3 H3 a4 => ⟨ρ2, hrest, join a4⟩
        | ct => exact fun σ3 H3 a4 => ⟨ρ2, hrest, join a4⟩
        | bk =>
          cases hrest
          exact fun σ3 H3 a4 => f σ3 H3 (finish (join a4))
        | rt d =>
          cases hrest
          exact f
      rcases hx with ⟨h1, h2⟩ | ⟨h1, h2⟩
      · exact tg_imm aftC.ss (fun i hi => by rw [aft.ln]; exact hl i hi) h2 h1 hb next
      · exact tg_free aftC.ss h1 (fun i hi => by rw [aft.ln]; exact hl i hi) h2 hb next
    · have e : i = xs.length := by omega
      subst e
      rw [List.drop_length] at hfor
      simp only [forD] at hfor
      cases hfor
      exact .inl ⟨(Y Any).stop _ Hc srcAny (Nat.le_refl _), f σc Hc (finish aft)⟩
  unfold forOK at hok
  by_cases hcl : cleanI M it = true
  · have himm : D.imms xs = true ∨ freeT M t = true := by
      simp only [hcl, Bool.true_and, Bool.true_or, Bool.or_eq_true] at hok
      exact hok.symm
    refine ⟨wipe ρ M, _, xs, ss.srw, (cleanI_ev hcl).trans e1, fun J H1 src x1 hsrc Y hz hp => ?_⟩
    have hs : ∀ p ∈ src, Rep K H1 (fun a => PN (fun a => ¬ Own M σ ρ a) H a ∧ H1 a ≠ none) p.1 p.2 := fun p hp => (hsrc p hp).there
    exact core J H1 src (fun a => PN (fun a => ¬ Own M σ ρ a) H a ∧ H1 a ≠ none) x1 Y (fun a z => ⟨z.2, z.1.elim id (not_own_new ss)⟩) (fun p hp => Or.inl (hs p hp)) (himm.imp id fun h => ⟨h, hs⟩)
  · have h2 : it.parts.all (partOK C M ρ t b) = true ∧ D.imms xs = true := by
      have : cleanI M it = false := by simpa using hcl
      simp only [this, Bool.false_and, Bool.false_or, Bool.and_eq_true] at hok
      exact hok
    refine ⟨ρ, Any, xs, ss.sr, e1, fun J H1 src x1 hsrc Y hz hp => ?_⟩
    refine core J H1 src (fun a => H a = none ∧ H1 a ≠ none) x1 Y (fun a z => ⟨z.2, not_own_new ss z.1⟩) (fun p hpm => ?_) (.inl h2.2)
    obtain ⟨e, he, hev, hfr, hw⟩ := hp p hpm
    have hpo := List.all_eq_true.mp h2.1 e he
    unfold partOK at hpo
    rw [hev] at hpo
    simp only [Bool.or_eq_true] at hpo
    rcases hpo with (h | h) | h
    · exact .inl ((hsrc p hpm).imm (stay_refl (P := Any)) h)
    · exact .inl (hfr h).there
    · cases e with
      | var i =>
        simp only [Bool.and_eq_true, Bool.not_eq_true'] at h
        refine .inr ⟨i, h.2, hw i rfl, var_get ?_⟩
        simpa [evE] using hev
      | _ => cases h
end
end Ev
set_option maxHeartbeats 4000000
namespace Ev
open PySem PySem.Spec PyProof.Rows L2
variable [Tabs]
section
variable {T : TC} {C : Oracle} {M : List Nat} {sc : Scope} {X : Cx} {n : Nat}
theorem snd_for {tg iter : Expr} {b : List Stmt} {t : Tg} {own : List (Str × Nat)} {I : It} {B : List S} {pos : Pos} (htg : trTg T.N tg = some (t, own)) (ho : ownB sc own = true) (hi : SndI T C sc tg iter I) (hb : SndSs T C M sc b B) : SndS T C M sc (.For tg iter b [] pos) (.for_ t I B) := fun X G => by
  have nd : X.N.Nodup := by rw [G.g.hN]; exact G.g.nd
  have pg := pg_tg G.g.calm nd (by rw [G.g.hN]; exact htg) (own_ok G htg ho)
  exact ps_weak (ps_for G.hp G.g.calm (trTg_tup htg ▸ hi.run X G.g) pg (hb X G) (fun x => hi.nofold _ x)) fun pins s σ H D I q => for_read (slots_lt G htg I) q
theorem snd_while {c : Expr} {b : List Stmt} {E : E} {B : List S} {pos : Pos} (hc : SndX T C sc c E) (hb : SndSs T C M sc b B) : SndS T C M sc (.While c b [] pos) (.while_ E B) := fun X G =>
  ps_weak (ps_while G.hp (hc.t X G.g) (hb X G)) fun pins s σ H De I q => by
    obtain ⟨ρ, H0, Z, fl, ρ', ss, ev, f⟩ := q
    simp only [evS] at ev
    refine ⟨fun m σc Hc => ∃ ρc, whileD (fun ρ => (evE C ρ E).bind truthD) (fun ρ => evSs C M ρ B) m ρc = some (fl, ρ') ∧ Aft X.K M H0 Z σ ρ H (fun i => touchs i B) ρc σc Hc, ⟨fuel, ρ, ev, Aft.here ss (Ext.refl H)⟩, ?_⟩
    rintro m σc Hc ⟨ρc, hw, aft⟩
    cases m with
    | zero => cases hw
    | succ m =>
      simp only [whileD, Option.bind_eq_some_iff] at hw
      obtain ⟨k, ⟨d, e1, e2⟩, e3⟩ := hw
      refine ⟨ρc, Any, d, k, aft.ss.sr, e1, e2, fun H1 x => ?_⟩
      have a1 : Aft X.K M H0 Z σ ρ H (fun i => touchs i B) ρc σc H1 := (aft.trans (Aft.here (tch := fun _ => false) aft.ss x)).weak fun i z => by
        show (touchs i B || false) = false
        rw [z]; rfl
      cases k with
      | false =>
        simp only [Bool.false_eq_true, if_false] at e3 ⊢
        cases e3
        exact f σc H1 (a1.weak fun i z => by simpa [touch] using z)
      | true =>
        simp only [if_true] at e3 ⊢
        simp only [Option.bind_eq_some_iff] at e3
        obtain ⟨⟨flb, ρ2⟩, e4, e5⟩ := e3
        refine ⟨fun σ' H' => ∃ ρc, whileD (fun ρ => (evE C ρ E).bind truthD) (fun ρ => evSs C M ρ B) m ρc = some (fl, ρ') ∧ Aft X.K M H0 Z σ ρ H (fun i => touchs i B) ρc σ' H', fun σ' H' w => ⟨m, Nat.lt_succ_self m, w⟩, ?_⟩
        have join : ∀ {σ3 H3}, Aft X.K M H0 Z σc ρc H1 (fun i => touchs i B) ρ2 σ3 H3 → Aft X.K M H0 Z σ ρ H (fun i => touchs i B) ρ2 σ3 H3 := fun a4 => (a1.trans a4).weak fun i z => by
          show (touchs i B || touchs i B) = false
          rw [z]; rfl
        refine ⟨ρc, H0, Z, flb, ρ2, a1.ss, e4, ?_⟩
        cases flb with
        | nx => exact fun σ3 H3 a4 => ⟨ρ2, e5, join a4⟩
        | ct => exact fun σ3 H3 a4 => ⟨ρ2, e5, join a4⟩
        | bk =>
          cases e5
          exact fun σ3 H3 a4 => f σ3 H3 ((join a4).weak fun i z => by simpa [touch] using z)
        | rt d =>
          cases e5
          exact f
/-! ### THE STATEMENTS -/
theorem snd_S0 {RS : List Stmt → Option (List S)} (hRS : ∀ st s, RS st = some s → SndSs T C M sc st s) : ∀ {st : Stmt} {s : S}, trS0 T (tr T n) RS sc st = some s → SndS T C M sc st s := by
  intro st s h
  have hR := @snd_tr _ C T n
  cases st with
  | Assign tgs e pos =>
    simp only [trS0] at h
    split at h
    · rename_i o k p2
      split at h
      · rename_i x p
        by_cases hc : (isSlice k || isComp e) = true
        · rw [if_pos hc] at h; cases h
        · rw [if_neg hc] at h
          simp only [Bool.or_eq_true, not_or, Bool.not_eq_true] at hc
          simp only [Option.bind_eq_some_iff] at h
          obtain ⟨i, h1, k', h2, e', h3, h4⟩ := h
          cases h4
          exact snd_sub h1 (hR _ _ _ h2) (hR _ _ _ h3) hc.1 hc.2
      · cases h
    · rename_i tg _
      by_cases hc : (isTupE tg && isTupE e) = true
      · rw [if_pos hc] at h; cases h
      · rw [if_neg hc] at h
        simp only [Option.bind_eq_some_iff] at h
        obtain ⟨⟨t, own⟩, h1, h2⟩ := h
        obtain ⟨ho, h2⟩ := ite_some' h2
        simp only [Option.bind_eq_some_iff] at h2
        obtain ⟨e', h3, h4⟩ := h2
        cases h4
        cases tg with
        | Name x px =>
          obtain ⟨i, hi, e0⟩ := Option.map_eq_some_iff.mp h1
          cases e0
          have hx : locB sc x = true := by simpa [ownB] using ho
          exact snd_asgN hi hx h3
        | Tuple es kt pt =>
          have hne : isTupE e = false := by
            simp only [Bool.and_eq_true, not_and, Bool.not_eq_true] at hc
            exact hc rfl
          exact snd_asgT h1 ho hne (hR _ _ _ h3)
        | _ => cases h1
    · cases h
  | Expr e pos =>
    simp only [trS0] at h
    split at h
    · rename_i x p m apos a cpos
      split at h
      · rename_i hc
        simp only [Bool.and_eq_true, decide_eq_true_eq, Bool.not_eq_true'] at hc
        simp only [Option.bind_eq_some_iff] at h
        obtain ⟨i, h1, a', h2, h3⟩ := h
        cases h3
        obtain ⟨⟨rfl, hs⟩, hl⟩ := hc
        exact snd_app h1 (hR _ _ _ h2) hs hl
      · obtain ⟨hc, h⟩ := ite_some' h
        simp only [Bool.and_eq_true, decide_eq_true_eq, Bool.not_eq_true'] at hc
        simp only [Option.bind_eq_some_iff] at h
        obtain ⟨i, h1, a', h2, h3⟩ := h
        cases h3
        obtain ⟨⟨rfl, hs⟩, hl⟩ := hc
        exact snd_ext h1 (hR _ _ _ h2) hs hl
    · cases h
      exact snd_doc
    · cases h
  | Return o pos =>
    cases o with
    | none => cases h; exact snd_retN
    | some e =>
      obtain ⟨E, h1, rfl⟩ := Option.map_eq_some_iff.mp h
      exact snd_ret (hR _ _ _ h1)
  | If c a b pos =>
    simp only [trS0, Option.bind_eq_some_iff] at h
    obtain ⟨c', h1, a', h2, b', h3, h4⟩ := h
    cases h4
    exact snd_if (hR _ _ _ h1) (hRS _ _ h2) (hRS _ _ h3)
  | For tg it b els pos =>
    cases els with
    | nil =>
      simp only [trS0, Option.bind_eq_some_iff] at h
      obtain ⟨⟨t, own⟩, h1, h2⟩ := h
      obtain ⟨ho, h2⟩ := ite_some' h2
      simp only [Option.bind_eq_some_iff] at h2
      obtain ⟨it', h3, b', h4, h5⟩ := h2
      cases h5
      exact snd_for h1 ho (snd_It (hR _) h3) (hRS _ _ h4)
    | cons _ _ => cases h
  | While c b els pos =>
    cases els with
    | nil =>
      simp only [trS0, Option.bind_eq_some_iff] at h
      obtain ⟨c', h1, b', h2, h3⟩ := h
      cases h3
      exact snd_while (hR _ _ _ h1) (hRS _ _ h2)
    | cons _ _ => cases h
  | Break pos => cases h; exact snd_brk
  | Continue pos => cases h; exact snd_cnt
  | Pass pos => cases h; exact snd_pass
  | _ => cases h
theorem snd_S1 {RS : List Stmt → Option (List S)} (hRS : ∀ st s, RS st = some s → SndSs T C M sc st s) : ∀ {st : Stmt} {s : S}, trS1 T (tr T n) RS sc st = some s → SndS T C M sc st s := by
  intro st s h
  unfold trS1 at h
  split at h
  · rename_i s' hs
    cases h
    exact snd_X (fun e E he => snd_tr n _ _ _ he) hs
  · exact snd_S0 hRS h
theorem snd_mapO {f : Stmt → Option S} (hf : ∀ st s, f st = some s → SndS T C M sc st s) : ∀ {sts : List Stmt} {ss : List S}, mapO f sts = some ss → SndSs T C M sc sts ss
  | [], ss, h => by cases h; exact snd_nil
  | st :: r, ss, h => by
    simp only [mapO, Option.bind_eq_some_iff] at h
    obtain ⟨a, h1, b, h2, h3⟩ := h
    cases h3
    exact snd_cons (hf _ _ h1) (snd_mapO hf h2)
theorem snd_Ss : ∀ (m : Nat) (sts : List Stmt) (ss : List S), trSs T (tr T n) sc m sts = some ss → SndSs T C M sc sts ss
  | 0, _, _, h => by cases h
  | m + 1, sts, ss, h => snd_mapO (fun st s h1 => snd_S1 (n := n) (snd_Ss m) h1) h
end

/-! ### defs -/
structure DefI where
  ps : List Str
  N : List Str
  M : List Nat
  body : List S
instance : Inhabited DefI := ⟨⟨[], [], [], []⟩⟩
def start0 (N : List Str) (ds : List D) : EnvD := ds.map some ++ List.replicate (N.length - ds.length) none
def okStart (M : List Nat) (ds : List D) : Bool := M.all fun i => match ds[i]? with
  | some d => d.imm
  | none => true
def retOf : Option (Fl × EnvD) → Option D
  | some (.rt d, _) => some d
  | some (.nx, _) => some .non
  | _ => none
def callDef (C : Oracle) (i : DefI) (ds : List D) : Option D := if ds.length = i.ps.length && okStart i.M ds then retOf (evSs C i.M (start0 i.N ds) i.body) else none
def callD (defs : List DefI) : Nat → Oracle
  | 0 => fun _ _ => none
  | k + 1 => fun f ds => (defs[f]?).bind fun i => callDef (callD defs k) i ds
/-- a def of the text, translated -/
structure DefOk (fns : List Str) (gls : List (Str × D)) (st : Stmt) (i : DefI) (x : Str) : Prop where
  scope : FnScope i.N i.ps (defScope st)
  tr : ∃ n m, trSs ⟨i.N, fns, 1, gls⟩ (tr ⟨i.N, fns, 1, gls⟩ n) (defScope st) m (defBody st) = some i.body
  binds : ∀ (kV doc pm : Value) (an : Option Addr) (cdv ct : Value) (us : List Value), us.length = i.ps.length → bindArgs (PySem.W.fnOf x x (defArgs st) (defBody st) (defScope st) .none kV doc pm an cdv ct) ⟨us, []⟩ = pure (i.ps.zip us)
theorem start_ss {K : PySem.W.Frag} {H : Hp} {N : List Str} {M : List Nat} {vs : List V} {ds : List D} (ht : Tk H) (r : Reps K H Any vs ds) (h : okStart M ds = true) : SS K M H (fun _ => False) (L2.start N vs) (start0 N ds) H := by
  have get : ∀ {i : Nat} {d : D}, (start0 N ds)[i]? = some (some d) → ds[i]? = some d := fun {i d} h => by
    unfold start0 at h
    by_cases hi : i < ds.length
    · rw [List.getElem?_append_left (by simpa using hi), List.getElem?_map] at h
      cases e : ds[i]? with
      | none => rw [e] at h; cases h
      | some a => rw [e] at h; cases h; rfl
    · rw [List.getElem?_append_right (by simpa using hi), List.getElem?_replicate] at h
      split at h <;> cases h
  have getv : ∀ {i : Nat} {v : V}, vs[i]? = some v → (L2.start N vs)[i]? = some (some v) := fun {i v} h => by
    show (L2.start N vs)[i]? = _
    unfold L2.start
    obtain ⟨h1, h2⟩ := List.getElem?_eq_some_iff.mp h
    rw [List.getElem?_append_left (by simpa using h1), List.getElem?_map, h]; rfl
  have im : ∀ {i : Nat} {d : D}, i ∈ M → (start0 N ds)[i]? = some (some d) → d.imm = true := fun {i d} hi hd => by
    have := List.all_eq_true.mp h i hi
    rw [get hd] at this
    exact this
  have no : ∀ a, ¬ Own M (L2.start N vs) (start0 N ds) a := fun a ⟨i, hi, es, hm, h1, _⟩ => imm_mut (im hi h1) hm
  refine ⟨Ext.refl H, fun _ z => z.elim, fun i d hi hd => ?_, fun i d hi hd => ?_, fun i j a es fs m1 _ hi _ h1 _ _ _ => ?_, ht⟩
  · obtain ⟨v, h1, h2⟩ := r.get (get hd)
    exact ⟨v, getv h1, h2.mono fun a _ => no a⟩
  · obtain ⟨v, h1, h2⟩ := r.get (get hd)
    exact ⟨v, getv h1, .inl ⟨im hi hd, h2⟩⟩
  · exact (imm_mut (im hi h1) m1).elim
section
variable {P : Program} {w : World} {K : PySem.W.Frag} {mg : Str → Option Value} {base : Heap} {fns : List Str} {gls : List (Str × D)} {defs : List DefI}
/-- FunD.ok, the code object known -/
theorem funD_ok {x qual : Str} {params : Arguments} {body : List Stmt} {scope : Scope} {dvs : List V} {kws : List (Str × V)} {f : Addr} {fd : FuncData} {CX : CXT} {N ps : List Str} {k : Nat} {sp : Sp} (F : FunD K x qual params body scope dvs kws f fd) (S : FnScope N ps scope)
    (len : ∀ vs H Q E, sp vs H Q E → vs.length = ps.length)
    (hb : ∀ (A : Around) (outer : List Env) (s : Shared) (H : Hp) (vs : List V) (Q : VK) (E : XK), Room k (A.deeper (envOfC qual scope s.heap.objs.size f fd.code)) → sp vs H Q E →
      ∃ t, PSs (cxOf CX P w K mg base N qual scope f fd.code A outer s H E) body t ∧ t { nx := fun _ H' => Q .non H', rt := Q } (start N vs) H) : FnOk P w K mg base CX (k + 1) f fd ps sp := by
  obtain ⟨oc, od, dV, kV, doc, pm, an, cdv, ct, osl, rfl, lk, hcd, _, _⟩ := F.ex
  exact fn_of lk hcd S len fun A outer s H vs Q E hr hsp => hb A outer s H vs Q E hr hsp
/-- what the top has left of a def -/
structure Top (K : PySem.W.Frag) (mg : Str → Option Value) (fns : List Str) (gls : List (Str × D)) (defs : List DefI) : Prop where
  bl : ∀ x ∈ bltNames, mg x = none
  fn : ∀ (f : Nat) (x : Str) (i : DefI), fns[f]? = some x → defs[f]? = some i → ∃ (st : Stmt) (a : Addr) (fd : FuncData), DefOk fns gls st i x ∧ FunD K x x (defArgs st) (defBody st) (defScope st) [] [] a fd ∧ mg x = some (.ref a) ∧ ∃ p ∈ Tabs.cs, fd.code = .ref p.1
  len : fns.length = defs.length
  gl : ∀ (x : Str) (d : D), gls.lookup x = some d → ∃ a : Addr, mg x = some (.ref a) ∧ ∀ H P, Rep K H P (.ref a) d
theorem all_ok (tp : Top K mg fns gls defs) (hT : ∀ p ∈ Tabs.cs, GxR.TabB base mg p.1 p.2) : ∀ (k f : Nat) (x : Str) (i : DefI) (st : Stmt) (a : Addr) (fd : FuncData), fns[f]? = some x → defs[f]? = some i → DefOk fns gls st i x → FunD K x x (defArgs st) (defBody st) (defScope st) [] [] a fd → (∃ p ∈ Tabs.cs, fd.code = .ref p.1) →
    FnOk P w K mg base CX0 (2 * k) a fd i.ps (spD K (callD defs k) f)
  | 0, f, x, i, st, a, fd, h1, h2, o, F, _ => by
    refine ⟨fun vs H Q E h => ?_, fun A outer s H args us vs Q E _ _ _ _ h => ?_⟩
    · obtain ⟨ds, r, _, _, e, _⟩ := h
      cases e
    · obtain ⟨ds, r, _, _, e, _⟩ := h
      cases e
  | k + 1, f, x, i, st, a, fd, h1, h2, o, F, hcs => by
    have unf : ∀ {ds : List D} {r : D}, callD defs (k + 1) f ds = some r → (ds.length = i.ps.length ∧ okStart i.M ds = true) ∧ retOf (evSs (callD defs k) i.M (start0 i.N ds) i.body) = some r := fun {ds r} e => by
      simp only [callD, h2, Option.bind_some, callDef] at e
      obtain ⟨hc, e⟩ := ite_some' e
      simp only [Bool.and_eq_true, decide_eq_true_eq] at hc
      exact ⟨hc, e⟩
    refine funD_ok (k := 2 * k + 1) F o.scope (fun vs H Q E ⟨ds, r, rs, _, e, _⟩ => by rw [rs.length]; exact (unf e).1.1) fun A outer s H vs Q E hr hsp => ?_
    obtain ⟨ds, r, rs, htk, e, q⟩ := hsp
    obtain ⟨⟨hl, hst⟩, hev⟩ := unf e
    obtain ⟨n, m, htr⟩ := o.tr
    have gx : GX ⟨i.N, fns, 1, gls⟩ (callD defs k) (defScope st) (cxOf CX0 P w K mg base i.N x (defScope st) a fd.code A outer s H E).nox := by
      refine ⟨rfl, o.scope.nd, rfl, o.scope.kind, rfl, ?_, hr.mono (by show 1 ≤ 2 * k + 1; omega), fun _ => ?_, tp.bl, fun g y hy => ?_, tp.gl⟩
      · have := hr.un
        show (A.deeper (envOfC x (defScope st) s.heap.objs.size a fd.code)).units + 100 < cLine
        omega
      · obtain ⟨p, hp, e⟩ := hcs
        exact ⟨p, hp, hT p hp, e⟩
      · have hlt : g < defs.length := by
          rw [← tp.len]
          exact (List.getElem?_eq_some_iff.mp hy).1
        obtain ⟨st', a', fd', o', F', hm, hc'⟩ := tp.fn g y defs[g] hy (List.getElem?_eq_getElem hlt)
        exact ⟨2 * k, a', fd', defs[g].ps, hm, F'.kp, hr, F'.bindsN o'.binds, all_ok tp hT k g y defs[g] st' a' fd' hy (List.getElem?_eq_getElem hlt) o' F' hc'⟩
    have gs : GS ⟨i.N, fns, 1, gls⟩ (callD defs k) (defScope st) (cxOf CX0 P w K mg base i.N x (defScope st) a fd.code A outer s H E).nox := ⟨gx, PassesOwn.never, fun _ => rfl⟩
    refine ⟨tSs K (callD defs k) i.M i.body, PSs.nox (snd_Ss m _ _ htr _ gs), ?_⟩
    cases hres : evSs (callD defs k) i.M (start0 i.N ds) i.body with
    | none => rw [hres] at hev; cases hev
    | some z =>
      obtain ⟨fl, ρ'⟩ := z
      rw [hres] at hev
      refine ⟨start0 i.N ds, H, fun _ => False, fl, ρ', start_ss htk rs hst, hres, ?_⟩
      cases fl with
      | nx =>
        cases hev
        exact fun σ' H' aft => q .non H' aft.ss.ext .non
      | rt d =>
        cases hev
        exact fun v H' x r => q v H' x r
      | bk => cases hev
      | ct => cases hev
/-- the law's one argument -/
def IsScr (d : D) (ns : List Int) : Prop := d = .scr ns ∨ d = .lst (ns.map .int)
theorem reps_ints {H : Hp} {Pp : Addr → Prop} : ∀ ns : List Int, Reps K H Pp (ns.map V.int) (ns.map D.int)
  | [] => .nil
  | n :: ns => .cons (.int n) (reps_ints ns)
theorem law_top {l : PySem.W.OpenLaw} {n : Nat} {h : Heap} {fa : Addr} {f k : Nat} {i : DefI} (tp : Top K mg fns gls defs) (h1 : fns[f]? = some "law") (h2 : defs[f]? = some i) (hmg : mg "law" = some (.ref fa))
    (hlaw : ∀ (d : D) (ns : List Int), IsScr d ns → ns.length ≤ n → callD defs k f [d] = some (.bl true))
    (e1 : ∀ p ∈ Tabs.cs, h.get? p.2 = some { cls := .none, data := .fields #[] }) (e2 : ∀ p ∈ Tabs.cs, K.lookup p.2 = none) (e3 : ∀ p ∈ Tabs.cs, PySem.W.CodeHd h p.1 p.2)
    (hps : i.ps = (["script"] : List Str)) : LamX.LawAtS l w K CX0 (2 * k) n ("script" : Str) mg fa h := by
  obtain ⟨st, a, fd, o, F, hm, hc⟩ := tp.fn f "law" i h1 h2
  rw [hmg] at hm
  cases hm
  refine ⟨fd, Tabs.cs, spD K (callD defs k) f, e1, e2, e3, fun s u => ?_, fun H a ns hl _ hT hS => ?_, fun base _ _ hT => by rw [← hps]; exact all_ok tp (fun p hp => ⟨(hT p hp).code, (hT p hp).bm, (hT p hp).gP⟩) k f "law" i st fa fd h1 h2 o F hc⟩
  · have := F.bindsA o.binds s [u] (by rw [hps]; rfl)
    rw [hps] at this
    exact this
  · have htk : Tk H := fun p hp => ⟨#[], hT p hp, trivial⟩
    rcases hS with (hS | hS) | hS
    · exact ⟨[.lst (ns.map .int)], .bl true, .cons (.lst trivial hS (reps_ints ns)) .nil, htk, hlaw _ ns (.inr rfl) hl, fun v H' _ r => r.bl_inv⟩
    · exact ⟨[.scr ns], .bl true, .cons (.scr (.inl hS)) .nil, htk, hlaw _ ns (.inl rfl) hl, fun v H' _ r => r.bl_inv⟩
    · exact ⟨[.scr ns], .bl true, .cons (.scr (.inr hS)) .nil, htk, hlaw _ ns (.inl rfl) hl, fun v H' _ r => r.bl_inv⟩
end
/-- the law's end -/
theorem walk_tab {l : PySem.W.OpenLaw} {n k : Nat} {q : Program} {loose : List Str} {XP : (Str → Option Value) → Heap → Prop} {YP : World → Heap → Prop} {d : DefRec} {x : Str}
    (hn : l.most = some n) (hn2 : n ≤ sizeLine) (hdf : d.params.defaults = []) (hr : Room k callerA)
    (F : ∀ (w : World) (mg : Str → Option Value) (fa : Addr) (h : Heap), YP w h → h.Ns mainGlobals mg → mg d.name = some (.ref fa) → ∃ K : PySem.W.Frag, K.In h ∧ LamX.LawAtS l w K CX0 k n x mg fa h) :
    PySem.W.WalkO q loose XP YP l.row.toRowW d [] (fun f vs => PySem.call f vs) := by
  refine Att.attach_callB hn hdf fun w s₀ s₁ mg mb fa o pm cd doc a vs ns G Y ho hd hcd hmg hobj hints hlen hbits hg => ?_
  obtain ⟨K, KX, fd, cs, sp, e1, e2, e3, hb, hsp, hF⟩ := F w mg fa _ Y G.T.g hmg
  exact LamX.law_callTs KX G.T.g G.T.b G.T.builtins G.T.nolimit hg e1 e2 e3 G.T.bmain hobj hints (Nat.le_trans hlen hn2) hr hF hb (fun H hH hS => hsp H a ns hlen hbits hH hS) fun H e s' z => z
end Ev
set_option maxHeartbeats 4000000
namespace Ev
open PySem PySem.Spec PyProof.Rows L2
/-! ### the evaluator, sealed: reckoned by its rules alone -/
noncomputable def sealIt {α : Type} (x : α) : {y : α // y = x} := Classical.choice ⟨⟨x, rfl⟩⟩
noncomputable def xE : Oracle → EnvD → E → Option D := (sealIt evE).1
noncomputable def xI : Oracle → EnvD → It → Option (List D) := (sealIt evI).1
noncomputable def xC : Oracle → EnvD → Option E → Option Bool := (sealIt evC).1
noncomputable def xO : Oracle → EnvD → Option E → Option (Option Int) := (sealIt evO).1
noncomputable def xEs : Oracle → EnvD → List E → Option (List D) := (sealIt evEs).1
noncomputable def xS : Oracle → List Nat → EnvD → S → Option (Fl × EnvD) := (sealIt evS).1
noncomputable def xSs : Oracle → List Nat → EnvD → List S → Option (Fl × EnvD) := (sealIt evSs).1
theorem xE_eq : @xE = @evE := (sealIt evE).2
theorem xI_eq : @xI = @evI := (sealIt evI).2
theorem xC_eq : @xC = @evC := (sealIt evC).2
theorem xO_eq : @xO = @evO := (sealIt evO).2
theorem xEs_eq : @xEs = @evEs := (sealIt evEs).2
theorem xS_eq : @xS = @evS := (sealIt evS).2
theorem xSs_eq : @xSs = @evSs := (sealIt evSs).2
/-! ### rules to reckon with -/
section
variable {C : Oracle} {ρ : EnvD} {M : List Nat}
@[simp] theorem evE_var {i : Nat} : xE C ρ (.var i) = ρ[i]?.bind id := by simp only [xE_eq, xI_eq, xC_eq, xO_eq, xEs_eq, evE]
@[simp] theorem evE_cst {d : D} : xE C ρ (.cst d) = some d := by simp only [xE_eq, xI_eq, xC_eq, xO_eq, xEs_eq, evE]
@[simp] theorem evE_bin {op a b} : xE C ρ (.bin op a b) = (xE C ρ a).bind fun x => (xE C ρ b).bind fun y => binD op x y := by simp only [xE_eq, xI_eq, xC_eq, xO_eq, xEs_eq, evE]
@[simp] theorem evE_neg {a} : xE C ρ (.neg a) = (xE C ρ a).bind negD := by simp only [xE_eq, xI_eq, xC_eq, xO_eq, xEs_eq, evE]
@[simp] theorem evE_rev {a} : xE C ρ (.rev a) = (xE C ρ a).bind revD := by simp only [xE_eq, xI_eq, xC_eq, xO_eq, xEs_eq, evE]
@[simp] theorem evE_rg {tp es} : xE C ρ (.rg tp es) = (xEs C ρ es).bind fun ds => (rangeD ds).bind fun xs => some (if tp then .tup xs else .lst xs) := by simp only [xE_eq, xI_eq, xC_eq, xO_eq, xEs_eq, evE]
@[simp] theorem evE_not {a} : xE C ρ (.not a) = (xE C ρ a).bind fun x => (truthD x).bind fun b => some (.bl !b) := by simp only [xE_eq, xI_eq, xC_eq, xO_eq, xEs_eq, evE]
@[simp] theorem evE_and {a b} : xE C ρ (.and a b) = (xE C ρ a).bind fun x => (truthD x).bind fun k => if k then xE C ρ b else some x := by simp only [xE_eq, xI_eq, xC_eq, xO_eq, xEs_eq, evE]
@[simp] theorem evE_or {a b} : xE C ρ (.or a b) = (xE C ρ a).bind fun x => (truthD x).bind fun k => if k then some x else xE C ρ b := by simp only [xE_eq, xI_eq, xC_eq, xO_eq, xEs_eq, evE]
@[simp] theorem evE_cmp {op a b} : xE C ρ (.cmp op a b) = (xE C ρ a).bind fun x => (xE C ρ b).bind fun y => (cmpD op x y).bind fun k => some (.bl k) := by simp only [xE_eq, xI_eq, xC_eq, xO_eq, xEs_eq, evE]
@[simp] theorem evE_chain {op op' a b c} : xE C ρ (.chain op op' a b c) = (xE C ρ a).bind fun x => (xE C ρ b).bind fun y => (cmpD op x y).bind fun k =>
      if k then (xE C ρ c).bind fun z => (cmpD op' y z).bind fun k' => some (.bl k') else some (.bl false) := by simp only [xE_eq, xI_eq, xC_eq, xO_eq, xEs_eq, evE]
@[simp] theorem evE_ite {c a b} : xE C ρ (.ite c a b) = (xE C ρ c).bind fun x => (truthD x).bind fun k => if k then xE C ρ a else xE C ρ b := by simp only [xE_eq, xI_eq, xC_eq, xO_eq, xEs_eq, evE]
@[simp] theorem evE_tup {es} : xE C ρ (.tup es) = (xEs C ρ es).bind fun ds => if lineOk ds.length then some (.tup ds) else none := by simp only [xE_eq, xI_eq, xC_eq, xO_eq, xEs_eq, evE]
@[simp] theorem evE_lst {es} : xE C ρ (.lst es) = (xEs C ρ es).bind fun ds => if lineOk ds.length then some (.lst ds) else none := by simp only [xE_eq, xI_eq, xC_eq, xO_eq, xEs_eq, evE]
@[simp] theorem evE_ix {a b} : xE C ρ (.ix a b) = (xE C ρ a).bind fun x => (xE C ρ b).bind fun y => ixD x y := by simp only [xE_eq, xI_eq, xC_eq, xO_eq, xEs_eq, evE]
@[simp] theorem evE_sl {a lo hi} : xE C ρ (.sl a lo hi) = (xE C ρ a).bind fun x => (xO C ρ lo).bind fun l => (xO C ρ hi).bind fun h => slD x l h := by simp only [xE_eq, xI_eq, xC_eq, xO_eq, xEs_eq, evE]
@[simp] theorem evE_bf {f es} : xE C ρ (.bf f es) = (xEs C ρ es).bind fun ds => bfD f ds := by simp only [xE_eq, xI_eq, xC_eq, xO_eq, xEs_eq, evE]
@[simp] theorem evE_isin {a t} : xE C ρ (.isin a t) = (xE C ρ a).bind fun x => (isinD t x).bind fun k => some (.bl k) := by simp only [xE_eq, xI_eq, xC_eq, xO_eq, xEs_eq, evE]
@[simp] theorem evE_dnew : xE C ρ .dnew = some (.dic false [] []) := by simp only [xE_eq, xI_eq, xC_eq, xO_eq, xEs_eq, evE]
@[simp] theorem evE_dsing {a b} : xE C ρ (.dsing a b) = (xE C ρ a).bind fun y => (xE C ρ b).bind fun z => (kOf y).map fun key => .dic false [keyD key] [z] := by simp only [xE_eq, xI_eq, xC_eq, xO_eq, xEs_eq, evE]
@[simp] theorem evE_dget {a b} : xE C ρ (.dget a b) = (xE C ρ a).bind fun x => (xE C ρ b).bind fun y => dgetD x y .non := by simp only [xE_eq, xI_eq, xC_eq, xO_eq, xEs_eq, evE]
@[simp] theorem evE_dgetx {a b c} : xE C ρ (.dgetx a b c) = (xE C ρ a).bind fun x => (xE C ρ b).bind fun y => (xE C ρ c).bind fun z => dgetD x y z := by simp only [xE_eq, xI_eq, xC_eq, xO_eq, xEs_eq, evE]
@[simp] theorem evE_sset {k a} : xE C ρ (.sset k a) = (xE C ρ a).bind fun x => ssetD k x := by simp only [xE_eq, xI_eq, xC_eq, xO_eq, xEs_eq, evE]
@[simp] theorem evE_call {f es} : xE C ρ (.call f es) = (xEs C ρ es).bind fun ds => C f ds := by simp only [xE_eq, xI_eq, xC_eq, xO_eq, xEs_eq, evE]
@[simp] theorem evE_op {o es} : xE C ρ (.op o es) = (xEs C ρ es).bind fun ds => oprD o ds := by simp only [xE_eq, xI_eq, xC_eq, xO_eq, xEs_eq, evE]
theorem evE_chain3 {op op' op2 a b c d} : xE C ρ (.chain3 op op' op2 a b c d) = (xE C ρ a).bind fun x => (xE C ρ b).bind fun y => (cmpD op x y).bind fun k =>
      if k then (xE C ρ c).bind fun z => (cmpD op' y z).bind fun k' => if k' then (xE C ρ d).bind fun w => (cmpD op2 z w).bind fun k2 => some (.bl k2) else some (.bl false) else some (.bl false) := by simp only [xE_eq]; rw [evE]
theorem evE_comp2 {elt vs vs1 tg it c tg1 it1 c1} : xE C ρ (.comp2 elt vs vs1 tg it c tg1 it1 c1) = (xI C ρ it).bind fun xs => (compL2 (fun x => (bindT tg x (wipe ρ vs)).bind fun ρ' =>
      (xC C ρ' c).bind fun k => if k then (xI C ρ' it1).bind fun zs => compL (fun z => (bindT tg1 z (wipe ρ' vs1)).bind fun ρ2 =>
        (xC C ρ2 c1).bind fun k1 => if k1 then (xE C ρ2 elt).bind fun y => some (some y) else some none) zs else some []) xs).bind fun ys => if lineOk ys.length then some (.lst ys) else none := by simp only [xE_eq, xI_eq, xC_eq]; rw [evE]
theorem evE_comp {elt vs tg it c} : xE C ρ (.comp elt vs tg it c) = (xI C ρ it).bind fun xs => (compL (fun x => (bindT tg x (wipe ρ vs)).bind fun ρ' =>
      (xC C ρ' c).bind fun k => if k then (xE C ρ' elt).bind fun y => some (some y) else some none) xs).bind fun ys => some (.lst ys) := by simp only [xE_eq, xI_eq, xC_eq, xO_eq, xEs_eq, evE]
theorem evE_gen {k elt vs tg it c} : xE C ρ (.gen k elt vs tg it c) = (xI C ρ it).bind fun xs => genL k (fun x => (bindT tg x (wipe ρ vs)).bind fun ρ' =>
      (xC C ρ' c).bind fun b => if b then (xE C ρ' elt).bind fun y => (boolOf y).bind fun t => some (some t) else some none) xs := by simp only [xE_eq, xI_eq, xC_eq, xO_eq, xEs_eq, evE]
@[simp] theorem evI_seq {e} : xI C ρ (.seq e) = (xE C ρ e).bind itemsD := by simp only [xE_eq, xI_eq, xC_eq, xO_eq, xEs_eq, evI]
@[simp] theorem evI_enm {e} : xI C ρ (.enm e) = (xE C ρ e).bind fun x => (itemsD x).bind fun xs => some (enumD xs) := by simp only [xE_eq, xI_eq, xC_eq, xO_eq, xEs_eq, evI]
@[simp] theorem evI_zip {a b} : xI C ρ (.zip a b) = (xE C ρ a).bind fun x => (xE C ρ b).bind fun y => pairD x y := by simp only [xE_eq, xI_eq, xC_eq, xO_eq, xEs_eq, evI]
@[simp] theorem evI_rv {a} : xI C ρ (.rv a) = (xE C ρ a).bind fun x => (itemsD x).bind fun xs => some xs.reverse := by simp only [xE_eq, xI_eq, xC_eq, xO_eq, xEs_eq, evI]
@[simp] theorem evI_rng3 {a b c} : xI C ρ (.rng3 a b c) = (xE C ρ a).bind fun x => (xE C ρ b).bind fun y => (xE C ρ c).bind fun z => range3D x y z := by simp only [xE_eq, xI_eq, xC_eq, xO_eq, xEs_eq, evI]
@[simp] theorem evI_rng {es} : xI C ρ (.rng es) = (xEs C ρ es).bind rangeD := by simp only [xE_eq, xI_eq, xC_eq, xO_eq, xEs_eq, evI]
@[simp] theorem evC_none : xC C ρ none = some true := by simp only [xC_eq, xE_eq, evC]
@[simp] theorem evC_some {e} : xC C ρ (some e) = (xE C ρ e).bind truthD := by simp only [xC_eq, xE_eq, evC]
@[simp] theorem evO_none : xO C ρ none = some none := by simp only [xO_eq, xE_eq, evO]
@[simp] theorem evO_some {e} : xO C ρ (some e) = (xE C ρ e).bind fun d => (intOf d).bind fun i => some (some i) := by simp only [xO_eq, xE_eq, evO]
@[simp] theorem evEs_nil : xEs C ρ [] = some [] := by simp only [xEs_eq, xE_eq, evEs]
@[simp] theorem evEs_cons {e es} : xEs C ρ (e :: es) = (xE C ρ e).bind fun d => (xEs C ρ es).bind fun ds => some (d :: ds) := by simp only [xEs_eq, xE_eq, evEs]
@[simp] theorem evSs_nil : xSs C M ρ [] = some (.nx, ρ) := by simp only [xSs_eq, xS_eq, evSs]
/-- what follows, if nothing was returned -/
noncomputable def andThen (C : Oracle) (M : List Nat) (r : List S) : Fl × EnvD → Option (Fl × EnvD)
  | (.nx, ρ) => xSs C M ρ r
  | x => some x
@[simp] theorem evSs_cons {s r} : xSs C M ρ (s :: r) = (xS C M ρ s).bind (andThen C M r) := by
  simp only [xSs_eq, xS_eq, evSs]
  congr 1
  funext x
  obtain ⟨f, ρ'⟩ := x
  cases f <;> simp only [andThen, xSs_eq]
@[simp] theorem andThen_nx {r} : andThen C M r (.nx, ρ) = xSs C M ρ r := Eq.trans rfl rfl
@[simp] theorem andThen_rt {r d} : andThen C M r (.rt d, ρ) = some (.rt d, ρ) := Eq.trans rfl rfl
@[simp] theorem andThen_bk {r} : andThen C M r (.bk, ρ) = some (.bk, ρ) := Eq.trans rfl rfl
@[simp] theorem andThen_ct {r} : andThen C M r (.ct, ρ) = some (.ct, ρ) := Eq.trans rfl rfl
@[simp] theorem evS_asg {t e} : xS C M ρ (.asg t e) = (xE C ρ e).bind fun d => if bindOK M t e d then (bindT t d ρ).bind fun ρ' => some (.nx, ρ') else mvD M ρ d t e := by simp only [xS_eq, xSs_eq, xE_eq, xI_eq, evS]
@[simp] theorem evS_app {i e} : xS C M ρ (.app i e) = (xE C ρ e).bind fun d => (ρ[i]?.bind id).bind fun l => (match l with
    | .lst ds => if M.contains i && (d.imm || fr e d) && decide (ds.length < sizeLine) then some (.nx, ρ.set i (some (.lst (ds ++ [d])))) else none
    | _ => none) := by simp only [xS_eq, xSs_eq, xE_eq, xI_eq, evS] <;> rfl
@[simp] theorem evS_ext {i e} : xS C M ρ (.ext i e) = (xE C ρ e).bind fun d => (ρ[i]?.bind id).bind fun l => extD M ρ i l d := by simp only [xS_eq, xSs_eq, xE_eq, xI_eq, evS]
@[simp] theorem evS_ret {e} : xS C M ρ (.ret e) = (xE C ρ e).bind fun d => if d.imm || fr e d || (match e with | .var i => M.contains i | _ => false) then some (.rt d, ρ) else (xE C (keepD M 0 ρ) e).bind fun d' => some (.rt d', ρ) := by simp only [xS_eq, xSs_eq, xE_eq, xI_eq, evS] <;> rfl
@[simp] theorem evS_ite {c a b} : xS C M ρ (.ite c a b) = (xE C ρ c).bind fun d => (truthD d).bind fun k => if k then xSs C M ρ a else xSs C M ρ b := by simp only [xS_eq, xSs_eq, xE_eq, xI_eq, evS]
theorem evS_aug {i o e} : xS C M ρ (.aug i o e) = (ρ[i]?.bind id).bind fun l => (xE C ρ e).bind fun d => augD M ρ i o l d := by simp only [xS_eq, xE_eq, evS] <;> rfl
theorem evS_pop {t i k} : xS C M ρ (.pop t i k) = (ρ[i]?.bind id).bind fun l => (xO C ρ k).bind fun k' => popD M ρ t i k' l := by simp only [xS_eq, xO_eq, evS] <;> rfl
theorem evS_rem {i e} : xS C M ρ (.rem i e) = (xE C ρ e).bind fun d => (ρ[i]?.bind id).bind fun l => remD M ρ i d l := by simp only [xS_eq, xE_eq, evS] <;> rfl
theorem evS_for {t it b} : xS C M ρ (.for_ t it b) = (xI C ρ it).bind fun xs => if forOK C M ρ t it b xs then forD t (fun ρ => xSs C M ρ b) xs ρ else none := by simp only [xS_eq, xSs_eq, xE_eq, xI_eq, evS]
@[simp] theorem evS_brk : xS C M ρ .brk = some (.bk, ρ) := by simp only [xS_eq, xSs_eq, xE_eq, xI_eq, evS]
@[simp] theorem evS_cnt : xS C M ρ .cnt = some (.ct, ρ) := by simp only [xS_eq, xSs_eq, xE_eq, xI_eq, evS]
@[simp] theorem evS_pass : xS C M ρ .pass = some (.nx, ρ) := by simp only [xS_eq, xSs_eq, xE_eq, xI_eq, evS]
@[simp] theorem evS_retN : xS C M ρ .retN = some (.rt .non, ρ) := by simp only [xS_eq, xSs_eq, xE_eq, xI_eq, evS]
end
/-! ints -/
theorem lineOk_small {n : Nat} (h : n ≤ 16777216) : lineOk n = true := by
  rw [lineOk_iff, sizeLine_eq]; exact h
@[simp] theorem binD_add : binD .Add = addD := Eq.trans rfl rfl
@[simp] theorem binD_sub : binD .Sub = subD := Eq.trans rfl rfl
@[simp] theorem binD_mul : binD .Mult = mulD := Eq.trans rfl rfl
@[simp] theorem binD_fdiv : binD .FloorDiv = fdivD := Eq.trans rfl rfl
@[simp] theorem binD_mod : binD .Mod = modD := Eq.trans rfl rfl
@[simp] theorem binD_pow : binD .Pow = powD := Eq.trans rfl rfl
@[simp] theorem add_ii {a b : Int} : addD (.int a) (.int b) = some (.int (a + b)) := Eq.trans rfl rfl
@[simp] theorem sub_ii {a b : Int} : subD (.int a) (.int b) = some (.int (a - b)) := Eq.trans rfl rfl
@[simp] theorem neg_i {a : Int} : negD (.int a) = some (.int (-a)) := Eq.trans rfl rfl
theorem mul_ii {a b : Int} (h : (small a || small b) = true) : mulD (.int a) (.int b) = some (.int (a * b)) := by
  simp only [mulD, if_pos h]
theorem small_of {a : Int} (h1 : -18446744073709551616 < a) (h2 : a < 18446744073709551616) : small a = true := by
  simp only [small, Bool.and_eq_true, decide_eq_true_eq]
  omega
theorem mul_l {a b : Int} (h1 : -18446744073709551616 < a) (h2 : a < 18446744073709551616) : mulD (.int a) (.int b) = some (.int (a * b)) := mul_ii (by rw [small_of h1 h2]; rfl)
theorem mul_r {a b : Int} (h1 : -18446744073709551616 < b) (h2 : b < 18446744073709551616) : mulD (.int a) (.int b) = some (.int (a * b)) := mul_ii (by rw [small_of h1 h2]; simp)
theorem fdiv_ii {a b : Int} (h1 : 0 < b) (h2 : b < 1073741824) : fdivD (.int a) (.int b) = some (.int (a / b)) := by simp [fdivD, h1, h2]
theorem mod_ii {a b : Int} (h1 : 0 < b) : modD (.int a) (.int b) = some (.int (a % b)) := by simp [modD, h1]
@[simp] theorem depth_int {a : Int} : (PyData.int a).depth = 0 := Eq.trans rfl rfl
@[simp] theorem eq_ii {a b : Int} : eqD (.int a) (.int b) = some (decide (a = b)) := by
  simp [eqD, D.wf, D.py, PyData.plain, PyData.depth, PyData.eqv]
  rfl
@[simp] theorem lt_ii {a b : Int} : ltD (.int a) (.int b) = some (decide (a < b)) := by
  simp [ltD, D.wf, D.py, PyData.plain, PyData.depth, PySem.W.alike, PySem.W.dataLt_int]
@[simp] theorem cmp_eq {x y} : cmpD .Eq x y = eqD x y := Eq.trans rfl rfl
@[simp] theorem cmp_ne {x y} : cmpD .NotEq x y = (eqD x y).map (!·) := Eq.trans rfl rfl
@[simp] theorem cmp_lt {x y} : cmpD .Lt x y = ltD x y := Eq.trans rfl rfl
@[simp] theorem cmp_ge {x y} : cmpD .GtE x y = (ltD x y).map (!·) := Eq.trans rfl rfl
@[simp] theorem cmp_gt_ii {a b : Int} : cmpD .Gt (.int a) (.int b) = some (decide (b < a)) := by simp [cmpD, D.py, PySem.W.alike]
@[simp] theorem cmp_le_ii {a b : Int} : cmpD .LtE (.int a) (.int b) = some (!decide (b < a)) := by simp [cmpD, D.py, PySem.W.alike]
@[simp] theorem cmp_is_n {x} : cmpD .Is x .non = some (isNon x) := Eq.trans rfl rfl
@[simp] theorem cmp_isnot_n {x} : cmpD .IsNot x .non = some (!isNon x) := Eq.trans rfl rfl
@[simp] theorem cmp_in {x y} : cmpD .In x y = memD x y := Eq.trans rfl rfl
@[simp] theorem cmp_notin {x y} : cmpD .NotIn x y = (memD x y).map (!·) := Eq.trans rfl rfl
@[simp] theorem isNon_non : isNon .non = true := Eq.trans rfl rfl
@[simp] theorem isNon_int {a} : isNon (.int a) = false := Eq.trans rfl rfl
@[simp] theorem isNon_bl {a} : isNon (.bl a) = false := Eq.trans rfl rfl
@[simp] theorem isNon_str {a} : isNon (.str a) = false := Eq.trans rfl rfl
@[simp] theorem isNon_tup {a} : isNon (.tup a) = false := Eq.trans rfl rfl
@[simp] theorem isNon_lst {a} : isNon (.lst a) = false := Eq.trans rfl rfl
@[simp] theorem truth_bl {b} : truthD (.bl b) = some b := Eq.trans rfl rfl
@[simp] theorem truth_int {i} : truthD (.int i) = some (i != 0) := Eq.trans rfl rfl
@[simp] theorem truth_tup {xs} : truthD (.tup xs) = some (!xs.isEmpty) := Eq.trans rfl rfl
@[simp] theorem truth_lst {xs} : truthD (.lst xs) = some (!xs.isEmpty) := Eq.trans rfl rfl
@[simp] theorem truth_non : truthD .non = some false := Eq.trans rfl rfl
@[simp] theorem intOf_int {i} : intOf (.int i) = some i := Eq.trans rfl rfl
@[simp] theorem items_lst {xs} : itemsD (.lst xs) = some xs := Eq.trans rfl rfl
@[simp] theorem items_tup {xs} : itemsD (.tup xs) = some xs := Eq.trans rfl rfl
@[simp] theorem rev_tup {xs} : revD (.tup xs) = some (.tup xs.reverse) := Eq.trans rfl rfl
@[simp] theorem rev_lst {xs} : revD (.lst xs) = some (.lst xs.reverse) := Eq.trans rfl rfl
@[simp] theorem imm_int {i} : (D.int i).imm = true := Eq.trans rfl rfl
@[simp] theorem imm_bl {i} : (D.bl i).imm = true := Eq.trans rfl rfl
@[simp] theorem imm_non : (D.non).imm = true := Eq.trans rfl rfl
@[simp] theorem imm_str {s} : (D.str s).imm = true := Eq.trans rfl rfl
@[simp] theorem imm_tup {xs} : (D.tup xs).imm = D.imms xs := Eq.trans rfl rfl
@[simp] theorem imm_lst {xs} : (D.lst xs).imm = false := Eq.trans rfl rfl
@[simp] theorem imms_nil : D.imms [] = true := Eq.trans rfl rfl
@[simp] theorem imms_cons {x xs} : D.imms (x :: xs) = (x.imm && D.imms xs) := Eq.trans rfl rfl
@[simp] theorem imms_map {α : Type} {f : α → D} (h : ∀ x, (f x).imm = true) : ∀ xs : List α, D.imms (xs.map f) = true
  | [] => rfl
  | x :: xs => by simp [h x, imms_map h xs]
@[simp] theorem imm1_lst {xs} : (D.lst xs).imm1 = D.imms xs := Eq.trans rfl rfl
@[simp] theorem imm1_tup {xs} : (D.tup xs).imm1 = D.imms xs := Eq.trans rfl rfl
@[simp] theorem imm1_int {i} : (D.int i).imm1 = true := Eq.trans rfl rfl
@[simp] theorem imm1_bl {i} : (D.bl i).imm1 = true := Eq.trans rfl rfl
@[simp] theorem bfD_1 {f x} : bfD f [x] = bf1 f x := Eq.trans rfl rfl
@[simp] theorem bfD_2 {f x y} : bfD f [x, y] = bf2 f x y := Eq.trans rfl rfl
@[simp] theorem bf_int_i {i} : bf1 .int (.int i) = some (.int i) := Eq.trans rfl rfl
@[simp] theorem bf_len {x} : bf1 .len x = lenD x := Eq.trans rfl rfl
@[simp] theorem len_tup {xs} : lenD (.tup xs) = some (.int xs.length) := Eq.trans rfl rfl
@[simp] theorem len_lst {xs} : lenD (.lst xs) = some (.int xs.length) := Eq.trans rfl rfl
@[simp] theorem len_scr {xs} : lenD (.scr xs) = some (.int xs.length) := Eq.trans rfl rfl
@[simp] theorem bf_abs_i {i} : bf1 .abs (.int i) = some (.int (if i < 0 then -i else i)) := Eq.trans rfl rfl
@[simp] theorem bf_tuple_l {xs} : bf1 .tuple (.lst xs) = some (.tup xs) := Eq.trans rfl rfl
@[simp] theorem bf_tuple_t {xs} : bf1 .tuple (.tup xs) = some (.tup xs) := Eq.trans rfl rfl
@[simp] theorem bf_list_l {xs} : bf1 .list (.lst xs) = some (.lst xs) := Eq.trans rfl rfl
@[simp] theorem bf_list_t {xs} : bf1 .list (.tup xs) = some (.lst xs) := Eq.trans rfl rfl
@[simp] theorem bf_min2 {i j} : bf2 .min (.int i) (.int j) = some (.int (if j < i then j else i)) := Eq.trans rfl rfl
@[simp] theorem bf_max2 {i j} : bf2 .max (.int i) (.int j) = some (.int (if j > i then j else i)) := Eq.trans rfl rfl
@[simp] theorem ix_tup {xs i} : ixD (.tup xs) (.int i) = atI xs i := Eq.trans rfl rfl
@[simp] theorem ix_lst {xs i} : ixD (.lst xs) (.int i) = atI xs i := Eq.trans rfl rfl
@[simp] theorem ix_scr {xs i} : ixD (.scr xs) (.int i) = (atI xs i).map .int := Eq.trans rfl rfl
theorem mapO_int (ns : List Int) : mapO intOf (ns.map .int) = some ns := by
  induction ns with
  | nil => rfl
  | cons n ns ih => simp [mapO, ih]
theorem mapO_bool (ns : List Bool) : mapO boolOf (ns.map .bl) = some ns := by
  induction ns with
  | nil => rfl
  | cons n ns ih => simp [mapO, ih, boolOf]
@[simp] theorem bf_sum {ns : List Int} : bf1 .sum (.lst (ns.map .int)) = some (.int ns.sum) := by
  show (mapO intOf _).bind _ = _
  rw [mapO_int]; rfl
@[simp] theorem bf_sumT {ns : List Int} : bf1 .sum (.tup (ns.map .int)) = some (.int ns.sum) := by
  show (mapO intOf _).bind _ = _
  rw [mapO_int]; rfl
@[simp] theorem bf_all {ns : List Bool} : bf1 .all (.lst (ns.map .bl)) = some (.bl (ns.all id)) := by
  show (mapO boolOf _).bind _ = _
  rw [mapO_bool]; rfl
theorem compL_map {α β : Type} {f : D → Option (Option D)} {e : α → D} {g : α → β} {e' : β → D} : ∀ (xs : List α), (∀ x ∈ xs, f (e x) = some (some (e' (g x)))) → compL f (xs.map e) = some ((xs.map g).map e')
  | [], _ => rfl
  | x :: xs, h => by
    have ih := compL_map (f := f) (e := e) (g := g) (e' := e') xs fun y hy => h y (List.mem_cons_of_mem _ hy)
    simp only [List.map_cons, compL, h x List.mem_cons_self, Option.bind_some, ih]
theorem compL_filter {α β : Type} {f : D → Option (Option D)} {e : α → D} {p : α → Bool} {g : α → β} {e' : β → D} : ∀ (xs : List α), (∀ x ∈ xs, f (e x) = some (if p x then some (e' (g x)) else none)) → compL f (xs.map e) = some (((xs.filter p).map g).map e')
  | [], _ => rfl
  | x :: xs, h => by
    have ih := compL_filter (f := f) (e := e) (p := p) (g := g) (e' := e') xs fun y hy => h y (List.mem_cons_of_mem _ hy)
    simp only [List.map_cons, compL, h x List.mem_cons_self, Option.bind_some, ih, List.filter_cons]
    cases p x <;> rfl
theorem range_1 {n : Int} (h1 : 0 ≤ n) (h2 : n ≤ 16777216) : rangeD [.int n] = some (intsFrom 0 n.toNat) := by
  simp only [rangeD]
  rw [if_pos]
  simp only [Bool.and_eq_true, decide_eq_true_eq]
  refine ⟨⟨by omega, by omega⟩, lineOk_small (by omega)⟩
theorem range_2 {a b : Int} (h1 : -1000000000000 ≤ a) (h2 : a ≤ 1000000000000) (h3 : -1000000000000 ≤ b) (h4 : b ≤ 1000000000000) (h5 : b - a ≤ 16777216) : rangeD [.int a, .int b] = some (intsFrom a (b - a).toNat) := by
  simp only [rangeD]
  rw [if_pos]
  simp only [Bool.and_eq_true, decide_eq_true_eq]
  refine ⟨⟨⟨⟨by omega, by omega⟩, by omega⟩, by omega⟩, lineOk_small (by omega)⟩
/-- the ints from a on -/
def iota (a : Int) (n : Nat) : List Int := (List.range n).map fun (k : Nat) => a + (k : Int)
theorem intsFrom_iota (a : Int) (n : Nat) : intsFrom a n = (iota a n).map .int := by
  unfold intsFrom iota
  rw [List.map_map]; rfl
theorem iota_mem {a x : Int} {n : Nat} : x ∈ iota a n ↔ a ≤ x ∧ x < a + n := by
  unfold iota
  simp only [List.mem_map, List.mem_range]
  constructor
  · rintro ⟨k, hk, rfl⟩; omega
  · rintro ⟨h1, h2⟩; exact ⟨(x - a).toNat, by omega, by omega⟩
theorem iota_succ (a : Int) (n : Nat) : iota a (n + 1) = iota a n ++ [a + n] := by
  unfold iota
  rw [List.range_succ, List.map_append]; rfl
theorem iota_cons (a : Int) (n : Nat) : iota a (n + 1) = a :: iota (a + 1) n := by
  unfold iota
  rw [List.range_succ_eq_map, List.map_cons, List.map_map]
  simp only [List.cons.injEq]
  refine ⟨by simp, List.map_congr_left fun k _ => ?_⟩
  simp only [Function.comp]
  omega
@[simp] theorem iota_length {a : Int} {n : Nat} : (iota a n).length = n := by simp [iota]
@[simp] theorem iota_zero {a : Int} : iota a 0 = [] := Eq.trans rfl rfl
/-! calls -/
theorem call_eq {defs : List DefI} {k f : Nat} {i : DefI} {ds : List D} (h : defs[f]? = some i) (hl : ds.length = i.ps.length) (hs : okStart i.M ds = true) : callD defs (k + 1) f ds = retOf (xSs (callD defs k) i.M (start0 i.N ds) i.body) := by
  simp only [xSs_eq, callD, h, Option.bind_some, callDef, hl, hs, decide_true, Bool.and_self, if_true]
@[simp] theorem retOf_rt {d ρ} : retOf (some (.rt d, ρ)) = some d := Eq.trans rfl rfl
@[simp] theorem retOf_nx {ρ} : retOf (some (.nx, ρ)) = some .non := Eq.trans rfl rfl
/-! loops -/
/-- a loop that may return: F tells what -/
theorem forD_find {α : Type} {t : Tg} {body : EnvD → Option (Fl × EnvD)} {e : α → D} {F : α → Option D} {Inv : EnvD → Prop} : ∀ (xs : List α) (ρ : EnvD), Inv ρ →
    (∀ x ∈ xs, ∀ ρ, Inv ρ → ∃ ρ1, bindT t (e x) ρ = some ρ1 ∧ ((∃ ρ2, body ρ1 = some (.nx, ρ2) ∧ Inv ρ2 ∧ F x = none) ∨ ∃ d ρ2, body ρ1 = some (.rt d, ρ2) ∧ F x = some d)) →
    (∃ d ρ', xs.findSome? F = some d ∧ forD t body (xs.map e) ρ = some (.rt d, ρ')) ∨ (∃ ρ', xs.findSome? F = none ∧ forD t body (xs.map e) ρ = some (.nx, ρ') ∧ Inv ρ')
  | [], ρ, h, _ => .inr ⟨ρ, rfl, rfl, h⟩
  | x :: xs, ρ, h, s => by
    obtain ⟨ρ1, h1, h2⟩ := s x List.mem_cons_self ρ h
    rcases h2 with ⟨ρ2, h2, h3, h4⟩ | ⟨d, ρ2, h2, h3⟩
    · rcases forD_find xs ρ2 h3 (fun y hy => s y (List.mem_cons_of_mem _ hy)) with ⟨d, ρ', h5, h6⟩ | ⟨ρ', h5, h6, h7⟩
      · refine .inl ⟨d, ρ', ?_, ?_⟩
        · simp [List.findSome?_cons, h4, h5]
        · simp only [List.map_cons, forD, h1, Option.bind_some, h2, h6]
      · refine .inr ⟨ρ', ?_, ?_, h7⟩
        · simp [List.findSome?_cons, h4, h5]
        · simp only [List.map_cons, forD, h1, Option.bind_some, h2, h6]
    · refine .inl ⟨d, ρ2, ?_, ?_⟩
      · simp [List.findSome?_cons, h3]
      · simp only [List.map_cons, forD, h1, Option.bind_some, h2]
/-- a loop that carries a state -/
theorem forD_fold {α σ : Type} {t : Tg} {body : EnvD → Option (Fl × EnvD)} {e : α → D} {f : σ → α → σ} {Inv : σ → EnvD → Prop} : ∀ (xs : List α) (s : σ) (ρ : EnvD), Inv s ρ →
    (∀ x ∈ xs, ∀ s ρ, Inv s ρ → ∃ ρ1 ρ2, bindT t (e x) ρ = some ρ1 ∧ body ρ1 = some (.nx, ρ2) ∧ Inv (f s x) ρ2) →
    ∃ ρ', forD t body (xs.map e) ρ = some (.nx, ρ') ∧ Inv (xs.foldl f s) ρ'
  | [], s, ρ, h, _ => ⟨ρ, rfl, h⟩
  | x :: xs, s, ρ, h, st => by
    obtain ⟨ρ1, ρ2, h1, h2, h3⟩ := st x List.mem_cons_self s ρ h
    obtain ⟨ρ', h4, h5⟩ := forD_fold xs (f s x) ρ2 h3 fun y hy => st y (List.mem_cons_of_mem _ hy)
    exact ⟨ρ', by simp only [List.map_cons, forD, h1, Option.bind_some, h2, h4], h5⟩
/-- a loop that keeps something -/
theorem forD_inv {α : Type} {t : Tg} {body : EnvD → Option (Fl × EnvD)} {e : α → D} {Inv : EnvD → Prop} (xs : List α) (ρ : EnvD) (h : Inv ρ)
    (s : ∀ x ∈ xs, ∀ ρ, Inv ρ → ∃ ρ1 ρ2, bindT t (e x) ρ = some ρ1 ∧ body ρ1 = some (.nx, ρ2) ∧ Inv ρ2) : ∃ ρ', forD t body (xs.map e) ρ = some (.nx, ρ') ∧ Inv ρ' :=
  forD_fold (σ := Unit) (f := fun _ _ => ()) (Inv := fun _ => Inv) xs () ρ h fun x hx _ ρ hi => s x hx ρ hi
@[simp] theorem ite_some_some {α : Type} {c : Prop} [Decidable c] {a b : α} : (if c then some a else some b) = some (if c then a else b) := by split <;> rfl
@[simp] theorem ite_int {c : Prop} [Decidable c] {a b : Int} : (if c then D.int a else D.int b) = D.int (if c then a else b) := by split <;> rfl
@[simp] theorem ite_bl {c : Prop} [Decidable c] {a b : Bool} : (if c then D.bl a else D.bl b) = D.bl (if c then a else b) := by split <;> rfl
theorem ev_for {C : Oracle} {ρ : EnvD} {M : List Nat} {t : Tg} {it : It} {b : List S} {xs : List D} (h1 : xI C ρ it = some xs) (h2 : forOK C M ρ t it b xs = true) : xS C M ρ (.for_ t it b) = forD t (fun ρ => xSs C M ρ b) xs ρ := by
  rw [evS_for, h1, Option.bind_some, if_pos h2]
theorem forOK_rng {C : Oracle} {ρ : EnvD} {M : List Nat} {t : Tg} {es : List E} {b : List S} {xs : List D} (h : D.imms xs = true) : forOK C M ρ t (.rng es) b xs = true := by
  simp [forOK, It.parts, h]
theorem forOK_imm {C : Oracle} {ρ : EnvD} {M : List Nat} {t : Tg} {e : E} {b : List S} {xs : List D} {d : D} (h : D.imms xs = true) (h1 : xE C ρ e = some d) (h2 : (d.imm || fr e d) = true) : forOK C M ρ t (.seq e) b xs = true := by
  rw [xE_eq] at h1
  simp only [forOK, It.parts, List.all_cons, List.all_nil, partOK, h1, h2, h]
  simp
theorem forOK_clean {C : Oracle} {ρ : EnvD} {M : List Nat} {t : Tg} {it : It} {b : List S} {xs : List D} (h : D.imms xs = true) (h1 : cleanI M it = true) : forOK C M ρ t it b xs = true := by
  simp [forOK, h, h1]
theorem ev_range {C : Oracle} {ρ : EnvD} {es : List E} {ds : List D} {xs : List D} (h1 : xEs C ρ es = some ds) (h2 : rangeD ds = some xs) : xI C ρ (.rng es) = some xs := by
  rw [evI_rng, h1]; exact h2
theorem ev_seq {C : Oracle} {ρ : EnvD} {e : E} {d : D} {xs : List D} (h1 : xE C ρ e = some d) (h2 : itemsD d = some xs) : xI C ρ (.seq e) = some xs := by
  rw [evI_seq, h1]; exact h2
/-- a comprehension without a test -/
theorem ev_comp {α β : Type} {C : Oracle} {ρ : EnvD} {elt : E} {vs : List Nat} {tg : Tg} {it : It} {xs : List α} {e : α → D} {g : α → β} {e' : β → D} (h1 : xI C ρ it = some (xs.map e)) (h2 : ∀ x ∈ xs, ∃ ρ', bindT tg (e x) (wipe ρ vs) = some ρ' ∧ xE C ρ' elt = some (e' (g x))) :
    xE C ρ (.comp elt vs tg it none) = some (.lst ((xs.map g).map e')) := by
  rw [evE_comp, h1, Option.bind_some, compL_map (g := g) (e' := e') xs fun x hx => ?_]
  · rfl
  · obtain ⟨ρ', h3, h4⟩ := h2 x hx
    simp [h3, h4]
/-- a comprehension with a test -/
theorem ev_compF {α β : Type} {C : Oracle} {ρ : EnvD} {elt c : E} {vs : List Nat} {tg : Tg} {it : It} {xs : List α} {e : α → D} {p : α → Bool} {g : α → β} {e' : β → D} (h1 : xI C ρ it = some (xs.map e)) (h2 : ∀ x ∈ xs, ∃ ρ' d, bindT tg (e x) (wipe ρ vs) = some ρ' ∧ xE C ρ' c = some d ∧ truthD d = some (p x) ∧ (p x = true → xE C ρ' elt = some (e' (g x)))) :
    xE C ρ (.comp elt vs tg it (some c)) = some (.lst (((xs.filter p).map g).map e')) := by
  rw [evE_comp, h1, Option.bind_some, compL_filter (p := p) (g := g) (e' := e') xs fun x hx => ?_]
  · rfl
  · obtain ⟨ρ', d, h3, h4, h5, h6⟩ := h2 x hx
    simp only [h3, Option.bind_some, evC_some, h4, h5]
    by_cases hp : p x = true
    · rw [if_pos hp, if_pos hp, h6 hp]; rfl
    · rw [if_neg hp, if_neg hp]
theorem imms_int (xs : List Int) : D.imms (xs.map .int) = true := imms_map (fun _ => rfl) xs
theorem atI_pos {α : Type} {xs : List α} {i : Int} (h : 0 ≤ i) (h2 : i < xs.length) : atI xs i = xs[i.toNat]? := by
  unfold atI ixN
  rw [if_pos h, if_pos h2]; rfl
theorem getE_range {α : Type} {xs : List α} {i : Nat} (h : i < xs.length) : ∃ x, xs[i]? = some x ∧ x ∈ xs := ⟨xs[i], List.getElem?_eq_getElem h, List.getElem_mem h⟩
theorem cutL_map {α : Type} {f : α → D} {xs : List α} {lo hi : Option Int} : cutL (xs.map f) lo hi = ((xs.drop (HT.sIx xs.length 0 lo)).take (HT.sIx xs.length xs.length hi - HT.sIx xs.length 0 lo)).map f := by
  unfold cutL
  rw [List.length_map, ← List.map_drop, ← List.map_take]
@[simp] theorem sl_lst {xs lo hi} : slD (.lst xs) lo hi = some (.lst (cutL xs lo hi)) := Eq.trans rfl rfl
@[simp] theorem sl_tup {xs lo hi} : slD (.tup xs) lo hi = some (.tup (cutL xs lo hi)) := Eq.trans rfl rfl

/-! ### the helpers of every law -/
def bCell : List S := [.ite (.cmp .Lt (.var 1) (.bf .len [(.var 0)])) [.ret (.ix (.var 0) (.var 1))] [], .ret (.bin .Add (.bin .Mult (.cst (.int 5)) (.var 1)) (.cst (.int 3)))]
def dCell : DefI := ⟨["script", "k"], ["script", "k"], [], bCell⟩
theorem cell_ok {defs : List DefI} {f k : Nat} (h : defs[f]? = some dCell) (hk : 1 ≤ k) (ns : List Int) (i : Int) (h0 : 0 ≤ i) (h1 : i < 1000000) : ∃ c, callD defs k f [.scr ns, .int i] = some (.int c) := by
  obtain ⟨k, rfl⟩ : ∃ m, k = m + 1 := ⟨k - 1, by omega⟩
  rw [call_eq h rfl rfl]
  have hm : mulD (.int 5) (.int i) = some (.int (5 * i)) := mul_l (by omega) (by omega)
  simp [dCell, bCell, start0]
  by_cases hl : i < ns.length
  · obtain ⟨x, hx, _⟩ := getE_range (xs := ns) (i := i.toNat) (by omega)
    simp [hl, atI_pos h0 hl, hx]
  · simp [hl, hm]
/-- the turn of _law_draws -/
def bDL : List S := [.ite (.and (.var 3) (.cmp .Gt (.var 2) (.cst (.int 0)))) [.app 5 (.bin .Mod (.bf .int [(.var 2)]) (.cst (.int 5040))), .asg (.nm 2) (.bin .FloorDiv (.var 2) (.cst (.int 5040)))] [.asg (.nm 7) (.bin .Mod (.bf .int [(.bin .Add (.bin .Add (.bin .Mult (.var 4) (.cst (.int 48271))) (.bin .Mult (.bin .Add (.var 6) (.cst (.int 1))) (.cst (.int 69621)))) (.cst (.int 11)))]) (.cst (.int 2147483647))), .asg (.nm 7) (.bin .Mod (.bf .int [(.bin .Add (.bin .Mult (.var 7) (.var 7)) (.bin .Mult (.cst (.int 40692)) (.bin .Add (.var 6) (.cst (.int 3)))))]) (.cst (.int 2147483399))), .app 5 (.bin .Mod (.bf .int [(.bin .FloorDiv (.var 7) (.cst (.int 64)))]) (.cst (.int 5040)))]]
def bDraws : List S := [.asg (.nm 2) (.bf .abs [(.bf .int [(.var 0)])]), .asg (.nm 3) (.cmp .GtE (.var 2) (.bin .Pow (.cst (.int 10)) (.cst (.int 18)))), .asg (.nm 4) (.var 2), .asg (.nm 5) (.lst []), .for_ (.nm 6) (.rng [(.var 1)]) bDL, .ret (.var 5)]
def dDraws : DefI := ⟨["cell", "count"], ["cell", "count", "rest", "digits", "seed", "draws", "k", "mixed"], [5], bDraws⟩
/-- draws: so many, each from 0 to 5039 -/
def Draws (n : Nat) (ds : List Int) : Prop := ds.length = n ∧ ∀ x ∈ ds, 0 ≤ x ∧ x < 5040
@[simp] theorem eq_bb {a b : Bool} : eqD (.bl a) (.bl b) = some (a == b) := by
  simp [eqD, D.wf, D.py, PyData.plain, PyData.depth, PyData.eqv]
theorem eq_ss {a : Str} : eqD (.str a) (.str a) = some true := by
  simp [eqD, D.wf, D.py, PyData.plain, PyData.depth, PyData.eqv]
@[simp] theorem isin_int {t i} : isinD t (.int i) = some (isinT t (.int i)) := Eq.trans rfl rfl
@[simp] theorem isin_bl {t i} : isinD t (.bl i) = some (isinT t (.bl i)) := Eq.trans rfl rfl
@[simp] theorem isin_str {t i} : isinD t (.str i) = some (isinT t (.str i)) := Eq.trans rfl rfl
@[simp] theorem isin_tup {t i} : isinD t (.tup i) = some (isinT t (.tup i)) := Eq.trans rfl rfl
@[simp] theorem isin_lst {t i} : isinD t (.lst i) = some (isinT t (.lst i)) := Eq.trans rfl rfl
@[simp] theorem isin_non {t} : isinD t .non = some (isinT t .non) := Eq.trans rfl rfl
def bIsInt : List S := [.ret (.and (.isin (.var 0) .int) (.not (.isin (.var 0) .bool)))]
def dIsInt : DefI := ⟨["value"], ["value"], [], bIsInt⟩
def bIs (g f : Nat) : List S := [.ite (.cmp .Is (.var 1) (.cst .non)) [.ret (.cmp .Is (.var 0) (.cst .non))] [], .ite (.isin (.var 1) .bool) [.ret (.and (.isin (.var 0) .bool) (.cmp .Eq (.var 0) (.var 1)))] [], .ite (.isin (.var 1) .int) [.ret (.and (.call g [(.var 0)]) (.cmp .Eq (.var 0) (.var 1)))] [], .ite (.isin (.var 1) .str) [.ret (.and (.isin (.var 0) .str) (.cmp .Eq (.var 0) (.var 1)))] [], .ite (.or (.not (.isin (.var 0) .tuple)) (.cmp .NotEq (.bf .len [(.var 0)]) (.bf .len [(.var 1)]))) [.ret (.cst (.bl false))] [], .ret (.bf .all [(.comp (.call f [(.ix (.var 0) (.var 2)), (.ix (.var 1) (.var 2))]) [2] (.nm 2) (.rng [(.bf .len [(.var 1)])]) none)])]
def dIs (g f : Nat) : DefI := ⟨["value", "due"], ["value", "due", "at"], [], bIs g f⟩
mutual
/-- told things: None, truth values, ints, texts, tuples of these, as deep as n -/
def told : Nat → D → Bool
  | _, .non => true
  | _, .bl _ => true
  | _, .int _ => true
  | _, .str _ => true
  | 0, .tup xs => false
  | n + 1, .tup xs => lineOk xs.length && tolds n xs
  | _, .lst _ => false
  | _, .scr _ => false
  | _, .dic _ _ _ => false
def tolds : Nat → List D → Bool
  | _, [] => true
  | n, x :: xs => told n x && tolds n xs
end
theorem tolds_mem {n : Nat} : ∀ {xs : List D}, tolds n xs = true → ∀ x ∈ xs, told n x = true
  | [], _, _, h => by cases h
  | y :: ys, h, x, hx => by
    simp only [tolds, Bool.and_eq_true] at h
    rcases List.mem_cons.mp hx with rfl | hx
    · exact h.1
    · exact tolds_mem h.2 x hx
theorem isint_ok {defs : List DefI} {g k : Nat} (h : defs[g]? = some dIsInt) (hk : 1 ≤ k) (i : Int) : callD defs k g [.int i] = some (.bl true) := by
  obtain ⟨k, rfl⟩ : ∃ m, k = m + 1 := ⟨k - 1, by omega⟩
  rw [call_eq h rfl rfl]
  simp [dIsInt, bIsInt, start0, isinT]
theorem is_ok {defs : List DefI} {f g : Nat} (h : defs[f]? = some (dIs g f)) (hg : defs[g]? = some dIsInt) : ∀ (n : Nat) (d : D) (k : Nat), told n d = true → n + 2 ≤ k → callD defs k f [d, d] = some (.bl true) := by
  intro n
  induction n with
  | zero =>
    intro d k ht hk
    obtain ⟨k, rfl⟩ : ∃ m, k = m + 1 := ⟨k - 1, by omega⟩
    rw [call_eq h rfl rfl]
    have hi := fun i => isint_ok hg (k := k) (by omega) i
    cases d with
    | tup xs => simp [told] at ht
    | lst xs => simp [told] at ht
    | scr xs => simp [told] at ht
    | dic t ks vs => simp [told] at ht
    | str s => simp [dIs, bIs, start0, isinT, eq_ss]
    | _ => simp [dIs, bIs, start0, isinT, hi]
  | succ n ih =>
    intro d k ht hk
    obtain ⟨k, rfl⟩ : ∃ m, k = m + 1 := ⟨k - 1, by omega⟩
    rw [call_eq h rfl rfl]
    have hi := fun i => isint_ok hg (k := k) (by omega) i
    cases d with
    | lst xs => simp [told] at ht
    | scr xs => simp [told] at ht
    | dic t ks vs => simp [told] at ht
    | str s => simp [dIs, bIs, start0, isinT, eq_ss]
    | tup xs =>
      simp only [told, Bool.and_eq_true] at ht
      have hl : xs.length ≤ 16777216 := by
        have := lineOk_iff.mp ht.1
        rw [sizeLine_eq] at this
        exact this
      have hc : xE (callD defs k) [some (.tup xs), some (.tup xs), none] (.comp (.call f [(.ix (.var 0) (.var 2)), (.ix (.var 1) (.var 2))]) [2] (.nm 2) (.rng [(.bf .len [(.var 1)])]) none) = some (.lst (((iota 0 xs.length).map fun _ => true).map .bl)) := by
        refine ev_comp (e := D.int) (ev_range (ds := [.int xs.length]) (by simp) (by rw [range_1 (by omega) (by omega), intsFrom_iota]; simp)) fun x hx => ⟨[some (.tup xs), some (.tup xs), some (.int x)], rfl, ?_⟩
        have hm := iota_mem.mp hx
        obtain ⟨y, hy, hym⟩ := getE_range (xs := xs) (i := x.toNat) (by omega)
        have ha : atI xs x = some y := by rw [atI_pos hm.1 (by omega)]; exact hy
        simp [ha, ih y k (tolds_mem ht.2 y hym) (by omega)]
      have hall : ((iota 0 xs.length).map fun _ => true).all id = true := by simp
      generalize (iota 0 xs.length).map (fun _ => true) = bs at hc hall
      simp [dIs, bIs, start0, isinT, hc, hall]
    | _ => simp [dIs, bIs, start0, isinT, hi]
end Ev
set_option maxHeartbeats 4000000
namespace Ev
open PySem PySem.Spec PyProof.Rows L2
/-! ### frames that know less -/
structure Le (p q : EnvD) : Prop where
  len : p.length = q.length
  get : ∀ (i : Nat) (d : D), p[i]? = some (some d) → q[i]? = some (some d)
theorem Le.refl (p : EnvD) : Le p p := ⟨rfl, fun _ _ h => h⟩
theorem Le.trans {p q r : EnvD} (a : Le p q) (b : Le q r) : Le p r := ⟨a.len.trans b.len, fun i d h => b.get i d (a.get i d h)⟩
theorem Le.nil : Le [] [] := Le.refl _
theorem Le.no {p q : EnvD} {x : Option D} (h : Le p q) : Le (none :: p) (x :: q) := ⟨by simp [h.len], fun i d e => by
  cases i with
  | zero => simp at e
  | succ i => simp at e ⊢; exact h.get i d e⟩
theorem Le.so {p q : EnvD} {d : D} (h : Le p q) : Le (some d :: p) (some d :: q) := ⟨by simp [h.len], fun i d' e => by
  cases i with
  | zero => simpa using e
  | succ i => simp at e ⊢; exact h.get i d' e⟩
theorem Le.set {p q : EnvD} (h : Le p q) (i : Nat) (x : Option D) : Le (p.set i x) (q.set i x) := ⟨by simp [h.len], fun j d e => by
  by_cases hij : i = j
  · subst hij
    by_cases hl : i < p.length
    · rw [List.getElem?_set_self hl] at e
      rw [List.getElem?_set_self (by rw [← h.len]; exact hl)]
      exact e
    · rw [List.getElem?_eq_none (by simpa using hl)] at e; cases e
  · rw [List.getElem?_set_ne hij] at e ⊢
    exact h.get j d e⟩
theorem Le.setNone {p q : EnvD} (h : Le p q) (i : Nat) : Le (p.set i none) q := ⟨by simp [h.len], fun j d e => by
  by_cases hij : i = j
  · subst hij
    by_cases hl : i < p.length
    · rw [List.getElem?_set_self hl] at e; cases e
    · rw [List.getElem?_eq_none (by simpa using hl)] at e; cases e
  · rw [List.getElem?_set_ne hij] at e
    exact h.get j d e⟩
theorem Le.wipe {p q : EnvD} (h : Le p q) : ∀ vs : List Nat, Le (wipe p vs) (wipe q vs)
  | [] => h
  | v :: vs => by unfold Ev.wipe; exact (Le.wipe h vs).set v none
theorem Le.cons_inv {p q : EnvD} {x y : Option D} (h : Le (x :: p) (y :: q)) : Le p q ∧ ∀ d, x = some d → y = some d := by
  refine ⟨⟨by have := h.len; simpa using this, fun i d e => ?_⟩, fun d e => ?_⟩
  · have := h.get (i + 1) d (by simpa using e)
    simpa using this
  · have := h.get 0 d (by simp [e])
    simpa using this
theorem Le.keep {M : List Nat} : ∀ {p q : EnvD} (h : Le p q) (k : Nat), Le (keepD M k p) (keepD M k q)
  | [], [], _, _ => Le.refl _
  | [], _ :: _, h, _ => by have := h.len; simp at this
  | _ :: _, [], h, _ => by have := h.len; simp at this
  | none :: p, y :: q, h, k => by
    have := Le.keep (M := M) h.cons_inv.1 (k + 1)
    cases y with
    | none => exact Le.no this
    | some d => simp only [keepD]; exact Le.no this
  | some d :: p, y :: q, h, k => by
    have h1 := h.cons_inv
    cases h1.2 d rfl
    have := Le.keep (M := M) h1.1 (k + 1)
    simp only [keepD]
    split
    · exact Le.so this
    · exact Le.no this
theorem Le.keep_le {M : List Nat} : ∀ (p : EnvD) (k : Nat), Le (keepD M k p) p
  | [], _ => Le.refl _
  | none :: p, k => Le.no (Le.keep_le (M := M) p (k + 1))
  | some d :: p, k => by
    simp only [keepD]
    split
    · exact Le.so (Le.keep_le (M := M) p (k + 1))
    · exact Le.no (Le.keep_le (M := M) p (k + 1))
theorem Le.fold {p q : EnvD} (h : Le p q) : ∀ xs : List (Nat × D), Le (xs.foldl (fun r p => r.set p.1 (some p.2)) p) (xs.foldl (fun r p => r.set p.1 (some p.2)) q)
  | [] => h
  | x :: xs => by simp only [List.foldl_cons]; exact Le.fold (h.set _ _) xs
theorem Le.bind {p q p' : EnvD} (h : Le p q) {t : Tg} {d : D} (e : bindT t d p = some p') : ∃ q', bindT t d q = some q' ∧ Le p' q' := by
  cases t with
  | nm i => cases e; exact ⟨_, rfl, h.set i _⟩
  | tup is =>
    cases d with
    | tup ds =>
      simp only [bindT] at e ⊢
      by_cases hl : is.length = ds.length
      · rw [if_pos hl] at e ⊢
        cases e
        exact ⟨_, rfl, h.fold _⟩
      · rw [if_neg hl] at e; cases e
    | _ => cases e
  | pr i is =>
    obtain ⟨d1, ds, rfl, hl, rfl⟩ := bindT_pr_inv e
    exact ⟨_, bindT_pr hl q, by rw [← setAll_fold, ← setAll_fold]; exact (h.set i _).fold _⟩
theorem compL_mono {f g : D → Option (Option D)} (h : ∀ x o, f x = some o → g x = some o) : ∀ (xs : List D) {ys : List D}, compL f xs = some ys → compL g xs = some ys
  | [], ys, e => e
  | x :: xs, ys, e => by
    simp only [compL, Option.bind_eq_some_iff] at e ⊢
    obtain ⟨o, h1, zs, h2, h3⟩ := e
    exact ⟨o, h x o h1, zs, compL_mono h xs h2, h3⟩
theorem compL2_mono {f g : D → Option (List D)} (h : ∀ x o, f x = some o → g x = some o) : ∀ (xs : List D) {ys : List D}, compL2 f xs = some ys → compL2 g xs = some ys
  | [], ys, e => e
  | x :: xs, ys, e => by
    simp only [compL2, Option.bind_eq_some_iff] at e ⊢
    obtain ⟨o, h1, zs, h2, h3⟩ := e
    exact ⟨o, h x o h1, zs, compL2_mono h xs h2, h3⟩
theorem genL_mono {k : Bool} {f g : D → Option (Option Bool)} (h : ∀ x o, f x = some o → g x = some o) : ∀ (xs : List D) {d : D}, genL k f xs = some d → genL k g xs = some d
  | [], d, e => e
  | x :: xs, d, e => by
    simp only [genL, Option.bind_eq_some_iff] at e ⊢
    obtain ⟨o, h1, h2⟩ := e
    refine ⟨o, h x o h1, ?_⟩
    cases o with
    | none => exact genL_mono h xs h2
    | some t =>
      by_cases ht : t = k
      · simp only [if_pos ht] at h2 ⊢; exact genL_mono h xs h2
      · simp only [if_neg ht] at h2 ⊢; exact h2
mutual
theorem evE_mono (C : Oracle) : ∀ (e : E) {p q : EnvD} {d : D}, Le p q → evE C p e = some d → evE C q e = some d
  | .var i, p, q, d, a, h => by
    simp only [evE] at h ⊢
    cases hp : p[i]? with
    | none => rw [hp] at h; cases h
    | some o =>
      rw [hp] at h
      cases o with
      | none => cases h
      | some d' => rw [a.get i d' hp]; exact h
  | .cst _, _, _, _, _, h => by simp only [evE] at h ⊢; exact h
  | .bin op x y, _, _, _, a, h => by
    simp only [evE, Option.bind_eq_some_iff] at h ⊢
    obtain ⟨u, h1, v, h2, h3⟩ := h
    exact ⟨u, evE_mono C x a h1, v, evE_mono C y a h2, h3⟩
  | .neg x, _, _, _, a, h => by
    simp only [evE, Option.bind_eq_some_iff] at h ⊢
    obtain ⟨u, h1, h3⟩ := h
    exact ⟨u, evE_mono C x a h1, h3⟩
  | .rg tp es, _, _, _, a, h => by
    simp only [evE, Option.bind_eq_some_iff] at h ⊢
    obtain ⟨u, h1, h3⟩ := h
    exact ⟨u, evEs_mono C es a h1, h3⟩
  | .rev x, _, _, _, a, h => by
    simp only [evE, Option.bind_eq_some_iff] at h ⊢
    obtain ⟨u, h1, h3⟩ := h
    exact ⟨u, evE_mono C x a h1, h3⟩
  | .not x, _, _, _, a, h => by
    simp only [evE, Option.bind_eq_some_iff] at h ⊢
    obtain ⟨u, h1, h3⟩ := h
    exact ⟨u, evE_mono C x a h1, h3⟩
  | .and x y, _, _, _, a, h => by
    simp only [evE, Option.bind_eq_some_iff] at h ⊢
    obtain ⟨u, h1, k, h2, h3⟩ := h
    refine ⟨u, evE_mono C x a h1, k, h2, ?_⟩
    cases k with
    | true => simp only [if_true] at h3 ⊢; exact evE_mono C y a h3
    | false => exact h3
  | .or x y, _, _, _, a, h => by
    simp only [evE, Option.bind_eq_some_iff] at h ⊢
    obtain ⟨u, h1, k, h2, h3⟩ := h
    refine ⟨u, evE_mono C x a h1, k, h2, ?_⟩
    cases k with
    | true => exact h3
    | false => simp only [Bool.false_eq_true, if_false] at h3 ⊢; exact evE_mono C y a h3
  | .cmp op x y, _, _, _, a, h => by
    simp only [evE, Option.bind_eq_some_iff] at h ⊢
    obtain ⟨u, h1, v, h2, h3⟩ := h
    exact ⟨u, evE_mono C x a h1, v, evE_mono C y a h2, h3⟩
  | .chain op op' x y z, _, _, _, a, h => by
    simp only [evE, Option.bind_eq_some_iff] at h ⊢
    obtain ⟨u, h1, v, h2, k, h3, h4⟩ := h
    refine ⟨u, evE_mono C x a h1, v, evE_mono C y a h2, k, h3, ?_⟩
    cases k with
    | true =>
      simp only [if_true, Option.bind_eq_some_iff] at h4 ⊢
      obtain ⟨w, h5, h6⟩ := h4
      exact ⟨w, evE_mono C z a h5, h6⟩
    | false => exact h4
  | .ite x y z, _, _, _, a, h => by
    simp only [evE, Option.bind_eq_some_iff] at h ⊢
    obtain ⟨u, h1, k, h2, h3⟩ := h
    refine ⟨u, evE_mono C x a h1, k, h2, ?_⟩
    cases k with
    | true => simp only [if_true] at h3 ⊢; exact evE_mono C y a h3
    | false => simp only [Bool.false_eq_true, if_false] at h3 ⊢; exact evE_mono C z a h3
  | .tup es, _, _, _, a, h => by
    simp only [evE, Option.bind_eq_some_iff] at h ⊢
    obtain ⟨u, h1, h3⟩ := h
    exact ⟨u, evEs_mono C es a h1, h3⟩
  | .lst es, _, _, _, a, h => by
    simp only [evE, Option.bind_eq_some_iff] at h ⊢
    obtain ⟨u, h1, h3⟩ := h
    exact ⟨u, evEs_mono C es a h1, h3⟩
  | .ix x y, _, _, _, a, h => by
    simp only [evE, Option.bind_eq_some_iff] at h ⊢
    obtain ⟨u, h1, v, h2, h3⟩ := h
    exact ⟨u, evE_mono C x a h1, v, evE_mono C y a h2, h3⟩
  | .sl x lo hi, _, _, _, a, h => by
    simp only [evE, Option.bind_eq_some_iff] at h ⊢
    obtain ⟨u, h1, l, h2, r, h3, h4⟩ := h
    exact ⟨u, evE_mono C x a h1, l, evO_mono C lo a h2, r, evO_mono C hi a h3, h4⟩
  | .bf _ es, _, _, _, a, h => by
    simp only [evE, Option.bind_eq_some_iff] at h ⊢
    obtain ⟨u, h1, h3⟩ := h
    exact ⟨u, evEs_mono C es a h1, h3⟩
  | .isin x _, _, _, _, a, h => by
    simp only [evE, Option.bind_eq_some_iff] at h ⊢
    obtain ⟨u, h1, h3⟩ := h
    exact ⟨u, evE_mono C x a h1, h3⟩
  | .dnew, _, _, _, a, h => by
    simp only [evE] at h ⊢
    exact h
  | .dsing x y, _, _, _, a, h => by
    simp only [evE, Option.bind_eq_some_iff] at h ⊢
    obtain ⟨u, h1, v, h2, h3⟩ := h
    exact ⟨u, evE_mono C x a h1, v, evE_mono C y a h2, h3⟩
  | .dget x y, _, _, _, a, h => by
    simp only [evE, Option.bind_eq_some_iff] at h ⊢
    obtain ⟨u, h1, v, h2, h3⟩ := h
    exact ⟨u, evE_mono C x a h1, v, evE_mono C y a h2, h3⟩
  | .dgetx x y z, _, _, _, a, h => by
    simp only [evE, Option.bind_eq_some_iff] at h ⊢
    obtain ⟨u, h1, v, h2, w, h4, h3⟩ := h
    exact ⟨u, evE_mono C x a h1, v, evE_mono C y a h2, w, evE_mono C z a h4, h3⟩
  | .sset _ x, _, _, _, a, h => by
    simp only [evE, Option.bind_eq_some_iff] at h ⊢
    obtain ⟨u, h1, h3⟩ := h
    exact ⟨u, evE_mono C x a h1, h3⟩
  | .op _ es, _, _, _, a, h => by
    simp only [evE, Option.bind_eq_some_iff] at h ⊢
    obtain ⟨u, h1, h3⟩ := h
    exact ⟨u, evEs_mono C es a h1, h3⟩
  | .call _ es, _, _, _, a, h => by
    simp only [evE, Option.bind_eq_some_iff] at h ⊢
    obtain ⟨u, h1, h3⟩ := h
    exact ⟨u, evEs_mono C es a h1, h3⟩
  | .comp elt vs tg it c, p, q, d, a, h => by
    simp only [evE, Option.bind_eq_some_iff] at h ⊢
    obtain ⟨xs, h1, ys, h2, h3⟩ := h
    refine ⟨xs, evI_mono C it a h1, ys, compL_mono (fun x o hx => ?_) xs h2, h3⟩
    simp only [Option.bind_eq_some_iff] at hx ⊢
    obtain ⟨p', h4, k, h5, h6⟩ := hx
    obtain ⟨q', h7, b⟩ := (a.wipe vs).bind h4
    refine ⟨q', h7, k, evC_mono C c b h5, ?_⟩
    cases k with
    | true =>
      simp only [if_true, Option.bind_eq_some_iff] at h6 ⊢
      obtain ⟨w, h8, h9⟩ := h6
      exact ⟨w, evE_mono C elt b h8, h9⟩
    | false => exact h6
  | .chain3 op op' op2 x y z w, _, _, _, a, h => by
    simp only [evE, Option.bind_eq_some_iff] at h ⊢
    obtain ⟨u, h1, v, h2, k, h3, h4⟩ := h
    refine ⟨u, evE_mono C x a h1, v, evE_mono C y a h2, k, h3, ?_⟩
    cases k with
    | true =>
      simp only [if_true, Option.bind_eq_some_iff] at h4 ⊢
      obtain ⟨u2, h5, k', h6, h7⟩ := h4
      refine ⟨u2, evE_mono C z a h5, k', h6, ?_⟩
      cases k' with
      | true =>
        simp only [if_true, Option.bind_eq_some_iff] at h7 ⊢
        obtain ⟨u3, h8, h9⟩ := h7
        exact ⟨u3, evE_mono C w a h8, h9⟩
      | false => exact h7
    | false => exact h4
  | .comp2 elt vs vs1 tg it c tg1 it1 c1, p, q, d, a, h => by
    simp only [evE, Option.bind_eq_some_iff] at h ⊢
    obtain ⟨xs, h1, ys, h2, h3⟩ := h
    refine ⟨xs, evI_mono C it a h1, ys, compL2_mono (fun x o hx => ?_) xs h2, h3⟩
    simp only [Option.bind_eq_some_iff] at hx ⊢
    obtain ⟨p', h4, k, h5, h6⟩ := hx
    obtain ⟨q', h7, b⟩ := (a.wipe vs).bind h4
    refine ⟨q', h7, k, evC_mono C c b h5, ?_⟩
    cases k with
    | true =>
      simp only [if_true, Option.bind_eq_some_iff] at h6 ⊢
      obtain ⟨zs, h8, h9⟩ := h6
      refine ⟨zs, evI_mono C it1 b h8, compL_mono (fun z o hz => ?_) zs h9⟩
      simp only [Option.bind_eq_some_iff] at hz ⊢
      obtain ⟨p2, g4, k1, g5, g6⟩ := hz
      obtain ⟨q2, g7, b2⟩ := (b.wipe vs1).bind g4
      refine ⟨q2, g7, k1, evC_mono C c1 b2 g5, ?_⟩
      cases k1 with
      | true =>
        simp only [if_true, Option.bind_eq_some_iff] at g6 ⊢
        obtain ⟨w, g8, g9⟩ := g6
        exact ⟨w, evE_mono C elt b2 g8, g9⟩
      | false => exact g6
    | false => exact h6
  | .gen k elt vs tg it c, p, q, d, a, h => by
    simp only [evE, Option.bind_eq_some_iff] at h ⊢
    obtain ⟨xs, h1, h2⟩ := h
    refine ⟨xs, evI_mono C it a h1, genL_mono (fun x o hx => ?_) xs h2⟩
    simp only [Option.bind_eq_some_iff] at hx ⊢
    obtain ⟨p', h4, k, h5, h6⟩ := hx
    obtain ⟨q', h7, b⟩ := (a.wipe vs).bind h4
    refine ⟨q', h7, k, evC_mono C c b h5, ?_⟩
    cases k with
    | true =>
      simp only [if_true, Option.bind_eq_some_iff] at h6 ⊢
      obtain ⟨w, h8, h9⟩ := h6
      exact ⟨w, evE_mono C elt b h8, h9⟩
    | false => exact h6
theorem evI_mono (C : Oracle) : ∀ (it : It) {p q : EnvD} {xs : List D}, Le p q → evI C p it = some xs → evI C q it = some xs
  | .seq x, _, _, _, a, h => by
    simp only [evI, Option.bind_eq_some_iff] at h ⊢
    obtain ⟨u, h1, h3⟩ := h
    exact ⟨u, evE_mono C x a h1, h3⟩
  | .rng es, _, _, _, a, h => by
    simp only [evI, Option.bind_eq_some_iff] at h ⊢
    obtain ⟨u, h1, h3⟩ := h
    exact ⟨u, evEs_mono C es a h1, h3⟩
  | .enm x, _, _, _, a, h => by
    simp only [evI, Option.bind_eq_some_iff] at h ⊢
    obtain ⟨u, h1, h3⟩ := h
    exact ⟨u, evE_mono C x a h1, h3⟩
  | .zip x y, _, _, _, a, h => by
    simp only [evI, Option.bind_eq_some_iff] at h ⊢
    obtain ⟨u, h1, v, h2, h3⟩ := h
    exact ⟨u, evE_mono C x a h1, v, evE_mono C y a h2, h3⟩
  | .rv x, _, _, _, a, h => by
    simp only [evI, Option.bind_eq_some_iff] at h ⊢
    obtain ⟨u, h1, h3⟩ := h
    exact ⟨u, evE_mono C x a h1, h3⟩
  | .rng3 x y z, _, _, _, a, h => by
    simp only [evI, Option.bind_eq_some_iff] at h ⊢
    obtain ⟨u, h1, v, h2, w, h4, h3⟩ := h
    exact ⟨u, evE_mono C x a h1, v, evE_mono C y a h2, w, evE_mono C z a h4, h3⟩
theorem evC_mono (C : Oracle) : ∀ (o : Option E) {p q : EnvD} {k : Bool}, Le p q → evC C p o = some k → evC C q o = some k
  | none, _, _, _, _, h => by simp only [evC] at h ⊢; exact h
  | some e, _, _, _, a, h => by
    simp only [evC, Option.bind_eq_some_iff] at h ⊢
    obtain ⟨u, h1, h3⟩ := h
    exact ⟨u, evE_mono C e a h1, h3⟩
theorem evO_mono (C : Oracle) : ∀ (o : Option E) {p q : EnvD} {i : Option Int}, Le p q → evO C p o = some i → evO C q o = some i
  | none, _, _, _, _, h => by simp only [evO] at h ⊢; exact h
  | some e, _, _, _, a, h => by
    simp only [evO, Option.bind_eq_some_iff] at h ⊢
    obtain ⟨u, h1, h3⟩ := h
    exact ⟨u, evE_mono C e a h1, h3⟩
theorem evEs_mono (C : Oracle) : ∀ (es : List E) {p q : EnvD} {ds : List D}, Le p q → evEs C p es = some ds → evEs C q es = some ds
  | [], _, _, _, _, h => by simp only [evEs] at h ⊢; exact h
  | e :: es, _, _, _, a, h => by
    simp only [evEs, Option.bind_eq_some_iff] at h ⊢
    obtain ⟨u, h1, v, h2, h3⟩ := h
    exact ⟨u, evE_mono C e a h1, v, evEs_mono C es a h2, h3⟩
end
theorem partOK_mono {C : Oracle} {M : List Nat} {p q : EnvD} {t : Tg} {b : List S} {e : E} (a : Le p q) (h : partOK C M p t b e = true) : partOK C M q t b e = true := by
  unfold partOK at h ⊢
  cases hp : evE C p e with
  | none => rw [hp] at h; cases h
  | some d => rw [evE_mono C e a hp]; rw [hp] at h; exact h
theorem forOK_mono {C : Oracle} {M : List Nat} {p q : EnvD} {t : Tg} {it : It} {b : List S} {xs : List D} (a : Le p q) (h : forOK C M p t it b xs = true) : forOK C M q t it b xs = true := by
  unfold forOK at h ⊢
  simp only [Bool.or_eq_true, Bool.and_eq_true, List.all_eq_true] at h ⊢
  rcases h with h | ⟨h | h, h2⟩
  · exact .inl h
  · exact .inr ⟨.inl h, h2⟩
  · exact .inr ⟨.inr fun e he => partOK_mono a (h e he), h2⟩
/-- a step from a frame that knows more -/
def MonoS (f : EnvD → Option (Fl × EnvD)) : Prop := ∀ p q fl p', Le p q → f p = some (fl, p') → ∃ q', f q = some (fl, q') ∧ Le p' q'
theorem forD_mono {t : Tg} {body : EnvD → Option (Fl × EnvD)} (hb : MonoS body) : ∀ xs : List D, MonoS (forD t body xs)
  | [], p, q, fl, p', a, h => by cases h; exact ⟨q, rfl, a⟩
  | x :: xs, p, q, fl, p', a, h => by
    simp only [forD, Option.bind_eq_some_iff] at h ⊢
    obtain ⟨p1, h1, ⟨f2, p2⟩, h2, h3⟩ := h
    obtain ⟨q1, g1, a1⟩ := a.bind h1
    obtain ⟨q2, g2, a2⟩ := hb p1 q1 f2 p2 a1 h2
    cases f2 with
    | nx => obtain ⟨q', g3, a3⟩ := forD_mono hb xs p2 q2 fl p' a2 h3; exact ⟨q', ⟨q1, g1, (.nx, q2), g2, g3⟩, a3⟩
    | ct => obtain ⟨q', g3, a3⟩ := forD_mono hb xs p2 q2 fl p' a2 h3; exact ⟨q', ⟨q1, g1, (.ct, q2), g2, g3⟩, a3⟩
    | bk => cases h3; exact ⟨q2, ⟨q1, g1, (.bk, q2), g2, rfl⟩, a2⟩
    | rt d => cases h3; exact ⟨q2, ⟨q1, g1, (.rt d, q2), g2, rfl⟩, a2⟩
theorem whileD_mono {c : EnvD → Option Bool} {body : EnvD → Option (Fl × EnvD)} (hc : ∀ p q k, Le p q → c p = some k → c q = some k) (hb : MonoS body) : ∀ n : Nat, MonoS (whileD c body n)
  | 0, p, q, fl, p', a, h => by cases h
  | n + 1, p, q, fl, p', a, h => by
    simp only [whileD, Option.bind_eq_some_iff] at h ⊢
    obtain ⟨k, h1, h2⟩ := h
    have g1 := hc p q k a h1
    cases k with
    | false => cases h2; exact ⟨q, ⟨false, g1, rfl⟩, a⟩
    | true =>
      simp only [if_true, Option.bind_eq_some_iff] at h2
      obtain ⟨⟨f2, p2⟩, h2, h3⟩ := h2
      obtain ⟨q2, g2, a2⟩ := hb p q f2 p2 a h2
      cases f2 with
      | nx => obtain ⟨q', g3, a3⟩ := whileD_mono hc hb n p2 q2 fl p' a2 h3; exact ⟨q', ⟨true, g1, by simp only [if_true, g2, Option.bind_some]; exact g3⟩, a3⟩
      | ct => obtain ⟨q', g3, a3⟩ := whileD_mono hc hb n p2 q2 fl p' a2 h3; exact ⟨q', ⟨true, g1, by simp only [if_true, g2, Option.bind_some]; exact g3⟩, a3⟩
      | bk => cases h3; exact ⟨q2, ⟨true, g1, by simp only [if_true, g2, Option.bind_some]⟩, a2⟩
      | rt d => cases h3; exact ⟨q2, ⟨true, g1, by simp only [if_true, g2, Option.bind_some]⟩, a2⟩
theorem Le.slot {p q : EnvD} (a : Le p q) {i : Nat} {l : D} (h : p[i]?.bind id = some l) : q[i]?.bind id = some l := by
  cases hp : p[i]? with
  | none => rw [hp] at h; cases h
  | some o =>
    rw [hp] at h
    cases o with
    | none => cases h
    | some d => rw [a.get i d hp]; exact h
mutual
theorem evS_mono (C : Oracle) (M : List Nat) : ∀ s : S, MonoS fun ρ => evS C M ρ s
  | .asg t e, p, q, fl, p', a, h => by
    simp only [evS, Option.bind_eq_some_iff] at h ⊢
    obtain ⟨d, h1, h2⟩ := h
    by_cases hk : bindOK M t e d = true
    · rw [if_pos hk] at h2
      simp only [Option.bind_eq_some_iff] at h2
      obtain ⟨p1, h3, h4⟩ := h2
      cases h4
      obtain ⟨q1, g1, a1⟩ := a.bind h3
      exact ⟨q1, ⟨d, evE_mono C e a h1, by rw [if_pos hk, g1]; rfl⟩, a1⟩
    · rw [if_neg hk] at h2
      cases t with
      | tup is => cases h2
      | pr j is => cases h2
      | nm i =>
        cases e with
        | var j =>
          simp only [mvD] at h2
          obtain ⟨hc, h2⟩ := ite_some' h2
          cases h2
          exact ⟨_, ⟨d, evE_mono C _ a h1, by rw [if_neg hk]; simp only [mvD]; rw [if_pos hc]⟩, (a.set i _).set j none⟩
        | _ => cases h2
  | .sub i k e, p, q, fl, p', a, h => by
    simp only [evS, Option.bind_eq_some_iff] at h ⊢
    obtain ⟨d, h1, kd, h2, l, h4, h5⟩ := h
    obtain ⟨⟨hm, hf⟩, ⟨ds, j, n, rfl, g1, g2, e⟩ | ⟨ks, vs, key, rfl, g1, g2, e⟩⟩ := stoD_inv h5
    · cases e
      refine ⟨q.set i _, ⟨d, evE_mono C e a h1, kd, evE_mono C k a h2, .lst ds, Option.bind_eq_some_iff.mp (a.slot (Option.bind_eq_some_iff.mpr h4)), ?_⟩, a.set i _⟩
      simp only [stoD, g1, g2, Option.bind_some]
      rw [if_pos (by simp [hm, hf])]
    · cases e
      refine ⟨q.set i _, ⟨d, evE_mono C e a h1, kd, evE_mono C k a h2, .dic false ks vs, Option.bind_eq_some_iff.mp (a.slot (Option.bind_eq_some_iff.mpr h4)), ?_⟩, a.set i _⟩
      simp only [stoD, g1, Option.bind_some]
      rw [if_pos (by simp [hm, hf, g2])]
  | .app i e, p, q, fl, p', a, h => by
    simp only [evS, Option.bind_eq_some_iff] at h ⊢
    obtain ⟨d, h1, l, h4, h5⟩ := h
    cases l with
    | lst ds =>
      simp only at h5
      split at h5
      · rename_i hc
        cases h5
        exact ⟨q.set i _, ⟨d, evE_mono C e a h1, .lst ds, Option.bind_eq_some_iff.mp (a.slot (Option.bind_eq_some_iff.mpr h4)), by simp only []; rw [if_pos hc]⟩, a.set i _⟩
      · cases h5
    | _ => cases h5
  | .ext i e, p, q, fl, p', a, h => by
    simp only [evS, Option.bind_eq_some_iff] at h ⊢
    obtain ⟨d, h1, l, h4, h5⟩ := h
    cases l with
    | lst ds =>
      cases d with
      | lst es =>
        simp only [extD] at h5
        split at h5
        · rename_i hc
          cases h5
          exact ⟨q.set i _, ⟨.lst es, evE_mono C e a h1, .lst ds, Option.bind_eq_some_iff.mp (a.slot (Option.bind_eq_some_iff.mpr h4)), by simp only [extD]; rw [if_pos hc]⟩, a.set i _⟩
        · cases h5
      | _ => cases h5
    | _ => cases h5
  | .aug i o e, p, q, fl, p', a, h => by
    simp only [evS] at h ⊢
    obtain ⟨l, h4, h⟩ := Option.bind_eq_some_iff.mp h
    obtain ⟨d, h1, h5⟩ := Option.bind_eq_some_iff.mp h
    rw [a.slot h4, Option.bind_some, evE_mono C e a h1, Option.bind_some]
    obtain ⟨x, y, c, rfl, rfl, ec, er⟩ := augD_inv h5
    cases er
    refine ⟨q.set i _, ?_, a.set i _⟩
    unfold augD at h5 ⊢
    cases o with
    | Add => cases ec; rfl
    | Sub => cases ec; rfl
    | Mult =>
      obtain ⟨hs, e2⟩ := ite_some ec
      subst e2
      exact if_pos hs
    | _ => cases ec
  | .pop t i k, p, q, fl, p', a, h => by
    simp only [evS] at h ⊢
    obtain ⟨l, h4, h⟩ := Option.bind_eq_some_iff.mp h
    obtain ⟨kk, h1, h5⟩ := Option.bind_eq_some_iff.mp h
    rw [a.slot h4, Option.bind_some, evO_mono C k a h1, Option.bind_some]
    unfold popD at h5 ⊢
    split at h5
    · obtain ⟨hc, h5⟩ := ite_some' h5
      obtain ⟨n, h6, h5⟩ := Option.bind_eq_some_iff.mp h5
      obtain ⟨d, h7, h5⟩ := Option.bind_eq_some_iff.mp h5
      obtain ⟨h8, h5⟩ := ite_some h5
      cases h5
      rw [if_pos hc, h6, Option.bind_some, h7, Option.bind_some, if_pos h8]
      refine ⟨_, rfl, ?_⟩
      cases t with
      | none => exact a.set i _
      | some t => exact (a.set i _).set t _
    · cases h5
  | .rem i e, p, q, fl, p', a, h => by
    simp only [evS] at h ⊢
    obtain ⟨d, h1, h⟩ := Option.bind_eq_some_iff.mp h
    obtain ⟨l, h4, h5⟩ := Option.bind_eq_some_iff.mp h
    rw [a.slot h4, evE_mono C e a h1]
    simp only [Option.bind_some]
    unfold remD at h5 ⊢
    split at h5
    · obtain ⟨hc, h5⟩ := ite_some' h5
      obtain ⟨n, h6, h5⟩ := Option.bind_eq_some_iff.mp h5
      cases h5
      rw [if_pos hc, h6, Option.bind_some]
      exact ⟨_, rfl, a.set i _⟩
    · cases h5
  | .ret e, p, q, fl, p', a, h => by
    simp only [evS, Option.bind_eq_some_iff] at h ⊢
    obtain ⟨d, h1, h2⟩ := h
    rcases ite_or h2 with ⟨hc, h2⟩ | ⟨hc, h2⟩
    · cases h2
      exact ⟨q, ⟨d, evE_mono C e a h1, by rw [if_pos hc]⟩, a⟩
    · simp only [Option.bind_eq_some_iff] at h2
      obtain ⟨d', h5, h6⟩ := h2
      cases h6
      exact ⟨q, ⟨d, evE_mono C e a h1, by rw [if_neg hc, evE_mono C e (Le.keep a 0) h5]; rfl⟩, a⟩
  | .retN, p, q, fl, p', a, h => by
    simp only [evS] at h ⊢
    cases h
    exact ⟨q, rfl, a⟩
  | .ite c x y, p, q, fl, p', a, h => by
    simp only [evS, Option.bind_eq_some_iff] at h ⊢
    obtain ⟨d, h1, k, h2, h3⟩ := h
    cases k with
    | true =>
      simp only [if_true] at h3
      obtain ⟨q', g, a'⟩ := evSs_mono C M x p q fl p' a h3
      exact ⟨q', ⟨d, evE_mono C c a h1, true, h2, by simp only [if_true]; exact g⟩, a'⟩
    | false =>
      simp only [Bool.false_eq_true, if_false] at h3
      obtain ⟨q', g, a'⟩ := evSs_mono C M y p q fl p' a h3
      exact ⟨q', ⟨d, evE_mono C c a h1, false, h2, by simp only [Bool.false_eq_true, if_false]; exact g⟩, a'⟩
  | .for_ t it b, p, q, fl, p', a, h => by
    simp only [evS, Option.bind_eq_some_iff] at h ⊢
    obtain ⟨xs, h1, h2⟩ := h
    obtain ⟨hc, h3⟩ := ite_some' h2
    obtain ⟨q', g, a'⟩ := forD_mono (t := t) (evSs_mono C M b) xs p q fl p' a h3
    exact ⟨q', ⟨xs, evI_mono C it a h1, by rw [if_pos (forOK_mono a hc)]; exact g⟩, a'⟩
  | .while_ c b, p, q, fl, p', a, h => by
    simp only [evS] at h ⊢
    refine whileD_mono (fun p q k a h => ?_) (evSs_mono C M b) fuel p q fl p' a h
    simp only [Option.bind_eq_some_iff] at h ⊢
    obtain ⟨d, h1, h2⟩ := h
    exact ⟨d, evE_mono C c a h1, h2⟩
  | .brk, p, q, fl, p', a, h => by simp only [evS] at h ⊢; cases h; exact ⟨q, rfl, a⟩
  | .cnt, p, q, fl, p', a, h => by simp only [evS] at h ⊢; cases h; exact ⟨q, rfl, a⟩
  | .pass, p, q, fl, p', a, h => by simp only [evS] at h ⊢; cases h; exact ⟨q, rfl, a⟩
theorem evSs_mono (C : Oracle) (M : List Nat) : ∀ ss : List S, MonoS fun ρ => evSs C M ρ ss
  | [], p, q, fl, p', a, h => by simp only [evSs] at h ⊢; cases h; exact ⟨q, rfl, a⟩
  | s :: r, p, q, fl, p', a, h => by
    simp only [evSs, Option.bind_eq_some_iff] at h ⊢
    obtain ⟨⟨f1, p1⟩, h1, h2⟩ := h
    obtain ⟨q1, g1, a1⟩ := evS_mono C M s p q f1 p1 a h1
    cases f1 with
    | nx => obtain ⟨q', g, a'⟩ := evSs_mono C M r p1 q1 fl p' a1 h2; exact ⟨q', ⟨(.nx, q1), g1, g⟩, a'⟩
    | ct => cases h2; exact ⟨q1, ⟨(.ct, q1), g1, rfl⟩, a1⟩
    | bk => cases h2; exact ⟨q1, ⟨(.bk, q1), g1, rfl⟩, a1⟩
    | rt d => cases h2; exact ⟨q1, ⟨(.rt d, q1), g1, rfl⟩, a1⟩
end
end Ev
set_option maxHeartbeats 4000000
namespace Ev
open PySem PySem.Spec PyProof.Rows L2
/-! ### encoders -/
def eI : Int → D := .int
def eB : Bool → D := .bl
def eS : Str → D := .str
def eN : Unit → D := fun _ => .non
def eD : D → D := fun d => d
section
variable {α β γ δ ε ζ η θ : Type}
def eT2 (a : α → D) (b : β → D) : α × β → D := fun p => .tup [a p.1, b p.2]
def eT3 (a : α → D) (b : β → D) (c : γ → D) : α × β × γ → D := fun p => .tup [a p.1, b p.2.1, c p.2.2]
def eT4 (a : α → D) (b : β → D) (c : γ → D) (d : δ → D) : α × β × γ × δ → D := fun p => .tup [a p.1, b p.2.1, c p.2.2.1, d p.2.2.2]
def eT5 (a : α → D) (b : β → D) (c : γ → D) (d : δ → D) (e : ε → D) : α × β × γ × δ × ε → D := fun p => .tup [a p.1, b p.2.1, c p.2.2.1, d p.2.2.2.1, e p.2.2.2.2]
def eT6 (a : α → D) (b : β → D) (c : γ → D) (d : δ → D) (e : ε → D) (f : ζ → D) : α × β × γ × δ × ε × ζ → D := fun p => .tup [a p.1, b p.2.1, c p.2.2.1, d p.2.2.2.1, e p.2.2.2.2.1, f p.2.2.2.2.2]
def eL (e : α → D) : List α → D := fun xs => .lst (xs.map e)
def eU (e : α → D) : List α → D := fun xs => .tup (xs.map e)
def eO (e : α → D) : Option α → D
  | none => .non
  | some x => e x
/-! what is known of an encoder -/
class Im (e : α → D) : Prop where im : ∀ x, (e x).imm = true
class Im1 (e : α → D) : Prop where im1 : ∀ x, (e x).imm1 = true
class NN (e : α → D) : Prop where nn : ∀ x, isNon (e x) = false
class Wf (e : α → D) (n : outParam Nat) : Prop where
  pl : ∀ x, (e x).py.plain = true
  dp : ∀ x, (e x).py.depth ≤ n
/-- equality -/
class Eqv (e : α → D) [DecidableEq α] : Prop where eqv : ∀ x y, PyData.eqv (e x).py (e y).py = decide (x = y)
/-- less -/
class Ord (e : α → D) (lt : outParam (α → α → Bool)) : Prop where
  lt : ∀ x y, PySem.W.dataLt (e x).py (e y).py = lt x y
  al : ∀ x y, PySem.W.alike (e x).py (e y).py = true
instance : Im eI := ⟨fun _ => rfl⟩
instance : Im eB := ⟨fun _ => rfl⟩
instance : Im eS := ⟨fun _ => rfl⟩
instance : Im eN := ⟨fun _ => rfl⟩
instance {a : α → D} {b : β → D} [Im a] [Im b] : Im (eT2 a b) := ⟨fun x => by simp [eT2, Im.im]⟩
instance {a : α → D} {b : β → D} {c : γ → D} [Im a] [Im b] [Im c] : Im (eT3 a b c) := ⟨fun x => by simp [eT3, Im.im]⟩
instance {a : α → D} {b : β → D} {c : γ → D} {d : δ → D} [Im a] [Im b] [Im c] [Im d] : Im (eT4 a b c d) := ⟨fun x => by simp [eT4, Im.im]⟩
instance {a : α → D} {b : β → D} {c : γ → D} {d : δ → D} {e : ε → D} [Im a] [Im b] [Im c] [Im d] [Im e] : Im (eT5 a b c d e) := ⟨fun x => by simp [eT5, Im.im]⟩
instance {a : α → D} {b : β → D} {c : γ → D} {d : δ → D} {e : ε → D} {f : ζ → D} [Im a] [Im b] [Im c] [Im d] [Im e] [Im f] : Im (eT6 a b c d e f) := ⟨fun x => by simp [eT6, Im.im]⟩
instance {e : α → D} [Im e] : Im (eU e) := ⟨fun xs => by simp [eU, imms_map Im.im]⟩
instance {e : α → D} [Im e] : Im (eO e) := ⟨fun o => by cases o with | none => rfl | some x => exact Im.im x⟩
theorem imm1_of_imm {d : D} (h : d.imm = true) : d.imm1 = true := by cases d <;> simp_all [D.imm1, D.imm]
instance (priority := low) {e : α → D} [Im e] : Im1 e := ⟨fun x => imm1_of_imm (Im.im x)⟩
instance {e : α → D} [Im1 e] : Im1 (eO e) := ⟨fun o => match o with
  | none => rfl
  | some x => Im1.im1 (e := e) x⟩
instance {e : α → D} [Im e] : Im1 (eL e) := ⟨fun xs => by simp [eL, imms_map Im.im]⟩
instance : NN eI := ⟨fun _ => rfl⟩
instance : NN eB := ⟨fun _ => rfl⟩
instance : NN eS := ⟨fun _ => rfl⟩
instance {a : α → D} {b : β → D} : NN (eT2 a b) := ⟨fun _ => rfl⟩
instance {a : α → D} {b : β → D} {c : γ → D} : NN (eT3 a b c) := ⟨fun _ => rfl⟩
instance {a : α → D} {b : β → D} {c : γ → D} {d : δ → D} : NN (eT4 a b c d) := ⟨fun _ => rfl⟩
instance {a : α → D} {b : β → D} {c : γ → D} {d : δ → D} {e : ε → D} : NN (eT5 a b c d e) := ⟨fun _ => rfl⟩
instance {a : α → D} {b : β → D} {c : γ → D} {d : δ → D} {e : ε → D} {f : ζ → D} : NN (eT6 a b c d e f) := ⟨fun _ => rfl⟩
instance {e : α → D} : NN (eL e) := ⟨fun _ => rfl⟩
instance {e : α → D} : NN (eU e) := ⟨fun _ => rfl⟩
@[simp] theorem depth_non : (PyData.none).depth = 0 := Eq.trans rfl rfl
@[simp] theorem depth_bool {b} : (PyData.bool b).depth = 0 := Eq.trans rfl rfl
@[simp] theorem depth_str {b} : (PyData.str b).depth = 0 := Eq.trans rfl rfl
@[simp] theorem py_tup {ds} : (D.tup ds).py = .tuple (D.pys ds) := by rw [D.py]
@[simp] theorem py_lst {ds} : (D.lst ds).py = .list (D.pys ds) := by rw [D.py]
@[simp] theorem pys_nil : D.pys [] = [] := by rw [D.pys]
@[simp] theorem pys_cons {x xs} : D.pys (x :: xs) = x.py :: D.pys xs := by rw [D.pys]
instance : Wf eI 0 := ⟨fun _ => rfl, fun _ => Nat.le_refl _⟩
instance : Wf eB 0 := ⟨fun _ => rfl, fun _ => Nat.le_refl _⟩
instance : Wf eS 0 := ⟨fun _ => rfl, fun _ => Nat.le_refl _⟩
instance : Wf eN 0 := ⟨fun _ => rfl, fun _ => Nat.le_refl _⟩
theorem plain_tup {ds} : (D.tup ds).py.plain = PyData.plainAll (D.pys ds) := by rw [py_tup, PyData.plain]
theorem plain_lst {ds} : (D.lst ds).py.plain = PyData.plainAll (D.pys ds) := by rw [py_lst, PyData.plain]
theorem depth_tup {ds} : (D.tup ds).py.depth = PyData.depthAll (D.pys ds) + 1 := by rw [py_tup, PyData.depth]
theorem depth_lst {ds} : (D.lst ds).py.depth = PyData.depthAll (D.pys ds) + 1 := by rw [py_lst, PyData.depth]
instance {a : α → D} {b : β → D} {m n : Nat} [Wf a m] [Wf b n] : Wf (eT2 a b) (max m n + 1) := ⟨fun x => by
  simp [eT2, PyData.plain, PyData.plainAll, Wf.pl], fun x => by
  have h1 := Wf.dp (e := a) x.1
  have h2 := Wf.dp (e := b) x.2
  simp [eT2, PyData.depth, PyData.depthAll]; omega⟩
instance {a : α → D} {b : β → D} {c : γ → D} {m n o : Nat} [Wf a m] [Wf b n] [Wf c o] : Wf (eT3 a b c) (max m (max n o) + 1) := ⟨fun x => by
  simp [eT3, PyData.plain, PyData.plainAll, Wf.pl], fun x => by
  have h1 := Wf.dp (e := a) x.1
  have h2 := Wf.dp (e := b) x.2.1
  have h3 := Wf.dp (e := c) x.2.2
  simp [eT3, PyData.depth, PyData.depthAll]; omega⟩
instance {a : α → D} {b : β → D} {c : γ → D} {d : δ → D} {m n o p : Nat} [Wf a m] [Wf b n] [Wf c o] [Wf d p] : Wf (eT4 a b c d) (max m (max n (max o p)) + 1) := ⟨fun x => by
  simp [eT4, PyData.plain, PyData.plainAll, Wf.pl], fun x => by
  have h1 := Wf.dp (e := a) x.1
  have h2 := Wf.dp (e := b) x.2.1
  have h3 := Wf.dp (e := c) x.2.2.1
  have h4 := Wf.dp (e := d) x.2.2.2
  simp [eT4, PyData.depth, PyData.depthAll]; omega⟩
theorem plains_map {e : α → D} (h : ∀ x, (e x).py.plain = true) : ∀ xs : List α, PyData.plainAll (D.pys (xs.map e)) = true
  | [] => by simp [PyData.plainAll]
  | x :: xs => by simp [PyData.plainAll, h x, plains_map h xs]
theorem depths_map {e : α → D} {n : Nat} (h : ∀ x, (e x).py.depth ≤ n) : ∀ xs : List α, PyData.depthAll (D.pys (xs.map e)) ≤ n
  | [] => by simp [PyData.depthAll]
  | x :: xs => by
    have h1 := h x
    have h2 := depths_map h xs
    simp [PyData.depthAll]; omega
instance {e : α → D} {n : Nat} [Wf e n] : Wf (eU e) (n + 1) := ⟨fun xs => by rw [eU, plain_tup]; exact plains_map Wf.pl xs, fun xs => by rw [eU, depth_tup]; exact Nat.succ_le_succ (depths_map Wf.dp xs)⟩
instance {e : α → D} {n : Nat} [Wf e n] : Wf (eL e) (n + 1) := ⟨fun xs => by rw [eL, plain_lst]; exact plains_map Wf.pl xs, fun xs => by rw [eL, depth_lst]; exact Nat.succ_le_succ (depths_map Wf.dp xs)⟩
instance {e : α → D} {n : Nat} [Wf e n] : Wf (eO e) n := ⟨fun o => by cases o with | none => rfl | some x => exact Wf.pl x, fun o => by cases o with | none => exact Nat.zero_le _ | some x => exact Wf.dp x⟩
theorem Wf.wf {e : α → D} {n : Nat} [Wf e n] (h : n ≤ 60) (x : α) : (e x).wf = true := by
  have := Wf.dp (e := e) x
  simp only [D.wf, Wf.pl, Bool.true_and, decide_eq_true_eq]
  omega
theorem Wf.wfs {e : α → D} {n : Nat} [Wf e n] (h : n ≤ 60) (xs : List α) : Ev.wfs (xs.map e) = true := by
  have := depths_map (Wf.dp (e := e)) xs
  simp only [Ev.wfs, plains_map Wf.pl, Bool.true_and, decide_eq_true_eq]
  omega
/-! equality -/
instance : Eqv eI := ⟨fun x y => by simp [eI, D.py, PyData.eqv]; rfl⟩
instance : Eqv eB := ⟨fun x y => by simp [eB, D.py, PyData.eqv]; cases x <;> cases y <;> rfl⟩
instance : Eqv eS := ⟨fun x y => by simp only [eS, D.py, PyData.eqv]; rw [Bool.eq_iff_iff]; simp⟩
instance : Eqv eN := ⟨fun x y => by simp [eN, D.py, PyData.eqv]⟩
theorem eqv_tup {xs ys : List D} : PyData.eqv (D.tup xs).py (D.tup ys).py = PyData.eqvAll (D.pys xs) (D.pys ys) := by rw [py_tup, py_tup, PyData.eqv]
theorem eqv_lst {xs ys : List D} : PyData.eqv (D.lst xs).py (D.lst ys).py = PyData.eqvAll (D.pys xs) (D.pys ys) := by rw [py_lst, py_lst, PyData.eqv]
@[simp] theorem eqvAll_nil : PyData.eqvAll [] [] = true := by rw [PyData.eqvAll]
@[simp] theorem eqvAll_cons {x y : PyData} {xs ys : List PyData} : PyData.eqvAll (x :: xs) (y :: ys) = (PyData.eqv x y && PyData.eqvAll xs ys) := by rw [PyData.eqvAll]
instance [DecidableEq α] [DecidableEq β] {a : α → D} {b : β → D} [Eqv a] [Eqv b] : Eqv (eT2 a b) := ⟨fun x y => by
  rw [eT2, eT2, eqv_tup]
  simp only [pys_cons, pys_nil, eqvAll_cons, eqvAll_nil, Eqv.eqv, Bool.and_true]
  rw [Bool.eq_iff_iff]; simp [Prod.ext_iff]⟩
instance [DecidableEq α] [DecidableEq β] [DecidableEq γ] {a : α → D} {b : β → D} {c : γ → D} [Eqv a] [Eqv b] [Eqv c] : Eqv (eT3 a b c) := ⟨fun x y => by
  rw [eT3, eT3, eqv_tup]
  simp only [pys_cons, pys_nil, eqvAll_cons, eqvAll_nil, Eqv.eqv, Bool.and_true]
  rw [Bool.eq_iff_iff]; simp [Prod.ext_iff]⟩
instance [DecidableEq α] [DecidableEq β] [DecidableEq γ] [DecidableEq δ] {a : α → D} {b : β → D} {c : γ → D} {d : δ → D} [Eqv a] [Eqv b] [Eqv c] [Eqv d] : Eqv (eT4 a b c d) := ⟨fun x y => by
  rw [eT4, eT4, eqv_tup]
  simp only [pys_cons, pys_nil, eqvAll_cons, eqvAll_nil, Eqv.eqv, Bool.and_true]
  rw [Bool.eq_iff_iff]; simp [Prod.ext_iff]⟩
theorem eqvAll_map [DecidableEq α] {e : α → D} [Eqv e] : ∀ xs ys : List α, PyData.eqvAll (D.pys (xs.map e)) (D.pys (ys.map e)) = decide (xs = ys)
  | [], [] => by simp
  | [], y :: ys => by simp [PyData.eqvAll]
  | x :: xs, [] => by simp [PyData.eqvAll]
  | x :: xs, y :: ys => by
    simp only [List.map_cons, pys_cons, eqvAll_cons, Eqv.eqv, eqvAll_map xs ys]
    rw [Bool.eq_iff_iff]; simp
instance [DecidableEq α] {e : α → D} [Eqv e] : Eqv (eU e) := ⟨fun xs ys => by rw [eU, eU, eqv_tup]; exact eqvAll_map xs ys⟩
instance [DecidableEq α] {e : α → D} [Eqv e] : Eqv (eL e) := ⟨fun xs ys => by rw [eL, eL, eqv_lst]; exact eqvAll_map xs ys⟩
theorem eqv_non_l {d : D} (h : isNon d = false) : PyData.eqv (D.non).py d.py = false := by cases d <;> first | (simp [isNon] at h; done) | simp [D.py, PyData.eqv]
theorem eqv_non_r {d : D} (h : isNon d = false) : PyData.eqv d.py (D.non).py = false := by cases d <;> first | (simp [isNon] at h; done) | simp [D.py, PyData.eqv]
instance [DecidableEq α] {e : α → D} [Eqv e] [NN e] : Eqv (eO e) := ⟨fun x y => by
  cases x with
  | none => cases y with
    | none => simp [eO, D.py, PyData.eqv]
    | some y => show PyData.eqv (D.non).py (e y).py = _; rw [eqv_non_l (NN.nn y)]; simp
  | some x => cases y with
    | none => show PyData.eqv (e x).py (D.non).py = _; rw [eqv_non_r (NN.nn x)]; simp
    | some y => show PyData.eqv (e x).py (e y).py = _; rw [Eqv.eqv]; simp⟩
end
end Ev
set_option maxHeartbeats 4000000
namespace Ev
open PySem PySem.Spec PyProof.Rows L2
section
variable {α β γ δ ε σ : Type}
/-! ### order -/
def ltI (x y : Int) : Bool := decide (x < y)
def lt2 [DecidableEq α] (l : α → α → Bool) (m : β → β → Bool) (x y : α × β) : Bool := if x.1 = y.1 then m x.2 y.2 else l x.1 y.1
def ltL [DecidableEq α] (l : α → α → Bool) : List α → List α → Bool
  | [], [] => false
  | [], _ :: _ => true
  | _ :: _, [] => false
  | x :: xs, y :: ys => if x = y then ltL l xs ys else l x y
instance : Ord eI ltI := ⟨fun x y => PySem.W.dataLt_int x y, fun _ _ => rfl⟩
theorem toks_nil : PySem.W.keyToksAll [] = [.inl 0] := by rw [PySem.W.keyToksAll]
theorem lex_ends : PyProof.Rows.lexLt PyProof.Rows.itemOrd (PySem.W.keyToksAll []) (PySem.W.keyToksAll []) = false := by
  exact lex_irrefl _
theorem all_cons {a : α → D} {l : α → α → Bool} [DecidableEq α] [Eqv a] [Ord a l] (x y : α) (xs ys : List PyData) : PyProof.Rows.lexLt PyProof.Rows.itemOrd (PySem.W.keyToksAll ((a x).py :: xs)) (PySem.W.keyToksAll ((a y).py :: ys)) = if x = y then PyProof.Rows.lexLt PyProof.Rows.itemOrd (PySem.W.keyToksAll xs) (PySem.W.keyToksAll ys) else l x y := by
  by_cases h : x = y
  · rw [if_pos h, PySem.W.dataLt_all_yes (Ord.al x y) (by rw [Eqv.eqv (e := a), decide_eq_true h])]
  · rw [if_neg h, PySem.W.dataLt_all_no (Ord.al x y) (by rw [Eqv.eqv (e := a), decide_eq_false h]), Ord.lt (e := a)]
theorem last_cons {a : α → D} {l : α → α → Bool} [DecidableEq α] [Eqv a] [Ord a l] (x y : α) : PyProof.Rows.lexLt PyProof.Rows.itemOrd (PySem.W.keyToksAll ((a x).py :: [])) (PySem.W.keyToksAll ((a y).py :: [])) = l x y := by
  rw [all_cons]
  by_cases h : x = y
  · rw [if_pos h, lex_ends, h, ← Ord.lt (e := a) (lt := l) y y]; exact (lex_irrefl _).symm
  · rw [if_neg h]
instance [DecidableEq α] [DecidableEq β] {a : α → D} {b : β → D} {l : α → α → Bool} {m : β → β → Bool} [Eqv a] [Eqv b] [Ord a l] [Ord b m] : Ord (eT2 a b) (lt2 l m) := ⟨fun x y => by
  rw [eT2, eT2, py_tup, py_tup, PySem.W.dataLt_tuple]
  simp only [pys_cons, pys_nil]
  rw [all_cons, last_cons]; rfl, fun x y => by
  have h1 := Ord.al (e := a) x.1 y.1
  have h2 := Ord.al (e := b) x.2 y.2
  simp [eT2, PySem.W.alike, PySem.W.alikeAll, h1, h2]⟩
instance [DecidableEq α] [DecidableEq β] [DecidableEq γ] {a : α → D} {b : β → D} {c : γ → D} {l : α → α → Bool} {m : β → β → Bool} {n : γ → γ → Bool} [Eqv a] [Eqv b] [Eqv c] [Ord a l] [Ord b m] [Ord c n] : Ord (eT3 a b c) (lt2 l (lt2 m n)) := ⟨fun x y => by
  rw [eT3, eT3, py_tup, py_tup, PySem.W.dataLt_tuple]
  simp only [pys_cons, pys_nil]
  rw [all_cons, all_cons, last_cons]; rfl, fun x y => by
  have h1 := Ord.al (e := a) x.1 y.1
  have h2 := Ord.al (e := b) x.2.1 y.2.1
  have h3 := Ord.al (e := c) x.2.2 y.2.2
  simp [eT3, PySem.W.alike, PySem.W.alikeAll, h1, h2, h3]⟩
instance [DecidableEq α] [DecidableEq β] [DecidableEq γ] [DecidableEq δ] {a : α → D} {b : β → D} {c : γ → D} {d : δ → D} {l : α → α → Bool} {m : β → β → Bool} {n : γ → γ → Bool} {o : δ → δ → Bool} [Eqv a] [Eqv b] [Eqv c] [Eqv d] [Ord a l] [Ord b m] [Ord c n] [Ord d o] : Ord (eT4 a b c d) (lt2 l (lt2 m (lt2 n o))) := ⟨fun x y => by
  rw [eT4, eT4, py_tup, py_tup, PySem.W.dataLt_tuple]
  simp only [pys_cons, pys_nil]
  rw [all_cons, all_cons, all_cons, last_cons]; rfl, fun x y => by
  have h1 := Ord.al (e := a) x.1 y.1
  have h2 := Ord.al (e := b) x.2.1 y.2.1
  have h3 := Ord.al (e := c) x.2.2.1 y.2.2.1
  have h4 := Ord.al (e := d) x.2.2.2 y.2.2.2
  simp [eT4, PySem.W.alike, PySem.W.alikeAll, h1, h2, h3, h4]⟩
theorem lex_rows [DecidableEq α] {a : α → D} {l : α → α → Bool} [Eqv a] [Ord a l] : ∀ xs ys : List α, PyProof.Rows.lexLt PyProof.Rows.itemOrd (PySem.W.keyToksAll (D.pys (xs.map a))) (PySem.W.keyToksAll (D.pys (ys.map a))) = ltL l xs ys
  | [], [] => by simp only [List.map_nil, pys_nil, ltL]; exact lex_ends
  | [], y :: ys => by simp only [List.map_nil, List.map_cons, pys_nil, pys_cons, ltL, PySem.W.toks_all_cons, toks_nil]; rfl
  | x :: xs, [] => by simp only [List.map_nil, List.map_cons, pys_nil, pys_cons, ltL, PySem.W.toks_all_cons, toks_nil]; rfl
  | x :: xs, y :: ys => by
    simp only [List.map_cons, pys_cons]
    rw [all_cons, lex_rows xs ys]; rfl
theorem alikes {a : α → D} {l : α → α → Bool} [Ord a l] : ∀ xs ys : List α, PySem.W.alikeAll (D.pys (xs.map a)) (D.pys (ys.map a)) = true
  | [], _ => by simp [PySem.W.alikeAll]
  | _ :: _, [] => by simp [PySem.W.alikeAll]
  | x :: xs, y :: ys => by
    have h1 := Ord.al (e := a) x y
    simp [PySem.W.alikeAll, h1, alikes xs ys]
instance [DecidableEq α] {a : α → D} {l : α → α → Bool} [Eqv a] [Ord a l] : Ord (eU a) (ltL l) := ⟨fun xs ys => by
  rw [eU, eU, py_tup, py_tup, PySem.W.dataLt_tuple]; exact lex_rows xs ys, fun xs ys => by
  simp only [eU, py_tup, PySem.W.alike]; exact alikes (a := a) (l := l) xs ys⟩
instance [DecidableEq α] {a : α → D} {l : α → α → Bool} [Eqv a] [Ord a l] : Ord (eL a) (ltL l) := ⟨fun xs ys => by
  rw [eL, eL, py_lst, py_lst, PySem.W.dataLt_list]; exact lex_rows xs ys, fun xs ys => by
  simp only [eL, py_lst, PySem.W.alike]; exact alikes (a := a) (l := l) xs ys⟩

/-! ### partial operations -/
def mulO (x y : Int) : Option Int := if small x || small y then some (x * y) else none
def fdivO (x y : Int) : Option Int := if 0 < y ∧ y < 1073741824 then some (x / y) else none
def modO (x y : Int) : Option Int := if 0 < y then some (x % y) else none
def powO (x y : Int) : Option Int := if 0 ≤ y ∧ y ≤ 1000000 ∧ x.natAbs < 2 ^ 64 then some (x ^ y.toNat) else none
def catO (xs ys : List α) : Option (List α) := if xs.length + ys.length ≤ 16777216 then some (xs ++ ys) else none
def repO (xs : List α) (k : Int) : Option (List α) := if -(2 ^ 63) ≤ k ∧ k < 2 ^ 63 ∧ xs.length * k.toNat ≤ 16777216 then some (List.replicate k.toNat xs).flatten else none
def setO (xs : List α) (j : Int) (v : α) : Option (List α) := (ixN xs.length j).map fun n => xs.set n v
def appO (xs : List α) (v : α) : Option (List α) := if xs.length < 16777216 then some (xs ++ [v]) else none
def rng1 (n : Int) : Option (List Int) := if n ≤ 16777216 ∧ -(2 ^ 62) ≤ n then some (iota 0 n.toNat) else none
def rng2 (a b : Int) : Option (List Int) := if -(2 ^ 62) ≤ a ∧ a < 2 ^ 62 ∧ -(2 ^ 62) ≤ b ∧ b < 2 ^ 62 ∧ b - a ≤ 16777216 then some (iota a (b - a).toNat) else none
/-- x in xs -/
def memB [DecidableEq α] (x : α) (xs : List α) : Bool := decide (x ∈ xs)
theorem memB_iff [DecidableEq α] {x : α} {xs : List α} : memB x xs = true ↔ x ∈ xs := decide_eq_true_iff
/-- the first of the least, by lt -/
def leastBy (lt : α → α → Bool) : α → List α → α
  | m, [] => m
  | m, x :: xs => leastBy lt (if lt x m then x else m) xs
def minO (lt : α → α → Bool) : List α → Option α
  | [] => none
  | x :: xs => some (leastBy lt x xs)
def maxO (lt : α → α → Bool) : List α → Option α
  | [] => none
  | x :: xs => some (leastBy (fun a b => lt b a) x xs)
def sortT (lt : α → α → Bool) (xs : List α) : List α := xs.mergeSort fun x y => !lt y x
def cutG (xs : List α) (lo hi : Option Int) : List α := (xs.drop (HT.sIx xs.length 0 lo)).take (HT.sIx xs.length xs.length hi - HT.sIx xs.length 0 lo)
def enumT (xs : List α) : List (Int × α) := List.zipWith (fun (k : Nat) x => ((k : Int), x)) (List.range xs.length) xs
/-- the items that are kept -/
def fmO (p : α → Option Bool) (f : α → Option β) : List α → Option (List β)
  | [] => some []
  | x :: xs => (p x).bind fun k => if k = true then (f x).bind fun y => (fmO p f xs).bind fun ys => some (y :: ys) else fmO p f xs
def genO (k : Bool) (f : α → Option (Option Bool)) : List α → Option Bool
  | [] => some k
  | x :: xs => (f x).bind fun o => match o with
    | some t => if t = k then genO k f xs else some t
    | none => genO k f xs
def foldO (f : σ → α → Option σ) : σ → List α → Option σ
  | s, [] => some s
  | s, x :: xs => (f s x).bind fun s' => foldO f s' xs
/-- a loop that may return -/
def findO (f : α → Option (Option β)) : List α → Option (Option β)
  | [] => some none
  | x :: xs => (f x).bind fun o => match o with
    | none => findO f xs
    | some r => some (some r)
/-- a turn's end: on, out, back -/
inductive Stp (σ β : Type) where
  | nx (s : σ) | bk (s : σ) | rt (r : β)
def loopO (f : σ → α → Option (Stp σ β)) : σ → List α → Option (Stp σ β)
  | s, [] => some (.nx s)
  | s, x :: xs => (f s x).bind fun o => match o with
    | .nx s' => loopO f s' xs
    | .bk s' => some (.nx s')
    | .rt r => some (.rt r)
def whileO (c : σ → Option Bool) (f : σ → Option (Stp σ β)) : Nat → σ → Option (Stp σ β)
  | 0, _ => none
  | n + 1, s => (c s).bind fun k => if k = true then (f s).bind fun o => (match o with
      | .nx s' => whileO c f n s'
      | .bk s' => some (.nx s')
      | .rt r => some (.rt r)) else some (.nx s)
theorem bind_some {o : Option α} {f : α → Option β} {r : β} (h : o.bind f = some r) : ∃ x, o = some x ∧ f x = some r := Option.bind_eq_some_iff.mp h

/-! ### expressions -/
variable {C : Oracle} {ρ : EnvD} {M : List Nat}
theorem v_var {i : Nat} {d : D} (h : ρ[i]? = some (some d) := by rfl) : xE C ρ (.var i) = some d := by rw [evE_var, h]; rfl
theorem v_cst {d : D} : xE C ρ (.cst d) = some d := evE_cst
theorem v_as {e : E} {d d' : D} (h : xE C ρ e = some d) (q : d = d') : xE C ρ e = some d' := q ▸ h
theorem v_bin {op : Operator} {a b : E} {x y z : D} (ha : xE C ρ a = some x) (hb : xE C ρ b = some y) (h : binD op x y = some z) : xE C ρ (.bin op a b) = some z := by
  rw [evE_bin, ha, hb]; exact h
theorem o_add {x y : Int} : binD .Add (eI x) (eI y) = some (eI (x + y)) := Eq.trans rfl rfl
theorem o_sub {x y : Int} : binD .Sub (eI x) (eI y) = some (eI (x - y)) := Eq.trans rfl rfl
theorem o_mul {x y z : Int} (h : mulO x y = some z) : binD .Mult (eI x) (eI y) = some (eI z) := by
  unfold mulO at h
  split at h
  · cases h; exact mul_ii (by assumption)
  · cases h
theorem o_fdiv {x y z : Int} (h : fdivO x y = some z) : binD .FloorDiv (eI x) (eI y) = some (eI z) := by
  unfold fdivO at h
  split at h
  · rename_i hc; cases h; exact fdiv_ii hc.1 hc.2
  · cases h
theorem o_mod {x y z : Int} (h : modO x y = some z) : binD .Mod (eI x) (eI y) = some (eI z) := by
  unfold modO at h
  split at h
  · rename_i hc; cases h; exact mod_ii hc
  · cases h
theorem o_pow {x y z : Int} (h : powO x y = some z) : binD .Pow (eI x) (eI y) = some (eI z) := by
  unfold powO at h
  split at h
  · rename_i hc
    cases h
    obtain ⟨h1, h2, h3⟩ := hc
    have h3' : x.natAbs < 18446744073709551616 := h3
    rw [binD_pow]
    simp [eI, powD, h1, h2, h3']
  · cases h
theorem o_catL {e : α → D} {xs ys zs : List α} (h : catO xs ys = some zs) : binD .Add (eL e xs) (eL e ys) = some (eL e zs) := by
  unfold catO at h
  split at h
  · rename_i hc
    cases h
    show addD (.lst _) (.lst _) = _
    simp only [addD, List.length_map, lineOk_small hc, if_true]
    rw [eL, List.map_append]
  · cases h
theorem o_catU {e : α → D} {xs ys zs : List α} (h : catO xs ys = some zs) : binD .Add (eU e xs) (eU e ys) = some (eU e zs) := by
  unfold catO at h
  split at h
  · rename_i hc
    cases h
    show addD (.tup _) (.tup _) = _
    simp only [addD, List.length_map, lineOk_small hc, if_true]
    rw [eU, List.map_append]
  · cases h
theorem map_rep {e : α → D} (xs : List α) : ∀ n : Nat, ((List.replicate n xs).flatten).map e = (List.replicate n (xs.map e)).flatten
  | 0 => rfl
  | n + 1 => by simp only [List.replicate_succ, List.flatten_cons, List.map_append, map_rep xs n]
theorem o_repL {e : α → D} {xs zs : List α} {k : Int} (h : repO xs k = some zs) : binD .Mult (eL e xs) (eI k) = some (eL e zs) := by
  unfold repO at h
  split at h
  · rename_i hc
    cases h
    obtain ⟨h1, h2, h3⟩ := hc
    show mulD (.lst _) (.int _) = _
    simp only [mulD, List.length_map]
    rw [if_pos]
    · rw [eL, map_rep]
    · simp only [Bool.and_eq_true, decide_eq_true_eq]
      exact ⟨⟨by omega, by omega⟩, lineOk_small h3⟩
  · cases h
def repTO (xs : List α) (k : Int) : Option (List α) := if -(2 ^ 63) ≤ k ∧ k ≤ 1000 ∧ xs.length ≤ 1000 then some (List.replicate k.toNat xs).flatten else none
theorem o_repU {e : α → D} {xs zs : List α} {k : Int} (h : repTO xs k = some zs) : binD .Mult (eU e xs) (eI k) = some (eU e zs) := by
  unfold repTO at h
  split at h
  · rename_i hc
    cases h
    obtain ⟨h1, h2, h3⟩ := hc
    show mulD (.tup _) (.int _) = _
    simp only [mulD, List.length_map]
    rw [if_pos]
    · rw [eU, map_rep]
    · simp only [Bool.and_eq_true, decide_eq_true_eq]
      exact ⟨⟨by omega, by omega⟩, h3⟩
  · cases h
theorem v_neg {a : E} {x : Int} (ha : xE C ρ a = some (eI x)) : xE C ρ (.neg a) = some (eI (-x)) := by rw [evE_neg, ha]; rfl
theorem v_rev_l {a : E} {e : α → D} {xs : List α} (ha : xE C ρ a = some (eL e xs)) : xE C ρ (.rev a) = some (eL e xs.reverse) := by rw [evE_rev, ha]; simp [eL, revD]
theorem v_rev_u {a : E} {e : α → D} {xs : List α} (ha : xE C ρ a = some (eU e xs)) : xE C ρ (.rev a) = some (eU e xs.reverse) := by rw [evE_rev, ha]; simp [eU, revD]
/-! truth -/
theorem t_b {b : Bool} : truthD (eB b) = some b := Eq.trans rfl rfl
theorem t_i {i : Int} : truthD (eI i) = some (i != 0) := Eq.trans rfl rfl
theorem t_l {e : α → D} {xs : List α} : truthD (eL e xs) = some (!xs.isEmpty) := by simp [eL, truthD]
theorem t_u {e : α → D} {xs : List α} : truthD (eU e xs) = some (!xs.isEmpty) := by simp [eU, truthD]
theorem v_not {a : E} {d : D} {k : Bool} (ha : xE C ρ a = some d) (t : truthD d = some k) : xE C ρ (.not a) = some (eB (!k)) := by rw [evE_not, ha, Option.bind_some, t]; rfl
theorem v_and {a b : E} {x y : Bool} (ha : xE C ρ a = some (eB x)) (hb : xE C ρ b = some (eB y)) : xE C ρ (.and a b) = some (eB (x && y)) := by
  rw [evE_and, ha, hb]; cases x <;> rfl
theorem v_or {a b : E} {x y : Bool} (ha : xE C ρ a = some (eB x)) (hb : xE C ρ b = some (eB y)) : xE C ρ (.or a b) = some (eB (x || y)) := by
  rw [evE_or, ha, hb]; cases x <;> rfl
theorem v_andP {a b : E} {x r : Bool} {t : Option Bool} (ha : xE C ρ a = some (eB x)) (h : (if x = true then t else some false) = some r) (hb : x = true → t = some r → xE C ρ b = some (eB r)) : xE C ρ (.and a b) = some (eB r) := by
  rw [evE_and, ha]
  cases x with
  | true => exact hb rfl h
  | false => cases h; rfl
theorem v_orP {a b : E} {x r : Bool} {t : Option Bool} (ha : xE C ρ a = some (eB x)) (h : (if x = true then some true else t) = some r) (hb : x = false → t = some r → xE C ρ b = some (eB r)) : xE C ρ (.or a b) = some (eB r) := by
  rw [evE_or, ha]
  cases x with
  | true => cases h; rfl
  | false => exact hb rfl h
/-! in a test: the operands' own truth -/
def TE (C : Oracle) (ρ : EnvD) (e : E) (k : Bool) : Prop := ∃ d, xE C ρ e = some d ∧ truthD d = some k
theorem te_v {a : E} {d : D} {k : Bool} (ha : xE C ρ a = some d) (t : truthD d = some k) : TE C ρ a k := ⟨d, ha, t⟩
theorem te_and {a b : E} {x y : Bool} (ha : TE C ρ a x) (hb : TE C ρ b y) : TE C ρ (.and a b) (x && y) := by
  obtain ⟨d, h1, h2⟩ := ha
  obtain ⟨d', h3, h4⟩ := hb
  cases x with
  | true => exact ⟨d', by rw [evE_and, h1, Option.bind_some, h2]; exact h3, h4⟩
  | false => exact ⟨d, by rw [evE_and, h1, Option.bind_some, h2]; rfl, h2⟩
theorem te_or {a b : E} {x y : Bool} (ha : TE C ρ a x) (hb : TE C ρ b y) : TE C ρ (.or a b) (x || y) := by
  obtain ⟨d, h1, h2⟩ := ha
  obtain ⟨d', h3, h4⟩ := hb
  cases x with
  | true => exact ⟨d, by rw [evE_or, h1, Option.bind_some, h2]; rfl, h2⟩
  | false => exact ⟨d', by rw [evE_or, h1, Option.bind_some, h2]; exact h3, h4⟩
theorem te_andP {a b : E} {x r : Bool} {t : Option Bool} (ha : TE C ρ a x) (h : (if x = true then t else some false) = some r) (hb : x = true → t = some r → TE C ρ b r) : TE C ρ (.and a b) r := by
  obtain ⟨d, h1, h2⟩ := ha
  cases x with
  | true =>
    obtain ⟨d', h3, h4⟩ := hb rfl h
    exact ⟨d', by rw [evE_and, h1, Option.bind_some, h2]; exact h3, h4⟩
  | false => cases h; exact ⟨d, by rw [evE_and, h1, Option.bind_some, h2]; rfl, h2⟩
theorem te_orP {a b : E} {x r : Bool} {t : Option Bool} (ha : TE C ρ a x) (h : (if x = true then some true else t) = some r) (hb : x = false → t = some r → TE C ρ b r) : TE C ρ (.or a b) r := by
  obtain ⟨d, h1, h2⟩ := ha
  cases x with
  | true => cases h; exact ⟨d, by rw [evE_or, h1, Option.bind_some, h2]; rfl, h2⟩
  | false =>
    obtain ⟨d', h3, h4⟩ := hb rfl h
    exact ⟨d', by rw [evE_or, h1, Option.bind_some, h2]; exact h3, h4⟩
theorem te_not {a : E} {x : Bool} (ha : TE C ρ a x) : TE C ρ (.not a) (!x) := by
  obtain ⟨d, h1, h2⟩ := ha
  exact ⟨.bl (!x), v_not h1 h2, rfl⟩
theorem v_notT {a : E} {x : Bool} (ha : TE C ρ a x) : xE C ρ (.not a) = some (eB (!x)) := by
  obtain ⟨d, h1, h2⟩ := ha
  exact v_not h1 h2
/-! comparisons -/
theorem v_cmp {op : CmpOp} {a b : E} {x y : D} {k : Bool} (ha : xE C ρ a = some x) (hb : xE C ρ b = some y) (h : cmpD op x y = some k) : xE C ρ (.cmp op a b) = some (eB k) := by
  rw [evE_cmp, ha, hb, Option.bind_some, Option.bind_some, h]; rfl
theorem v_chain {op op' : CmpOp} {a b c : E} {x y z : D} {k k' : Bool} (ha : xE C ρ a = some x) (hb : xE C ρ b = some y) (hc : xE C ρ c = some z) (h : cmpD op x y = some k) (h' : cmpD op' y z = some k') : xE C ρ (.chain op op' a b c) = some (eB (k && k')) := by
  rw [evE_chain, ha, hb, Option.bind_some, Option.bind_some, h, hc]
  cases k with
  | true => simp only [Option.bind_some, if_true]; rw [h']; rfl
  | false => rfl
theorem v_chainP {op op' : CmpOp} {a b c : E} {x y : D} {k r : Bool} {t : Option Bool} (ha : xE C ρ a = some x) (hb : xE C ρ b = some y) (h : cmpD op x y = some k) (hr : (if k = true then t else some false) = some r)
    (hc : k = true → t = some r → ∃ z, xE C ρ c = some z ∧ cmpD op' y z = some r) : xE C ρ (.chain op op' a b c) = some (eB r) := by
  rw [evE_chain, ha, hb, Option.bind_some, Option.bind_some, h, Option.bind_some]
  cases k with
  | true =>
    obtain ⟨z, h1, h2⟩ := hc rfl hr
    simp only [if_true]; rw [h1, Option.bind_some, h2]; rfl
  | false => cases hr; rfl
section
variable {e : α → D} {n : Nat} [DecidableEq α] [Wf e n] [Eqv e]
theorem c_eq {x y : α} (h : n ≤ 60 := by decide) : cmpD .Eq (e x) (e y) = some (decide (x = y)) := by
  rw [cmp_eq, eqD, Wf.wf h x, Wf.wf h y, Eqv.eqv]; rfl
theorem c_ne {x y : α} (h : n ≤ 60 := by decide) : cmpD .NotEq (e x) (e y) = some (decide (x ≠ y)) := by
  rw [cmp_ne, eqD, Wf.wf h x, Wf.wf h y, Eqv.eqv]; simp
theorem mem_any (x : α) : ∀ xs : List α, ((xs.map e).any fun y => PyData.eqv y.py (e x).py) = decide (x ∈ xs)
  | [] => rfl
  | y :: ys => by
    rw [List.map_cons, List.any_cons, mem_any x ys, Eqv.eqv, Bool.eq_iff_iff]
    simp only [Bool.or_eq_true, decide_eq_true_eq, List.mem_cons]
    exact or_congr_left eq_comm
theorem c_inU {x : α} {xs : List α} (h : n ≤ 60 := by decide) : cmpD .In (e x) (eU e xs) = some (memB x xs) := by
  unfold memB
  rw [cmp_in, eU, memD, Wf.wf h x, Wf.wfs h xs]
  simp only [Bool.and_self, if_true]
  rw [mem_any]
theorem c_inL {x : α} {xs : List α} (h : n ≤ 60 := by decide) : cmpD .In (e x) (eL e xs) = some (memB x xs) := by
  unfold memB
  rw [cmp_in, eL, memD, Wf.wf h x, Wf.wfs h xs]
  simp only [Bool.and_self, if_true]
  rw [mem_any]
theorem c_notinU {x : α} {xs : List α} (h : n ≤ 60 := by decide) : cmpD .NotIn (e x) (eU e xs) = some (!memB x xs) := by
  rw [cmp_notin, ← cmp_in, c_inU h]; rfl
theorem c_notinL {x : α} {xs : List α} (h : n ≤ 60 := by decide) : cmpD .NotIn (e x) (eL e xs) = some (!memB x xs) := by
  rw [cmp_notin, ← cmp_in, c_inL h]; rfl
end
theorem c_lt {x y : Int} : cmpD .Lt (eI x) (eI y) = some (decide (x < y)) := by rw [cmp_lt]; exact lt_ii
theorem c_gt {x y : Int} : cmpD .Gt (eI x) (eI y) = some (decide (y < x)) := cmp_gt_ii
theorem c_le {x y : Int} : cmpD .LtE (eI x) (eI y) = some (decide (x ≤ y)) := by
  rw [show cmpD .LtE (eI x) (eI y) = some (!decide (y < x)) from cmp_le_ii]
  congr 1; rw [Bool.eq_iff_iff]; simp
theorem c_ge {x y : Int} : cmpD .GtE (eI x) (eI y) = some (decide (y ≤ x)) := by
  rw [cmp_ge, show ltD (eI x) (eI y) = some (decide (x < y)) from lt_ii]
  show some (!decide (x < y)) = _
  congr 1; rw [Bool.eq_iff_iff]; simp
section
variable {e : α → D} {n : Nat} {lt : α → α → Bool} [Wf e n] [Ord e lt] [NN e]
theorem lt_ord {x y : α} (h : n ≤ 60) : ltD (e x) (e y) = some (lt x y) := by
  have hn := NN.nn (e := e) x
  have hm : (match e x with | .non => true | _ => false) = false := by
    cases hx : e x <;> rw [hx] at hn <;> first | rfl | simp at hn
  rw [ltD, Ord.al, Wf.wf h x, Wf.wf h y, Ord.lt]
  · rfl
  · intro hx; rw [hx] at hn; cases hn
theorem c_ltO {x y : α} (h : n ≤ 60 := by decide) : cmpD .Lt (e x) (e y) = some (lt x y) := by rw [cmp_lt]; exact lt_ord h
theorem c_gtO {x y : α} (h : n ≤ 60 := by decide) : cmpD .Gt (e x) (e y) = some (lt y x) := by
  show (if PySem.W.alike (e x).py (e y).py then ltD (e y) (e x) else none) = _
  rw [Ord.al, if_pos rfl]; exact lt_ord h
theorem c_leO {x y : α} (h : n ≤ 60 := by decide) : cmpD .LtE (e x) (e y) = some (!lt y x) := by
  show (if PySem.W.alike (e x).py (e y).py then (ltD (e y) (e x)).map (!·) else none) = _
  rw [Ord.al, if_pos rfl, lt_ord h]; rfl
theorem c_geO {x y : α} (h : n ≤ 60 := by decide) : cmpD .GtE (e x) (e y) = some (!lt x y) := by
  rw [cmp_ge, lt_ord h]; rfl
end
theorem c_isO {e : α → D} [NN e] {o : Option α} : cmpD .Is (eO e o) .non = some o.isNone := by
  rw [cmp_is_n]
  cases o with
  | none => rfl
  | some x => show some (isNon (e x)) = _; rw [NN.nn]; rfl
theorem c_isnotO {e : α → D} [NN e] {o : Option α} : cmpD .IsNot (eO e o) .non = some o.isSome := by
  rw [cmp_isnot_n]
  cases o with
  | none => rfl
  | some x => show some (!isNon (e x)) = _; rw [NN.nn]; rfl
theorem c_isN {e : α → D} [NN e] {x : α} : cmpD .Is (e x) .non = some false := by rw [cmp_is_n, NN.nn]
theorem c_isnotN {e : α → D} [NN e] {x : α} : cmpD .IsNot (e x) .non = some true := by rw [cmp_isnot_n, NN.nn]; rfl
/-! .. if .. else .. -/
theorem v_ite {e : α → D} {c a b : E} {k : Bool} {x y : α} (hc : TE C ρ c k) (ha : xE C ρ a = some (e x)) (hb : xE C ρ b = some (e y)) : xE C ρ (.ite c a b) = some (e (if k = true then x else y)) := by
  obtain ⟨d, h1, h2⟩ := hc
  rw [evE_ite, h1, Option.bind_some, h2]
  cases k with
  | true => exact ha
  | false => exact hb
theorem v_iteP {e : α → D} {c a b : E} {k : Bool} {s t : Option α} {r : α} (hc : TE C ρ c k) (h : (if k = true then s else t) = some r) (ha : k = true → s = some r → xE C ρ a = some (e r)) (hb : k = false → t = some r → xE C ρ b = some (e r)) : xE C ρ (.ite c a b) = some (e r) := by
  obtain ⟨d, h1, h2⟩ := hc
  rw [evE_ite, h1, Option.bind_some, h2]
  cases k with
  | true => exact ha rfl h
  | false => exact hb rfl h
/-! tuples, lists -/
theorem x_nil : xEs C ρ [] = some [] := evEs_nil
theorem x_cons {e : E} {es : List E} {d : D} {ds : List D} (h : xE C ρ e = some d) (hs : xEs C ρ es = some ds) : xEs C ρ (e :: es) = some (d :: ds) := by rw [evEs_cons, h, hs]; rfl
theorem v_tup {es : List E} {ds : List D} (h : xEs C ρ es = some ds) (hl : Nat.ble ds.length 16777216 = true := by rfl) : xE C ρ (.tup es) = some (.tup ds) := by rw [evE_tup, h, Option.bind_some, if_pos (lineOk_small (Nat.le_of_ble_eq_true hl))]
theorem v_lst {es : List E} {ds : List D} (h : xEs C ρ es = some ds) (hl : Nat.ble ds.length 16777216 = true := by rfl) : xE C ρ (.lst es) = some (.lst ds) := by rw [evE_lst, h, Option.bind_some, if_pos (lineOk_small (Nat.le_of_ble_eq_true hl))]
theorem atI_enc {e : α → D} {xs : List α} {i : Int} {v : α} (h : atI xs i = some v) : atI (xs.map e) i = some (e v) := by
  unfold atI at h ⊢
  rw [List.length_map]
  obtain ⟨n, h1, h2⟩ := Option.bind_eq_some_iff.mp h
  rw [h1, Option.bind_some, List.getElem?_map, h2]; rfl
theorem v_ixL {e : α → D} {a b : E} {xs : List α} {i : Int} {v : α} (ha : xE C ρ a = some (eL e xs)) (hb : xE C ρ b = some (eI i)) (h : atI xs i = some v) : xE C ρ (.ix a b) = some (e v) := by
  rw [evE_ix, ha, hb]; exact atI_enc h
theorem v_ixU {e : α → D} {a b : E} {xs : List α} {i : Int} {v : α} (ha : xE C ρ a = some (eU e xs)) (hb : xE C ρ b = some (eI i)) (h : atI xs i = some v) : xE C ρ (.ix a b) = some (e v) := by
  rw [evE_ix, ha, hb]; exact atI_enc h
theorem v_ixT {a b : E} {ds : List D} {i : Int} {d : D} (ha : xE C ρ a = some (.tup ds)) (hb : xE C ρ b = some (eI i)) (h : atI ds i = some d) : xE C ρ (.ix a b) = some d := by
  rw [evE_ix, ha, hb]; exact h
theorem x_o0 : xO C ρ none = some none := evO_none
theorem x_o1 {e : E} {i : Int} (h : xE C ρ e = some (eI i)) : xO C ρ (some e) = some (some i) := by rw [evO_some, h]; rfl
theorem v_slL {e : α → D} {a : E} {lo hi : Option E} {xs : List α} {l h : Option Int} (ha : xE C ρ a = some (eL e xs)) (hl : xO C ρ lo = some l) (hh : xO C ρ hi = some h) : xE C ρ (.sl a lo hi) = some (eL e (cutG xs l h)) := by
  rw [evE_sl, ha, hl, hh]
  show slD (.lst _) l h = _
  rw [sl_lst, cutL_map]; rfl
theorem v_slU {e : α → D} {a : E} {lo hi : Option E} {xs : List α} {l h : Option Int} (ha : xE C ρ a = some (eU e xs)) (hl : xO C ρ lo = some l) (hh : xO C ρ hi = some h) : xE C ρ (.sl a lo hi) = some (eU e (cutG xs l h)) := by
  rw [evE_sl, ha, hl, hh]
  show slD (.tup _) l h = _
  rw [sl_tup, cutL_map]; rfl
/-! built-ins -/
theorem v_bf1 {f : BF} {a : E} {x y : D} (ha : xE C ρ a = some x) (h : bf1 f x = some y) : xE C ρ (.bf f [a]) = some y := by rw [evE_bf, x_cons ha x_nil]; exact h
theorem v_bf2 {f : BF} {a b : E} {x y z : D} (ha : xE C ρ a = some x) (hb : xE C ρ b = some y) (h : bf2 f x y = some z) : xE C ρ (.bf f [a, b]) = some z := by rw [evE_bf, x_cons ha (x_cons hb x_nil)]; exact h
theorem f_lenL {e : α → D} {xs : List α} : bf1 .len (eL e xs) = some (eI xs.length) := by simp [eL, eI]
theorem f_lenU {e : α → D} {xs : List α} : bf1 .len (eU e xs) = some (eI xs.length) := by simp [eU, eI]
theorem f_abs {x : Int} : bf1 .abs (eI x) = some (eI (x.natAbs : Int)) := by
  show some (D.int _) = _
  unfold eI
  congr 2
  split <;> omega
theorem f_int {x : Int} : bf1 .int (eI x) = some (eI x) := Eq.trans rfl rfl
theorem f_intB {x : Bool} : bf1 .int (eB x) = some (eI (if x = true then 1 else 0)) := Eq.trans rfl rfl
theorem f_min2 {x y : Int} : bf2 .min (eI x) (eI y) = some (eI (min x y)) := by
  show some (D.int _) = _
  unfold eI
  congr 2
  split <;> omega
theorem f_max2 {x y : Int} : bf2 .max (eI x) (eI y) = some (eI (max x y)) := by
  show some (D.int _) = _
  unfold eI
  congr 2
  split <;> omega
theorem f_sumL {xs : List Int} : bf1 .sum (eL eI xs) = some (eI xs.sum) := bf_sum
theorem f_sumU {xs : List Int} : bf1 .sum (eU eI xs) = some (eI xs.sum) := bf_sumT
theorem f_tupL {e : α → D} {xs : List α} : bf1 .tuple (eL e xs) = some (eU e xs) := Eq.trans rfl rfl
theorem f_tupU {e : α → D} {xs : List α} : bf1 .tuple (eU e xs) = some (eU e xs) := Eq.trans rfl rfl
theorem f_lstL {e : α → D} {xs : List α} : bf1 .list (eL e xs) = some (eL e xs) := Eq.trans rfl rfl
theorem f_lstU {e : α → D} {xs : List α} : bf1 .list (eU e xs) = some (eL e xs) := Eq.trans rfl rfl
theorem f_allL {xs : List Bool} : bf1 .all (eL eB xs) = some (eB (xs.all id)) := bf_all
theorem f_anyL {xs : List Bool} : bf1 .any (eL eB xs) = some (eB (xs.any id)) := by
  show (mapO boolOf _).bind _ = _
  rw [show xs.map eB = xs.map D.bl from rfl, mapO_bool]; rfl
section
variable {e : α → D} {n : Nat} {lt : α → α → Bool} [Wf e n] [Ord e lt] [NN e] [Im e]
theorem al_map {lt : α → α → Bool} [Ord e lt] (xs : List α) : allAlike (xs.map e) = true := by
  simp only [allAlike, List.all_eq_true, List.mem_map]
  rintro _ ⟨x, _, rfl⟩ _ ⟨y, _, rfl⟩
  exact Ord.al x y
theorem nn_map (xs : List α) : (xs.map e).any isNon = false := by
  simp only [List.any_eq_false, List.mem_map]
  rintro _ ⟨x, _, rfl⟩
  rw [NN.nn]; simp
theorem least_map : ∀ (xs : List α) (m : α), minL (e m) (xs.map e) = e (leastBy lt m xs)
  | [], m => rfl
  | x :: xs, m => by
    rw [List.map_cons, minL, leastBy, Ord.lt]
    by_cases hc : lt x m = true
    · rw [if_pos hc, if_pos hc]; exact least_map xs x
    · rw [if_neg hc, if_neg hc]; exact least_map xs m
theorem most_map : ∀ (xs : List α) (m : α), maxL (e m) (xs.map e) = e (leastBy (fun a b => lt b a) m xs)
  | [], m => rfl
  | x :: xs, m => by
    rw [List.map_cons, maxL, leastBy, Ord.lt]
    by_cases hc : lt m x = true
    · rw [if_pos hc, if_pos hc]; exact most_map xs x
    · rw [if_neg hc, if_neg hc]; exact most_map xs m
theorem min_core {xs : List α} {m : α} (hm : minO lt xs = some m) (h : n ≤ 60) : (match xs.map e with
    | [] => none
    | y :: ys => if allAlike (xs.map e) && wfs (xs.map e) && !(xs.map e).any isNon && D.imms (xs.map e) then some (minL y ys) else none) = some (e m) := by
  cases xs with
  | nil => cases hm
  | cons x xs =>
    cases hm
    simp only [List.map_cons]
    rw [← List.map_cons, al_map (lt := lt), Wf.wfs h, nn_map, imms_map Im.im]
    simp only [Bool.and_self, Bool.not_false, if_true]
    rw [least_map]
theorem max_core {xs : List α} {m : α} (hm : maxO lt xs = some m) (h : n ≤ 60) : (match xs.map e with
    | [] => none
    | y :: ys => if allAlike (xs.map e) && wfs (xs.map e) && !(xs.map e).any isNon && D.imms (xs.map e) then some (maxL y ys) else none) = some (e m) := by
  cases xs with
  | nil => cases hm
  | cons x xs =>
    cases hm
    simp only [List.map_cons]
    rw [← List.map_cons, al_map (lt := lt), Wf.wfs h, nn_map, imms_map Im.im]
    simp only [Bool.and_self, Bool.not_false, if_true]
    rw [most_map]
theorem f_minL {xs : List α} {m : α} (hm : minO lt xs = some m) (h : n ≤ 60 := by decide) : bf1 .min (eL e xs) = some (e m) := min_core hm h
theorem f_minU {xs : List α} {m : α} (hm : minO lt xs = some m) (h : n ≤ 60 := by decide) : bf1 .min (eU e xs) = some (e m) := min_core hm h
theorem f_maxL {xs : List α} {m : α} (hm : maxO lt xs = some m) (h : n ≤ 60 := by decide) : bf1 .max (eL e xs) = some (e m) := max_core hm h
theorem f_maxU {xs : List α} {m : α} (hm : maxO lt xs = some m) (h : n ≤ 60 := by decide) : bf1 .max (eU e xs) = some (e m) := max_core hm h
end
/-- what can be sorted -/
class So (e : α → D) : Prop where so : ∀ xs : List α, sortable (xs.map e) = true
theorem so_noTup {e : α → D} (h : ∀ x, noTup (e x) = true) (xs : List α) : sortable (xs.map e) = true := by
  simp only [sortable, Bool.or_eq_true, List.all_eq_true, List.mem_map]
  right; rintro _ ⟨x, _, rfl⟩; exact h x
theorem so_full {e : α → D} (h : ∀ x, isTup (e x) = true) (xs : List α) : sortable (xs.map e) = true := by
  simp only [sortable, Bool.or_eq_true, List.all_eq_true, List.mem_map]
  left; rintro _ ⟨x, _, rfl⟩; exact h x
instance : So eI := ⟨so_noTup fun _ => rfl⟩
instance {a : α → D} : So (eU a) := ⟨so_full fun _ => rfl⟩
instance : So eS := ⟨so_noTup fun _ => rfl⟩
instance {a : α → D} {b : β → D} : So (eT2 a b) := ⟨so_full fun _ => rfl⟩
instance {a : α → D} {b : β → D} {c : γ → D} : So (eT3 a b c) := ⟨so_full fun _ => rfl⟩
instance {a : α → D} {b : β → D} {c : γ → D} {d : δ → D} : So (eT4 a b c d) := ⟨so_full fun _ => rfl⟩
theorem sort_map {e : α → D} {lt : α → α → Bool} [Ord e lt] (xs : List α) : (xs.map e).mergeSort leD = (sortT lt xs).map e := by
  unfold sortT
  rw [List.map_mergeSort]
  intro a _ b _
  unfold leD
  rw [Ord.lt (e := e)]
theorem f_sort {e : α → D} {n : Nat} {lt : α → α → Bool} [Wf e n] [Ord e lt] [So e] {xs : List α} (h : n ≤ 60 := by decide) : bf1 .sorted (eL e xs) = some (eL e (sortT lt xs)) := by
  show (if allAlike (xs.map e) && wfs (xs.map e) && sortable (xs.map e) then some (D.lst ((xs.map e).mergeSort leD)) else none) = _
  have ha : allAlike (xs.map e) = true := by
    simp only [allAlike, List.all_eq_true, List.mem_map]
    rintro _ ⟨x, _, rfl⟩ _ ⟨y, _, rfl⟩
    exact Ord.al x y
  rw [ha, Wf.wfs h, So.so, sort_map (lt := lt)]; rfl
theorem f_sortU {e : α → D} {n : Nat} {lt : α → α → Bool} [Wf e n] [Ord e lt] [So e] {xs : List α} (h : n ≤ 60 := by decide) : bf1 .sorted (eU e xs) = some (eL e (sortT lt xs)) := f_sort (e := e) (n := n) h
/-- the members of a row of numbers, fewer than 64 of them -/
def dedO (xs : List Int) : Option (List Int) := if xs.length < 4000 ∧ (ded xs).length < 64 then some (ded xs) else none
theorem sset_of {e : Int → D} {d : D} {xs ys : List Int} {k : Bool} (hi : itemsD d = some (xs.map eI)) (h : dedO xs = some ys) : ssetD k d = some (match k with | true => eL eI ys | false => eI ys.length) := by
  unfold dedO at h
  split at h
  · rename_i hl
    cases h
    unfold ssetD
    rw [hi, Option.bind_some, show mapO intOf (xs.map eI) = some xs from mapO_int xs]
    simp only
    rw [if_pos hl]
    cases k <;> rfl
  · cases h
theorem v_ssL {a : E} {xs ys : List Int} (ha : xE C ρ a = some (eL eI xs)) (h : dedO xs = some ys) : xE C ρ (.sset true a) = some (eL eI ys) := by rw [evE_sset, ha]; exact sset_of (e := eI) (k := true) (show itemsD (eL eI xs) = some (xs.map eI) from rfl) h
theorem v_ssU {a : E} {xs ys : List Int} (ha : xE C ρ a = some (eU eI xs)) (h : dedO xs = some ys) : xE C ρ (.sset true a) = some (eL eI ys) := by rw [evE_sset, ha]; exact sset_of (e := eI) (k := true) (show itemsD (eU eI xs) = some (xs.map eI) from rfl) h
theorem v_snL {a : E} {xs ys : List Int} (ha : xE C ρ a = some (eL eI xs)) (h : dedO xs = some ys) : xE C ρ (.sset false a) = some (eI ys.length) := by rw [evE_sset, ha]; exact sset_of (e := eI) (k := false) (show itemsD (eL eI xs) = some (xs.map eI) from rfl) h
theorem v_snU {a : E} {xs ys : List Int} (ha : xE C ρ a = some (eU eI xs)) (h : dedO xs = some ys) : xE C ρ (.sset false a) = some (eI ys.length) := by rw [evE_sset, ha]; exact sset_of (e := eI) (k := false) (show itemsD (eU eI xs) = some (xs.map eI) from rfl) h
theorem v_isin {a : E} {t : Ty} {d : D} {k : Bool} (ha : xE C ρ a = some d) (h : isinD t d = some k) : xE C ρ (.isin a t) = some (eB k) := by rw [evE_isin, ha, Option.bind_some, h]; rfl
theorem v_call {f : Nat} {es : List E} {ds : List D} {d : D} (ha : xEs C ρ es = some ds) (h : C f ds = some d) : xE C ρ (.call f es) = some d := by rw [evE_call, ha]; exact h
/-! what is walked -/
theorem rng1_ok {n : Int} {xs : List Int} (h : rng1 n = some xs) : rangeD [eI n] = some (xs.map eI) := by
  unfold rng1 at h
  split at h
  · rename_i hc
    cases h
    by_cases hn : 0 ≤ n
    · rw [show rangeD [eI n] = rangeD [.int n] from rfl, range_1 hn hc.1, intsFrom_iota]; rfl
    · have h0 : n.toNat = 0 := by omega
      simp only [eI, rangeD]
      rw [if_pos, h0]
      · rfl
      · simp only [Bool.and_eq_true, decide_eq_true_eq]
        exact ⟨⟨hc.2, by omega⟩, lineOk_small (by omega)⟩
  · cases h
theorem rng2_ok {a b : Int} {xs : List Int} (h : rng2 a b = some xs) : rangeD [eI a, eI b] = some (xs.map eI) := by
  unfold rng2 at h
  split at h
  · rename_i hc
    obtain ⟨h1, h2, h3, h4, h5⟩ := hc
    cases h
    simp only [eI, rangeD]
    rw [if_pos, intsFrom_iota]
    · simp only [Bool.and_eq_true, decide_eq_true_eq]
      exact ⟨⟨⟨⟨h1, h2⟩, h3⟩, h4⟩, lineOk_small (by omega)⟩
  · cases h
theorem i_rng1 {a : E} {n : Int} {xs : List Int} (ha : xE C ρ a = some (eI n)) (h : rng1 n = some xs) : xI C ρ (.rng [a]) = some (xs.map eI) := by rw [evI_rng, x_cons ha x_nil]; exact rng1_ok h
theorem i_rng2 {a b : E} {m n : Int} {xs : List Int} (ha : xE C ρ a = some (eI m)) (hb : xE C ρ b = some (eI n)) (h : rng2 m n = some xs) : xI C ρ (.rng [a, b]) = some (xs.map eI) := by rw [evI_rng, x_cons ha (x_cons hb x_nil)]; exact rng2_ok h
theorem v_rg1 {tp : Bool} {a : E} {n : Int} {xs : List Int} (ha : xE C ρ a = some (eI n)) (h : rng1 n = some xs) : xE C ρ (.rg tp [a]) = some (if tp then eU eI xs else eL eI xs) := by rw [evE_rg, x_cons ha x_nil, Option.bind_some, rng1_ok h]; rfl
theorem v_rg2 {tp : Bool} {a b : E} {m n : Int} {xs : List Int} (ha : xE C ρ a = some (eI m)) (hb : xE C ρ b = some (eI n)) (h : rng2 m n = some xs) : xE C ρ (.rg tp [a, b]) = some (if tp then eU eI xs else eL eI xs) := by rw [evE_rg, x_cons ha (x_cons hb x_nil), Option.bind_some, rng2_ok h]; rfl
theorem i_seqL {e : α → D} {a : E} {xs : List α} (ha : xE C ρ a = some (eL e xs)) : xI C ρ (.seq a) = some (xs.map e) := by rw [evI_seq, ha]; rfl
theorem i_seqU {e : α → D} {a : E} {xs : List α} (ha : xE C ρ a = some (eU e xs)) : xI C ρ (.seq a) = some (xs.map e) := by rw [evI_seq, ha]; rfl
theorem enum_map {e : α → D} (xs : List α) : enumD (xs.map e) = (enumT xs).map (eT2 eI e) := by
  unfold enumD enumT
  rw [List.length_map, List.zipWith_map_right, List.map_zipWith]; rfl
theorem i_enmL {e : α → D} {a : E} {xs : List α} (ha : xE C ρ a = some (eL e xs)) : xI C ρ (.enm a) = some ((enumT xs).map (eT2 eI e)) := by
  rw [evI_enm, ha]
  show some (enumD (xs.map e)) = _
  rw [enum_map]
theorem i_enmU {e : α → D} {a : E} {xs : List α} (ha : xE C ρ a = some (eU e xs)) : xI C ρ (.enm a) = some ((enumT xs).map (eT2 eI e)) := by
  rw [evI_enm, ha]
  show some (enumD (xs.map e)) = _
  rw [enum_map]
theorem zip_map {e : α → D} {e' : β → D} (xs : List α) (ys : List β) : zipD (xs.map e) (ys.map e') = (xs.zip ys).map (eT2 e e') := by
  unfold zipD
  rw [List.zipWith_map, List.zip, List.map_zipWith]; rfl
theorem i_zipL {e : α → D} {e' : β → D} {a b : E} {xs : List α} {ys : List β} (ha : xE C ρ a = some (eL e xs)) (hb : xE C ρ b = some (eL e' ys)) : xI C ρ (.zip a b) = some ((xs.zip ys).map (eT2 e e')) := by
  rw [evI_zip, ha, hb]
  show some (zipD (xs.map e) (ys.map e')) = _
  rw [zip_map]
theorem i_zipU {e : α → D} {e' : β → D} {a b : E} {xs : List α} {ys : List β} (ha : xE C ρ a = some (eU e xs)) (hb : xE C ρ b = some (eU e' ys)) : xI C ρ (.zip a b) = some ((xs.zip ys).map (eT2 e e')) := by
  rw [evI_zip, ha, hb]
  show some (zipD (xs.map e) (ys.map e')) = _
  rw [zip_map]
theorem i_zipLU {e : α → D} {e' : β → D} {a b : E} {xs : List α} {ys : List β} (ha : xE C ρ a = some (eL e xs)) (hb : xE C ρ b = some (eU e' ys)) : xI C ρ (.zip a b) = some ((xs.zip ys).map (eT2 e e')) := by
  rw [evI_zip, ha, hb]
  show some (zipD (xs.map e) (ys.map e')) = _
  rw [zip_map]
theorem i_zipUL {e : α → D} {e' : β → D} {a b : E} {xs : List α} {ys : List β} (ha : xE C ρ a = some (eU e xs)) (hb : xE C ρ b = some (eL e' ys)) : xI C ρ (.zip a b) = some ((xs.zip ys).map (eT2 e e')) := by
  rw [evI_zip, ha, hb]
  show some (zipD (xs.map e) (ys.map e')) = _
  rw [zip_map]
/-! comprehensions; R: the frame of a turn -/
section
variable {e : α → D} {e' : β → D} {elt c : E} {vs : List Nat} {tg : Tg} {it : It} {xs : List α} {R : α → EnvD}
theorem v_comp {g : α → β} (hi : xI C ρ it = some (xs.map e)) (hb : ∀ x, bindT tg (e x) (wipe ρ vs) = some (R x)) (he : ∀ x, xE C (R x) elt = some (e' (g x))) : xE C ρ (.comp elt vs tg it none) = some (eL e' (xs.map g)) := by
  rw [ev_comp (g := g) (e' := e') hi fun x _ => ⟨R x, hb x, he x⟩]; rfl
theorem v_compC {g : α → β} {p : α → Bool} (hi : xI C ρ it = some (xs.map e)) (hb : ∀ x, bindT tg (e x) (wipe ρ vs) = some (R x)) (hc : ∀ x, TE C (R x) c (p x)) (he : ∀ x, p x = true → xE C (R x) elt = some (e' (g x))) : xE C ρ (.comp elt vs tg it (some c)) = some (eL e' ((xs.filter p).map g)) := by
  rw [ev_compF (p := p) (g := g) (e' := e') hi fun x _ => by
    obtain ⟨d, h1, h2⟩ := hc x
    exact ⟨R x, d, hb x, h1, h2, he x⟩]; rfl
theorem comp_go {f : α → Option β} {F : D → Option (Option D)} (h : ∀ x y, f x = some y → F (e x) = some (some (e' y))) : ∀ (xs : List α) {ys : List β}, mapO f xs = some ys → compL F (xs.map e) = some (ys.map e')
  | [], ys, q => by cases q; rfl
  | x :: xs, ys, q => by
    simp only [mapO, Option.bind_eq_some_iff] at q
    obtain ⟨y, h1, zs, h2, h3⟩ := q
    cases h3
    simp only [List.map_cons, compL, h x y h1, Option.bind_some, comp_go h xs h2]
theorem v_compP {f : α → Option β} {ys : List β} (hi : xI C ρ it = some (xs.map e)) (hb : ∀ x, bindT tg (e x) (wipe ρ vs) = some (R x)) (h : mapO f xs = some ys) (he : ∀ x y, f x = some y → xE C (R x) elt = some (e' y)) : xE C ρ (.comp elt vs tg it none) = some (eL e' ys) := by
  rw [evE_comp, hi, Option.bind_some, comp_go (f := f) (e' := e') (fun x y q => ?_) xs h]
  · rfl
  · simp only [hb x, Option.bind_some, evC_none, if_true, he x y q]
theorem compC_go {p : α → Option Bool} {f : α → Option β} {F : D → Option (Option D)} (h1 : ∀ x, p x = some false → F (e x) = some none) (h2 : ∀ x y, p x = some true → f x = some y → F (e x) = some (some (e' y))) : ∀ (xs : List α) {ys : List β}, fmO p f xs = some ys → compL F (xs.map e) = some (ys.map e')
  | [], ys, q => by cases q; rfl
  | x :: xs, ys, q => by
    simp only [fmO, Option.bind_eq_some_iff] at q
    obtain ⟨k, hk, q⟩ := q
    cases k with
    | true =>
      simp only [if_true, Option.bind_eq_some_iff] at q
      obtain ⟨y, h3, zs, h4, h5⟩ := q
      cases h5
      simp only [List.map_cons, compL, h2 x y hk h3, Option.bind_some, compC_go h1 h2 xs h4]
    | false =>
      simp only [Bool.false_eq_true, if_false] at q
      simp only [List.map_cons, compL, h1 x hk, Option.bind_some, compC_go h1 h2 xs q]
theorem v_compCP {p : α → Option Bool} {f : α → Option β} {ys : List β} (hi : xI C ρ it = some (xs.map e)) (hb : ∀ x, bindT tg (e x) (wipe ρ vs) = some (R x)) (h : fmO p f xs = some ys) (hc : ∀ x k, p x = some k → TE C (R x) c k) (he : ∀ x y, p x = some true → f x = some y → xE C (R x) elt = some (e' y)) : xE C ρ (.comp elt vs tg it (some c)) = some (eL e' ys) := by
  rw [evE_comp, hi, Option.bind_some, compC_go (p := p) (f := f) (e' := e') (fun x q => ?_) (fun x y q1 q2 => ?_) xs h]
  · rfl
  · obtain ⟨d, h1, h2⟩ := hc x false q
    simp only [hb x, Option.bind_some, evC_some, h1, h2, Bool.false_eq_true, if_false]
  · obtain ⟨d, h1, h2⟩ := hc x true q1
    simp only [hb x, Option.bind_some, evC_some, h1, h2, if_true, he x y q1 q2]
/-! any, all -/
theorem gen_go {k : Bool} {f : α → Option (Option Bool)} {F : D → Option (Option Bool)} (h : ∀ x o, f x = some o → F (e x) = some o) : ∀ (xs : List α) {r : Bool}, genO k f xs = some r → genL k F (xs.map e) = some (eB r)
  | [], r, q => by cases q; rfl
  | x :: xs, r, q => by
    simp only [genO, Option.bind_eq_some_iff] at q
    obtain ⟨o, h1, h2⟩ := q
    simp only [List.map_cons, genL, h x o h1, Option.bind_some]
    cases o with
    | none => exact gen_go h xs h2
    | some t =>
      by_cases ht : t = k
      · simp only [if_pos ht] at h2 ⊢; exact gen_go h xs h2
      · simp only [if_neg ht] at h2 ⊢; cases h2; rfl
theorem v_genP {k : Bool} {f : α → Option (Option Bool)} {r : Bool} (hi : xI C ρ it = some (xs.map e)) (hb : ∀ x, bindT tg (e x) (wipe ρ vs) = some (R x)) (h : genO k f xs = some r) (he : ∀ x o, f x = some o → ∃ t, o = some t ∧ xE C (R x) elt = some (eB t)) : xE C ρ (.gen k elt vs tg it none) = some (eB r) := by
  rw [evE_gen, hi, Option.bind_some]
  refine gen_go (f := f) (fun x o q => ?_) xs h
  obtain ⟨t, rfl, q2⟩ := he x o q
  simp only [hb x, Option.bind_some, evC_none, if_true, q2]; rfl
theorem v_genCP {k : Bool} {f : α → Option (Option Bool)} {r : Bool} (hi : xI C ρ it = some (xs.map e)) (hb : ∀ x, bindT tg (e x) (wipe ρ vs) = some (R x)) (h : genO k f xs = some r) (he : ∀ x o, f x = some o → (o = none ∧ TE C (R x) c false) ∨ ∃ t, o = some t ∧ TE C (R x) c true ∧ xE C (R x) elt = some (eB t)) : xE C ρ (.gen k elt vs tg it (some c)) = some (eB r) := by
  rw [evE_gen, hi, Option.bind_some]
  refine gen_go (f := f) (fun x o q => ?_) xs h
  rcases he x o q with ⟨rfl, d, h1, h2⟩ | ⟨t, rfl, ⟨d, h1, h2⟩, q2⟩
  · simp only [hb x, Option.bind_some, evC_some, h1, h2, Bool.false_eq_true, if_false]
  · simp only [hb x, Option.bind_some, evC_some, h1, h2, if_true, q2]; rfl
theorem genO_any (p : α → Bool) : ∀ xs : List α, genO false (fun x => some (some (p x))) xs = some (xs.any p)
  | [] => rfl
  | x :: xs => by
    simp only [genO, Option.bind_some, List.any_cons]
    cases hx : p x with
    | true => simp
    | false => simp [genO_any p xs]
theorem genO_all (p : α → Bool) : ∀ xs : List α, genO true (fun x => some (some (p x))) xs = some (xs.all p)
  | [] => rfl
  | x :: xs => by
    simp only [genO, Option.bind_some, List.all_cons]
    cases hx : p x with
    | true => simp [genO_all p xs]
    | false => simp
theorem v_any {p : α → Bool} (hi : xI C ρ it = some (xs.map e)) (hb : ∀ x, bindT tg (e x) (wipe ρ vs) = some (R x)) (he : ∀ x, xE C (R x) elt = some (eB (p x))) : xE C ρ (.gen false elt vs tg it none) = some (eB (xs.any p)) :=
  v_genP hi hb (genO_any p xs) fun x o q => ⟨p x, (Option.some.inj q).symm, he x⟩
theorem v_all {p : α → Bool} (hi : xI C ρ it = some (xs.map e)) (hb : ∀ x, bindT tg (e x) (wipe ρ vs) = some (R x)) (he : ∀ x, xE C (R x) elt = some (eB (p x))) : xE C ρ (.gen true elt vs tg it none) = some (eB (xs.all p)) :=
  v_genP hi hb (genO_all p xs) fun x o q => ⟨p x, (Option.some.inj q).symm, he x⟩
end
/-! two clauses; three comparisons -/
section
variable {e : α → D} {e1 : β → D} {e' : γ → D} {elt : E} {vs vs1 : List Nat} {tg tg1 : Tg} {it it1 : It} {c c1 : Option E} {xs : List α} {R : α → EnvD} {ρ' : EnvD} {zs : List β} {R1 : β → EnvD} {l : List γ}
def comp2O (F : α → Option (List γ)) (xs : List α) : Option (List γ) := (mapO F xs).bind fun ls => if ls.flatten.length ≤ 16777216 then some ls.flatten else none
/-- what one turn of the first clause yields -/
def Turn2 (C : Oracle) (ρ' : EnvD) (c : Option E) (it1 : It) (tg1 : Tg) (vs1 : List Nat) (c1 : Option E) (elt : E) (e' : γ → D) (l : List γ) : Prop :=
  ((xC C ρ' c).bind fun k => if k then (xI C ρ' it1).bind fun zs => compL (fun z => (bindT tg1 z (wipe ρ' vs1)).bind fun ρ2 =>
        (xC C ρ2 c1).bind fun k1 => if k1 then (xE C ρ2 elt).bind fun y => some (some y) else some none) zs else some []) = some (l.map e')
theorem comp2_go {F : α → Option (List γ)} {G : D → Option (List D)} (h : ∀ x l, F x = some l → G (e x) = some (l.map e')) : ∀ (xs : List α) {ls : List (List γ)}, mapO F xs = some ls → compL2 G (xs.map e) = some (ls.flatten.map e')
  | [], ls, q => by cases q; rfl
  | x :: xs, ls, q => by
    simp only [mapO, Option.bind_eq_some_iff] at q
    obtain ⟨l, h1, r, h2, h3⟩ := q
    cases h3
    simp only [List.map_cons, compL2, h x l h1, Option.bind_some, comp2_go h xs h2, List.flatten_cons, List.map_append]
theorem v_comp2 {F : α → Option (List γ)} {ys : List γ} (hi : xI C ρ it = some (xs.map e)) (hb : ∀ x, bindT tg (e x) (wipe ρ vs) = some (R x)) (h : comp2O F xs = some ys) (hF : ∀ x l, F x = some l → Turn2 C (R x) c it1 tg1 vs1 c1 elt e' l) : xE C ρ (.comp2 elt vs vs1 tg it c tg1 it1 c1) = some (eL e' ys) := by
  unfold comp2O at h
  obtain ⟨ls, h1, h2⟩ := bind_some h
  split at h2
  · rename_i hz
    cases h2
    rw [evE_comp2, hi, Option.bind_some, comp2_go (F := F) (e' := e') (fun x l q => ?_) xs h1, Option.bind_some, List.length_map, lineOk_small hz, if_pos rfl]
    · rfl
    · have := hF x l q
      unfold Turn2 at this
      simp only [hb x, Option.bind_some]
      exact this
  · cases h2
theorem t2_no {ce : E} (h : TE C ρ' ce false) : Turn2 (γ := γ) C ρ' (some ce) it1 tg1 vs1 c1 elt e' [] := by
  obtain ⟨d, h1, h2⟩ := h
  simp only [Turn2, evC_some, h1, h2, Option.bind_some, Bool.false_eq_true, if_false]; rfl
theorem t2_yes {ce : E} (h : TE C ρ' ce true) (k : Turn2 C ρ' none it1 tg1 vs1 c1 elt e' l) : Turn2 C ρ' (some ce) it1 tg1 vs1 c1 elt e' l := by
  obtain ⟨d, h1, h2⟩ := h
  simp only [Turn2, evC_none, Option.bind_some, if_true] at k
  simp only [Turn2, evC_some, h1, h2, Option.bind_some, if_true]
  exact k
theorem t2_map {f : β → Option γ} (hi : xI C ρ' it1 = some (zs.map e1)) (hb : ∀ z, bindT tg1 (e1 z) (wipe ρ' vs1) = some (R1 z)) (h : mapO f zs = some l) (he : ∀ z y, f z = some y → xE C (R1 z) elt = some (e' y)) : Turn2 C ρ' none it1 tg1 vs1 none elt e' l := by
  simp only [Turn2, evC_none, hi, Option.bind_some, if_true]
  exact comp_go (f := f) (fun z y q => by simp only [hb z, Option.bind_some, he z y q]) zs h
theorem t2_fm {ce : E} {p : β → Option Bool} {f : β → Option γ} (hi : xI C ρ' it1 = some (zs.map e1)) (hb : ∀ z, bindT tg1 (e1 z) (wipe ρ' vs1) = some (R1 z)) (h : fmO p f zs = some l) (hc : ∀ z k, p z = some k → TE C (R1 z) ce k) (he : ∀ z y, p z = some true → f z = some y → xE C (R1 z) elt = some (e' y)) : Turn2 C ρ' none it1 tg1 vs1 (some ce) elt e' l := by
  simp only [Turn2, evC_none, hi, Option.bind_some, if_true]
  refine compC_go (p := p) (f := f) (fun z q => ?_) (fun z y q1 q2 => ?_) zs h
  · obtain ⟨d, h1, h2⟩ := hc z false q
    simp only [hb z, Option.bind_some, evC_some, h1, h2, Bool.false_eq_true, if_false]
  · obtain ⟨d, h1, h2⟩ := hc z true q1
    simp only [hb z, Option.bind_some, evC_some, h1, h2, if_true, he z y q1 q2]
theorem v_chain3 {op op' op2 : CmpOp} {a b c d : E} {x y z w : D} {k k' k2 : Bool} (ha : xE C ρ a = some x) (hb : xE C ρ b = some y) (hc : xE C ρ c = some z) (hd : xE C ρ d = some w) (h : cmpD op x y = some k) (h' : cmpD op' y z = some k') (h2 : cmpD op2 z w = some k2) : xE C ρ (.chain3 op op' op2 a b c d) = some (eB (k && (k' && k2))) := by
  rw [evE_chain3, ha, hb, Option.bind_some, Option.bind_some, h, hc, hd]
  cases k with
  | true =>
    simp only [Option.bind_some, if_true]
    rw [h']
    cases k' with
    | true => simp only [Option.bind_some, if_true]; rw [h2]; rfl
    | false => rfl
  | false => rfl
end
end
end Ev
set_option maxHeartbeats 4000000
namespace Ev
open PySem PySem.Spec PyProof.Rows L2
/-! ### runs of statements -/
inductive Out where
  | nx (p : EnvD) | go (p : EnvD) | bk (p : EnvD) | rt (d : D)
def Run (C : Oracle) (M : List Nat) (ρ : EnvD) (b : List S) : Out → Prop
  | .nx p => ∃ q, xSs C M ρ b = some (.nx, q) ∧ Le p q
  | .go p => ∃ fl q, xSs C M ρ b = some (fl, q) ∧ (fl = .nx ∨ fl = .ct) ∧ Le p q
  | .bk p => ∃ q, xSs C M ρ b = some (.bk, q) ∧ Le p q
  | .rt d => ∃ q, xSs C M ρ b = some (.rt d, q)
section
variable {C : Oracle} {ρ ρ' p q : EnvD} {M : List Nat} {a b rest : List S} {o : Out} {s : S} {α β σ : Type} {e : α → D} {d : D}
theorem xSs_mono {ss : List S} {fl : Fl} {p' : EnvD} (a : Le p q) (h : xSs C M p ss = some (fl, p')) : ∃ q', xSs C M q ss = some (fl, q') ∧ Le p' q' := by
  rw [xSs_eq] at h ⊢
  exact evSs_mono C M ss p q fl p' a h
theorem Run.mono (a : Le p q) (h : Run C M p b o) : Run C M q b o := by
  cases o with
  | nx r => obtain ⟨p', h1, h2⟩ := h; obtain ⟨q', h3, h4⟩ := xSs_mono a h1; exact ⟨q', h3, h2.trans h4⟩
  | go r => obtain ⟨fl, p', h1, h5, h2⟩ := h; obtain ⟨q', h3, h4⟩ := xSs_mono a h1; exact ⟨fl, q', h3, h5, h2.trans h4⟩
  | bk r => obtain ⟨p', h1, h2⟩ := h; obtain ⟨q', h3, h4⟩ := xSs_mono a h1; exact ⟨q', h3, h2.trans h4⟩
  | rt d => obtain ⟨p', h1⟩ := h; obtain ⟨q', h3, h4⟩ := xSs_mono a h1; exact ⟨q', h3⟩
/-- the same outcome -/
theorem run_eq {b' : List S} (h : xSs C M ρ b = xSs C M ρ' b') (k : Run C M ρ' b' o) : Run C M ρ b o := by
  cases o <;> (unfold Run at k ⊢; rw [h]; exact k)
theorem r_nil (h : Le p ρ) : Run C M ρ [] (.nx p) := ⟨ρ, evSs_nil, h⟩
theorem r_nilg (h : Le p ρ) : Run C M ρ [] (.go p) := ⟨.nx, ρ, evSs_nil, .inl rfl, h⟩
theorem r_step (h : xS C M ρ s = some (.nx, ρ')) (k : Run C M ρ' rest o) : Run C M ρ (s :: rest) o := run_eq (by rw [evSs_cons, h, Option.bind_some, andThen_nx]) k
theorem r_pass (k : Run C M ρ rest o) : Run C M ρ (.pass :: rest) o := r_step evS_pass k
theorem r_asg {i : Nat} {E : E} (h : xE C ρ E = some d) (ok : bindOK M (.nm i) E d = true) (k : Run C M (ρ.set i (some d)) rest o) : Run C M ρ (.asg (.nm i) E :: rest) o :=
  r_step (by rw [evS_asg, h, Option.bind_some, if_pos ok]; rfl) k
theorem r_asgT {ts : List Nat} {E : E} (h : xE C ρ E = some d) (ok : bindOK M (.tup ts) E d = true) (hb : bindT (.tup ts) d ρ = some ρ') (k : Run C M ρ' rest o) : Run C M ρ (.asg (.tup ts) E :: rest) o :=
  r_step (by rw [evS_asg, h, Option.bind_some, if_pos ok, hb]; rfl) k
/-- an owned list goes over to another name -/
theorem r_mov {i j : Nat} (h : ρ[j]? = some (some d)) (hi : M.contains i = true) (hj : M.contains j = true) (hij : i ≠ j) (hd : isLst d = true) (hn : d.imm = false) (k : Run C M ((ρ.set i (some d)).set j none) rest o) : Run C M ρ (.asg (.nm i) (.var j) :: rest) o := by
  have h1 : xE C ρ (.var j) = some d := by rw [evE_var, h]; rfl
  have hk : ¬ bindOK M (.nm i) (.var j) d = true := by
    unfold bindOK
    rw [if_neg (by simp only [freeT, Tg.slots, List.all_cons, List.all_nil, hi]; simp)]
    simp [fr, hn]
  exact r_step (by rw [evS_asg, h1, Option.bind_some, if_neg hk]; simp only [mvD]; rw [hj, hd]; simp [hij]) k
/-- an owned list goes over to a name that owns nothing -/
theorem r_rel {i j : Nat} (h : ρ[j]? = some (some d)) (hi : M.contains i = false) (hj : M.contains j = true) (hij : i ≠ j) (hd : isLst d = true) (hn : d.imm = false) (hc : clean M (.var j) = false) (k : Run C M ((ρ.set i (some d)).set j none) rest o) : Run C M ρ (.asg (.nm i) (.var j) :: rest) o := by
  have h1 : xE C ρ (.var j) = some d := by rw [evE_var, h]; rfl
  have hk : ¬ bindOK M (.nm i) (.var j) d = true := by
    unfold bindOK
    rw [if_pos (by simp only [freeT, Tg.slots, List.all_cons, List.all_nil, hi]; simp), hc]
    simp [fr, hn]
  exact r_step (by rw [evS_asg, h1, Option.bind_some, if_neg hk]; simp only [mvD]; rw [hj, hd]; simp [hij]) k
theorem size_lt {n : Nat} (h : n < 16777216) : n < sizeLine := by rw [sizeLine_eq]; exact h
theorem r_app {i : Nat} {E : E} {xs ys : List α} {v : α} (h : xE C ρ E = some (e v)) (hi : ρ[i]? = some (some (eL e xs))) (hm : M.contains i = true) (hf : ((e v).imm || fr E (e v)) = true) (ha : appO xs v = some ys)
    (k : Run C M (ρ.set i (some (eL e ys))) rest o) : Run C M ρ (.app i E :: rest) o := by
  unfold appO at ha
  split at ha
  · rename_i hl
    cases ha
    refine r_step ?_ k
    have hl' : (xs.map e).length < sizeLine := by rw [List.length_map]; exact size_lt hl
    rw [evS_app, h, Option.bind_some, hi]
    simp only [Option.bind_some, id, eL]
    rw [if_pos (by rw [hm, hf, decide_eq_true hl']; rfl), List.map_append]; rfl
  · cases ha
theorem r_ext {i : Nat} {E : E} {xs ys zs : List α} [Im e] (h : xE C ρ E = some (eL e zs)) (hi : ρ[i]? = some (some (eL e xs))) (hm : M.contains i = true) (ha : catO xs zs = some ys)
    (k : Run C M (ρ.set i (some (eL e ys))) rest o) : Run C M ρ (.ext i E :: rest) o := by
  unfold catO at ha
  split at ha
  · rename_i hl
    cases ha
    refine r_step ?_ k
    have hl' : (xs.map e).length + (zs.map e).length ≤ sizeLine := by rw [List.length_map, List.length_map, sizeLine_eq]; exact hl
    rw [evS_ext, h, Option.bind_some, hi]
    simp only [Option.bind_some, id, eL, extD]
    rw [if_pos (by rw [hm, imms_map Im.im, decide_eq_true hl']; rfl), List.map_append]
  · cases ha
theorem evS_sub {i : Nat} {k E : E} : xS C M ρ (.sub i k E) = (xE C ρ E).bind fun d => (xE C ρ k).bind fun kd => (ρ[i]?.bind id).bind fun l => stoD M ρ i (d.imm || fr E d) d kd l := by simp only [xS_eq, xE_eq, evS] <;> rfl
theorem r_sub {i : Nat} {K E : E} {xs ys : List α} {j : Int} {v : α} (h : xE C ρ E = some (e v)) (hk : xE C ρ K = some (eI j)) (hi : ρ[i]? = some (some (eL e xs))) (hm : M.contains i = true) (hf : ((e v).imm || fr E (e v)) = true) (ha : setO xs j v = some ys)
    (k : Run C M (ρ.set i (some (eL e ys))) rest o) : Run C M ρ (.sub i K E :: rest) o := by
  unfold setO at ha
  obtain ⟨n, hn, rfl⟩ := Option.map_eq_some_iff.mp ha
  refine r_step ?_ k
  rw [evS_sub, h, hk, hi]
  simp only [Option.bind_some, id, stoD, eL, eI, intOf, List.length_map, hn]
  rw [if_pos (by rw [hm, hf]; rfl), List.map_set]
def rOK (M : List Nat) (E : E) (d : D) : Bool := d.imm || fr E d || (match E with | .var i => M.contains i | _ => false)
theorem evS_ret' {E : E} : xS C M ρ (.ret E) = (xE C ρ E).bind fun d => if rOK M E d = true then some (.rt d, ρ) else (xE C (keepD M 0 ρ) E).bind fun d' => some (.rt d', ρ) := by rw [evS_ret]; rfl
theorem r_ret {E : E} (h : xE C ρ E = some d) (ok : rOK M E d = true) : Run C M ρ (.ret E :: rest) (.rt d) :=
  ⟨ρ, by rw [evSs_cons, evS_ret', h, Option.bind_some, if_pos ok]; rfl⟩
theorem r_retK {E : E} (h : xE C (keepD M 0 ρ) E = some d) : Run C M ρ (.ret E :: rest) (.rt d) := by
  have h1 : xE C ρ E = some d := by rw [xE_eq] at h ⊢; exact evE_mono C E (Le.keep_le ρ 0) h
  refine ⟨ρ, ?_⟩
  rw [evSs_cons, evS_ret', h1, Option.bind_some]
  split
  · rfl
  · rw [h]; rfl
theorem r_retN : Run C M ρ (.retN :: rest) (.rt .non) := ⟨ρ, by rw [evSs_cons, evS_retN]; rfl⟩
theorem xSs_append {a r : List S} : ∀ {ρ : EnvD}, xSs C M ρ (a ++ r) = (xSs C M ρ a).bind (andThen C M r) := by
  induction a with
  | nil => intro ρ; rw [List.nil_append, evSs_nil]; rfl
  | cons s a ih =>
    intro ρ
    rw [List.cons_append, evSs_cons, evSs_cons]
    cases hs : xS C M ρ s with
    | none => rfl
    | some x =>
      obtain ⟨fl, ρ1⟩ := x
      cases fl with
      | nx => simp only [Option.bind_some, andThen_nx]; exact ih
      | _ => rfl
theorem r_ift {c : E} (hc : TE C ρ c true) (k : Run C M ρ (a ++ rest) o) : Run C M ρ (.ite c a b :: rest) o := by
  obtain ⟨d, h1, h2⟩ := hc
  refine run_eq ?_ k
  rw [evSs_cons, evS_ite, h1, Option.bind_some, h2, xSs_append]; rfl
theorem r_iff {c : E} (hc : TE C ρ c false) (k : Run C M ρ (b ++ rest) o) : Run C M ρ (.ite c a b :: rest) o := by
  obtain ⟨d, h1, h2⟩ := hc
  refine run_eq ?_ k
  rw [evSs_cons, evS_ite, h1, Option.bind_some, h2, xSs_append]; rfl
theorem r_ift0 {c : E} (hc : TE C ρ c true) (k : Run C M ρ a o) : Run C M ρ [.ite c a b] o := r_ift hc (by rw [List.append_nil]; exact k)
theorem r_iff0 {c : E} (hc : TE C ρ c false) (k : Run C M ρ b o) : Run C M ρ [.ite c a b] o := r_iff hc (by rw [List.append_nil]; exact k)
theorem r_join (h : Run C M ρ [s] (.nx p)) (k : Run C M p rest o) : Run C M ρ (s :: rest) o := by
  obtain ⟨q, h1, h2⟩ := h
  refine run_eq ?_ (k.mono h2)
  rw [show s :: rest = [s] ++ rest from rfl, xSs_append, h1]; rfl
/-- the frame may be forgotten in part -/
theorem r_less (h : Le p ρ) (k : Run C M p b o) : Run C M ρ b o := k.mono h
theorem r_brk (h : Le p ρ) : Run C M ρ (.brk :: rest) (.bk p) := ⟨ρ, by rw [evSs_cons, evS_brk]; rfl, h⟩
theorem r_cnt (h : Le p ρ) : Run C M ρ (.cnt :: rest) (.go p) := ⟨.ct, ρ, by rw [evSs_cons, evS_cnt]; rfl, .inr rfl, h⟩
/-! loops -/
theorem forD_nx {t : Tg} {body : EnvD → Option (Fl × EnvD)} {x : D} {xs : List D} {p1 p2 : EnvD} {fl : Fl} (hb : bindT t x p = some p1) (h : body p1 = some (fl, p2)) (hf : fl = .nx ∨ fl = .ct) : forD t body (x :: xs) p = forD t body xs p2 := by
  rcases hf with rfl | rfl <;> simp only [forD, hb, h, Option.bind_some]
def stpO (P : σ → EnvD) (e' : β → D) : Stp σ β → Out
  | .nx s => .go (P s)
  | .bk s => .bk (P s)
  | .rt r => .rt (e' r)
abbrev StpRun (C : Oracle) (M : List Nat) (ρ : EnvD) (b : List S) (P : σ → EnvD) (e' : β → D) (g : Stp σ β) : Prop := Run C M ρ b (stpO P e' g)
theorem loop_go {t : Tg} {P : σ → EnvD} {e' : β → D} {f : σ → α → Option (Stp σ β)} (hb : ∀ x s g, f s x = some g → ∃ ρ1, bindT t (e x) (P s) = some ρ1 ∧ StpRun C M ρ1 b P e' g) :
    ∀ (xs : List α) (s0 : σ) (res : Stp σ β) (ρ : EnvD), Le (P s0) ρ → loopO f s0 xs = some res → match res with
      | .nx s => ∃ q, forD t (fun ρ => xSs C M ρ b) (xs.map e) ρ = some (.nx, q) ∧ Le (P s) q
      | .bk _ => False
      | .rt r => ∃ q, forD t (fun ρ => xSs C M ρ b) (xs.map e) ρ = some (.rt (e' r), q)
  | [], s0, res, ρ, h0, hf => by cases hf; exact ⟨ρ, rfl, h0⟩
  | x :: xs, s0, res, ρ, h0, hf => by
    simp only [loopO, Option.bind_eq_some_iff] at hf
    obtain ⟨g, h1, h2⟩ := hf
    obtain ⟨ρ1, hb1, hr⟩ := hb x s0 g h1
    obtain ⟨ρ2, hb2, l2⟩ := h0.bind hb1
    rw [List.map_cons]
    cases g with
    | nx s =>
      obtain ⟨fl, q, h3, h4, h5⟩ := hr
      obtain ⟨q', h6, h7⟩ := xSs_mono l2 h3
      rw [forD_nx hb2 h6 h4]
      exact loop_go hb xs s res q' (h5.trans h7) h2
    | bk s =>
      obtain ⟨q, h3, h5⟩ := hr
      obtain ⟨q', h6, h7⟩ := xSs_mono l2 h3
      cases h2
      exact ⟨q', by simp only [forD, hb2, h6, Option.bind_some], h5.trans h7⟩
    | rt r =>
      obtain ⟨q, h3⟩ := hr
      obtain ⟨q', h6, h7⟩ := xSs_mono l2 h3
      cases h2
      exact ⟨q', by simp only [forD, hb2, h6, Option.bind_some]⟩
theorem for_nx {t : Tg} {it : It} {xs : List D} (hx : xI C ρ it = some xs) (hok : forOK C M ρ t it b xs = true) (h : forD t (fun ρ => xSs C M ρ b) xs ρ = some (.nx, q)) : xS C M ρ (.for_ t it b) = some (.nx, q) := by
  rw [ev_for hx hok, h]
theorem r_loop {t : Tg} {it : It} {xs : List α} {P : σ → EnvD} {e' : β → D} {f : σ → α → Option (Stp σ β)} {s0 : σ} {res : Stp σ β} (hx : xI C ρ it = some (xs.map e)) (hok : forOK C M ρ t it b (xs.map e) = true) (h0 : Le (P s0) ρ) (hf : loopO f s0 xs = some res)
    (hb : ∀ x s g, f s x = some g → ∃ ρ1, bindT t (e x) (P s) = some ρ1 ∧ StpRun C M ρ1 b P e' g) (kn : ∀ s, res = .nx s → Run C M (P s) rest o) (kr : ∀ r, res = .rt r → o = .rt (e' r)) : Run C M ρ (.for_ t it b :: rest) o := by
  have h := loop_go hb xs s0 res ρ h0 hf
  cases res with
  | nx s =>
    obtain ⟨q, h1, h2⟩ := h
    exact r_step (for_nx hx hok h1) ((kn s rfl).mono h2)
  | bk s => exact h.elim
  | rt r =>
    obtain ⟨q, h1⟩ := h
    rw [kr r rfl]
    exact ⟨q, by rw [evSs_cons, ev_for hx hok, h1]; rfl⟩
theorem foldO_loop {f : σ → α → Option σ} : ∀ (xs : List α) (s s1 : σ), foldO f s xs = some s1 → loopO (β := Unit) (fun s x => (f s x).map .nx) s xs = some (.nx s1)
  | [], s, s1, h => by cases h; rfl
  | x :: xs, s, s1, h => by
    simp only [foldO, Option.bind_eq_some_iff] at h
    obtain ⟨s', h1, h2⟩ := h
    simp only [loopO, h1, Option.map_some, Option.bind_some]
    exact foldO_loop xs s' s1 h2
theorem r_fold {t : Tg} {it : It} {xs : List α} {P : σ → EnvD} {f : σ → α → Option σ} {s0 s1 : σ} (hx : xI C ρ it = some (xs.map e)) (hok : forOK C M ρ t it b (xs.map e) = true) (h0 : Le (P s0) ρ) (hf : foldO f s0 xs = some s1)
    (hb : ∀ x s s', f s x = some s' → ∃ ρ1, bindT t (e x) (P s) = some ρ1 ∧ Run C M ρ1 b (.go (P s'))) (k : Run C M (P s1) rest o) : Run C M ρ (.for_ t it b :: rest) o := by
  refine r_loop (e' := fun _ : Unit => D.non) hx hok h0 (foldO_loop xs s0 s1 hf) (fun x s g hg => ?_) (fun s hs => by cases hs; exact k) fun r hr => by cases hr
  obtain ⟨s', h1, rfl⟩ := Option.map_eq_some_iff.mp hg
  exact hb x s s' h1
theorem findO_loop {f : α → Option (Option β)} : ∀ (xs : List α) (res : Option β), findO f xs = some res → loopO (fun (_ : Unit) x => (f x).map fun o => match o with | none => Stp.nx () | some r => .rt r) () xs = some (match res with | none => .nx () | some r => .rt r)
  | [], res, h => by cases h; rfl
  | x :: xs, res, h => by
    simp only [findO, Option.bind_eq_some_iff] at h
    obtain ⟨o, h1, h2⟩ := h
    simp only [loopO, h1, Option.map_some, Option.bind_some]
    cases o with
    | none => exact findO_loop xs res h2
    | some r => cases h2; rfl
def fndO (p : EnvD) (e' : β → D) : Option β → Out
  | none => .go p
  | some r => .rt (e' r)
abbrev FndRun (C : Oracle) (M : List Nat) (ρ : EnvD) (b : List S) (p : EnvD) (e' : β → D) (g : Option β) : Prop := Run C M ρ b (fndO p e' g)
theorem r_find {t : Tg} {it : It} {xs : List α} {e' : β → D} {f : α → Option (Option β)} {res : Option β} (hx : xI C ρ it = some (xs.map e)) (hok : forOK C M ρ t it b (xs.map e) = true) (h0 : Le p ρ) (hf : findO f xs = some res)
    (hb : ∀ x g, f x = some g → ∃ ρ1, bindT t (e x) p = some ρ1 ∧ FndRun C M ρ1 b p e' g) (kn : res = none → Run C M p rest o) (kr : ∀ r, res = some r → o = .rt (e' r)) : Run C M ρ (.for_ t it b :: rest) o := by
  refine r_loop (P := fun _ : Unit => p) (e' := e') hx hok h0 (findO_loop xs res hf) (fun x s g hg => ?_) (fun s hs => ?_) fun r hr => ?_
  · obtain ⟨o', h1, rfl⟩ := Option.map_eq_some_iff.mp hg
    obtain ⟨ρ1, h2, h3⟩ := hb x o' h1
    refine ⟨ρ1, h2, ?_⟩
    cases o' <;> exact h3
  · cases res with
    | none => exact kn rfl
    | some r => cases hs
  · cases res with
    | none => cases hr
    | some r' => cases hr; exact kr r rfl
theorem while_go {c : E} {P : σ → EnvD} {e' : β → D} {cf : σ → Option Bool} {f : σ → Option (Stp σ β)} (hc : ∀ s k, cf s = some k → TE C (P s) c k) (hb : ∀ s g, cf s = some true → f s = some g → StpRun C M (P s) b P e' g) :
    ∀ (n : Nat) (s0 : σ) (res : Stp σ β) (ρ : EnvD), Le (P s0) ρ → whileO cf f n s0 = some res → match res with
      | .nx s => ∃ q, whileD (fun ρ => (xE C ρ c).bind truthD) (fun ρ => xSs C M ρ b) n ρ = some (.nx, q) ∧ Le (P s) q
      | .bk _ => False
      | .rt r => ∃ q, whileD (fun ρ => (xE C ρ c).bind truthD) (fun ρ => xSs C M ρ b) n ρ = some (.rt (e' r), q)
  | 0, s0, res, ρ, h0, hf => by cases hf
  | n + 1, s0, res, ρ, h0, hf => by
    simp only [whileO, Option.bind_eq_some_iff] at hf
    obtain ⟨k, h1, h2⟩ := hf
    obtain ⟨d, h3, h4⟩ := hc s0 k h1
    have h5 : xE C ρ c = some d := by rw [xE_eq] at h3 ⊢; exact evE_mono C c h0 h3
    cases k with
    | false =>
      simp only [Bool.false_eq_true, if_false] at h2
      cases h2
      exact ⟨ρ, by simp only [whileD, h5, Option.bind_some, h4, Bool.false_eq_true, if_false], h0⟩
    | true =>
      simp only [if_true, Option.bind_eq_some_iff] at h2
      obtain ⟨g, h6, h7⟩ := h2
      have hr := hb s0 g h1 h6
      cases g with
      | nx s =>
        obtain ⟨fl, q, h8, h9, h10⟩ := hr
        obtain ⟨q', h11, h12⟩ := xSs_mono h0 h8
        have ih := while_go hc hb n s res q' (h10.trans h12) h7
        have hw : whileD (fun ρ => (xE C ρ c).bind truthD) (fun ρ => xSs C M ρ b) (n + 1) ρ = whileD (fun ρ => (xE C ρ c).bind truthD) (fun ρ => xSs C M ρ b) n q' := by
          rcases h9 with rfl | rfl <;> simp only [whileD, h5, Option.bind_some, h4, if_true, h11]
        rw [hw]; exact ih
      | bk s =>
        obtain ⟨q, h8, h10⟩ := hr
        obtain ⟨q', h11, h12⟩ := xSs_mono h0 h8
        cases h7
        exact ⟨q', by simp only [whileD, h5, Option.bind_some, h4, if_true, h11], h10.trans h12⟩
      | rt r =>
        obtain ⟨q, h8⟩ := hr
        obtain ⟨q', h11, h12⟩ := xSs_mono h0 h8
        cases h7
        exact ⟨q', by simp only [whileD, h5, Option.bind_some, h4, if_true, h11]⟩
theorem evS_while {c : E} : xS C M ρ (.while_ c b) = whileD (fun ρ => (xE C ρ c).bind truthD) (fun ρ => xSs C M ρ b) fuel ρ := by simp only [xS_eq, xSs_eq, xE_eq, evS]
theorem r_while {c : E} {P : σ → EnvD} {e' : β → D} {cf : σ → Option Bool} {f : σ → Option (Stp σ β)} {s0 : σ} {res : Stp σ β} (h0 : Le (P s0) ρ) (hf : whileO cf f fuel s0 = some res) (hc : ∀ s k, cf s = some k → TE C (P s) c k)
    (hb : ∀ s g, cf s = some true → f s = some g → StpRun C M (P s) b P e' g) (kn : ∀ s, res = .nx s → Run C M (P s) rest o) (kr : ∀ r, res = .rt r → o = .rt (e' r)) : Run C M ρ (.while_ c b :: rest) o := by
  have h := while_go hc hb fuel s0 res ρ h0 hf
  cases res with
  | nx s =>
    obtain ⟨q, h1, h2⟩ := h
    exact r_step (by rw [evS_while, h1]) ((kn s rfl).mono h2)
  | bk s => exact h.elim
  | rt r =>
    obtain ⟨q, h1⟩ := h
    rw [kr r rfl]
    exact ⟨q, by rw [evSs_cons, evS_while, h1]; rfl⟩
/-! ownership -/
theorem b_imm {t : Tg} {E : E} (h : d.imm = true) : bindOK M t E d = true := by
  unfold bindOK; rw [h]; split <;> simp
theorem b_clean {t : Tg} {E : E} (h1 : freeT M t = true) (h2 : clean M E = true) : bindOK M t E d = true := by
  unfold bindOK; rw [if_pos h1, h2]; rfl
theorem b_fr {t : Tg} {E : E} (h1 : freeT M t = true) (h2 : fr E d = true) : bindOK M t E d = true := by
  unfold bindOK; rw [if_pos h1, h2]; simp
theorem b_own {i : Nat} {E : E} (h2 : fr E d = true) (h3 : isLst d = true) : bindOK M (.nm i) E d = true := by
  unfold bindOK
  split
  · rw [h2]; simp
  · rw [h2, h3]; simp
/-- what E makes is new if its parts cannot be changed -/
def E.makes : E → Bool
  | .var _ => false
  | .ix _ _ => false
  | .dget _ _ => false
  | .dgetx _ _ _ => false
  | .ite _ a b => a.makes && b.makes
  | .and _ _ => false
  | .or _ _ => false
  | .op o _ => o.new
  | _ => true
theorem fr_1a : ∀ (E : E) (d : D), E.makes = true → d.imm1 = true → fr E d = true
  | .var _, _, h, _ => by cases h
  | .ix _ _, _, h, _ => by cases h
  | .dget _ _, _, h, _ => by cases h
  | .dgetx _ _ _, _, h, _ => by cases h
  | .and _ _, _, h, _ => by cases h
  | .or _ _, _, h, _ => by cases h
  | .ite c a b, d, h, hd => by
    simp only [E.makes, Bool.and_eq_true] at h
    simp only [fr, Bool.or_eq_true, Bool.and_eq_true]
    exact .inr ⟨fr_1a a d h.1 hd, fr_1a b d h.2 hd⟩
  | .op o es, d, h, hd => (if_pos (show o.new = true from h)).trans hd
  | .call f es, d, h, hd => rfl
  | .comp elt vs tg it c, d, h, hd => by
    cases d with
    | lst ds => simp only [fr, Bool.or_eq_true]; left; simpa [D.imm1] using hd
    | _ => exact hd
  | .comp2 elt vs vs1 tg it c tg1 it1 c1, d, h, hd => by
    cases d with
    | lst ds => simp only [fr, Bool.or_eq_true]; left; simpa [D.imm1] using hd
    | _ => exact hd
  | .cst _, _, _, hd => hd
  | .bin _ _ _, _, _, hd => hd
  | .neg _, _, _, hd => hd
  | .rev _, _, _, hd => hd
  | .rg _ _, _, _, hd => hd
  | .not _, _, _, hd => hd
  | .cmp _ _ _, _, _, hd => hd
  | .chain _ _ _ _ _, _, _, hd => hd
  | .tup _, _, _, hd => hd
  | .lst _, _, _, hd => hd
  | .sl _ _ _, _, _, hd => hd
  | .bf _ _, _, _, hd => hd
  | .isin _ _, _, _, hd => hd
  | .sset _ _, _, _, hd => hd
  | .dnew, _, _, hd => hd
  | .dsing _ _, _, _, hd => hd
  | .gen _ _ _ _ _ _, _, _, hd => hd
  | .chain3 _ _ _ _ _ _ _, _, _, hd => hd
theorem fr_1 {E : E} (h : E.makes = true) (hd : d.imm1 = true) : fr E d = true := fr_1a E d h hd
theorem fr_call {f : Nat} {es : List E} : fr (.call f es) d = true := rfl
theorem fr_comp {elt : E} {vs : List Nat} {tg : Tg} {it : It} {c : Option E} {xs : List α} (h : ∀ x, fr elt (e x) = true) : fr (.comp elt vs tg it c) (eL e xs) = true := by
  show (D.imms _ || (xs.map e).all (fr elt)) = true
  rw [Bool.or_eq_true]; right
  simp only [List.all_map, List.all_eq_true]
  intro x _; exact h x
theorem k_imm {E : E} (h : d.imm = true) : rOK M E d = true := by unfold rOK; rw [h]; rfl
theorem k_fr {E : E} (h : fr E d = true) : rOK M E d = true := by unfold rOK; rw [h]; simp
theorem k_var {i : Nat} (h : M.contains i = true) : rOK M (.var i) d = true := by simp only [rOK, h]; simp
theorem a_imm {E : E} (h : d.imm = true) : (d.imm || fr E d) = true := by rw [h]; rfl
theorem a_fr {E : E} (h : fr E d = true) : (d.imm || fr E d) = true := by rw [h]; simp
theorem w_clean {t : Tg} {it : It} {xs : List α} [Im e] (h : cleanI M it = true) : forOK C M ρ t it b (xs.map e) = true := by simp [forOK, h, imms_map Im.im]
theorem w_free {t : Tg} {it : It} {xs : List D} (h : cleanI M it = true) (h2 : freeT M t = true) : forOK C M ρ t it b xs = true := by simp [forOK, h, h2]
theorem w_rng {t : Tg} {es : List E} {xs : List α} [Im e] : forOK C M ρ t (.rng es) b (xs.map e) = true := forOK_rng (imms_map Im.im _)
theorem w_imm {t : Tg} {E : E} {xs : List α} [Im e] (h1 : xE C ρ E = some d) (h2 : (d.imm || fr E d) = true) : forOK C M ρ t (.seq E) b (xs.map e) = true := forOK_imm (imms_map Im.im _) h1 h2
theorem w_var {t : Tg} {i : Nat} {xs : List α} [Im e] (h1 : ρ[i]? = some (some d)) (h2 : M.contains i = true) (h3 : (t.slots.contains i || touchs i b) = false) : forOK C M ρ t (.seq (.var i)) b (xs.map e) = true := by
  have hv : evE C ρ (.var i) = some d := by simp only [evE, h1]; rfl
  have hp : partOK C M ρ t b (.var i) = true := by simp only [partOK, hv, h2, h3]; simp
  simp [forOK, It.parts, hp, imms_map Im.im]
theorem w_enmvar {t : Tg} {i : Nat} {xs : List α} [Im e] (h1 : ρ[i]? = some (some d)) (h2 : M.contains i = true) (h3 : (t.slots.contains i || touchs i b) = false) : forOK C M ρ t (.enm (.var i)) b (xs.map e) = true := by
  have hv : evE C ρ (.var i) = some d := by simp only [evE, h1]; rfl
  have hp : partOK C M ρ t b (.var i) = true := by simp only [partOK, hv, h2, h3]; simp
  simp [forOK, It.parts, hp, imms_map Im.im]
theorem w_enmimm {t : Tg} {E : E} {xs : List α} [Im e] (h1 : xE C ρ E = some d) (h2 : (d.imm || fr E d) = true) : forOK C M ρ t (.enm E) b (xs.map e) = true := by
  rw [xE_eq] at h1
  have hp : partOK C M ρ t b E = true := by simp only [partOK, h1, h2]; simp
  simp [forOK, It.parts, hp, imms_map Im.im]
end
/-! ### calls -/
theorem call_run {defs : List DefI} {i : DefI} {K k f : Nat} {ds : List D} {d : D} (h : defs[f]? = some i) (hl : ds.length = i.ps.length) (hs : okStart i.M ds = true) (hk : K + 1 ≤ k) (hr : ∀ m, K ≤ m → Run (callD defs m) i.M (start0 i.N ds) i.body (.rt d)) : callD defs k f ds = some d := by
  obtain ⟨m, rfl⟩ : ∃ m, k = m + 1 := ⟨k - 1, by omega⟩
  obtain ⟨q, h1⟩ := hr m (by omega)
  rw [call_eq h hl hs, h1]; rfl
theorem call_run0 {defs : List DefI} {i : DefI} {K k f : Nat} {ds : List D} {p : EnvD} (h : defs[f]? = some i) (hl : ds.length = i.ps.length) (hs : okStart i.M ds = true) (hk : K + 1 ≤ k) (hr : ∀ m, K ≤ m → Run (callD defs m) i.M (start0 i.N ds) i.body (.nx p)) : callD defs k f ds = some .non := by
  obtain ⟨m, rfl⟩ : ∃ m, k = m + 1 := ⟨k - 1, by omega⟩
  obtain ⟨q, h1, _⟩ := hr m (by omega)
  rw [call_eq h hl hs, h1]; rfl
end Ev
set_option maxHeartbeats 4000000
namespace Ev
open PySem PySem.Spec PyProof.Rows L2
section
variable {α β γ δ : Type} {C : Oracle} {ρ : EnvD} {e : α → D}
def letO (v : α) (f : α → Option β) : Option β := f v
theorem letO_some {v : α} {f : α → Option β} {r : β} (h : letO v f = some r) : ∃ x, v = x ∧ f x = some r := ⟨v, rfl, h⟩
theorem v_asE {E : E} {v x : α} (q : v = x) (h : xE C ρ E = some (e v)) : xE C ρ E = some (e x) := q ▸ h
theorem vt {E : E} {d : D} (d' : D) (h : xE C ρ E = some d) (q : d = d' := by rfl) : xE C ρ E = some d' := q ▸ h
theorem v_unO {E : E} {o : Option α} {x : α} (h : xE C ρ E = some (eO e o)) (q : o = some x) : xE C ρ E = some (e x) := by subst q; exact h
theorem te_t {E : E} {k : Bool} (h : TE C ρ E k) (q : k = true) : TE C ρ E true := q ▸ h
theorem te_f {E : E} {k : Bool} (h : TE C ρ E k) (q : ¬ k = true) : TE C ρ E false := (Bool.not_eq_true k).mp q ▸ h
/-! the script -/
def eX (sc : D) : List Int → D := fun _ => sc
def cellO (ns : List Int) (i : Int) : Option Int := if 0 ≤ i ∧ i < 1000000 then some (if i < ns.length then ns[i.toNat]?.getD 0 else 5 * i + 3) else none
theorem cell_run {defs : List DefI} {f k : Nat} {sc : D} {ns : List Int} {i c : Int} (h : defs[f]? = some dCell) (hk : 1 ≤ k) (hsc : IsScr sc ns) (hc : cellO ns i = some c) : callD defs k f [eX sc ns, eI i] = some (eI c) := by
  obtain ⟨k, rfl⟩ : ∃ m, k = m + 1 := ⟨k - 1, by omega⟩
  unfold cellO at hc
  split at hc
  · rename_i h0
    obtain ⟨h0, h1⟩ := h0
    cases hc
    show callD defs (k + 1) f [sc, .int i] = some (.int _)
    rcases hsc with rfl | rfl
    · rw [call_eq h rfl rfl]
      have hm : mulD (.int 5) (.int i) = some (.int (5 * i)) := mul_l (by omega) (by omega)
      simp [dCell, bCell, start0]
      by_cases hl : i < ns.length
      · obtain ⟨x, hx, _⟩ := getE_range (xs := ns) (i := i.toNat) (by omega)
        simp [hl, atI_pos h0 hl, hx]
      · simp [hl, hm]
    · rw [call_eq h rfl rfl]
      have hm : mulD (.int 5) (.int i) = some (.int (5 * i)) := mul_l (by omega) (by omega)
      simp [dCell, bCell, start0]
      by_cases hl : i < ns.length
      · obtain ⟨x, hx, _⟩ := getE_range (xs := ns) (i := i.toNat) (by omega)
        have hl' : i < (List.map D.int ns).length := by simpa using hl
        simp [hl, atI_pos h0 hl', hx]
      · simp [hl, hm]
  · cases hc
theorem cellO_ok {ns : List Int} {i : Int} (h0 : 0 ≤ i) (h1 : i < 1000000) : ∃ c, cellO ns i = some c := ⟨_, if_pos ⟨h0, h1⟩⟩
/-! draws -/
def drawsL (digits : Bool) (seed : Int) (rest : Int) (draws : List Int) (k : Int) : Option (Int × List Int) :=
  (if (digits && (decide (0 < rest))) = true then ((modO rest 5040).bind fun r => (appO draws r).bind fun draws_1 => (fdivO rest 5040).bind fun q => some (q, draws_1)) else ((mulO seed 48271).bind fun p => (mulO (k + 1) 69621).bind fun p_1 => (modO ((p + p_1) + 11) 2147483647).bind fun r_1 => (mulO r_1 r_1).bind fun p_2 => (mulO 40692 (k + 3)).bind fun p_3 => (modO (p_2 + p_3) 2147483399).bind fun r_2 => (fdivO r_2 64).bind fun q_1 => (modO q_1 5040).bind fun r_3 => (appO draws r_3).bind fun draws_2 => some (rest, draws_2))).bind fun j => some (j.1, j.2)
theorem drawsL_run {C : Oracle} (digits : Bool) (seed : Int) (rest : Int) (draws : List Int) (k : Int) {g : Int × List Int} (h : drawsL digits seed rest draws k = some g) : Run C [5] [none, none, some (eI rest), some (eB digits), some (eI seed), some ((eL eI) draws), some (eI k), none] bDL (.go [none, none, some (eI g.1), some (eB digits), some (eI seed), some ((eL eI) g.2), none, none]) := by
  unfold drawsL at h
  obtain ⟨j, hj, h⟩ := bind_some h
  refine r_join (p := [none, none, some (eI j.1), some (eB digits), some (eI seed), some ((eL eI) j.2), none, none]) ?_ ?_
  · clear h
    by_cases hc : (digits && (decide (0 < rest))) = true
    · rw [if_pos hc] at hj
      refine r_ift0 (te_t (te_and (te_v (v_var (d := eB digits) rfl) t_b) (te_v (v_cmp (v_var (d := eI rest) rfl) (v_cst (d := eI 0)) (c_gt (x := rest) (y := 0))) t_b)) hc) ?_
      obtain ⟨r, hr, hj⟩ := bind_some hj
      obtain ⟨draws_1, hdraws_1, hj⟩ := bind_some hj
      refine r_app (i := 5) (e := eI) (xs := draws) (v_bin (v_bf1 (v_var (d := eI rest) rfl) f_int) (v_cst (d := eI 5040)) (o_mod hr)) rfl rfl (a_imm (Im.im (e := eI) _)) hdraws_1 ?_
      obtain ⟨q, hq, hj⟩ := bind_some hj
      refine r_asg (i := 2) (v_bin (v_var (d := eI rest) rfl) (v_cst (d := eI 5040)) (o_fdiv hq)) (b_imm (Im.im (e := eI) _)) ?_
      obtain rfl := Option.some.inj hj
      exact r_nil (.no (.no (.so (.so (.so (.so (.no (.no .nil))))))))
    · rw [if_neg hc] at hj
      refine r_iff0 (te_f (te_and (te_v (v_var (d := eB digits) rfl) t_b) (te_v (v_cmp (v_var (d := eI rest) rfl) (v_cst (d := eI 0)) (c_gt (x := rest) (y := 0))) t_b)) hc) ?_
      obtain ⟨p, hp, hj⟩ := bind_some hj
      obtain ⟨p_1, hp_1, hj⟩ := bind_some hj
      obtain ⟨r_1, hr_1, hj⟩ := bind_some hj
      refine r_asg (i := 7) (v_bin (v_bf1 (v_bin (v_bin (v_bin (v_var (d := eI seed) rfl) (v_cst (d := eI 48271)) (o_mul hp)) (v_bin (v_bin (v_var (d := eI k) rfl) (v_cst (d := eI 1)) o_add) (v_cst (d := eI 69621)) (o_mul hp_1)) o_add) (v_cst (d := eI 11)) o_add) f_int) (v_cst (d := eI 2147483647)) (o_mod hr_1)) (b_imm (Im.im (e := eI) _)) ?_
      obtain ⟨p_2, hp_2, hj⟩ := bind_some hj
      obtain ⟨p_3, hp_3, hj⟩ := bind_some hj
      obtain ⟨r_2, hr_2, hj⟩ := bind_some hj
      refine r_asg (i := 7) (v_bin (v_bf1 (v_bin (v_bin (v_var (d := eI r_1) rfl) (v_var (d := eI r_1) rfl) (o_mul hp_2)) (v_bin (v_cst (d := eI 40692)) (v_bin (v_var (d := eI k) rfl) (v_cst (d := eI 3)) o_add) (o_mul hp_3)) o_add) f_int) (v_cst (d := eI 2147483399)) (o_mod hr_2)) (b_imm (Im.im (e := eI) _)) ?_
      obtain ⟨q_1, hq_1, hj⟩ := bind_some hj
      obtain ⟨r_3, hr_3, hj⟩ := bind_some hj
      obtain ⟨draws_2, hdraws_2, hj⟩ := bind_some hj
      refine r_app (i := 5) (e := eI) (xs := draws) (v_bin (v_bf1 (v_bin (v_var (d := eI r_2) rfl) (v_cst (d := eI 64)) (o_fdiv hq_1)) f_int) (v_cst (d := eI 5040)) (o_mod hr_3)) rfl rfl (a_imm (Im.im (e := eI) _)) hdraws_2 ?_
      obtain rfl := Option.some.inj hj
      exact r_nil (.no (.no (.so (.so (.so (.so (.no (.no .nil))))))))
  · clear hj
    obtain rfl := Option.some.inj h
    exact r_nilg (.no (.no (.so (.so (.so (.so (.no (.no .nil))))))))
def drawsO (cell : Int) (count : Int) : Option (List Int) :=
  letO (cell.natAbs : Int) fun rest => (powO 10 18).bind fun w => letO (decide (w ≤ rest)) fun digits => (rng1 count).bind fun r => (foldO (fun (s : Int × (List Int)) x => drawsL digits rest s.1 s.2 x) (rest, ([] : (List Int))) r).bind fun g => some g.2
theorem draws_run {defs : List DefI} {f k : Nat} {cell : Int} {count : Int} {r : List Int} (hd : defs[f]? = some dDraws) (hk : 1 ≤ k) (h : drawsO cell count = some r) : callD defs k f [eI cell, eI count] = some ((eL eI) r) := by
  refine call_run (i := dDraws) (K := 0) hd rfl rfl hk fun m hm => ?_
  change Run (callD defs m) [5] [some (eI cell), some (eI count), none, none, none, none, none, none] bDraws (.rt ((eL eI) r))
  unfold drawsO at h
  obtain ⟨rest, hrest, h⟩ := letO_some h
  refine r_asg (i := 2) (v_asE (e := eI) hrest (v_bf1 (v_bf1 (v_var (d := eI cell) rfl) f_int) f_abs)) (b_imm (Im.im (e := eI) _)) ?_
  obtain ⟨w, hw, h⟩ := bind_some h
  obtain ⟨digits, hdigits, h⟩ := letO_some h
  refine r_asg (i := 3) (v_asE (e := eB) hdigits (v_cmp (v_var (d := eI rest) rfl) (v_bin (v_cst (d := eI 10)) (v_cst (d := eI 18)) (o_pow hw)) (c_ge (x := rest) (y := w)))) (b_imm (Im.im (e := eB) _)) ?_
  refine r_asg (i := 4) (v_var (d := eI rest) rfl) (b_imm (Im.im (e := eI) _)) ?_
  refine r_asg (i := 5) (vt ((eL eI) ([] : (List Int))) (v_lst x_nil)) (b_own (fr_1 rfl (Im1.im1 (e := (eL eI)) _)) rfl) ?_
  obtain ⟨r, hr, h⟩ := bind_some h
  obtain ⟨g, hg, h⟩ := bind_some h
  refine r_fold (e := eI) (P := fun s : Int × (List Int) => [none, none, some (eI s.1), some (eB digits), some (eI rest), some ((eL eI) s.2), none, none]) (s0 := (rest, ([] : (List Int)))) (i_rng1 (v_var (d := eI count) rfl) hr) (w_rng) (.no (.no (.so (.so (.so (.so (.no (.no .nil)))))))) hg (fun x s s' q => ⟨_, rfl, drawsL_run digits rest s.1 s.2 x q⟩) ?_
  obtain rfl := Option.some.inj h
  exact r_ret (v_var (d := (eL eI) g.2) rfl) (k_var rfl)
theorem modO_pos {x y : Int} (h : 0 < y) : modO x y = some (x % y) := if_pos h
theorem fdivO_pos {x y : Int} (h : 0 < y) (h2 : y < 1073741824) : fdivO x y = some (x / y) := if_pos ⟨h, h2⟩
theorem mulO_l {x y : Int} (h1 : -18446744073709551616 < x) (h2 : x < 18446744073709551616) : mulO x y = some (x * y) := if_pos (by rw [small_of h1 h2]; rfl)
theorem mulO_r {x y : Int} (h1 : -18446744073709551616 < y) (h2 : y < 18446744073709551616) : mulO x y = some (x * y) := if_pos (by rw [small_of h1 h2]; simp)
theorem appO_ok {xs : List α} {v : α} (h : xs.length < 16777216) : appO xs v = some (xs ++ [v]) := if_pos h
theorem catO_ok {xs ys : List α} (h : xs.length + ys.length ≤ 16777216) : catO xs ys = some (xs ++ ys) := if_pos h
theorem rng1_pos {n : Int} (h1 : -1000000 ≤ n) (h2 : n ≤ 16777216) : rng1 n = some (iota 0 n.toNat) := if_pos ⟨h2, by omega⟩
theorem rng2_pos {a b : Int} (h1 : -1000000000000 ≤ a) (h2 : a ≤ 1000000000000) (h3 : -1000000000000 ≤ b) (h4 : b ≤ 1000000000000) (h5 : b - a ≤ 16777216) : rng2 a b = some (iota a (b - a).toNat) := if_pos ⟨by omega, by omega, by omega, by omega, h5⟩
theorem drawsL_ok {digits : Bool} {seed rest : Int} {ds : List Int} {k : Int} {n : Nat} (hr : 0 ≤ rest) (hd : Draws n ds) (hn : n < 1000) (hk : 0 ≤ k ∧ k < 1000) : ∃ r' v, drawsL digits seed rest ds k = some (r', ds ++ [v]) ∧ 0 ≤ r' ∧ Draws (n + 1) (ds ++ [v]) := by
  have ok : ∀ v : Int, 0 ≤ v ∧ v < 5040 → Draws (n + 1) (ds ++ [v]) := fun v hv => ⟨by simp [hd.1], fun y hy => by
    rcases List.mem_append.mp hy with hy | hy
    · exact hd.2 y hy
    · rw [List.mem_singleton.mp hy]; exact hv⟩
  have ha : ∀ v : Int, appO ds v = some (ds ++ [v]) := fun v => appO_ok (by have := hd.1; omega)
  unfold drawsL
  by_cases hc : (digits && (decide (0 < rest))) = true
  · rw [if_pos hc, modO_pos (by omega), fdivO_pos (by omega) (by omega)]
    exact ⟨rest / 5040, rest % 5040, by simp [ha], by omega, ok _ (by omega)⟩
  · rw [if_neg hc, mulO_r (by omega) (by omega), mulO_r (by omega) (by omega), Option.bind_some, Option.bind_some, modO_pos (by omega), Option.bind_some]
    have hA : 0 ≤ (seed * 48271 + (k + 1) * 69621 + 11) % 2147483647 ∧ (seed * 48271 + (k + 1) * 69621 + 11) % 2147483647 < 2147483647 := by omega
    generalize (seed * 48271 + (k + 1) * 69621 + 11) % 2147483647 = A at hA
    rw [mulO_r (by omega) (by omega), mulO_l (by omega) (by omega), Option.bind_some, Option.bind_some, modO_pos (by omega), Option.bind_some]
    have hB : 0 ≤ (A * A + 40692 * (k + 3)) % 2147483399 ∧ (A * A + 40692 * (k + 3)) % 2147483399 < 2147483399 := by omega
    generalize (A * A + 40692 * (k + 3)) % 2147483399 = B at hB
    rw [fdivO_pos (by omega) (by omega), Option.bind_some, modO_pos (by omega), Option.bind_some, ha]
    exact ⟨rest, B / 64 % 5040, rfl, hr, ok _ (by omega)⟩
theorem drawsF_ok {digits : Bool} {seed : Int} : ∀ (xs : List Int) (rest : Int) (ds : List Int) (n : Nat), 0 ≤ rest → Draws n ds → n + xs.length ≤ 1000 → (∀ x ∈ xs, 0 ≤ x ∧ x < 1000) → ∃ g, foldO (fun (s : Int × List Int) x => drawsL digits seed s.1 s.2 x) (rest, ds) xs = some g ∧ Draws (n + xs.length) g.2
  | [], rest, ds, n, hr, hd, hl, hx => ⟨(rest, ds), rfl, hd⟩
  | x :: xs, rest, ds, n, hr, hd, hl, hx => by
    simp only [List.length_cons] at hl
    obtain ⟨r', v, h1, h2, h3⟩ := drawsL_ok (digits := digits) (seed := seed) hr hd (by omega) (hx x List.mem_cons_self)
    obtain ⟨g, h4, h5⟩ := drawsF_ok xs r' (ds ++ [v]) (n + 1) h2 h3 (by omega) fun y hy => hx y (List.mem_cons_of_mem _ hy)
    refine ⟨g, ?_, by rw [List.length_cons, show n + (xs.length + 1) = n + 1 + xs.length by omega]; exact h5⟩
    simp only [foldO, h1, Option.bind_some]; exact h4
theorem drawsO_ok {c n : Int} (h0 : 0 ≤ n) (h1 : n ≤ 1000) : ∃ ds, drawsO c n = some ds ∧ Draws n.toNat ds := by
  obtain ⟨g, h2, h3⟩ := drawsF_ok (digits := decide ((1000000000000000000 : Int) ≤ (c.natAbs : Int))) (seed := c.natAbs) (iota 0 n.toNat) c.natAbs [] 0 (by omega) ⟨rfl, fun x hx => by cases hx⟩ (by simp; omega) fun x hx => by
    have := iota_mem.mp hx; omega
  refine ⟨g.2, ?_, by simpa using h3⟩
  unfold drawsO letO
  have hp : powO 10 18 = some 1000000000000000000 := by rfl
  simp only [hp, Option.bind_some]
  rw [rng1_pos (by omega) (by omega), Option.bind_some, h2]; rfl
theorem draw_atI {n : Nat} {ds : List Int} (h : Draws n ds) {i : Int} (h0 : 0 ≤ i) (h1 : i < n) : ∃ v, atI ds i = some v ∧ 0 ≤ v ∧ v < 5040 := by
  obtain ⟨hl, hb⟩ := h
  have h2 : i.toNat < ds.length := by omega
  refine ⟨ds[i.toNat], ?_, hb _ (List.getElem_mem h2)⟩
  rw [atI_pos h0 (by omega), List.getElem?_eq_getElem h2]
theorem atI_in {xs : List α} {i : Int} (h0 : 0 ≤ i) (h1 : i < xs.length) : ∃ v, atI xs i = some v ∧ v ∈ xs ∧ xs[i.toNat]? = some v := by
  have h2 : i.toNat < xs.length := by omega
  exact ⟨xs[i.toNat], by rw [atI_pos h0 h1, List.getElem?_eq_getElem h2], List.getElem_mem h2, List.getElem?_eq_getElem h2⟩
theorem draws_cutG {n : Nat} {ds : List Int} (hd : Draws n ds) {a b : Int} (h0 : 0 ≤ a) (h1 : a ≤ b) (h2 : b ≤ n) : Draws (b - a).toNat (cutG ds (some a) (some b)) := by
  obtain ⟨hl, hb⟩ := hd
  have e1 : HT.sIx ds.length 0 (some a) = a.toNat := by unfold HT.sIx; simp only []; split <;> omega
  have e2 : HT.sIx ds.length ds.length (some b) = b.toNat := by unfold HT.sIx; simp only []; split <;> omega
  unfold cutG
  rw [e1, e2]
  refine ⟨by rw [List.length_take, List.length_drop]; omega, fun x hx => hb x ?_⟩
  exact List.mem_of_mem_drop (List.mem_of_mem_take hx)
theorem draws_cutG0 {n : Nat} {ds : List Int} (hd : Draws n ds) {b : Int} (h1 : 0 ≤ b) (h2 : b ≤ n) : Draws b.toNat (cutG ds none (some b)) := by
  obtain ⟨hl, hb⟩ := hd
  have e2 : HT.sIx ds.length ds.length (some b) = b.toNat := by unfold HT.sIx; simp only []; split <;> omega
  unfold cutG
  rw [e2, show HT.sIx ds.length 0 none = 0 from rfl]
  refine ⟨by rw [List.length_take, List.length_drop]; omega, fun x hx => hb x ?_⟩
  exact List.mem_of_mem_drop (List.mem_of_mem_take hx)
end
/-! ### _law_is -/
section
variable {α β γ δ : Type}
def okU (ok : α → Bool) (xs : List α) : Bool := decide (xs.length ≤ 16777216) && xs.all ok
def okO (ok : α → Bool) : Option α → Bool
  | none => true
  | some x => ok x
def okP2 (o1 : α → Bool) (o2 : β → Bool) (x : α × β) : Bool := o1 x.1 && o2 x.2
def okT {α : Type} : α → Bool := fun _ => true
def isO [DecidableEq α] (ok : α → Bool) (x y : α) : Option Bool := if ok y = true then some (decide (x = y)) else none
class IsE (e : α → D) [DecidableEq α] (ok : outParam (α → Bool)) (n : outParam Nat) : Prop where
  is : ∀ {defs : List DefI} {f g k : Nat} {x y : α}, defs[f]? = some (dIs g f) → defs[g]? = some dIsInt → n + 2 ≤ k → ok y = true → callD defs k f [e x, e y] = some (eB (decide (x = y)))
/-- .. of None -/
class IsN (e : α → D) (ok : outParam (α → Bool)) (n : outParam Nat) : Prop where
  isl : ∀ {defs : List DefI} {f g k : Nat} {y : α}, defs[f]? = some (dIs g f) → defs[g]? = some dIsInt → n + 2 ≤ k → callD defs k f [.non, e y] = some (eB false)
  isr : ∀ {defs : List DefI} {f g k : Nat} {x : α}, defs[f]? = some (dIs g f) → defs[g]? = some dIsInt → n + 2 ≤ k → callD defs k f [e x, .non] = some (eB false)
theorem is_runT {e : α → D} [DecidableEq α] {n : Nat} [IsE e okT n] {defs : List DefI} {f g k : Nat} (x y : α) (h : defs[f]? = some (dIs g f)) (hg : defs[g]? = some dIsInt) (hk : n + 2 ≤ k) : callD defs k f [e x, e y] = some (eB (decide (x = y))) := IsE.is h hg hk rfl
theorem is_run {e : α → D} [DecidableEq α] {ok : α → Bool} {n : Nat} [IsE e ok n] {defs : List DefI} {f g k : Nat} {x y : α} {r : Bool} (h : defs[f]? = some (dIs g f)) (hg : defs[g]? = some dIsInt) (hk : n + 2 ≤ k) (hr : isO ok x y = some r) : callD defs k f [e x, e y] = some (eB r) := by
  unfold isO at hr
  split at hr
  · rename_i hc; cases hr; exact IsE.is h hg hk hc
  · cases hr
theorem isO_self [DecidableEq α] {ok : α → Bool} {x : α} (h : ok x = true) : isO ok x x = some true := by simp [isO, h]
theorem isint_D {defs : List DefI} {g k : Nat} (h : defs[g]? = some dIsInt) (hk : 1 ≤ k) (d : D) (hd : ∀ ns, d ≠ .scr ns) (hd2 : ∀ t ks vs, d ≠ .dic t ks vs := by simp) : callD defs k g [d] = some (.bl (match d with | .int _ => true | _ => false)) := by
  obtain ⟨k, rfl⟩ : ∃ m, k = m + 1 := ⟨k - 1, by omega⟩
  cases d with
  | scr ns => exact absurd rfl (hd ns)
  | dic t ks vs => exact absurd rfl (hd2 t ks vs)
  | _ =>
    rw [call_eq h rfl (by rfl)]
    simp [dIsInt, bIsInt, start0, isinT]
instance : IsE eI okT 0 := ⟨fun {defs f g k x y} h hg hk _ => by
  obtain ⟨k, rfl⟩ : ∃ m, k = m + 1 := ⟨k - 1, by omega⟩
  have hi := isint_D hg (k := k) (by omega) (.int x) (by simp)
  rw [call_eq h rfl rfl]
  simp [dIs, bIs, start0, isinT, eI, eB, hi]⟩
instance : IsE eB okT 0 := ⟨fun {defs f g k x y} h hg hk _ => by
  obtain ⟨k, rfl⟩ : ∃ m, k = m + 1 := ⟨k - 1, by omega⟩
  rw [call_eq h rfl rfl]
  simp [dIs, bIs, start0, isinT, eB]
  cases x <;> cases y <;> rfl⟩
theorem eq_ss' {a b : Str} : eqD (.str a) (.str b) = some (decide (a = b)) := c_eq (e := eS)
instance : IsE eS okT 0 := ⟨fun {defs f g k x y} h hg hk _ => by
  obtain ⟨k, rfl⟩ : ∃ m, k = m + 1 := ⟨k - 1, by omega⟩
  rw [call_eq h rfl rfl]
  simp [dIs, bIs, start0, isinT, eS, eB, eq_ss']⟩
instance : IsE eN okT 0 := ⟨fun {defs f g k x y} h hg hk _ => by
  obtain ⟨k, rfl⟩ : ∃ m, k = m + 1 := ⟨k - 1, by omega⟩
  rw [call_eq h rfl rfl]
  simp [dIs, bIs, start0, isinT, eN, eB]⟩
instance : IsN eI okT 0 := ⟨fun {defs f g k y} h hg hk => by
  obtain ⟨k, rfl⟩ : ∃ m, k = m + 1 := ⟨k - 1, by omega⟩
  have hi := isint_D hg (k := k) (by omega) .non (by simp)
  rw [call_eq h rfl rfl]
  simp [dIs, bIs, start0, isinT, eI, eB, hi], fun {defs f g k y} h hg hk => by
  obtain ⟨k, rfl⟩ : ∃ m, k = m + 1 := ⟨k - 1, by omega⟩
  rw [call_eq h rfl rfl]
  simp [dIs, bIs, start0, isinT, eI, eB]⟩
instance : IsN eB okT 0 := ⟨fun {defs f g k y} h hg hk => by
  obtain ⟨k, rfl⟩ : ∃ m, k = m + 1 := ⟨k - 1, by omega⟩
  rw [call_eq h rfl rfl]
  simp [dIs, bIs, start0, isinT, eB], fun {defs f g k y} h hg hk => by
  obtain ⟨k, rfl⟩ : ∃ m, k = m + 1 := ⟨k - 1, by omega⟩
  rw [call_eq h rfl rfl]
  simp [dIs, bIs, start0, isinT, eB]⟩
instance : IsN eS okT 0 := ⟨fun {defs f g k y} h hg hk => by
  obtain ⟨k, rfl⟩ : ∃ m, k = m + 1 := ⟨k - 1, by omega⟩
  rw [call_eq h rfl rfl]
  simp [dIs, bIs, start0, isinT, eS, eB], fun {defs f g k y} h hg hk => by
  obtain ⟨k, rfl⟩ : ∃ m, k = m + 1 := ⟨k - 1, by omega⟩
  rw [call_eq h rfl rfl]
  simp [dIs, bIs, start0, isinT, eS, eB]⟩
theorem is_tup_non {defs : List DefI} {f g k : Nat} {ds : List D} (h : defs[f]? = some (dIs g f)) (hk : 1 ≤ k) : callD defs k f [.non, .tup ds] = some (eB false) ∧ callD defs k f [.tup ds, .non] = some (eB false) := by
  obtain ⟨k, rfl⟩ : ∃ m, k = m + 1 := ⟨k - 1, by omega⟩
  constructor
  · rw [call_eq h rfl rfl]
    simp [dIs, bIs, start0, isinT, eB]
  · rw [call_eq h rfl rfl]
    simp [dIs, bIs, start0, isinT, eB]
theorem is_tup_len {defs : List DefI} {f g k : Nat} {xs ys : List D} (h : defs[f]? = some (dIs g f)) (hk : 1 ≤ k) (hl : xs.length ≠ ys.length) : callD defs k f [.tup xs, .tup ys] = some (eB false) := by
  obtain ⟨k, rfl⟩ : ∃ m, k = m + 1 := ⟨k - 1, by omega⟩
  have hl' : ((xs.length : Int) ≠ (ys.length : Int)) := by omega
  rw [call_eq h rfl rfl]
  simp [dIs, bIs, start0, isinT, eB, hl']
theorem is_tup_all {defs : List DefI} {f g k : Nat} {xs ys : List D} {bs : List Bool} (h : defs[f]? = some (dIs g f)) (hl : xs.length = ys.length) (hlb : bs.length = ys.length) (hs : ys.length ≤ 16777216)
    (hc : ∀ (i : Nat) (x y : D) (b : Bool), xs[i]? = some x → ys[i]? = some y → bs[i]? = some b → callD defs k f [x, y] = some (.bl b)) : callD defs (k + 1) f [.tup xs, .tup ys] = some (eB (bs.all id)) := by
  rw [call_eq h rfl rfl]
  have hcp : xE (callD defs k) [some (.tup xs), some (.tup ys), none] (.comp (.call f [(.ix (.var 0) (.var 2)), (.ix (.var 1) (.var 2))]) [2] (.nm 2) (.rng [(.bf .len [(.var 1)])]) none) = some (.lst (bs.map .bl)) := by
    have hb2 : (iota 0 ys.length).map (fun i => bs.getD i.toNat false) = bs := by
      apply List.ext_getElem?
      intro i
      rw [List.getElem?_map]
      by_cases hi : i < ys.length
      · have h1 : (iota 0 ys.length)[i]? = some (i : Int) := by simp [iota, hi]
        rw [h1]
        simp [List.getD, List.getElem?_eq_getElem (show i < bs.length by omega)]
      · rw [List.getElem?_eq_none (by simpa using hi), List.getElem?_eq_none (by omega)]; rfl
    rw [show bs.map D.bl = ((iota 0 ys.length).map fun i => bs.getD i.toNat false).map D.bl by rw [hb2]]
    refine ev_comp (e := D.int) (ev_range (ds := [.int ys.length]) (by simp) (by rw [range_1 (by omega) (by omega), intsFrom_iota]; simp)) fun x hx => ⟨[some (.tup xs), some (.tup ys), some (.int x)], rfl, ?_⟩
    have hm := iota_mem.mp hx
    obtain ⟨u, hu, _⟩ := getE_range (xs := xs) (i := x.toNat) (by omega)
    obtain ⟨v, hv, _⟩ := getE_range (xs := ys) (i := x.toNat) (by omega)
    obtain ⟨b, hb, _⟩ := getE_range (xs := bs) (i := x.toNat) (by omega)
    have ha : atI xs x = some u := by rw [atI_pos hm.1 (by omega)]; exact hu
    have ha2 : atI ys x = some v := by rw [atI_pos hm.1 (by omega)]; exact hv
    simp [ha, ha2, hc x.toNat u v b hu hv hb, List.getD, hb]
  simp [dIs, bIs, start0, isinT, eB, hcp, hl]
instance {a : α → D} {b : β → D} : IsN (eT2 a b) (okT) 0 := ⟨fun {defs f g k y} h hg hk => (is_tup_non h (by omega)).1, fun {defs f g k y} h hg hk => (is_tup_non h (by omega)).2⟩
instance {a : α → D} {b : β → D} {c : γ → D} : IsN (eT3 a b c) (okT) 0 := ⟨fun {defs f g k y} h hg hk => (is_tup_non h (by omega)).1, fun {defs f g k y} h hg hk => (is_tup_non h (by omega)).2⟩
instance {a : α → D} {b : β → D} {c : γ → D} {d : δ → D} : IsN (eT4 a b c d) (okT) 0 := ⟨fun {defs f g k y} h hg hk => (is_tup_non h (by omega)).1, fun {defs f g k y} h hg hk => (is_tup_non h (by omega)).2⟩
instance {a : α → D} : IsN (eU a) (okT) 0 := ⟨fun {defs f g k y} h hg hk => (is_tup_non h (by omega)).1, fun {defs f g k y} h hg hk => (is_tup_non h (by omega)).2⟩
instance {a : α → D} {b : β → D} [DecidableEq α] [DecidableEq β] {o1 : α → Bool} {o2 : β → Bool} {m n : Nat} [IsE a o1 m] [IsE b o2 n] : IsE (eT2 a b) (okP2 o1 o2) (max m n + 1) := ⟨fun {defs f g k x y} h hg hk ho => by
  obtain ⟨k, rfl⟩ : ∃ m, k = m + 1 := ⟨k - 1, by omega⟩
  simp only [okP2, Bool.and_eq_true] at ho
  have h1 := IsE.is (e := a) (x := x.1) (y := y.1) (k := k) h hg (by omega) ho.1
  have h2 := IsE.is (e := b) (x := x.2) (y := y.2) (k := k) h hg (by omega) ho.2
  have := is_tup_all (k := k) (xs := [a x.1, b x.2]) (ys := [a y.1, b y.2]) (bs := [decide (x.1 = y.1), decide (x.2 = y.2)]) h rfl rfl (by simp) fun i u v b hu hv hb => by
    match i with
    | 0 => cases hu; cases hv; cases hb; exact h1
    | 1 => cases hu; cases hv; cases hb; exact h2
    | i + 2 => cases hu
  show callD defs (k + 1) f [.tup _, .tup _] = _
  rw [this]
  congr 2
  rw [Bool.eq_iff_iff]; simp [Prod.ext_iff]⟩
instance {a : α → D} {b : β → D} {c : γ → D} [DecidableEq α] [DecidableEq β] [DecidableEq γ] {o1 : α → Bool} {o2 : β → Bool} {o3 : γ → Bool} {m n p : Nat} [IsE a o1 m] [IsE b o2 n] [IsE c o3 p] : IsE (eT3 a b c) (okP2 o1 (okP2 o2 o3)) (max m (max n p) + 1) := ⟨fun {defs f g k x y} h hg hk ho => by
  obtain ⟨k, rfl⟩ : ∃ m, k = m + 1 := ⟨k - 1, by omega⟩
  simp only [okP2, Bool.and_eq_true] at ho
  have h1 := IsE.is (e := a) (x := x.1) (y := y.1) (k := k) h hg (by omega) ho.1
  have h2 := IsE.is (e := b) (x := x.2.1) (y := y.2.1) (k := k) h hg (by omega) ho.2.1
  have h3 := IsE.is (e := c) (x := x.2.2) (y := y.2.2) (k := k) h hg (by omega) ho.2.2
  have := is_tup_all (k := k) (xs := [a x.1, b x.2.1, c x.2.2]) (ys := [a y.1, b y.2.1, c y.2.2]) (bs := [decide (x.1 = y.1), decide (x.2.1 = y.2.1), decide (x.2.2 = y.2.2)]) h rfl rfl (by simp) fun i u v b hu hv hb => by
    match i with
    | 0 => cases hu; cases hv; cases hb; exact h1
    | 1 => cases hu; cases hv; cases hb; exact h2
    | 2 => cases hu; cases hv; cases hb; exact h3
    | i + 3 => cases hu
  show callD defs (k + 1) f [.tup _, .tup _] = _
  rw [this]
  congr 2
  rw [Bool.eq_iff_iff]; simp [Prod.ext_iff]⟩
instance {e : α → D} [DecidableEq α] {ok : α → Bool} {n : Nat} [IsE e ok n] : IsE (eU e) (okU ok) (n + 1) := ⟨fun {defs f g k xs ys} h hg hk ho => by
  obtain ⟨k, rfl⟩ : ∃ m, k = m + 1 := ⟨k - 1, by omega⟩
  simp only [okU, Bool.and_eq_true, decide_eq_true_eq, List.all_eq_true] at ho
  show callD defs (k + 1) f [.tup _, .tup _] = _
  by_cases hl : xs.length = ys.length
  · have := is_tup_all (k := k) (xs := xs.map e) (ys := ys.map e) (bs := List.zipWith (fun x y => decide (x = y)) xs ys) h (by simp [hl]) (by simp [hl]) (by simpa using ho.1) fun i u v b hu hv hb => by
      rw [List.getElem?_map] at hu hv
      obtain ⟨x, hx, rfl⟩ := Option.map_eq_some_iff.mp hu
      obtain ⟨y, hy, rfl⟩ := Option.map_eq_some_iff.mp hv
      rw [List.getElem?_zipWith, hx, hy] at hb
      cases hb
      exact IsE.is h hg (by omega) (ho.2 y (List.mem_of_getElem? hy))
    rw [this]
    congr 2
    have all_eq : ∀ (xs ys : List α), xs.length = ys.length → (List.zipWith (fun x y => decide (x = y)) xs ys).all id = decide (xs = ys) := by
      intro xs
      induction xs with
      | nil => intro ys hl; cases ys with
        | nil => rfl
        | cons y ys => cases hl
      | cons x xs ih => intro ys hl; cases ys with
        | nil => cases hl
        | cons y ys =>
          simp only [List.zipWith_cons_cons, List.all_cons, ih ys (by simpa using hl), id]
          rw [Bool.eq_iff_iff]; simp
    exact all_eq xs ys hl
  · rw [is_tup_len h (by omega) (by simpa using hl)]
    congr 2
    symm
    rw [decide_eq_false_iff_not]
    intro q; exact hl (by rw [q])⟩
instance {e : α → D} [DecidableEq α] {ok ok' : α → Bool} {n n' : Nat} [IsE e ok n] [IsN e ok' n'] : IsE (eO e) (okO ok) (max n n') := ⟨fun {defs f g k x y} h hg hk ho => by
  cases x with
  | none => cases y with
    | none =>
      show callD defs k f [.non, .non] = _
      obtain ⟨k, rfl⟩ : ∃ m, k = m + 1 := ⟨k - 1, by omega⟩
      rw [call_eq h rfl rfl]
      simp [dIs, bIs, start0, isinT, eB]
    | some y => exact (IsN.isl (e := e) h hg (by omega)).trans (by simp)
  | some x => cases y with
    | none => exact (IsN.isr (e := e) h hg (by omega)).trans (by simp)
    | some y => exact (IsE.is (e := e) h hg (by omega) ho).trans (by simp)⟩
end
end Ev
set_option maxHeartbeats 4000000
namespace Ev
open PySem PySem.Spec PyProof.Rows L2
theorem fun_code {K : PySem.W.Frag} {x q : Str} {ps : Arguments} {b : List Stmt} {sc : Scope} {dvs : List V} {kws : List (Str × V)} {fd : FuncData} {p : He.Defn} (F : FunD K x q ps b sc dvs kws (He.fAd K p) fd) : fd.code = .ref (He.cT K p).1 := by
  obtain ⟨oc, od, dV, kV, doc, pm, an, cdv, ct, osl, rfl, lk, hcd, _, _⟩ := F.ex
  obtain ⟨c, rfl⟩ := He.codeIn_ref hcd
  show Value.ref c = .ref (He.codeOf K p)
  rw [He.codeOf_eq lk rfl]
abbrev tabsOf (tf : List He.Defn) (K : PySem.W.Frag) : Tabs := ⟨tf.map (He.cT K)⟩
theorem code_mem {K : PySem.W.Frag} {tf : List He.Defn} {p : He.Defn} {fd : FuncData} (h : p ∈ tf) (e : fd.code = .ref (He.cT K p).1) : ∃ q ∈ (tabsOf tf K).cs, fd.code = .ref q.1 := ⟨_, List.mem_map.mpr ⟨p, h, rfl⟩, e⟩
section
variable {fa : List He.Fa} {fn : List He.DefD} {ts : List He.Tab} {tf : List He.Defn} {ex : PySem.W.Frag → Bool} {w : World} {h : Heap} {K : PySem.W.Frag}
theorem tabs_empty (c : He.SaysX fa fn ts tf ex w h K) : ∀ p ∈ (tabsOf tf K).cs, h.get? p.2 = some { cls := .none, data := .fields #[] } := fun p hp => by
  obtain ⟨q, hq, rfl⟩ := List.mem_map.mp hp
  exact c.empty q hq
theorem tabs_out (c : He.SaysX fa fn ts tf ex w h K) : ∀ p ∈ (tabsOf tf K).cs, K.lookup p.2 = none := fun p hp => by
  obtain ⟨q, hq, rfl⟩ := List.mem_map.mp hp
  exact c.out q hq
theorem tabs_code (X : K.In h) (c : He.SaysX fa fn ts tf ex w h K) : ∀ p ∈ (tabsOf tf K).cs, PySem.W.CodeHd h p.1 p.2 := fun p hp => by
  obtain ⟨q, hq, rfl⟩ := List.mem_map.mp hp
  exact PySem.W.codeHd_of_K X (c.hd q hq)
end
/-! ### tuples of the module -/
def atomB : Value → D → Bool
  | .str x _, .str y => decide (x = y)
  | .int i _, .int j => decide (i = j)
  | .bool b, .bl c => decide (b = c)
  | _, _ => false
def atomsB : List Value → List D → Bool
  | [], [] => true
  | u :: us, d :: ds => atomB u d && atomsB us ds
  | _, _ => false
def tupIn (K : PySem.W.Frag) (a : Addr) (d : D) : Bool := match K.lookup a, d with
  | some ⟨.type c, none, .seq its _, _⟩, .tup ds => decide (c = "tuple") && decide (its.size ≤ sizeLine) && atomsB its.toList ds
  | _, _ => false
theorem atomB_ok {K : PySem.W.Frag} {u : Value} {d : D} (h : atomB u d = true) : ∃ v : V, RelV v u ∧ ∀ H P, Rep K H P v d := by
  unfold atomB at h
  split at h
  · have e := of_decide_eq_true h; subst e; exact ⟨.str _, ⟨_, rfl⟩, fun _ _ => .str _⟩
  · have e := of_decide_eq_true h; subst e; exact ⟨.int _, ⟨_, rfl⟩, fun _ _ => .int _⟩
  · have e := of_decide_eq_true h; subst e; exact ⟨.bl _, rfl, fun _ _ => .bl _⟩
  · cases h
theorem atomsB_ok {K : PySem.W.Frag} : ∀ {us : List Value} {ds : List D}, atomsB us ds = true → ∃ vs : List V, Vals vs us ∧ ∀ H P, Reps K H P vs ds
  | [], [], _ => ⟨[], .nil, fun _ _ => .nil⟩
  | u :: us, d :: ds, h => by
    simp only [atomsB, Bool.and_eq_true] at h
    obtain ⟨v, r, hv⟩ := atomB_ok (K := K) h.1
    obtain ⟨vs, rs, hvs⟩ := atomsB_ok (K := K) h.2
    exact ⟨v :: vs, .cons r rs, fun H P => .cons (hv H P) (hvs H P)⟩
  | [], _ :: _, h => by cases h
  | _ :: _, [], h => by cases h
theorem tupIn_ok {K : PySem.W.Frag} {a : Addr} {d : D} (h : tupIn K a d = true) : ∀ H P, Rep K H P (.ref a) d := by
  unfold tupIn at h
  split at h
  · rename_i c its n sl ds hk
    simp only [Bool.and_eq_true, decide_eq_true_eq] at h
    obtain ⟨⟨hc, hz⟩, hs⟩ := h
    subst hc
    obtain ⟨vs, rs, hvs⟩ := atomsB_ok (K := K) hs
    exact fun H P => .tup (.inr ⟨_, its, n, hk, ⟨rfl, rfl⟩, rfl, hz, rs⟩) (hvs H P)
  · cases h
/-- the tuples of the module, in the heap -/
def glsB (gls : List (Str × D)) (K : PySem.W.Frag) : Bool := gls.all fun p => (He.Fa.glo p.1).ok K && tupIn K (He.ga K p.1) p.2
theorem glsB_ok {gls : List (Str × D)} {K : PySem.W.Frag} (h : glsB gls K = true) {x : Str} {d : D} (e : gls.lookup x = some d) : (He.Fa.glo x).ok K = true ∧ ∀ H P, Rep K H P (.ref (He.ga K x)) d := by
  have key : ∀ {l : List (Str × D)}, l.lookup x = some d → (x, d) ∈ l := fun {l} => by
    induction l with
    | nil => intro h; cases h
    | cons p l ih =>
      obtain ⟨y, d'⟩ := p
      intro h
      rw [List.lookup_cons] at h
      split at h
      · rename_i hy
        cases h
        have : x = y := by simpa using hy
        subst this
        exact List.mem_cons_self
      · exact List.mem_cons_of_mem _ (ih h)
  have z := List.all_eq_true.mp h _ (key e)
  simp only [Bool.and_eq_true] at z
  exact ⟨z.1, tupIn_ok z.2⟩
end Ev
set_option maxHeartbeats 4000000
namespace Ev
open PySem PySem.Spec PyProof.Rows L2
/-! ### the plain law: what the steps answer -/
def Ok {α : Type} (o : Option α) (P : α → Prop) : Prop := ∃ x, o = some x ∧ P x
section
variable {α β σ : Type} {o : Option α} {P Q : α → Prop} {x : α}
theorem Ok.mono (h : Ok o P) (i : ∀ x, P x → Q x) : Ok o Q := by obtain ⟨x, h1, h2⟩ := h; exact ⟨x, h1, i x h2⟩
theorem ok_some (h : P x) : Ok (some x) P := ⟨x, rfl, h⟩
theorem ok_of (h : o = some x) (p : P x) : Ok o P := ⟨x, h, p⟩
theorem Ok.eq (h : Ok o (· = x)) : o = some x := by obtain ⟨y, h1, rfl⟩ := h; exact h1
theorem Ok.bind {f : α → Option β} {R : β → Prop} (h : Ok o P) (k : ∀ x, P x → Ok (f x) R) : Ok (o.bind f) R := by
  obtain ⟨x, rfl, h2⟩ := h
  exact k x h2
theorem ok_bind {f : α → Option β} {R : β → Prop} (h : o = some x) (k : Ok (f x) R) : Ok (o.bind f) R := by subst h; exact k
theorem eq_bind {f : α → Option β} {r : β} (h : o = some x) (k : f x = some r) : o.bind f = some r := by subst h; exact k
theorem eq_let {v : α} {f : α → Option β} {r : β} (h : f v = some r) : letO v f = some r := h
theorem ok_let {v : α} {f : α → Option β} {R : β → Prop} (k : Ok (f v) R) : Ok (letO v f) R := k
theorem ok_if {c : Prop} [Decidable c] {a b : Option α} (h1 : c → Ok a P) (h2 : ¬ c → Ok b P) : Ok (if c then a else b) P := by
  by_cases h : c
  · rw [if_pos h]; exact h1 h
  · rw [if_neg h]; exact h2 h
/-- a walk that keeps something; I speaks of the state and of what is left -/
theorem foldO_inv {f : σ → α → Option σ} {I : σ → List α → Prop} (h : ∀ s x r, I s (x :: r) → Ok (f s x) fun s' => I s' r) : ∀ (xs : List α) (s : σ), I s xs → Ok (foldO f s xs) fun s' => I s' []
  | [], s, h0 => ok_some h0
  | x :: xs, s, h0 => (h s x xs h0).bind fun s' h' => foldO_inv h xs s' h'
theorem foldO_eq {f : σ → α → Option σ} {g : σ → α → σ} : ∀ (xs : List α) (s : σ), (∀ s x, x ∈ xs → f s x = some (g s x)) → foldO f s xs = some (xs.foldl g s)
  | [], s, _ => rfl
  | x :: xs, s, h => eq_bind (h s x List.mem_cons_self) (foldO_eq xs _ fun s y hy => h s y (List.mem_cons_of_mem _ hy))
theorem foldO_append {f : σ → α → Option σ} : ∀ (xs ys : List α) (s : σ), foldO f s (xs ++ ys) = (foldO f s xs).bind fun s' => foldO f s' ys
  | [], ys, s => rfl
  | x :: xs, ys, s => by
    simp only [List.cons_append, foldO]
    cases f s x with
    | none => rfl
    | some s' => exact foldO_append xs ys s'
theorem findO_none {f : α → Option (Option β)} : ∀ (xs : List α), (∀ x ∈ xs, f x = some none) → findO f xs = some none
  | [], _ => rfl
  | x :: xs, h => eq_bind (h x List.mem_cons_self) (findO_none xs fun y hy => h y (List.mem_cons_of_mem _ hy))
theorem findO_eq {f : α → Option (Option β)} {p : α → Bool} {g : α → β} : ∀ (xs : List α), (∀ x ∈ xs, f x = some (if p x = true then some (g x) else none)) → findO f xs = some ((xs.find? p).map g)
  | [], _ => rfl
  | x :: xs, h => by
    refine eq_bind (h x List.mem_cons_self) ?_
    rw [List.find?_cons]
    cases p x with
    | true => rfl
    | false => exact findO_eq xs fun y hy => h y (List.mem_cons_of_mem _ hy)
/-- a walk that says no where one does not hold -/
theorem findO_all {f : α → Option (Option Bool)} {p : α → Bool} (xs : List α) (h : ∀ x ∈ xs, f x = some (if p x = true then none else some false)) {k : Option Bool → Option β} {r : β} (ht : xs.all p = true → k none = some r) (hf : xs.all p = false → k (some false) = some r) : (findO f xs).bind k = some r := by
  have : findO f xs = some (if xs.all p = true then none else some false) := by
    rw [findO_eq (p := fun x => !p x) (g := fun _ => false) xs fun x hx => by rw [h x hx]; cases p x <;> rfl]
    congr 1
    cases hx : xs.all p with
    | true =>
      rw [List.find?_eq_none.mpr fun x hm => by simp [List.all_eq_true.mp hx x hm]]; rfl
    | false =>
      obtain ⟨x, hm, hn⟩ := List.all_eq_false.mp hx
      cases hq : xs.find? fun x => !p x with
      | none => exact absurd (by simpa using List.find?_eq_none.mp hq x hm) hn
      | some y => rfl
  refine eq_bind this ?_
  cases hx : xs.all p with
  | true => exact ht hx
  | false => exact hf hx
theorem mapO_eq {f : α → Option β} {g : α → β} : ∀ (xs : List α), (∀ x ∈ xs, f x = some (g x)) → mapO f xs = some (xs.map g)
  | [], _ => rfl
  | x :: xs, h => eq_bind (h x List.mem_cons_self) (eq_bind (mapO_eq xs fun y hy => h y (List.mem_cons_of_mem _ hy)) rfl)
theorem mapO_ok {f : α → Option β} {R : β → Prop} : ∀ (xs : List α), (∀ x ∈ xs, Ok (f x) R) → Ok (mapO f xs) fun ys => ys.length = xs.length ∧ ∀ y ∈ ys, R y
  | [], _ => ok_some ⟨rfl, fun y hy => by cases hy⟩
  | x :: xs, h => (h x List.mem_cons_self).bind fun y hy => (mapO_ok xs fun z hz => h z (List.mem_cons_of_mem _ hz)).bind fun ys hys => ok_some ⟨by simp [hys.1], fun z hz => by
      rcases List.mem_cons.mp hz with rfl | hz
      · exact hy
      · exact hys.2 z hz⟩
theorem fmO_eq {p : α → Option Bool} {f : α → Option β} {q : α → Bool} {g : α → β} : ∀ (xs : List α), (∀ x ∈ xs, p x = some (q x)) → (∀ x ∈ xs, q x = true → f x = some (g x)) → fmO p f xs = some ((xs.filter q).map g)
  | [], _, _ => rfl
  | x :: xs, h1, h2 => by
    have ih := fmO_eq xs (fun y hy => h1 y (List.mem_cons_of_mem _ hy)) fun y hy => h2 y (List.mem_cons_of_mem _ hy)
    refine eq_bind (h1 x List.mem_cons_self) ?_
    cases hq : q x with
    | true => rw [if_pos rfl, List.filter_cons_of_pos hq, h2 x List.mem_cons_self hq, ih]; rfl
    | false => rw [if_neg (by simp), List.filter_cons_of_neg (by simp [hq]), ih]
end
section
variable {α : Type}
theorem genO_allP {f : α → Option (Option Bool)} {p : α → Bool} : ∀ (xs : List α), (∀ x ∈ xs, f x = some (some (p x))) → genO true f xs = some (xs.all p)
  | [], _ => rfl
  | x :: xs, h => by
    refine eq_bind (h x List.mem_cons_self) ?_
    rw [List.all_cons]
    cases p x with
    | true => exact genO_allP xs fun y hy => h y (List.mem_cons_of_mem _ hy)
    | false => rfl
theorem genO_anyP {f : α → Option (Option Bool)} {p : α → Bool} : ∀ (xs : List α), (∀ x ∈ xs, f x = some (some (p x))) → genO false f xs = some (xs.any p)
  | [], _ => rfl
  | x :: xs, h => by
    refine eq_bind (h x List.mem_cons_self) ?_
    rw [List.any_cons]
    cases p x with
    | false => exact genO_anyP xs fun y hy => h y (List.mem_cons_of_mem _ hy)
    | true => rfl
end
theorem atI_nat {α : Type} {xs : List α} {k : Nat} {v : α} (h : xs[k]? = some v) : atI xs (k : Int) = some v := by
  have hl : k < xs.length := (List.getElem?_eq_some_iff.mp h).1
  obtain ⟨w, h1, _, h3⟩ := atI_in (xs := xs) (i := (k : Int)) (by omega) (by omega)
  rw [Int.toNat_natCast, h] at h3
  rw [h1, h3]
theorem atI_last {α : Type} {xs : List α} {v : α} : atI (xs ++ [v]) (-1) = some v := by
  unfold atI ixN
  simp only [List.length_append, List.length_singleton]
  rw [if_neg (by decide), if_pos (by omega), Option.bind_some]
  rw [show (-1 + ((xs.length + 1 : Nat) : Int)).toNat = xs.length by omega]
  simp
/-- places along a row -/
theorem iota_mem0 {n : Nat} {x : Int} (h : x ∈ iota 0 n) : ∃ k : Nat, x = k ∧ k < n := by
  have := iota_mem.mp h
  exact ⟨x.toNat, by omega, by omega⟩
/-- numbered from k on -/
def enumF {α : Type} : Int → List α → List (Int × α)
  | _, [] => []
  | k, x :: xs => (k, x) :: enumF (k + 1) xs
theorem enumF_eq {α : Type} : ∀ (xs : List α) (k : Nat), List.zipWith (fun (j : Nat) x => ((j : Int), x)) (List.range' k xs.length) xs = enumF k xs
  | [], k => rfl
  | x :: xs, k => by
    rw [List.length_cons, List.range'_succ, List.zipWith_cons_cons, enumF_eq xs (k + 1)]
    rfl
theorem enumT_eq {α : Type} (xs : List α) : enumT xs = enumF 0 xs := by
  unfold enumT
  rw [List.range_eq_range']
  exact enumF_eq xs 0
theorem cutG_init {α : Type} (xs : List α) : cutG xs none (some (-1)) = xs.dropLast := by
  unfold cutG
  have h1 : HT.sIx xs.length 0 none = 0 := rfl
  have h2 : HT.sIx xs.length xs.length (some (-1)) = xs.length - 1 := by
    show (if (-1 : Int) < 0 then (-1 + (xs.length : Int)).toNat else min (-1 : Int).toNat xs.length) = _
    rw [if_pos (by decide)]
    omega
  rw [h1, h2, List.drop_zero, Nat.sub_zero, List.dropLast_eq_take]
theorem cutG_len {α : Type} {xs : List α} {a b : Option Int} : (cutG xs a b).length ≤ xs.length := by
  unfold cutG
  rw [List.length_take, List.length_drop]
  omega
/-! ### orders, sorted rows -/
structure Swo {α : Type} (lt : α → α → Bool) : Prop where
  asym : ∀ x y, lt x y = true → lt y x = false
  nt : ∀ x y z, lt x z = true → lt x y = true ∨ lt y z = true
  tri : ∀ x y, lt x y = false → lt y x = false → x = y
theorem swo_ltI : Swo ltI := ⟨fun x y h => by simp [ltI] at h ⊢; omega, fun x y z h => by simp [ltI] at h ⊢; omega, fun x y h1 h2 => by simp [ltI] at h1 h2; omega⟩
section
variable {α β : Type}
theorem Swo.irr {lt : α → α → Bool} (s : Swo lt) (x : α) : lt x x = false := by
  cases h : lt x x with
  | false => rfl
  | true => rw [← h]; exact s.asym x x h
theorem swo_lt2 [DecidableEq α] {l : α → α → Bool} {m : β → β → Bool} (s : Swo l) (t : Swo m) : Swo (lt2 l m) := by
  refine ⟨fun x y h => ?_, fun x y z h => ?_, fun x y h1 h2 => ?_⟩
  · unfold lt2 at h ⊢
    by_cases e : x.1 = y.1
    · rw [if_pos e] at h; rw [if_pos e.symm]; exact t.asym _ _ h
    · rw [if_neg e] at h; rw [if_neg fun q => e q.symm]; exact s.asym _ _ h
  · unfold lt2 at h ⊢
    by_cases e1 : x.1 = y.1
    · by_cases e2 : y.1 = z.1
      · rw [if_pos (e1.trans e2)] at h; rw [if_pos e1, if_pos e2]; exact t.nt _ _ _ h
      · rw [if_neg fun q => e2 (e1.symm.trans q)] at h; rw [if_neg e2, ← e1]; exact .inr h
    · by_cases e2 : y.1 = z.1
      · rw [if_neg fun q => e1 (q.trans e2.symm)] at h; rw [if_neg e1, e2]; exact .inl h
      · rw [if_neg e1, if_neg e2]
        by_cases e3 : x.1 = z.1
        · cases h1 : l x.1 y.1 with
          | true => exact .inl rfl
          | false =>
            cases h2 : l y.1 x.1 with
            | true => rw [← e3, h2]; exact .inr rfl
            | false => exact absurd (s.tri _ _ h1 h2) e1
        · rw [if_neg e3] at h; exact s.nt _ _ _ h
  · unfold lt2 at h1 h2
    by_cases e : x.1 = y.1
    · rw [if_pos e] at h1; rw [if_pos e.symm] at h2; exact Prod.ext e (t.tri _ _ h1 h2)
    · rw [if_neg e] at h1; rw [if_neg fun q => e q.symm] at h2; exact absurd (s.tri _ _ h1 h2) e
theorem swo_ltL [DecidableEq α] {l : α → α → Bool} (s : Swo l) : Swo (ltL l) := by
  refine ⟨fun xs => ?_, fun xs => ?_, fun xs => ?_⟩
  · induction xs with
    | nil => intro ys h; cases ys <;> simp_all [ltL]
    | cons x xs ih =>
      intro ys h
      cases ys with
      | nil => simp [ltL] at h
      | cons y ys =>
        simp only [ltL] at h ⊢
        by_cases e : x = y
        · rw [if_pos e] at h; rw [if_pos e.symm]; exact ih ys h
        · rw [if_neg e] at h; rw [if_neg fun q => e q.symm]; exact s.asym _ _ h
  · induction xs with
    | nil =>
      intro ys zs h
      cases ys with
      | nil => exact .inr h
      | cons y ys => exact .inl rfl
    | cons x xs ih =>
      intro ys zs h
      cases zs with
      | nil => simp [ltL] at h
      | cons z zs =>
        cases ys with
        | nil => exact .inr rfl
        | cons y ys =>
          simp only [ltL] at h ⊢
          by_cases e1 : x = y
          · by_cases e2 : y = z
            · rw [if_pos (e1.trans e2)] at h; rw [if_pos e1, if_pos e2]; exact ih ys zs h
            · rw [if_neg fun q => e2 (e1.symm.trans q)] at h; rw [if_neg e2, ← e1]; exact .inr h
          · by_cases e2 : y = z
            · rw [if_neg fun q => e1 (q.trans e2.symm)] at h; rw [if_neg e1, e2]; exact .inl h
            · rw [if_neg e1, if_neg e2]
              by_cases e3 : x = z
              · cases h1 : l x y with
                | true => exact .inl rfl
                | false =>
                  cases h2 : l y x with
                  | true => rw [← e3, h2]; exact .inr rfl
                  | false => exact absurd (s.tri _ _ h1 h2) e1
              · rw [if_neg e3] at h; exact s.nt _ _ _ h
  · induction xs with
    | nil => intro ys h1 h2; cases ys <;> simp_all [ltL]
    | cons x xs ih =>
      intro ys h1 h2
      cases ys with
      | nil => simp [ltL] at h2
      | cons y ys =>
        simp only [ltL] at h1 h2
        by_cases e : x = y
        · rw [if_pos e] at h1; rw [if_pos e.symm] at h2; rw [e, ih ys h1 h2]
        · rw [if_neg e] at h1; rw [if_neg fun q => e q.symm] at h2; exact absurd (s.tri _ _ h1 h2) e
theorem sortT_sorted {lt : α → α → Bool} (s : Swo lt) (xs : List α) : (sortT lt xs).Pairwise fun a b => lt b a = false := by
  have h := List.pairwise_mergeSort (le := fun x y => !lt y x) (fun a b c h1 h2 => by
    simp only [Bool.not_eq_true'] at h1 h2 ⊢
    cases h : lt c a with
    | false => rfl
    | true => rcases s.nt c b a h with q | q
              · rw [q] at h2; cases h2
              · rw [q] at h1; cases h1) (fun a b => by
    cases h : lt a b with
    | false => simp
    | true => simp [s.asym a b h]) xs
  exact h.imp fun q => by simpa using q
theorem mem_sortT {lt : α → α → Bool} {xs : List α} {x : α} : x ∈ sortT lt xs ↔ x ∈ xs := List.mem_mergeSort
theorem sortT_length {lt : α → α → Bool} {xs : List α} : (sortT lt xs).length = xs.length := List.length_mergeSort xs
end
end Ev
set_option maxHeartbeats 4000000
namespace Ev
open PySem PySem.Spec PyProof.Rows L2
/-! ### the plain law: rising rows, all subsets -/
theorem findO_iota {α β : Type} {f : Int → Option (Option β)} {g : Int × α → Option (Option β)} {xs : List α} (hf : ∀ (j : Nat) x, xs[j]? = some x → f j = g (j, x)) : ∀ (rest : List α) (k : Nat), xs.drop k = rest → findO f (iota k rest.length) = findO g (enumF k rest)
  | [], k, h => rfl
  | x :: rest, k, h => by
    have hb : xs[k]? = some x := by rw [← List.head?_drop, h]; rfl
    have hr : xs.drop (k + 1) = rest := by rw [← List.tail_drop, h]; rfl
    have ih := findO_iota hf rest (k + 1) hr
    rw [show ((k + 1 : Nat) : Int) = (k : Int) + 1 by omega] at ih
    rw [List.length_cons, iota_cons, enumF]
    simp only [findO, hf k x hb, ih]
theorem enumF_all {α : Type} {p : α → Bool} : ∀ (xs : List α) (k : Int), (enumF k xs).all (fun z => p z.2) = xs.all p
  | [], _ => rfl
  | x :: xs, k => by simp [enumF, enumF_all xs]
def risB (xs : List Int) : Bool := (iota 0 ((xs.length : Int) - 1).toNat).all fun k => decide (xs.getD k.toNat 0 < xs.getD (k + 1).toNat 0)
theorem ris_at {xs : List Int} {k : Int} (h : k ∈ iota 0 ((xs.length : Int) - 1).toNat) : atI xs k = some (xs.getD k.toNat 0) ∧ atI xs (k + 1) = some (xs.getD (k + 1).toNat 0) := by
  have hm := iota_mem.mp h
  have h1 : xs[k.toNat]? = some (xs.getD k.toNat 0) := by
    rw [List.getD_eq_getElem?_getD, List.getElem?_eq_getElem (by omega)]; rfl
  have h2 : xs[(k + 1).toNat]? = some (xs.getD (k + 1).toNat 0) := by
    rw [List.getD_eq_getElem?_getD, List.getElem?_eq_getElem (by omega)]; rfl
  have a1 := atI_nat h1
  have a2 := atI_nat h2
  rw [show ((k.toNat : Nat) : Int) = k by omega] at a1
  rw [show (((k + 1).toNat : Nat) : Int) = k + 1 by omega] at a2
  exact ⟨a1, a2⟩
def inB (n : Int) (xs : List Int) : Bool := xs.all fun x => decide (0 ≤ x) && decide (x < n)
theorem enumF_mem {α : Type} : ∀ {xs : List α} {k : Int} {z : Int × α}, z ∈ enumF k xs → z.2 ∈ xs
  | x :: xs, k, z, h => by
    rcases List.mem_cons.mp h with rfl | h
    · exact List.mem_cons_self
    · exact List.mem_cons_of_mem _ (enumF_mem h)
theorem at_in {rs xs : List Int} (h : inB rs.length xs = true) {x : Int} (hx : x ∈ xs) : atI rs x = some (rs.getD x.toNat 0) := by
  have := List.all_eq_true.mp h x hx
  simp only [Bool.and_eq_true, decide_eq_true_eq] at this
  have h1 : rs[x.toNat]? = some (rs.getD x.toNat 0) := by
    rw [List.getD_eq_getElem?_getD, List.getElem?_eq_getElem (by omega)]; rfl
  have a1 := atI_nat h1
  rw [show ((x.toNat : Nat) : Int) = x by omega] at a1
  exact a1
def setsN : Nat → List (List Int)
  | 0 => [[]]
  | n + 1 => setsN n ++ (setsN n).map (· ++ [(n : Int)])
theorem setsN_length : ∀ n, (setsN n).length = 2 ^ n
  | 0 => rfl
  | n + 1 => by simp [setsN, setsN_length n, Nat.pow_succ]; omega
theorem setsN_len : ∀ n, ∀ x ∈ setsN n, x.length ≤ n
  | 0, x, h => by simp [setsN] at h; simp [h]
  | n + 1, x, h => by
    simp only [setsN, List.mem_append, List.mem_map] at h
    rcases h with h | ⟨y, h, rfl⟩
    · have := setsN_len n x h; omega
    · have := setsN_len n y h; simp; omega
theorem setsN_mem : ∀ (n : Nat) (x : List Int), x.Pairwise (· < ·) → (∀ a ∈ x, 0 ≤ a ∧ a < n) → x ∈ setsN n
  | 0, x, _, h => by
    cases x with
    | nil => simp [setsN]
    | cons a r => have := h a List.mem_cons_self; omega
  | n + 1, x, hp, h => by
    simp only [setsN, List.mem_append, List.mem_map]
    rcases List.eq_nil_or_concat x with rfl | ⟨ys, a, rfl⟩
    · exact .inl (setsN_mem n [] List.Pairwise.nil (by simp))
    · rw [List.concat_eq_append] at *
      have hp2 := List.pairwise_append.mp hp
      have ha := h a (by simp)
      by_cases e : a = n
      · subst e
        exact .inr ⟨ys, setsN_mem n ys hp2.1 fun b hb => ⟨(h b (by simp [hb])).1, hp2.2.2 b hb n (by simp)⟩, rfl⟩
      · refine .inl (setsN_mem n _ hp fun b hb => ?_)
        rcases List.mem_append.mp hb with hb | hb
        · have := hp2.2.2 b hb a (by simp)
          have := h b (by simp [hb])
          omega
        · simp at hb; subst hb; omega
def ordL : Int × List Int → Int × List Int → Bool := lt2 ltI (ltL ltI)
theorem swo_ordL : Swo ordL := swo_lt2 swo_ltI (swo_ltL swo_ltI)
def setsS (n : Nat) : List (Int × List Int) := sortT ordL ((setsN n).map fun one => ((one.length : Int), one))
theorem iota_all_succ (f : Int → Bool) (n : Nat) : (iota 0 (n + 1)).all f = (f 0 && (iota 0 n).all fun k => f (k + 1)) := by
  rw [iota_cons, List.all_cons]
  congr 1
  unfold iota
  rw [List.all_map, List.all_map]
  congr 1
  funext k
  simp only [Function.comp]
  congr 1
  omega
theorem risB_cons {a b : Int} {r : List Int} : risB (a :: b :: r) = (decide (a < b) && risB (b :: r)) := by
  unfold risB
  rw [show (((a :: b :: r).length : Int) - 1).toNat = r.length + 1 by simp only [List.length_cons]; omega, show (((b :: r).length : Int) - 1).toNat = r.length by simp, iota_all_succ]
  congr 1
  rw [Bool.eq_iff_iff, List.all_eq_true, List.all_eq_true]
  have e : ∀ k ∈ iota 0 r.length, ((a :: b :: r).getD (k + 1).toNat 0 = (b :: r).getD k.toNat 0) ∧ ((a :: b :: r).getD (k + 1 + 1).toNat 0 = (b :: r).getD (k + 1).toNat 0) := fun k hk => by
    have := (iota_mem.mp hk).1
    rw [show (k + 1).toNat = k.toNat + 1 by omega, show (k + 1 + 1).toNat = k.toNat + 1 + 1 by omega]
    exact ⟨rfl, rfl⟩
  constructor
  · intro h k hk
    have := h k hk
    rw [(e k hk).1, (e k hk).2] at this
    exact this
  · intro h k hk
    have := h k hk
    rw [← (e k hk).1, ← (e k hk).2] at this
    exact this
theorem risB_iff : ∀ xs : List Int, risB xs = true ↔ xs.Pairwise (· < ·)
  | [] => by simp [risB]
  | [a] => by simp [risB]
  | a :: b :: r => by
    rw [risB_cons, Bool.and_eq_true, decide_eq_true_eq, risB_iff (b :: r)]
    constructor
    · rintro ⟨h1, h2⟩
      refine List.pairwise_cons.mpr ⟨fun c hc => ?_, h2⟩
      rcases List.mem_cons.mp hc with rfl | hc
      · exact h1
      · have := (List.pairwise_cons.mp h2).1 c hc
        omega
    · intro h
      have h2 := List.pairwise_cons.mp h
      exact ⟨h2.1 b List.mem_cons_self, h2.2⟩
end Ev
set_option maxHeartbeats 4000000
namespace Ev
open PySem PySem.Spec PyProof.Rows L2
/-! ### the plain law: words for whole laws -/
section
variable {α β : Type}
theorem ok_draw {n : Nat} {ds : List Int} {i : Int} {f : Int → Option β} {R : β → Prop} (h : Draws n ds) (h0 : 0 ≤ i) (h1 : i < n) (k : ∀ v, 0 ≤ v → v < 5040 → Ok (f v) R) : Ok ((atI ds i).bind f) R := by
  obtain ⟨v, a, b, c⟩ := draw_atI h h0 h1
  exact ok_bind a (k v b c)
theorem ok_cell {ns : List Int} {i : Int} {f : Int → Option β} {R : β → Prop} (h0 : 0 ≤ i) (h1 : i < 1000000) (k : ∀ v, Ok (f v) R) : Ok ((cellO ns i).bind f) R := by
  obtain ⟨c, hc⟩ := cellO_ok (ns := ns) h0 h1
  exact ok_bind hc (k c)
theorem ok_draws {c n : Int} {f : List Int → Option β} {R : β → Prop} (h0 : 0 ≤ n) (h1 : n ≤ 1000) (k : ∀ ds, Draws n.toNat ds → Ok (f ds) R) : Ok ((drawsO c n).bind f) R := by
  obtain ⟨ds, a, b⟩ := drawsO_ok (c := c) h0 h1
  exact ok_bind a (k ds b)
theorem ok_pow6 {f : Int → Option β} {R : β → Prop} (k : Ok (f 1000000) R) : Ok ((powO 10 6).bind f) R := ok_bind (x := (1000000 : Int)) (if_pos ⟨by decide, by decide, by decide⟩) k
theorem ok_pow20 {f : Int → Option β} {R : β → Prop} (k : Ok (f 100000000000000000000) R) : Ok ((powO 10 20).bind f) R := ok_bind (x := (100000000000000000000 : Int)) (if_pos ⟨by decide, by decide, by decide⟩) k
/-- one of a written row -/
theorem ok_pick {xs : List α} {i : Int} {f : α → Option β} {R : β → Prop} (h0 : 0 ≤ i) (h1 : i < xs.length) (k : ∀ v, v ∈ xs → Ok (f v) R) : Ok ((atI xs i).bind f) R := by
  obtain ⟨v, a, b, _⟩ := atI_in h0 h1
  exact ok_bind a (k v b)
theorem ok_at {xs : List α} {i : Nat} {v : α} {f : α → Option β} {R : β → Prop} (h : xs[i]? = some v) (k : Ok (f v) R) : Ok ((atI xs (i : Int)).bind f) R := ok_bind (atI_nat h) k
theorem Ok.elim {o : Option α} {P : α → Prop} (h : Ok o P) : ∃ x, o = some x ∧ P x := h
theorem findO_ok {f : α → Option (Option β)} {g : Option β → Option γ} {R : γ → Prop} {xs : List α} (h : ∀ x ∈ xs, f x = some none) (k : Ok (g none) R) : Ok ((findO f xs).bind g) R := ok_bind (findO_none xs h) k
/-! rows of numbers -/
theorem asc_last {l : List Int} {x : Int} (hp : l.Pairwise (· < ·)) (hm : x ∈ l) (h : ∀ y ∈ l, y ≤ x) : ∃ xs, l = xs ++ [x] := by
  rcases List.eq_nil_or_concat l with rfl | ⟨ys, a, rfl⟩
  · cases hm
  · rw [List.concat_eq_append] at *
    refine ⟨ys, ?_⟩
    have ha := h a (by simp)
    rcases List.mem_append.mp hm with hm | hm
    · have := (List.pairwise_append.mp hp).2.2 x hm a (by simp)
      omega
    · rw [List.mem_singleton.mp hm]
/-- no more of these than of those, where each has its own -/
theorem pigeon [DecidableEq β] (R : α → β → Prop) : ∀ (L : List α) (M : List β), (∀ a ∈ L, ∃ b ∈ M, R a b) → (L.Pairwise fun a a' => ∀ b, R a b → ¬ R a' b) → L.length ≤ M.length
  | [], M, _, _ => Nat.zero_le _
  | a :: L, M, h, hp => by
    obtain ⟨b, hb, hr⟩ := h a List.mem_cons_self
    have h2 := List.pairwise_cons.mp hp
    have ih := pigeon R L (M.erase b) (fun a' ha' => by
      obtain ⟨c, hc, hrc⟩ := h a' (List.mem_cons_of_mem _ ha')
      refine ⟨c, ?_, hrc⟩
      refine (List.mem_erase_of_ne ?_).mpr hc
      intro e
      subst e
      exact h2.1 a' ha' c hr hrc) h2.2
    rw [List.length_erase_of_mem hb] at ih
    have := List.length_pos_of_mem hb
    rw [List.length_cons]
    omega
theorem filter_le_one {p : α → Bool} : ∀ {l : List α}, (l.Pairwise fun a b => p a = true → p b = true → False) → (l.filter p).length ≤ 1
  | [], _ => by simp
  | a :: l, h => by
    have h2 := List.pairwise_cons.mp h
    cases ha : p a with
    | false => rw [List.filter_cons_of_neg (by simp [ha])]; exact filter_le_one h2.2
    | true =>
      rw [List.filter_cons_of_pos ha]
      have : l.filter p = [] := List.filter_eq_nil_iff.mpr fun b hb hq => h2.1 b hb ha hq
      simp [this]
theorem filter_pos {p : α → Bool} {xs : List α} : decide ((0 : Int) < ((xs.filter p).length : Int)) = xs.any p := by
  rw [Bool.eq_iff_iff, decide_eq_true_eq, List.any_eq_true]
  constructor
  · intro h
    obtain ⟨x, hx⟩ := List.exists_mem_of_length_pos (l := xs.filter p) (by omega)
    exact ⟨x, (List.mem_filter.mp hx).1, (List.mem_filter.mp hx).2⟩
  · rintro ⟨x, h1, h2⟩
    have := List.length_pos_of_mem (List.mem_filter.mpr ⟨h1, h2⟩)
    omega
theorem filter_zero {p : α → Bool} {xs : List α} : decide (((xs.filter p).length : Int) = 0) = !xs.any p := by
  rw [← filter_pos, Bool.eq_iff_iff]
  simp only [decide_eq_true_eq, Bool.not_eq_true', decide_eq_false_iff_not]
  omega
theorem atI_zero {x : α} {xs : List α} : atI (x :: xs) 0 = some x := atI_nat (k := 0) rfl
theorem setsN_in : ∀ (n : Nat) (x : List Int), x ∈ setsN n → x.Pairwise (· < ·) ∧ ∀ a ∈ x, 0 ≤ a ∧ a < n
  | 0, x, h => by simp [setsN] at h; subst h; exact ⟨List.Pairwise.nil, by simp⟩
  | n + 1, x, h => by
    simp only [setsN, List.mem_append, List.mem_map] at h
    rcases h with h | ⟨y, h, rfl⟩
    · obtain ⟨h1, h2⟩ := setsN_in n x h
      exact ⟨h1, fun a ha => by have := h2 a ha; omega⟩
    · obtain ⟨h1, h2⟩ := setsN_in n y h
      refine ⟨List.pairwise_append.mpr ⟨h1, List.pairwise_singleton _ _, fun a ha b hb => ?_⟩, fun a ha => ?_⟩
      · rw [List.mem_singleton.mp hb]; exact (h2 a ha).2
      · rcases List.mem_append.mp ha with ha | ha
        · have := h2 a ha; omega
        · rw [List.mem_singleton.mp ha]; omega
theorem mem_insS {x y : Int} : ∀ {l : List Int}, y ∈ insS x l ↔ y = x ∨ y ∈ l
  | [] => by simp [insS]
  | z :: l => by
    unfold insS
    split
    · simp
    · split
      · rename_i h1 h2; subst h2; simp
      · simp only [List.mem_cons, mem_insS (l := l)]
        constructor
        · rintro (h | h | h) <;> simp [h]
        · rintro (h | h | h) <;> simp [h]
theorem mem_ded {y : Int} : ∀ {l : List Int}, y ∈ ded l ↔ y ∈ l
  | [] => Iff.rfl
  | x :: l => by rw [ded, mem_insS, mem_ded (l := l), List.mem_cons]
theorem asc_insS {x : Int} : ∀ {l : List Int}, l.Pairwise (· < ·) → (insS x l).Pairwise (· < ·)
  | [], _ => by simp [insS]
  | y :: l, h => by
    have h2 := List.pairwise_cons.mp h
    unfold insS
    split
    · rename_i h1
      refine List.pairwise_cons.mpr ⟨fun z hz => ?_, h⟩
      rcases List.mem_cons.mp hz with rfl | hz
      · exact h1
      · have := h2.1 z hz; omega
    · split
      · exact h
      · rename_i h1 h3
        refine List.pairwise_cons.mpr ⟨fun z hz => ?_, asc_insS h2.2⟩
        rcases mem_insS.mp hz with rfl | hz
        · omega
        · exact h2.1 z hz
theorem asc_ded : ∀ {l : List Int}, (ded l).Pairwise (· < ·)
  | [] => List.Pairwise.nil
  | x :: l => asc_insS asc_ded
theorem insS_len {x : Int} : ∀ {l : List Int}, (insS x l).length ≤ l.length + 1
  | [] => by simp [insS]
  | y :: l => by
    unfold insS
    split
    · simp
    · split
      · simp
      · have := insS_len (x := x) (l := l); simp; omega
theorem ded_len : ∀ {l : List Int}, (ded l).length ≤ l.length
  | [] => Nat.le_refl _
  | x :: l => by
    have h1 := ded_len (l := l)
    have h2 := insS_len (x := x) (l := ded l)
    rw [ded, List.length_cons]
    omega
theorem dedO_ok {xs : List Int} (h : xs.length < 64) : dedO xs = some (ded xs) := if_pos ⟨by omega, Nat.lt_of_le_of_lt ded_len h⟩
theorem dedO_ok2 {xs : List Int} (h : xs.length < 4000) (h2 : (ded xs).length < 64) : dedO xs = some (ded xs) := if_pos ⟨h, h2⟩
/-- ascending rows with the same members are the same -/
theorem asc_ext : ∀ {l m : List Int}, l.Pairwise (· < ·) → m.Pairwise (· < ·) → (∀ x, x ∈ l ↔ x ∈ m) → l = m
  | [], [], _, _, _ => rfl
  | [], y :: m, _, _, h => by have := (h y).mpr List.mem_cons_self; cases this
  | x :: l, [], _, _, h => by have := (h x).mp List.mem_cons_self; cases this
  | x :: l, y :: m, hl, hm, h => by
    have h1 := List.pairwise_cons.mp hl
    have h2 := List.pairwise_cons.mp hm
    have e : x = y := by
      rcases List.mem_cons.mp ((h x).mp List.mem_cons_self) with e | e
      · exact e
      · rcases List.mem_cons.mp ((h y).mpr List.mem_cons_self) with q | q
        · exact q.symm
        · have := h2.1 x e; have := h1.1 y q; omega
    subst e
    congr 1
    refine asc_ext h1.2 h2.2 fun z => ⟨fun hz => ?_, fun hz => ?_⟩
    · rcases List.mem_cons.mp ((h z).mp (List.mem_cons_of_mem _ hz)) with e | e
      · have := h1.1 z hz; omega
      · exact e
    · rcases List.mem_cons.mp ((h z).mpr (List.mem_cons_of_mem _ hz)) with e | e
      · have := h2.1 z hz; omega
      · exact e
theorem okInts {xs : List Int} (h : xs.length ≤ 1000) : okU okT xs = true := by
  unfold okU
  rw [decide_eq_true (by omega), Bool.true_and, List.all_eq_true]
  intro x _
  rfl
end
end Ev
set_option maxHeartbeats 4000000
namespace Ev
open PySem PySem.Spec PyProof.Rows L2
section
variable {α β σ : Type}
theorem sortT_perm {lt : α → α → Bool} (s : Swo lt) {xs ys : List α} (h : xs.Perm ys) : sortT lt xs = sortT lt ys := by
  refine List.Perm.eq_of_pairwise (le := fun a b => lt b a = false) (fun a b _ _ h1 h2 => (s.tri _ _ h1 h2).symm) (sortT_sorted s xs) (sortT_sorted s ys) ?_
  exact (List.mergeSort_perm xs _).trans (h.trans (List.mergeSort_perm ys _).symm)
theorem sortT_self {lt : α → α → Bool} (s : Swo lt) {xs : List α} (h : xs.Pairwise fun a b => lt b a = false) : sortT lt xs = xs := by
  refine List.Perm.eq_of_pairwise (le := fun a b => lt b a = false) (fun a b _ _ h1 h2 => (s.tri _ _ h1 h2).symm) (sortT_sorted s xs) h ?_
  exact List.mergeSort_perm xs _
theorem perm_sortT {lt : α → α → Bool} {xs : List α} : (sortT lt xs).Perm xs := List.mergeSort_perm xs _
theorem find_cong {p q : α → Bool} : ∀ {l : List α}, (∀ x ∈ l, p x = q x) → l.find? p = l.find? q
  | [], _ => rfl
  | x :: l, h => by
    rw [List.find?_cons, List.find?_cons, h x List.mem_cons_self, find_cong fun y hy => h y (List.mem_cons_of_mem _ hy)]
theorem ok_head {p : α → Bool} {xs : List α} : (if decide (0 < ((xs.filter p).length : Int)) = true then (atI (xs.filter p) 0).bind fun v => some (some v) else some none) = some (xs.find? p) := by
  rw [← List.head?_filter]
  cases h : xs.filter p with
  | nil => rfl
  | cons a r => rw [if_pos (by simp)]; exact eq_bind atI_zero rfl
theorem head_of {xs : List α} : (if decide (0 < (xs.length : Int)) = true then (atI xs 0).bind fun v => some (some v) else some none) = some xs.head? := by
  cases xs with
  | nil => rfl
  | cons a r => rw [if_pos (by simp)]; exact eq_bind atI_zero rfl
/-- the first of the ascending rows -/
theorem setsS_snd {n : Nat} : ((setsS n).map fun x => x.2).Perm (setsN n) := by
  unfold setsS
  refine (perm_sortT.map _).trans ?_
  rw [List.map_map]
  have : ((fun x : Int × List Int => x.2) ∘ fun one : List Int => ((one.length : Int), one)) = id := rfl
  rw [this, List.map_id]
/-- all sets, in order -/
def setsA (n : Nat) : List (List Int) := sortT (ltL ltI) (setsN n)
theorem setsA_eq {n : Nat} : sortT (ltL ltI) ((setsS n).map fun x => x.2) = setsA n := sortT_perm (swo_ltL swo_ltI) setsS_snd
theorem mem_setsA {n : Nat} {x : List Int} : x ∈ setsA n ↔ x.Pairwise (· < ·) ∧ ∀ a ∈ x, 0 ≤ a ∧ a < n := by
  unfold setsA
  rw [mem_sortT]
  exact ⟨setsN_in n x, fun h => setsN_mem n x h.1 h.2⟩
theorem mem_setsN {n : Nat} {x : List Int} : x ∈ setsN n ↔ x.Pairwise (· < ·) ∧ ∀ a ∈ x, 0 ≤ a ∧ a < n := ⟨setsN_in n x, fun h => setsN_mem n x h.1 h.2⟩
theorem asc_len {l : List Int} {n : Nat} (h : l.Pairwise (· < ·)) (hi : ∀ a ∈ l, 0 ≤ a ∧ a < n) : l.length ≤ n := by
  have := pigeon (fun (a b : Int) => a = b) l (iota 0 n) (fun a ha => ⟨a, iota_mem.mpr (by have := hi a ha; omega), rfl⟩) (h.imp fun {a b} q c h1 h2 => by omega)
  rwa [iota_length] at this
theorem draws_drop {n : Nat} {ds : List Int} (hd : Draws n ds) {a : Int} (h0 : 0 ≤ a) (h1 : a ≤ n) : Draws (n - a.toNat) (cutG ds (some a) none) := by
  obtain ⟨hl, hb⟩ := hd
  have e1 : HT.sIx ds.length 0 (some a) = a.toNat := by unfold HT.sIx; simp only []; split <;> omega
  unfold cutG
  rw [e1, show HT.sIx ds.length ds.length none = ds.length from rfl]
  refine ⟨by rw [List.length_take, List.length_drop]; omega, fun x hx => hb x ?_⟩
  exact List.mem_of_mem_drop (List.mem_of_mem_take hx)
theorem getD_at {xs : List Int} {k : Int} (h0 : 0 ≤ k) (h1 : k < xs.length) : atI xs k = some (xs.getD k.toNat 0) := by
  have h2 : xs[k.toNat]? = some (xs.getD k.toNat 0) := by
    rw [List.getD_eq_getElem?_getD, List.getElem?_eq_getElem (by omega)]; rfl
  have a := atI_nat h2
  rwa [show ((k.toNat : Nat) : Int) = k by omega] at a
theorem getD_get {xs : List Int} {k : Nat} (h1 : k < xs.length) : xs[k]? = some (xs.getD k 0) := by
  rw [List.getD_eq_getElem?_getD, List.getElem?_eq_getElem h1]; rfl
theorem asc_iota {a : Int} {n : Nat} : (iota a n).Pairwise (· < ·) := by
  unfold iota
  rw [List.pairwise_map]
  exact List.pairwise_lt_range.imp fun h => by omega
theorem iota_get {a : Int} {n k : Nat} (h : k < n) : (iota a n)[k]? = some (a + k) := by
  unfold iota
  rw [List.getElem?_map, List.getElem?_range h]; rfl
/-- a while loop that keeps I and comes down -/
theorem whileO_ok {c : σ → Option Bool} {f : σ → Option (Stp σ β)} {I : σ → Prop} {m : σ → Nat} (h : ∀ s, I s → Ok (c s) fun k => k = true → Ok (f s) fun o => ∃ s', o = .nx s' ∧ I s' ∧ m s' < m s) : ∀ (n : Nat) (s : σ), I s → m s < n → Ok (whileO c f n s) fun o => ∃ s', o = .nx s' ∧ I s' ∧ c s' = some false
  | 0, s, _, hn => by omega
  | n + 1, s, hi, hn => by
    obtain ⟨k, h1, h2⟩ := h s hi
    unfold whileO
    refine ok_bind h1 ?_
    cases k with
    | false => exact ok_some ⟨s, rfl, hi, h1⟩
    | true =>
      obtain ⟨o, h3, s', rfl, h4, h5⟩ := h2 rfl
      exact ok_bind h3 (whileO_ok h n s' h4 (by omega))
/-- a walk whose turns all go on -/
theorem loopO_inv {f : σ → α → Option (Stp σ β)} {I : σ → List α → Prop} (h : ∀ s x r, I s (x :: r) → Ok (f s x) fun o => ∃ s', o = .nx s' ∧ I s' r) : ∀ (xs : List α) (s : σ), I s xs → Ok (loopO f s xs) fun o => ∃ s', o = .nx s' ∧ I s' []
  | [], s, h0 => ok_some ⟨s, rfl, h0⟩
  | x :: xs, s, h0 => by
    obtain ⟨o, h1, s', rfl, h2⟩ := h s x xs h0
    unfold loopO
    exact ok_bind h1 (loopO_inv h xs s' h2)
end
end Ev
set_option maxHeartbeats 4000000
namespace Ev
open PySem PySem.Spec PyProof.Rows L2
/-! ### all orders of some items -/
def ordersN (items : List Int) : Nat → List (List Int)
  | 0 => [[]]
  | n + 1 => (ordersN items n).flatMap fun row => (items.filter fun x => !memB x row).map fun x => row ++ [x]
theorem mem_ordersN {items : List Int} : ∀ {n : Nat} {x : List Int}, x ∈ ordersN items n ↔ x.length = n ∧ x.Nodup ∧ ∀ a ∈ x, a ∈ items
  | 0, x => by
    simp only [ordersN, List.mem_singleton]
    constructor
    · rintro rfl; exact ⟨rfl, List.nodup_nil, fun a h => by cases h⟩
    · rintro ⟨h, _⟩; exact List.length_eq_zero_iff.mp h
  | n + 1, x => by
    simp only [ordersN, List.mem_flatMap, List.mem_map, List.mem_filter]
    constructor
    · rintro ⟨row, hr, a, ⟨ha, hb⟩, rfl⟩
      obtain ⟨h1, h2, h3⟩ := mem_ordersN.mp hr
      have hb : a ∉ row := fun q => by rw [memB_iff.mpr q] at hb; cases hb
      refine ⟨by simp [h1], ?_, fun c hc => ?_⟩
      · rw [List.nodup_append]
        refine ⟨h2, by simp, fun c hc d hd => ?_⟩
        rw [List.mem_singleton.mp hd]
        exact fun q => hb (q ▸ hc)
      · rcases List.mem_append.mp hc with hc | hc
        · exact h3 c hc
        · rw [List.mem_singleton.mp hc]; exact ha
    · rintro ⟨h1, h2, h3⟩
      rcases List.eq_nil_or_concat x with rfl | ⟨row, a, rfl⟩
      · simp at h1
      · rw [List.concat_eq_append] at *
        rw [List.nodup_append] at h2
        refine ⟨row, mem_ordersN.mpr ⟨by simpa using h1, h2.1, fun c hc => h3 c (by simp [hc])⟩, a, ⟨h3 a (by simp), ?_⟩, rfl⟩
        rw [Bool.not_eq_true', Bool.eq_false_iff]
        intro q
        exact h2.2.2 a (memB_iff.mp q) a (by simp) rfl
theorem ltL_snoc {a b : Int} : ∀ {x y : List Int}, x.length = y.length → ltL ltI (x ++ [a]) (y ++ [b]) = if x = y then decide (a < b) else ltL ltI x y
  | [], [], _ => by
    simp only [List.nil_append, ltL, if_true]
    split
    · rename_i h; subst h; simp
    · rfl
  | [], _ :: _, h => by simp at h
  | _ :: _, [], h => by simp at h
  | c :: x, d :: y, h => by
    simp only [List.cons_append, ltL]
    by_cases e : c = d
    · subst e
      rw [if_pos rfl, if_pos rfl, ltL_snoc (by simpa using h)]
      by_cases e2 : x = y
      · simp [e2]
      · simp [e2]
    · rw [if_neg e, if_neg e, if_neg (by simp [e])]
theorem ordersN_lex {items : List Int} (hi : items.Pairwise (· < ·)) : ∀ n, (ordersN items n).Pairwise fun a b => ltL ltI a b = true
  | 0 => List.pairwise_singleton _ _
  | n + 1 => by
    unfold ordersN
    rw [List.pairwise_flatMap]
    refine ⟨fun row _ => ?_, ?_⟩
    · rw [List.pairwise_map]
      refine (hi.filter _).imp fun {a b} h => ?_
      rw [ltL_snoc rfl, if_pos rfl]
      exact decide_eq_true h
    · refine (ordersN_lex hi n).imp_of_mem fun {x y} hx hy h => ?_
      intro u hu v hv
      obtain ⟨a, _, rfl⟩ := List.mem_map.mp hu
      obtain ⟨b, _, rfl⟩ := List.mem_map.mp hv
      rw [ltL_snoc ((mem_ordersN.mp hx).1.trans (mem_ordersN.mp hy).1.symm), if_neg]
      · exact h
      · intro e
        subst e
        rw [(swo_ltL swo_ltI).irr] at h
        cases h
/-- the first one of a sorted row is the least -/
theorem first_least {α : Type} {lt : α → α → Bool} (s : Swo lt) {p : α → Bool} {x : α} : ∀ {l : List α}, (l.Pairwise fun a b => lt a b = true) → x ∈ l → p x = true → (∀ y ∈ l, p y = true → lt y x = false) → l.find? p = some x
  | a :: l, hp, hx, hpx, h => by
    have h2 := List.pairwise_cons.mp hp
    rw [List.find?_cons]
    cases ha : p a with
    | true =>
      rcases List.mem_cons.mp hx with e | hx
      · rw [e]
      · have h3 := h2.1 x hx
        rw [h a List.mem_cons_self ha] at h3
        cases h3
    | false =>
      rcases List.mem_cons.mp hx with e | hx
      · rw [← e, hpx] at ha; cases ha
      · exact first_least s h2.2 hx hpx fun y hy => h y (List.mem_cons_of_mem _ hy)
theorem nodup_len {l m : List Int} (h : l.Nodup) (hs : ∀ a ∈ l, a ∈ m) : l.length ≤ m.length := pigeon (fun (a b : Int) => a = b) l m (fun a ha => ⟨a, hs a ha, rfl⟩) (h.imp fun {a b} q c h1 h2 => q (h1.trans h2.symm))
/-- as many different ones: all of them -/
theorem nodup_full {l m : List Int} (h : l.Nodup) (hs : ∀ a ∈ l, a ∈ m) (hl : m.length ≤ l.length) : ∀ a ∈ m, a ∈ l := fun a ha => by
  by_cases q : a ∈ l
  · exact q
  · have := nodup_len (l := l) (m := m.erase a) h fun b hb => (List.mem_erase_of_ne fun e : b = a => q (e ▸ hb)).mpr (hs b hb)
    rw [List.length_erase_of_mem ha] at this
    have := List.length_pos_of_mem ha
    omega
theorem perm_of_sub {α : Type} [DecidableEq α] : ∀ {p q : List α}, p.Nodup → (∀ a ∈ p, a ∈ q) → ∃ r, q.Perm (p ++ r)
  | [], q, _, _ => ⟨q, List.Perm.refl q⟩
  | a :: p, q, h, hs => by
    have h2 := List.nodup_cons.mp h
    obtain ⟨r, hr⟩ := perm_of_sub (p := p) (q := q.erase a) h2.2 fun b hb => (List.mem_erase_of_ne fun e : b = a => h2.1 (e ▸ hb)).mpr (hs b (List.mem_cons_of_mem _ hb))
    exact ⟨r, (List.perm_cons_erase (hs a List.mem_cons_self)).trans (hr.cons a)⟩
/-! ### rows made one by one, each time the least that may be next -/
def goF (fine : List Int → Int → Bool) : List Int → List Int → Bool
  | _, [] => true
  | p, h :: r => fine p h && goF fine (p ++ [h]) r
def greedyG (items : List Int) (fine : List Int → Int → Bool) : Nat → List Int → Option (List Int)
  | 0, p => some p
  | n + 1, p => match (items.filter fun x => !memB x p).find? (fine p) with
    | none => none
    | some h => greedyG items fine n (p ++ [h])
structure MonoF (fine : List Int → Int → Bool) : Prop where
  mono : ∀ p q h, p.Nodup → (∀ x ∈ p, x ∈ q) → fine p h = true → fine q h = true
section
variable {fine : List Int → Int → Bool} {items : List Int}
theorem goF_mono (M : MonoF fine) : ∀ (r p q : List Int), (p ++ r).Nodup → (∀ x ∈ p, x ∈ q) → goF fine p r = true → goF fine q r = true
  | [], _, _, _, _, _ => rfl
  | h :: r, p, q, hn, hs, hg => by
    simp only [goF, Bool.and_eq_true] at hg ⊢
    refine ⟨M.mono p q h (List.nodup_append.mp hn).1 hs hg.1, goF_mono M r (p ++ [h]) (q ++ [h]) (by simpa using hn) (fun x hx => ?_) hg.2⟩
    rcases List.mem_append.mp hx with hx | hx
    · exact List.mem_append_left _ (hs x hx)
    · exact List.mem_append_right _ hx
theorem goF_move (M : MonoF fine) {h : Int} {b : List Int} : ∀ (a p : List Int), (p ++ (a ++ h :: b)).Nodup → goF fine p (a ++ h :: b) = true → goF fine (p ++ [h]) (a ++ b) = true
  | [], p, hn, hg => by
    simp only [List.nil_append, goF, Bool.and_eq_true] at hg ⊢
    exact hg.2
  | x :: a, p, hn, hg => by
    simp only [List.cons_append, goF, Bool.and_eq_true] at hg ⊢
    refine ⟨M.mono p _ x (List.nodup_append.mp hn).1 (fun y hy => List.mem_append_left _ hy) hg.1, ?_⟩
    have ih := goF_move M a (p ++ [x]) (by simpa using hn) hg.2
    refine goF_mono M (a ++ b) (p ++ [x] ++ [h]) (p ++ [h] ++ [x]) ?_ (fun y hy => ?_) ih
    · have hp : (p ++ (x :: a ++ h :: b)).Perm (p ++ [x] ++ [h] ++ (a ++ b)) := by
        simp only [List.append_assoc, List.cons_append, List.nil_append]
        exact ((List.perm_middle).cons x).append_left p
      exact hp.nodup_iff.mp hn
    · simp only [List.mem_append, List.mem_singleton] at hy ⊢
      rcases hy with (hy | hy) | hy
      · exact .inl (.inl hy)
      · exact .inr hy
      · exact .inl (.inr hy)
theorem goF_sub {p r : List Int} : goF fine p r = true → ∀ a h b, r = a ++ h :: b → fine (p ++ a) h = true := by
  induction r generalizing p with
  | nil => intro _ a h b e; simp at e
  | cons x r ih =>
    intro hg a h b e
    simp only [goF, Bool.and_eq_true] at hg
    cases a with
    | nil => simp at e; obtain ⟨rfl, rfl⟩ := e; simpa using hg.1
    | cons y a =>
      simp at e
      obtain ⟨rfl, e⟩ := e
      have := ih hg.2 a h b e
      simpa using this
theorem greedy_spec (hi : items.Pairwise (· < ·)) : ∀ (m : Nat) (p g : List Int), p.Nodup → (∀ x ∈ p, x ∈ items) → greedyG items fine m p = some g → ∃ r, g = p ++ r ∧ r.length = m ∧ g.Nodup ∧ (∀ x ∈ g, x ∈ items) ∧ goF fine p r = true
  | 0, p, g, hn, hs, h => by cases h; exact ⟨[], by simp, rfl, hn, hs, rfl⟩
  | m + 1, p, g, hn, hs, h => by
    unfold greedyG at h
    cases hf : (items.filter fun x => !memB x p).find? (fine p) with
    | none => rw [hf] at h; cases h
    | some x =>
      rw [hf] at h
      have hx := List.mem_filter.mp (List.mem_of_find?_eq_some hf)
      have hxp : x ∉ p := fun q => by have := hx.2; rw [memB_iff.mpr q] at this; cases this
      obtain ⟨r, h1, h2, h3, h4, h5⟩ := greedy_spec hi m (p ++ [x]) g (by
        rw [List.nodup_append]
        exact ⟨hn, by simp, fun c hc d hd => by rw [List.mem_singleton.mp hd]; exact fun q => hxp (q ▸ hc)⟩) (fun y hy => by
        rcases List.mem_append.mp hy with hy | hy
        · exact hs y hy
        · rw [List.mem_singleton.mp hy]; exact hx.1) h
      refine ⟨x :: r, by rw [h1]; simp, by simp [h2], h3, h4, ?_⟩
      simp only [goF, Bool.and_eq_true]
      exact ⟨List.find?_some hf, h5⟩
theorem find_least {l : List Int} {p : Int → Bool} {x : Int} (hl : l.Pairwise (· < ·)) (hx : x ∈ l) (hp : p x = true) : ∃ y, l.find? p = some y ∧ y ∈ l ∧ p y = true ∧ y ≤ x := by
  induction l with
  | nil => cases hx
  | cons a l ih =>
    have h2 := List.pairwise_cons.mp hl
    rw [List.find?_cons]
    cases ha : p a with
    | true =>
      refine ⟨a, rfl, List.mem_cons_self, ha, ?_⟩
      rcases List.mem_cons.mp hx with e | hx
      · omega
      · have := h2.1 x hx; omega
    | false =>
      rcases List.mem_cons.mp hx with e | hx
      · rw [← e, hp] at ha; cases ha
      · obtain ⟨y, h1, h3, h4, h5⟩ := ih h2.2 hx
        exact ⟨y, h1, List.mem_cons_of_mem _ h3, h4, h5⟩
theorem greedy_least (M : MonoF fine) (hi : items.Pairwise (· < ·)) : ∀ (m : Nat) (p r : List Int), (p ++ r).Nodup → (∀ x ∈ p ++ r, x ∈ items) → r.length = m → (p ++ r).length = items.length → goF fine p r = true → ∃ s, greedyG items fine m p = some (p ++ s) ∧ ltL ltI r s = false
  | 0, p, r, hn, hs, hl, hf, hg => by
    have : r = [] := List.length_eq_zero_iff.mp hl
    subst this
    exact ⟨[], by simp [greedyG], rfl⟩
  | m + 1, p, r, hn, hs, hl, hf, hg => by
    cases r with
    | nil => simp at hl
    | cons h r =>
      have hg2 := hg
      simp only [goF, Bool.and_eq_true] at hg2
      have hhp : h ∉ p := fun q => (List.nodup_append.mp hn).2.2 h q h List.mem_cons_self rfl
      have hm : h ∈ items.filter fun x => !memB x p := List.mem_filter.mpr ⟨hs h (by simp), by
        rw [Bool.not_eq_true', Bool.eq_false_iff]; exact fun q => hhp (memB_iff.mp q)⟩
      obtain ⟨y, h1, h2, h3, h4⟩ := find_least (hi.filter _) hm hg2.1
      have hy := List.mem_filter.mp h2
      have hyp : y ∉ p := fun q => by have := hy.2; rw [memB_iff.mpr q] at this; cases this
      have hyr : y ∈ h :: r := by
        have := nodup_full hn hs (by omega) y hy.1
        rcases List.mem_append.mp this with q | q
        · exact absurd q hyp
        · exact q
      obtain ⟨a, b, e⟩ := List.append_of_mem hyr
      have hn' : (p ++ (a ++ y :: b)).Nodup := e ▸ hn
      have hp' : (p ++ (a ++ y :: b)).Perm (p ++ [y] ++ (a ++ b)) := by
        simp only [List.append_assoc, List.cons_append, List.nil_append]
        exact (List.perm_middle).append_left p
      have hmv := goF_move M a p hn' (e ▸ hg)
      have hlen : (p ++ [y] ++ (a ++ b)).length = items.length := by rw [← hp'.length_eq, ← e]; exact hf
      have hab : (a ++ b).length = m := by
        have q1 : (h :: r).length = (a ++ y :: b).length := congrArg List.length e
        simp at q1 hl ⊢; omega
      obtain ⟨s, s1, s2⟩ := greedy_least M hi m (p ++ [y]) (a ++ b) (hp'.nodup_iff.mp hn') (fun x hx => hs x (e ▸ hp'.mem_iff.mpr hx)) hab hlen hmv
      refine ⟨y :: s, ?_, ?_⟩
      · unfold greedyG
        rw [h1]
        show greedyG items fine m (p ++ [y]) = _
        rw [s1]; simp
      · simp only [ltL]
        by_cases q : h = y
        · rw [if_pos q]
          -- then a is empty
          have ha : a = [] := by
            cases a with
            | nil => rfl
            | cons c a =>
              exfalso
              simp at e
              obtain ⟨e1, e2⟩ := e
              have := (List.nodup_append.mp hn).2.1
              rw [e2, q] at this
              simp at this
          subst ha
          simp at e
          obtain ⟨_, e⟩ := e
          subst e
          simpa using s2
        · rw [if_neg q]
          unfold ltI
          exact decide_eq_false (by omega)
theorem greedy_stuck : ∀ (m : Nat) (p : List Int), p.Nodup → (∀ x ∈ p, x ∈ items) → p.length + m = items.length → greedyG items fine m p = none → ∃ q, q.Nodup ∧ (∀ x ∈ q, x ∈ items) ∧ q.length < items.length ∧ ∀ h ∈ items, h ∉ q → fine q h = false
  | 0, p, _, _, _, h => by cases h
  | m + 1, p, hn, hs, hl, h => by
    unfold greedyG at h
    cases hf : (items.filter fun x => !memB x p).find? (fine p) with
    | none =>
      refine ⟨p, hn, hs, by omega, fun x hx hxp => ?_⟩
      have := List.find?_eq_none.mp hf x (List.mem_filter.mpr ⟨hx, by rw [Bool.not_eq_true', Bool.eq_false_iff]; exact fun q => hxp (memB_iff.mp q)⟩)
      simpa using this
    | some x =>
      rw [hf] at h
      have hx := List.mem_filter.mp (List.mem_of_find?_eq_some hf)
      have hxp : x ∉ p := fun q => by have := hx.2; rw [memB_iff.mpr q] at this; cases this
      refine greedy_stuck m (p ++ [x]) ?_ (fun y hy => ?_) (by simp; omega) h
      · rw [List.nodup_append]
        exact ⟨hn, by simp, fun c hc d hd => by rw [List.mem_singleton.mp hd]; exact fun q => hxp (q ▸ hc)⟩
      · rcases List.mem_append.mp hy with hy | hy
        · exact hs y hy
        · rw [List.mem_singleton.mp hy]; exact hx.1
/-- the first of all orders that is fine throughout -/
theorem greedy_first (M : MonoF fine) (hi : items.Pairwise (· < ·)) : (ordersN items items.length).find? (goF fine []) = greedyG items fine items.length [] := by
  cases h : greedyG items fine items.length [] with
  | some g =>
    obtain ⟨r, h1, h2, h3, h4, h5⟩ := greedy_spec hi _ [] g List.nodup_nil (fun x hx => by cases hx) h
    rw [List.nil_append] at h1
    subst h1
    refine first_least (swo_ltL swo_ltI) (ordersN_lex hi _) (mem_ordersN.mpr ⟨h2, h3, h4⟩) h5 fun y hy hg => ?_
    obtain ⟨y1, y2, y3⟩ := mem_ordersN.mp hy
    obtain ⟨s, s1, s2⟩ := greedy_least M hi items.length [] y (by simpa using y2) (by simpa using y3) y1 (by simpa using y1) hg
    rw [h] at s1
    cases s1
    simpa using s2
  | none =>
    refine List.find?_eq_none.mpr fun y hy hg => ?_
    obtain ⟨y1, y2, y3⟩ := mem_ordersN.mp hy
    obtain ⟨s, s1, s2⟩ := greedy_least M hi items.length [] y (by simpa using y2) (by simpa using y3) y1 (by simpa using y1) hg
    rw [h] at s1
    cases s1
end
theorem asc_nodup {l : List Int} (h : l.Pairwise (· < ·)) : l.Nodup := h.imp fun q e => by omega
theorem asc_full : ∀ {n : Nat} {l : List Int}, l.Pairwise (· < ·) → (∀ a ∈ l, 0 ≤ a ∧ a < n) → l.length = n → l = iota 0 n := fun {n l} h hi hl => by
  refine asc_ext h asc_iota fun x => ⟨fun hx => iota_mem.mpr (by have := hi x hx; omega), fun hx => ?_⟩
  exact nodup_full (asc_nodup h) (fun a ha => iota_mem.mpr (by have := hi a ha; omega)) (by simp; omega) x hx
theorem sort_perm {n : Nat} {x : List Int} : sortT ltI x = iota 0 n ↔ x.length = n ∧ x.Nodup ∧ ∀ a ∈ x, a ∈ iota 0 n := by
  constructor
  · intro h
    have hp : x.Perm (iota 0 n) := by rw [← h]; exact perm_sortT.symm
    exact ⟨by rw [hp.length_eq, iota_length], hp.symm.nodup (asc_nodup asc_iota), fun a ha => hp.mem_iff.mp ha⟩
  · rintro ⟨h1, h2, h3⟩
    refine asc_full ?_ (fun a ha => ?_) (by rw [sortT_length, h1])
    · have hs := sortT_sorted swo_ltI x
      have hn : (sortT ltI x).Nodup := perm_sortT.symm.nodup h2
      refine (hs.and hn).imp fun {a b} q => ?_
      have := q.1
      simp [ltI] at this
      have := q.2
      omega
    · have := iota_mem.mp (h3 a (mem_sortT.mp ha)); omega
end Ev
set_option maxHeartbeats 4000000
namespace Ev
open PySem PySem.Spec PyProof.Rows L2
section
variable {α β : Type} {C : Oracle} {ρ : EnvD}
theorem isin_none {t : Ty} : isinD t .non = some false := by
  unfold isinD isinT
  cases t <;> rfl
theorem v_isinO {e : α → D} {a : E} {t : Ty} {o : Option α} (ha : xE C ρ a = some (eO e o)) (h : ∀ x, isinD t (e x) = some true) : xE C ρ (.isin a t) = some (eB o.isSome) := by
  cases o with
  | none => exact v_isin (k := false) ha isin_none
  | some x => exact v_isin (k := true) ha (h x)
theorem lt2_ne [DecidableEq α] {l : α → α → Bool} {m : β → β → Bool} {x y : α × β} (h : x.1 ≠ y.1) : lt2 l m x y = l x.1 y.1 := if_neg h
theorem lt2_eq [DecidableEq α] {l : α → α → Bool} {m : β → β → Bool} {x y : α × β} (h : x.1 = y.1) : lt2 l m x y = m x.2 y.2 := if_pos h
theorem nodup_perm [DecidableEq α] {l m : List α} (hl : l.Nodup) (hm : m.Nodup) (h : ∀ x, x ∈ l ↔ x ∈ m) : l.Perm m := by
  obtain ⟨r, hr⟩ := perm_of_sub hl fun a ha => (h a).mp ha
  have : r = [] := by
    cases r with
    | nil => rfl
    | cons a r =>
      have h1 := hr.nodup_iff.mp hm
      have h2 : a ∈ m := hr.mem_iff.mpr (by simp)
      have h3 := (h a).mpr h2
      exact absurd rfl ((List.nodup_append.mp h1).2.2 a h3 a List.mem_cons_self)
  rw [this, List.append_nil] at hr
  exact hr.symm
theorem cutG_take {xs : List α} {k : Nat} (h : k ≤ xs.length) : cutG xs none (some (k : Int)) = xs.take k := by
  unfold cutG
  have e2 : HT.sIx xs.length xs.length (some (k : Int)) = k := by unfold HT.sIx; simp only []; split <;> omega
  rw [e2, show HT.sIx xs.length 0 none = 0 from rfl]
  rfl
theorem cutG_drop {xs : List α} {k : Nat} (h : k ≤ xs.length) : cutG xs (some (k : Int)) none = xs.drop k := by
  unfold cutG
  have e2 : HT.sIx xs.length 0 (some (k : Int)) = k := by unfold HT.sIx; simp only []; split <;> omega
  rw [e2, show HT.sIx xs.length xs.length none = xs.length from rfl, List.take_of_length_le (by rw [List.length_drop]; omega)]
theorem enum_take {xs : List α} {z : Int × α} : z ∈ enumT xs → ∃ k : Nat, z.1 = k ∧ xs[k]? = some z.2 := by
  rw [enumT_eq]
  have key : ∀ (xs : List α) (j : Int), z ∈ enumF j xs → ∃ k : Nat, z.1 = j + k ∧ xs[k]? = some z.2 := fun xs => by
    induction xs with
    | nil => intro j h; cases h
    | cons x xs ih =>
      intro j h
      rcases List.mem_cons.mp h with rfl | h
      · exact ⟨0, by simp, rfl⟩
      · obtain ⟨k, h1, h2⟩ := ih (j + 1) h
        exact ⟨k + 1, by omega, by simpa using h2⟩
  intro h
  obtain ⟨k, h1, h2⟩ := key xs 0 h
  exact ⟨k, by omega, h2⟩
theorem take_enum {xs : List α} {k : Nat} {x : α} (h : xs[k]? = some x) : ((k : Int), x) ∈ enumT xs := by
  rw [enumT_eq]
  have key : ∀ (xs : List α) (j : Int) (k : Nat), xs[k]? = some x → (j + k, x) ∈ enumF j xs := fun xs => by
    induction xs with
    | nil => intro j k h; simp at h
    | cons y xs ih =>
      intro j k h
      cases k with
      | zero => simp at h; subst h; simp [enumF]
      | succ k =>
        refine List.mem_cons_of_mem _ ?_
        have := ih (j + 1) k (by simpa using h)
        rw [show j + 1 + (k : Int) = j + ((k + 1 : Nat) : Int) by omega] at this
        exact this
  have := key xs 0 k h
  rwa [Int.zero_add] at this
theorem iota_range {m : Nat} : iota 0 m = (List.range m).map fun (i : Nat) => (i : Int) := by
  unfold iota
  exact List.map_congr_left fun i _ => by omega
end
end Ev
set_option maxHeartbeats 4000000
namespace Ev
open PySem PySem.Spec PyProof.Rows L2
/-! ### folds that append -/
theorem fold_cat {α β : Type} {f : List β → α → Option (List β)} {R : α → List β} {c B : Nat} : ∀ (xs : List α) (acc : List β), (∀ acc x, x ∈ xs → acc.length + c ≤ B → f acc x = some (acc ++ R x)) → (∀ x ∈ xs, (R x).length ≤ c) → acc.length + c * xs.length ≤ B → foldO f acc xs = some (acc ++ xs.flatMap R)
  | [], acc, _, _, _ => by simp [foldO]
  | x :: xs, acc, h, hR, hl => by
    rw [List.length_cons, Nat.mul_succ] at hl
    have h1 := hR x List.mem_cons_self
    refine eq_bind (h acc x List.mem_cons_self (by omega)) ?_
    rw [fold_cat xs _ (fun acc y hy => h acc y (List.mem_cons_of_mem _ hy)) (fun y hy => hR y (List.mem_cons_of_mem _ hy)) (by rw [List.length_append]; omega), List.flatMap_cons, List.append_assoc]
theorem fold_some {α β : Type} {f : List β → α → Option (List β)} {q : α → Bool} {g : α → β} {B : Nat} : ∀ (xs : List α) (acc : List β), (∀ acc x, x ∈ xs → acc.length + 1 ≤ B → f acc x = some (if q x = true then acc ++ [g x] else acc)) → acc.length + xs.length ≤ B → foldO f acc xs = some (acc ++ (xs.filter q).map g)
  | [], acc, _, _ => by simp [foldO]
  | x :: xs, acc, h, hl => by
    rw [List.length_cons] at hl
    refine eq_bind (h acc x List.mem_cons_self (by omega)) ?_
    rw [fold_some xs _ (fun acc y hy => h acc y (List.mem_cons_of_mem _ hy)) (by split <;> (try rw [List.length_append, List.length_singleton]) <;> omega), List.filter_cons]
    split <;> simp
/-! ### places -/
theorem enumF_iota {α : Type} {d : α} {l : List α} : ∀ (rest : List α) (k : Nat), l.drop k = rest → enumF k rest = (iota k rest.length).map fun j => (j, l.getD j.toNat d)
  | [], k, _ => rfl
  | x :: rest, k, h => by
    rw [List.length_cons, iota_cons, List.map_cons]
    have hx : l.getD k d = x := by
      have : (l.drop k)[0]? = some x := by rw [h]; rfl
      rw [List.getElem?_drop] at this
      rw [List.getD_eq_getElem?_getD, show k = k + 0 from rfl, this]; rfl
    show ((k : Int), x) :: enumF ((k : Int) + 1) rest = _
    congr 1
    · rw [Int.toNat_natCast, hx]
    · have := enumF_iota (d := d) (l := l) rest (k + 1) (by rw [← List.drop_drop, h]; rfl)
      exact_mod_cast this
theorem enumT_iota {α : Type} (d : α) {l : List α} : enumT l = (iota 0 l.length).map fun j => (j, l.getD j.toNat d) := by
  rw [enumT_eq]
  exact enumF_iota (d := d) (l := l) l 0 rfl
theorem enumT_len {α : Type} {l : List α} : (enumT l).length = l.length := by
  rw [enumT_eq]
  have : ∀ (l : List α) (k : Int), (enumF k l).length = l.length := fun l => by
    induction l with
    | nil => intro k; rfl
    | cons x l ih => intro k; show (enumF (k + 1) l).length + 1 = _; rw [ih]; rfl
  exact this l 0
theorem at_getD {α : Type} {d : α} {ts : List α} {j : Int} (h0 : 0 ≤ j) (h1 : j < ts.length) : atI ts j = some (ts.getD j.toNat d) := by
  obtain ⟨v, e, _, g⟩ := atI_in h0 h1
  rw [e, List.getD_eq_getElem?_getD, g]; rfl
theorem getD_mem {α : Type} {d : α} {ts : List α} {j : Int} (h0 : 0 ≤ j) (h1 : j < ts.length) : ts.getD j.toNat d ∈ ts := by
  obtain ⟨v, e, m, g⟩ := atI_in h0 h1
  rw [List.getD_eq_getElem?_getD, g]; exact m
theorem drop_getD {α : Type} {d : α} {ts : List α} {i j : Nat} : ts.getD (i + j) d = (ts.drop i).getD j d := by
  rw [List.getD_eq_getElem?_getD, List.getD_eq_getElem?_getD, List.getElem?_drop]
theorem enum_get {α : Type} (d : α) {ts : List α} {z : Int × α} (hz : z ∈ enumT ts) : ∃ i : Nat, z.1 = i ∧ i < ts.length ∧ z.2 = ts.getD i d ∧ z.2 ∈ ts := by
  obtain ⟨i, h1, h2⟩ := enum_take hz
  have hi : i < ts.length := by
    rcases Nat.lt_or_ge i ts.length with h | h
    · exact h
    · rw [List.getElem?_eq_none h] at h2; cases h2
  exact ⟨i, h1, hi, by rw [List.getD_eq_getElem?_getD, h2]; rfl, List.mem_of_getElem? h2⟩
theorem memB_f {α : Type} [DecidableEq α] {x : α} {l : List α} : memB x l = false ↔ x ∉ l := by
  rw [← Bool.not_eq_true, memB_iff]
end Ev
set_option maxHeartbeats 4000000
namespace Ev
open PySem PySem.Spec PyProof.Rows L2
section
variable {C : Oracle} {ρ ρ' p q : EnvD} {M : List Nat} {a b rest : List S} {o : Out} {α β : Type} {e : α → D} {d : D}
/-! ### count, index -/
def cntT [DecidableEq α] (xs : List α) (x : α) : Int := ((xs.countP fun z => decide (z = x) : Nat) : Int)
def idxO [DecidableEq α] (xs : List α) (x : α) : Option Int := Option.map (fun (j : Nat) => (j : Int)) (xs.findIdx? fun z => decide (z = x))
theorem eqv_fun [DecidableEq α] [Eqv e] (x : α) : ((fun z : D => PyData.eqv z.py (e x).py) ∘ e) = fun z => decide (z = x) := funext fun z => Eqv.eqv z x
theorem cnt_of {n : Nat} [DecidableEq α] [Wf e n] [Eqv e] {xs : List α} {x : α} {dx : D} (hi : itemsD dx = some (xs.map e)) (h : n ≤ 60) : oprD .cnt [dx, e x] = some (eI (cntT xs x)) := by
  simp only [oprD]
  rw [hi, Option.bind_some, Wf.wfs h, Wf.wf h, List.countP_map, eqv_fun]; rfl
theorem idx_of {n : Nat} [DecidableEq α] [Wf e n] [Eqv e] {xs : List α} {x : α} {j : Int} {dx : D} (hi : itemsD dx = some (xs.map e)) (hj : idxO xs x = some j) (h : n ≤ 60) : oprD .idx [dx, e x] = some (eI j) := by
  simp only [oprD]
  unfold idxO at hj
  obtain ⟨k, h1, rfl⟩ := Option.map_eq_some_iff.mp hj
  rw [hi, Option.bind_some, Wf.wfs h, Wf.wf h, List.findIdx?_map, eqv_fun, h1]; rfl
theorem v_op2 {f : Opr} {A B : E} {x y z : D} (ha : xE C ρ A = some x) (hb : xE C ρ B = some y) (h : oprD f [x, y] = some z) : xE C ρ (.op f [A, B]) = some z := by rw [evE_op, x_cons ha (x_cons hb x_nil)]; exact h
theorem v_cntL {n : Nat} [DecidableEq α] [Wf e n] [Eqv e] {A B : E} {xs : List α} {x : α} (ha : xE C ρ A = some (eL e xs)) (hb : xE C ρ B = some (e x)) (h : n ≤ 60 := by decide) : xE C ρ (.op .cnt [A, B]) = some (eI (cntT xs x)) := v_op2 ha hb (cnt_of rfl h)
theorem v_cntU {n : Nat} [DecidableEq α] [Wf e n] [Eqv e] {A B : E} {xs : List α} {x : α} (ha : xE C ρ A = some (eU e xs)) (hb : xE C ρ B = some (e x)) (h : n ≤ 60 := by decide) : xE C ρ (.op .cnt [A, B]) = some (eI (cntT xs x)) := v_op2 ha hb (cnt_of rfl h)
theorem v_idxL {n : Nat} [DecidableEq α] [Wf e n] [Eqv e] {A B : E} {xs : List α} {x : α} {j : Int} (ha : xE C ρ A = some (eL e xs)) (hb : xE C ρ B = some (e x)) (hj : idxO xs x = some j) (h : n ≤ 60 := by decide) : xE C ρ (.op .idx [A, B]) = some (eI j) := v_op2 ha hb (idx_of rfl hj h)
theorem v_idxU {n : Nat} [DecidableEq α] [Wf e n] [Eqv e] {A B : E} {xs : List α} {x : α} {j : Int} (ha : xE C ρ A = some (eU e xs)) (hb : xE C ρ B = some (e x)) (hj : idxO xs x = some j) (h : n ≤ 60 := by decide) : xE C ρ (.op .idx [A, B]) = some (eI j) := v_op2 ha hb (idx_of rfl hj h)
/-! ### reversed, range with a step -/
theorem i_rvL {A : E} {xs : List α} (ha : xE C ρ A = some (eL e xs)) : xI C ρ (.rv A) = some (xs.reverse.map e) := by rw [evI_rv, ha, List.map_reverse]; rfl
theorem i_rvU {A : E} {xs : List α} (ha : xE C ρ A = some (eU e xs)) : xI C ρ (.rv A) = some (xs.reverse.map e) := by rw [evI_rv, ha, List.map_reverse]; rfl
def rng3 (a b c : Int) : Option (List Int) := if c ≠ 0 ∧ c.natAbs < 1073741824 ∧ Builtin.Range.small a b c = true ∧ (Builtin.Range.rangeSize a b c).toNat ≤ 16777216 ∧ 0 ≤ Builtin.Range.rangeSize a b c then
  some ((List.range (Builtin.Range.rangeSize a b c).toNat).map fun (k : Nat) => a + (k : Int) * c) else none
theorem i_rng3 {A B D' : E} {x y z : Int} {xs : List Int} (ha : xE C ρ A = some (eI x)) (hb : xE C ρ B = some (eI y)) (hc : xE C ρ D' = some (eI z)) (h : rng3 x y z = some xs) : xI C ρ (.rng3 A B D') = some (xs.map eI) := by
  unfold rng3 at h
  split at h
  · rename_i hk
    cases h
    obtain ⟨h1, h2, h3, h4, h5⟩ := hk
    rw [evI_rng3, ha, hb, hc]
    simp only [Option.bind_some, eI, range3D]
    rw [if_pos (by simp only [Bool.and_eq_true, decide_eq_true_eq]; exact ⟨⟨⟨⟨h1, h2⟩, h3⟩, lineOk_small h4⟩, h5⟩), List.map_map]; rfl
  · cases h
theorem rng3_down {a b : Int} (h1 : -(2 ^ 62) ≤ a) (h2 : a < 2 ^ 62) (h3 : -(2 ^ 62) ≤ b) (h4 : b < 2 ^ 62) (h5 : a - b ≤ 16777216) : rng3 a b (-1) = some ((List.range (a - b).toNat).map fun (k : Nat) => a - (k : Int)) := by
  unfold rng3
  rw [PySem.W.rangeSize_downNat, if_pos ⟨by decide, by decide, PySem.W.small_down h1 h2 h3 h4, by omega, by omega⟩]
  congr 1
  have : ((a - b).toNat : Int).toNat = (a - b).toNat := by omega
  rw [this]
  refine List.map_congr_left fun k _ => ?_
  omega
theorem w_rng3 {t : Tg} {A B D' : E} {xs : List α} [Im e] : forOK C M ρ t (.rng3 A B D') b (xs.map e) = true := by
  simp [forOK, It.parts, imms_map Im.im]
theorem w_rvimm {t : Tg} {E : E} {xs : List α} [Im e] (h1 : xE C ρ E = some d) (h2 : (d.imm || fr E d) = true) : forOK C M ρ t (.rv E) b (xs.map e) = true := by
  rw [xE_eq] at h1
  have hp : partOK C M ρ t b E = true := by simp only [partOK, h1, h2]; simp
  simp [forOK, It.parts, hp, imms_map Im.im]
theorem w_rvvar {t : Tg} {i : Nat} {xs : List α} [Im e] (h1 : ρ[i]? = some (some d)) (h2 : M.contains i = true) (h3 : (t.slots.contains i || touchs i b) = false) : forOK C M ρ t (.rv (.var i)) b (xs.map e) = true := by
  have hv : evE C ρ (.var i) = some d := by simp only [evE, h1]; rfl
  have hp : partOK C M ρ t b (.var i) = true := by simp only [partOK, hv, h2, h3]; simp
  simp [forOK, It.parts, hp, imms_map Im.im]
/-! ### x += e -/
theorem r_augA {i : Nat} {E : E} {x y z : Int} (hz : z = x + y) (hi : ρ[i]? = some (some (eI x))) (h : xE C ρ E = some (eI y)) (k : Run C M (ρ.set i (some (eI z))) rest o) : Run C M ρ (.aug i .Add E :: rest) o := r_step (by rw [evS_aug, hi, h, hz]; rfl) k
theorem r_augS {i : Nat} {E : E} {x y z : Int} (hz : z = x - y) (hi : ρ[i]? = some (some (eI x))) (h : xE C ρ E = some (eI y)) (k : Run C M (ρ.set i (some (eI z))) rest o) : Run C M ρ (.aug i .Sub E :: rest) o := r_step (by rw [evS_aug, hi, h, hz]; rfl) k
def mulLO (x y : Int) : Option Int := if small x = true then some (x * y) else none
theorem r_augM {i : Nat} {E : E} {x y z : Int} (hi : ρ[i]? = some (some (eI x))) (h : xE C ρ E = some (eI y)) (hz : mulLO x y = some z) (k : Run C M (ρ.set i (some (eI z))) rest o) : Run C M ρ (.aug i .Mult E :: rest) o := by
  unfold mulLO at hz
  obtain ⟨hs, rfl⟩ := ite_some hz
  exact r_step (by rw [evS_aug, hi, h]; exact if_pos hs) k
/-! ### x.pop(..), x.remove(..) -/
def popO (xs : List α) (k : Option Int) : Option (α × List α) := if (match k with | some k => decide (-(2 ^ 63) ≤ k) && decide (k < 2 ^ 63) | none => true) = true then (ixN xs.length (k.getD (-1))).bind fun n => (xs[n]?).map fun x => (x, xs.eraseIdx n) else none
theorem erase_map {f : α → β} : ∀ (xs : List α) (n : Nat), (xs.map f).eraseIdx n = (xs.eraseIdx n).map f
  | [], _ => rfl
  | x :: xs, 0 => rfl
  | x :: xs, n + 1 => by simp [erase_map xs n]
theorem popD_of [Im e] {t : Option Nat} {i : Nat} {xs ys : List α} {v : α} {k : Option Int} (hm : M.contains i = true) (ht : (match t with | some t => !(t == i) | none => true) = true) (h : popO xs k = some (v, ys)) :
    popD M ρ t i k (eL e xs) = some (.nx, setT (ρ.set i (some (eL e ys))) t (e v)) := by
  unfold popO at h
  obtain ⟨hk, h⟩ := ite_some' h
  obtain ⟨n, h1, h2⟩ := Option.bind_eq_some_iff.mp h
  obtain ⟨x, h3, h4⟩ := Option.map_eq_some_iff.mp h2
  cases h4
  unfold popD eL
  simp only
  rw [if_pos (by rw [hm]; cases t <;> cases k <;> simp_all), List.length_map, h1, Option.bind_some, List.getElem?_map, h3, Option.map_some, Option.bind_some, if_pos (Im.im (e := e) v), erase_map]
theorem r_popN [Im e] {i : Nat} {k : Option E} {kk : Option Int} {xs ys : List α} {v : α} (hi : ρ[i]? = some (some (eL e xs))) (hk : xO C ρ k = some kk) (hm : M.contains i = true) (h : popO xs kk = some (v, ys)) (K : Run C M (ρ.set i (some (eL e ys))) rest o) : Run C M ρ (.pop none i k :: rest) o :=
  r_step (by rw [evS_pop, hi, hk]; exact popD_of (e := e) (t := none) hm rfl h) K
theorem r_popT [Im e] {t i : Nat} {k : Option E} {kk : Option Int} {xs ys : List α} {v : α} (hi : ρ[i]? = some (some (eL e xs))) (hk : xO C ρ k = some kk) (hm : M.contains i = true) (ht : (!(t == i)) = true) (h : popO xs kk = some (v, ys)) (K : Run C M ((ρ.set i (some (eL e ys))).set t (some (e v))) rest o) : Run C M ρ (.pop (some t) i k :: rest) o :=
  r_step (by rw [evS_pop, hi, hk]; exact popD_of (e := e) (t := some t) hm ht h) K
def remO [DecidableEq α] (xs : List α) (x : α) : Option (List α) := (xs.findIdx? fun z => decide (z = x)).map fun n => xs.eraseIdx n
theorem r_rem {n : Nat} [DecidableEq α] [Wf e n] [Eqv e] {i : Nat} {E : E} {xs ys : List α} {v : α} (h : xE C ρ E = some (e v)) (hi : ρ[i]? = some (some (eL e xs))) (hm : M.contains i = true) (hr : remO xs v = some ys) (K : Run C M (ρ.set i (some (eL e ys))) rest o) (hn : n ≤ 60 := by decide) : Run C M ρ (.rem i E :: rest) o := by
  unfold remO at hr
  obtain ⟨j, h1, rfl⟩ := Option.map_eq_some_iff.mp hr
  refine r_step ?_ K
  rw [evS_rem, h, hi]
  simp only [Option.bind_some, id, remD, eL]
  rw [if_pos (by rw [hm, Wf.wfs hn, Wf.wf hn]; rfl), List.findIdx?_map, eqv_fun, h1, Option.bind_some, erase_map]
end
/-! ### sets of tuples of ints -/
section
variable {C : Oracle} {ρ : EnvD} {α : Type}
def insB [DecidableEq α] (lt : α → α → Bool) (x : α) : List α → List α
  | [] => [x]
  | y :: ys => if lt x y = true then x :: y :: ys else if x = y then y :: ys else y :: insB lt x ys
def dedS [DecidableEq α] (lt : α → α → Bool) : List α → List α
  | [] => []
  | x :: xs => insB lt x (dedS lt xs)
def dedSO [DecidableEq α] (lt : α → α → Bool) (xs : List α) : Option (List α) := if xs.length < 64 then some (dedS lt xs) else none
class TI (e : α → D) (lt : outParam (α → α → Bool)) where
  f : α → List Int
  enc : ∀ x, e x = eTI (f x)
  inj : ∀ x y, f x = f y → x = y
  lt_ : ∀ x y, lexI (f x) (f y) = lt x y
theorem lexI_eq : ∀ k l : List Int, lexI k l = ltL ltI k l
  | [], [] => rfl
  | [], _ :: _ => rfl
  | _ :: _, [] => rfl
  | x :: k, y :: l => by simp only [lexI, ltL, lexI_eq k l]; rfl
instance : TI (eU eI) (ltL ltI) := ⟨id, fun _ => rfl, fun _ _ h => h, fun x y => lexI_eq x y⟩
instance : TI (eT2 eI eI) (lt2 ltI ltI) := ⟨fun p => [p.1, p.2], fun _ => rfl, fun x y h => by
  simp only [List.cons.injEq, and_true] at h; exact Prod.ext h.1 h.2, fun x y => by
  simp only [lexI, lt2, ltI]
  by_cases h : x.1 = y.1
  · rw [if_pos h, if_pos h]
    by_cases h2 : x.2 = y.2
    · rw [if_pos h2, h2]; simp
    · rw [if_neg h2]
  · rw [if_neg h, if_neg h]⟩
instance : TI (eT3 eI eI eI) (lt2 ltI (lt2 ltI ltI)) := ⟨fun p => [p.1, p.2.1, p.2.2], fun _ => rfl, fun x y h => by
  simp only [List.cons.injEq, and_true] at h; exact Prod.ext h.1 (Prod.ext h.2.1 h.2.2), fun x y => by
  simp only [lexI, lt2, ltI]
  by_cases h : x.1 = y.1
  · rw [if_pos h, if_pos h]
    by_cases h1 : x.2.1 = y.2.1
    · rw [if_pos h1, if_pos h1]
      by_cases h2 : x.2.2 = y.2.2
      · rw [if_pos h2, h2]; simp
      · rw [if_neg h2]
    · rw [if_neg h1, if_neg h1]
  · rw [if_neg h, if_neg h]⟩
variable [DecidableEq α] {e : α → D} {lt : α → α → Bool}
theorem insT_map [T : TI e lt] (x : α) : ∀ l : List α, insT (T.f x) (l.map T.f) = (insB lt x l).map T.f
  | [] => rfl
  | y :: l => by
    simp only [List.map_cons, insT, insB, T.lt_]
    by_cases h : lt x y = true
    · rw [if_pos h, if_pos h]; rfl
    · rw [if_neg h, if_neg h]
      by_cases h2 : x = y
      · rw [if_pos (congrArg T.f h2), if_pos h2]; rfl
      · rw [if_neg fun z => h2 (T.inj _ _ z), if_neg h2, insT_map x l]; rfl
theorem dedT_map [T : TI e lt] : ∀ l : List α, dedT (l.map T.f) = (dedS lt l).map T.f
  | [] => rfl
  | x :: l => by rw [List.map_cons, dedT, dedT_map l, insT_map]; rfl
theorem tupInts_map [T : TI e lt] : ∀ l : List α, mapO tupInts (l.map e) = some (l.map T.f)
  | [] => rfl
  | x :: l => by
    have h1 : tupInts (e x) = some (T.f x) := by rw [T.enc]; exact mapO_int _
    simp only [List.map_cons, mapO, h1, Option.bind_some, tupInts_map l]
theorem ssetT_of [T : TI e lt] {d : D} {xs ys : List α} {k : Bool} (hi : itemsD d = some (xs.map e)) (h : dedSO lt xs = some ys) : ssetD k d = some (match k with | true => eL e ys | false => eI ys.length) := by
  unfold dedSO at h
  obtain ⟨hl, rfl⟩ := ite_some h
  unfold ssetD
  rw [hi, Option.bind_some]
  cases xs with
  | nil => cases k <;> simp [mapO, ded, dedS, eL, eI]
  | cons x xs =>
    have h0 : mapO intOf ((x :: xs).map e) = none := by
      have : intOf (e x) = none := by rw [T.enc]; rfl
      simp [mapO, this]
    rw [h0]
    simp only
    rw [tupInts_map, Option.bind_some, List.length_map, if_pos hl, dedT_map]
    have he : (List.map eTI (List.map T.f (dedS lt (x :: xs)))) = (dedS lt (x :: xs)).map e := by
      rw [List.map_map]; exact List.map_congr_left fun z _ => (T.enc z).symm
    cases k
    · simp [eI]
    · simp only [he, eL]
theorem v_sstL [TI e lt] {a : E} {xs ys : List α} (ha : xE C ρ a = some (eL e xs)) (h : dedSO lt xs = some ys) : xE C ρ (.sset true a) = some (eL e ys) := by rw [evE_sset, ha]; exact ssetT_of (e := e) (lt := lt) (k := true) (d := eL e xs) (xs := xs) rfl h
theorem v_sstU [TI e lt] {a : E} {xs ys : List α} (ha : xE C ρ a = some (eU e xs)) (h : dedSO lt xs = some ys) : xE C ρ (.sset true a) = some (eL e ys) := by rw [evE_sset, ha]; exact ssetT_of (e := e) (lt := lt) (k := true) (d := eU e xs) (xs := xs) rfl h
theorem v_sntL [TI e lt] {a : E} {xs ys : List α} (ha : xE C ρ a = some (eL e xs)) (h : dedSO lt xs = some ys) : xE C ρ (.sset false a) = some (eI ys.length) := by rw [evE_sset, ha]; exact ssetT_of (e := e) (lt := lt) (k := false) (d := eL e xs) (xs := xs) rfl h
theorem v_sntU [TI e lt] {a : E} {xs ys : List α} (ha : xE C ρ a = some (eU e xs)) (h : dedSO lt xs = some ys) : xE C ρ (.sset false a) = some (eI ys.length) := by rw [evE_sset, ha]; exact ssetT_of (e := e) (lt := lt) (k := false) (d := eU e xs) (xs := xs) rfl h
end
end Ev
/-! Dicts in the typed world: rows of pairs. -/
namespace Ev
open PySem PySem.Spec PyProof.Rows L2
class Ke {κ : Type} (ek : κ → D) where
  f : κ → Key
  enc : ∀ x, ek x = keyD (f x)
  inj : ∀ x y, f x = f y → x = y
instance : Ke eI := ⟨fun x => .inl x, fun _ => rfl, fun x y h => by cases h; rfl⟩
instance : Ke eS := ⟨fun x => .inr x, fun _ => rfl, fun x y h => by cases h; rfl⟩
def eK {κ α : Type} (ek : κ → D) (e : α → D) (m : List (κ × α)) : D := .dic false (m.map fun p => ek p.1) (m.map fun p => e p.2)
section
variable {κ α : Type} [DecidableEq κ]
def getM (m : List (κ × α)) (k : κ) : Option α := (m.find? fun p => decide (p.1 = k)).map fun p => p.2
def hasM (m : List (κ × α)) (k : κ) : Bool := m.any fun p => decide (p.1 = k)
def putM (m : List (κ × α)) (k : κ) (v : α) : List (κ × α) := if hasM m k = true then m.map (fun p => if p.1 = k then (p.1, v) else p) else m ++ [(k, v)]
def putO (m : List (κ × α)) (k : κ) (v : α) : Option (List (κ × α)) := if m.length < 16777216 then some (putM m k v) else none
end
section
variable {κ α : Type} [DecidableEq κ] {ek : κ → D} [T : Ke ek] {e : α → D} {C : Oracle} {ρ : EnvD} {M : List Nat} {rest : List S} {o : Out}
theorem kOf_ek (x : κ) : kOf (ek x) = some (T.f x) := by rw [T.enc, kOf_keyD]
theorem key_dec (x k : κ) : decide (kOf (ek x) = some (T.f k)) = decide (x = k) := by
  rw [kOf_ek]
  refine decide_eq_decide.mpr ⟨fun h => T.inj _ _ (Option.some.inj h), fun h => by rw [h]⟩
theorem zip_ek (m : List (κ × α)) : (m.map fun p => ek p.1).zip (m.map fun p => e p.2) = m.map fun p => (ek p.1, e p.2) := by
  induction m with
  | nil => rfl
  | cons p m ih => simp only [List.map_cons, List.zip_cons_cons, ih]
theorem getK_ek (m : List (κ × α)) (k : κ) : getK (m.map fun p => ek p.1) (m.map fun p => e p.2) (T.f k) = (getM m k).map e := by
  unfold getK getM
  rw [zip_ek, List.find?_map, Option.map_map, Option.map_map]
  have : ((fun p : D × D => decide (kOf p.1 = some (T.f k))) ∘ fun p : κ × α => (ek p.1, e p.2)) = fun p => decide (p.1 = k) := funext fun p => key_dec (ek := ek) p.1 k
  rw [this]; rfl
theorem hasK_ek (m : List (κ × α)) (k : κ) : hasK (m.map fun p => ek p.1) (T.f k) = hasM m k := by
  unfold hasK hasM
  rw [List.any_map]
  congr 1
  exact funext fun p => key_dec (ek := ek) p.1 k
theorem putKs_ek (m : List (κ × α)) (k : κ) (v : α) : putKs (m.map fun p => ek p.1) (T.f k) = (putM m k v).map fun p => ek p.1 := by
  unfold putKs putM
  rw [hasK_ek]
  split
  · rw [List.map_map]
    refine List.map_congr_left fun p _ => ?_
    show ek p.1 = ek (if p.1 = k then (p.1, v) else p).1
    split <;> rfl
  · rw [List.map_append, ← T.enc]; rfl
theorem putVs_ek (m : List (κ × α)) (k : κ) (v : α) : putVs (m.map fun p => ek p.1) (m.map fun p => e p.2) (T.f k) (e v) = (putM m k v).map fun p => e p.2 := by
  unfold putVs putM
  rw [hasK_ek]
  split
  · rw [zip_ek, List.map_map, List.map_map]
    refine List.map_congr_left fun p _ => ?_
    show (if kOf (ek p.1) = some (T.f k) then e v else e p.2) = e (if p.1 = k then (p.1, v) else p).2
    have := key_dec (ek := ek) p.1 k
    by_cases h : p.1 = k
    · rw [if_pos h, if_pos (by rw [kOf_ek, h])]
    · rw [if_neg h, if_neg (by rw [decide_eq_false h] at this; exact of_decide_eq_false this)]
  · rw [List.map_append]; rfl
theorem v_dnew : xE C ρ .dnew = some (eK ek e []) := by simp only [xE_eq, evE]; rfl
theorem v_dsing {A B : E} {k : κ} {v : α} (ha : xE C ρ A = some (ek k)) (hb : xE C ρ B = some (e v)) : xE C ρ (.dsing A B) = some (eK ek e [(k, v)]) := by
  rw [xE_eq] at ha hb ⊢
  simp only [evE, ha, hb, Option.bind_some, kOf_ek, Option.map_some]
  unfold eK
  rw [← T.enc]; rfl
theorem v_ixM {A B : E} {m : List (κ × α)} {k : κ} {v : α} (ha : xE C ρ A = some (eK ek e m)) (hb : xE C ρ B = some (ek k)) (h : getM m k = some v) : xE C ρ (.ix A B) = some (e v) := by
  rw [evE_ix, ha, hb]
  show ((kOf (ek k)).bind fun k => getK (m.map fun p => ek p.1) (m.map fun p => e p.2) k) = _
  rw [kOf_ek, Option.bind_some, getK_ek, h]; rfl
theorem getM_isSome (m : List (κ × α)) (k : κ) : ((getM m k).map e).isSome = (getM m k).isSome := by cases getM m k <;> rfl
theorem c_inM {m : List (κ × α)} {k : κ} : cmpD .In (ek k) (eK ek e m) = some (getM m k).isSome := by
  show ((kOf (ek k)).map fun k => (getK (m.map fun p => ek p.1) (m.map fun p => e p.2) k).isSome) = _
  rw [kOf_ek, Option.map_some, getK_ek, getM_isSome]
theorem c_notinM {m : List (κ × α)} {k : κ} : cmpD .NotIn (ek k) (eK ek e m) = some (!(getM m k).isSome) := by
  show (memD (ek k) (eK ek e m)).map (!·) = _
  have := c_inM (ek := ek) (e := e) (m := m) (k := k)
  rw [show memD (ek k) (eK ek e m) = some (getM m k).isSome from this]; rfl
theorem v_dget {A B : E} {m : List (κ × α)} {k : κ} (ha : xE C ρ A = some (eK ek e m)) (hb : xE C ρ B = some (ek k)) : xE C ρ (.dget A B) = some (eO e (getM m k)) := by
  rw [xE_eq] at ha hb ⊢
  simp only [evE, ha, hb, Option.bind_some]
  unfold eK dgetD
  simp only [kOf_ek, Option.map_some, getK_ek]
  cases getM m k <;> rfl
theorem v_dgetx {A B Z : E} {m : List (κ × α)} {k : κ} {z : α} (ha : xE C ρ A = some (eK ek e m)) (hb : xE C ρ B = some (ek k)) (hz : xE C ρ Z = some (e z)) : xE C ρ (.dgetx A B Z) = some (e ((getM m k).getD z)) := by
  rw [xE_eq] at ha hb hz ⊢
  simp only [evE, ha, hb, hz, Option.bind_some]
  unfold eK dgetD
  simp only [kOf_ek, Option.map_some, getK_ek]
  cases getM m k <;> rfl
theorem r_subM {i : Nat} {K E : E} {xs ys : List (κ × α)} {j : κ} {v : α} (h : xE C ρ E = some (e v)) (hk : xE C ρ K = some (ek j)) (hi : ρ[i]? = some (some (eK ek e xs))) (hm : M.contains i = true) (hf : ((e v).imm || fr E (e v)) = true) (ha : putO xs j v = some ys)
    (k : Run C M (ρ.set i (some (eK ek e ys))) rest o) : Run C M ρ (.sub i K E :: rest) o := by
  unfold putO at ha
  split at ha
  · rename_i hl
    cases ha
    refine r_step ?_ k
    rw [evS_sub, h, hk, hi]
    have hl' : (xs.map fun p => ek p.1).length < sizeLine := by rw [List.length_map]; exact size_lt hl
    simp only [Option.bind_some, id, stoD, eK, kOf_ek]
    rw [if_pos (by rw [hm, hf, decide_eq_true hl']; rfl), putKs_ek xs j v, putVs_ek]
  · cases ha
instance [Im e] : Im1 (eK ek e) := ⟨fun m => by
  show D.imms (m.map fun p => e p.2) = true
  have h : (m.map fun p => e p.2) = (m.map fun p => p.2).map e := by rw [List.map_map]; rfl
  rw [h, imms_map Im.im]⟩
instance : NN (eK ek e) := ⟨fun _ => rfl⟩
end
end Ev
namespace Ev
open PySem PySem.Spec PyProof.Rows L2
/-- a row read as a row of wider items -/
theorem coU_eq {α β : Type} {e : α → D} {e' : β → D} {f : α → β} {xs : List α} (h : ∀ x, e' (f x) = e x) : eU e' (xs.map f) = eU e xs := by
  unfold eU
  rw [List.map_map]
  congr 1
  exact List.map_congr_left fun x _ => h x
theorem v_coU {α β : Type} {C : Oracle} {ρ : EnvD} {a : E} {xs : List α} {e : α → D} {e' : β → D} {f : α → β} (h : xE C ρ a = some (eU e xs)) (hf : ∀ z, e' (f z) = e z) : xE C ρ a = some (eU e' (xs.map f)) := by
  rw [h]
  unfold eU
  rw [List.map_map]
  congr 3
  exact funext fun z => (hf z).symm
/-! ### every k-th item; sorted(d), sorted(d.items()) -/
section
variable {κ α β : Type} {e : α → D} {C : Oracle} {ρ : EnvD}
theorem everyG_map {f : α → β} (k : Int) (xs : List α) : everyG k (xs.map f) = (everyG k xs).map f := by
  unfold everyG
  rw [List.length_map, List.map_filterMap]
  congr 1
  funext j
  rw [List.getElem?_map]
theorem mem_everyG {k : Int} {xs : List α} {x : α} (h : x ∈ everyG k xs) : x ∈ xs := by
  unfold everyG at h
  obtain ⟨j, _, h2⟩ := List.mem_filterMap.mp h
  exact List.mem_of_getElem? h2
theorem v_op1 {f : Opr} {A : E} {x z : D} (ha : xE C ρ A = some x) (h : oprD f [x] = some z) : xE C ρ (.op f [A]) = some z := by rw [evE_op, x_cons ha x_nil]; exact h
theorem v_sls {A : E} {k : Int} {xs : List α} (ha : xE C ρ A = some (eL e xs)) (hk : 0 < k := by decide) : xE C ρ (.op (.sls k) [A]) = some (eL e (everyG k xs)) := v_op1 ha (by
  show (if decide (0 < k) = true then some (D.lst (everyG k (xs.map e))) else none) = _
  rw [if_pos (decide_eq_true hk), everyG_map]; rfl)
/-- sorted(d), the keys ints -/
def keysO (m : List (Int × α)) : Option (List Int) := if m.length < 64 then some (sortT ltI (m.map fun p => p.1)) else none
theorem mapO_keys : ∀ m : List (Int × α), mapO intOf (m.map fun p => eI p.1) = some (m.map fun p => p.1)
  | [] => rfl
  | p :: m => by simp only [List.map_cons, mapO, mapO_keys m]; rfl
theorem f_sortK {m : List (Int × α)} {ys : List Int} (h : keysO m = some ys) : bf1 .sorted (eK eI e m) = some (eL eI ys) := by
  show ((mapO intOf (m.map fun p => eI p.1)).bind fun ns => if ns.length < 64 then some (D.lst ((sortI ns).map .int)) else none) = _
  unfold keysO at h
  split at h
  · rename_i hl
    cases h
    rw [mapO_keys, Option.bind_some, if_pos (by rw [List.length_map]; exact hl)]
    rfl
  · cases h
theorem pairsD_ek {ek : κ → D} (m : List (κ × α)) : pairsD (m.map fun p => ek p.1) (m.map fun p => e p.2) = m.map (eT2 ek e) := by
  induction m with
  | nil => rfl
  | cons p m ih => show D.tup [ek p.1, e p.2] :: pairsD (m.map fun p => ek p.1) (m.map fun p => e p.2) = _; rw [ih]; rfl
theorem v_sit {ek : κ → D} {n : Nat} {lk : κ → κ → Bool} {lt : α → α → Bool} [DecidableEq κ] [DecidableEq α] [Wf (eT2 ek e) n] [Eqv ek] [Eqv e] [Ord ek lk] [Ord e lt] [Im e] {A : E} {m : List (κ × α)} (ha : xE C ρ A = some (eK ek e m)) (h : n ≤ 60 := by decide) : xE C ρ (.op .sit [A]) = some (eL (eT2 ek e) (sortT (lt2 lk lt) m)) := v_op1 ha (by
  show (if (allAlike (pairsD (m.map fun p => ek p.1) (m.map fun p => e p.2)) && wfs (pairsD (m.map fun p => ek p.1) (m.map fun p => e p.2)) && D.imms (m.map fun p => e p.2)) = true then some (D.lst ((pairsD (m.map fun p => ek p.1) (m.map fun p => e p.2)).mergeSort leD)) else none) = _
  rw [pairsD_ek]
  have h1 : allAlike (m.map (eT2 ek e)) = true := by
    simp only [allAlike, List.all_eq_true, List.mem_map]
    rintro _ ⟨x, _, rfl⟩ _ ⟨y, _, rfl⟩
    exact Ord.al x y
  have h2 : D.imms (m.map fun p => e p.2) = true := by
    have := imms_map (f := e) Im.im (xs := m.map fun p => p.2)
    rw [List.map_map] at this
    exact this
  rw [h1, Wf.wfs h, h2, sort_map (lt := lt2 lk lt)]; rfl)
end
end Ev
set_option maxHeartbeats 4000000
namespace Ev
open PySem PySem.Spec PyProof.Rows L2
section
variable {α β γ : Type}
/-! ### counting -/
def ct [DecidableEq α] (xs : List α) (x : α) : Nat := xs.countP fun z => decide (z = x)
theorem cntT_ct [DecidableEq α] {xs : List α} {x : α} : cntT xs x = (ct xs x : Nat) := rfl
theorem ct_nil [DecidableEq α] {x : α} : ct ([] : List α) x = 0 := rfl
theorem ct_append [DecidableEq α] {xs ys : List α} {x : α} : ct (xs ++ ys) x = ct xs x + ct ys x := List.countP_append
theorem ct_cons [DecidableEq α] {xs : List α} {x y : α} : ct (y :: xs) x = (if y = x then 1 else 0) + ct xs x := by
  unfold ct
  rw [List.countP_cons]
  by_cases h : y = x <;> simp [h]; omega
theorem ct_one [DecidableEq α] {x y : α} : ct [y] x = if y = x then 1 else 0 := by rw [ct_cons, ct_nil]; omega
theorem ct_pos [DecidableEq α] {xs : List α} {x : α} : 0 < ct xs x ↔ x ∈ xs := by
  unfold ct
  rw [List.countP_pos_iff]
  simp
theorem ct_len [DecidableEq α] {xs : List α} {x : α} : ct xs x ≤ xs.length := List.countP_le_length
theorem ct_take_le [DecidableEq α] {xs : List α} {x : α} {a b : Nat} (h : a ≤ b) : ct (xs.take a) x ≤ ct (xs.take b) x := by
  have : xs.take b = xs.take a ++ (xs.take b).drop a := by
    have z := List.take_append_drop a (xs.take b)
    rw [List.take_take, Nat.min_eq_left h] at z
    exact z.symm
  rw [this, ct_append]; omega
theorem ct_take_all [DecidableEq α] {xs : List α} {x : α} {a : Nat} : ct (xs.take a) x ≤ ct xs x := by
  have := ct_append (xs := xs.take a) (ys := xs.drop a) (x := x)
  rw [List.take_append_drop] at this
  omega
theorem take_snoc {xs : List α} {k : Nat} {x : α} (h : xs[k]? = some x) : xs.take (k + 1) = xs.take k ++ [x] := by
  rw [List.take_add_one, h]; rfl
/-! ### the least -/
theorem leastBy_spec : ∀ (xs : List Int) (m : Int), leastBy ltI m xs ∈ m :: xs ∧ ∀ y ∈ m :: xs, leastBy ltI m xs ≤ y
  | [], m => ⟨List.mem_cons_self, fun y hy => by cases List.mem_singleton.mp hy; exact Int.le_refl _⟩
  | x :: xs, m => by
    obtain ⟨h1, h2⟩ := leastBy_spec xs (if ltI x m then x else m)
    have hm : (if ltI x m then x else m) ≤ m ∧ (if ltI x m then x else m) ≤ x ∧ ((if ltI x m then x else m) = x ∨ (if ltI x m then x else m) = m) := by
      unfold ltI
      by_cases h : x < m
      · rw [if_pos (decide_eq_true h)]; exact ⟨by omega, by omega, .inl rfl⟩
      · rw [if_neg (by simpa using h)]; exact ⟨by omega, by omega, .inr rfl⟩
    show leastBy ltI (if ltI x m then x else m) xs ∈ m :: x :: xs ∧ ∀ y ∈ m :: x :: xs, leastBy ltI (if ltI x m then x else m) xs ≤ y
    refine ⟨?_, fun y hy => ?_⟩
    · rcases List.mem_cons.mp h1 with h | h
      · rw [h]
        rcases hm.2.2 with e | e <;> rw [e] <;> simp
      · exact List.mem_cons_of_mem _ (List.mem_cons_of_mem _ h)
    · have h0 := h2 _ List.mem_cons_self
      rcases List.mem_cons.mp hy with rfl | hy
      · omega
      · rcases List.mem_cons.mp hy with rfl | hy
        · omega
        · exact h2 y (List.mem_cons_of_mem _ hy)
theorem minO_spec {xs : List Int} (h : xs ≠ []) : ∃ m, minO ltI xs = some m ∧ m ∈ xs ∧ ∀ y ∈ xs, m ≤ y := by
  cases xs with
  | nil => exact absurd rfl h
  | cons x xs =>
    obtain ⟨h1, h2⟩ := leastBy_spec xs x
    exact ⟨_, rfl, h1, h2⟩
theorem mostBy_spec : ∀ (xs : List Int) (m : Int), leastBy (fun a b => ltI b a) m xs ∈ m :: xs ∧ ∀ y ∈ m :: xs, y ≤ leastBy (fun a b => ltI b a) m xs
  | [], m => ⟨List.mem_cons_self, fun y hy => by cases List.mem_singleton.mp hy; exact Int.le_refl _⟩
  | x :: xs, m => by
    obtain ⟨h1, h2⟩ := mostBy_spec xs (if ltI m x then x else m)
    have hm : m ≤ (if ltI m x then x else m) ∧ x ≤ (if ltI m x then x else m) ∧ ((if ltI m x then x else m) = x ∨ (if ltI m x then x else m) = m) := by
      unfold ltI
      by_cases h : m < x
      · rw [if_pos (decide_eq_true h)]; exact ⟨by omega, by omega, .inl rfl⟩
      · rw [if_neg (by simpa using h)]; exact ⟨by omega, by omega, .inr rfl⟩
    show leastBy (fun a b => ltI b a) (if ltI m x then x else m) xs ∈ m :: x :: xs ∧ ∀ y ∈ m :: x :: xs, y ≤ leastBy (fun a b => ltI b a) (if ltI m x then x else m) xs
    refine ⟨?_, fun y hy => ?_⟩
    · rcases List.mem_cons.mp h1 with h | h
      · rw [h]
        rcases hm.2.2 with e | e <;> rw [e] <;> simp
      · exact List.mem_cons_of_mem _ (List.mem_cons_of_mem _ h)
    · have h0 := h2 _ List.mem_cons_self
      rcases List.mem_cons.mp hy with rfl | hy
      · omega
      · rcases List.mem_cons.mp hy with rfl | hy
        · omega
        · exact h2 y (List.mem_cons_of_mem _ hy)
theorem maxO_spec {xs : List Int} (h : xs ≠ []) : ∃ m, maxO ltI xs = some m ∧ m ∈ xs ∧ ∀ y ∈ xs, y ≤ m := by
  cases xs with
  | nil => exact absurd rfl h
  | cons x xs =>
    obtain ⟨h1, h2⟩ := mostBy_spec xs x
    exact ⟨_, rfl, h1, h2⟩
/-! ### loops that may return -/
theorem findO_fs {f : α → Option (Option β)} {g : α → Option β} : ∀ (xs : List α), (∀ x ∈ xs, f x = some (g x)) → findO f xs = some (xs.findSome? g)
  | [], _ => rfl
  | x :: xs, h => by
    simp only [findO, h x List.mem_cons_self, Option.bind_some, List.findSome?_cons]
    cases g x with
    | none => exact findO_fs xs fun y hy => h y (List.mem_cons_of_mem _ hy)
    | some r => rfl
theorem findO_map {f : β → Option (Option γ)} {h : α → β} : ∀ xs : List α, findO f (xs.map h) = findO (fun x => f (h x)) xs
  | [] => rfl
  | x :: xs => by simp only [List.map_cons, findO, findO_map xs]
theorem getD_get? {xs : List α} {k : Nat} {d : α} (h : k < xs.length) : xs[k]? = some (xs.getD k d) := by
  rw [List.getD_eq_getElem?_getD, List.getElem?_eq_getElem h]; rfl
theorem at_nat {xs : List α} {k : Nat} (d : α) (h : k < xs.length) : atI xs (k : Int) = some (xs.getD k d) := atI_nat (getD_get? h)
theorem take_cut {xs : List α} {k : Int} (h0 : 0 ≤ k) (h : k ≤ xs.length) : cutG xs none (some k) = xs.take k.toNat := by
  obtain ⟨j, rfl⟩ : ∃ j : Nat, k = j := ⟨k.toNat, by omega⟩
  rw [cutG_take (by omega), Int.toNat_natCast]
end
end Ev
/-! Rows in a strict order: sets of anything, rising rows, sums over parts. -/
namespace Ev
open PySem PySem.Spec PyProof.Rows L2
section
variable {α β : Type}
theorem Swo.tr {lt : α → α → Bool} (s : Swo lt) {x y z : α} (h1 : lt x y = true) (h2 : lt y z = true) : lt x z = true := by
  rcases s.nt x z y h1 with h | h
  · exact h
  · rw [s.asym y z h2] at h; cases h
abbrev Srt (lt : α → α → Bool) (l : List α) : Prop := l.Pairwise fun a b => lt a b = true
theorem mem_insB [DecidableEq α] {lt : α → α → Bool} {x y : α} : ∀ {l : List α}, y ∈ insB lt x l ↔ y = x ∨ y ∈ l
  | [] => by simp [insB]
  | z :: l => by
    unfold insB
    split
    · simp
    · split
      · rename_i h; subst h; simp
      · rw [List.mem_cons, mem_insB, List.mem_cons]
        constructor
        · rintro (h | h | h) <;> simp [h]
        · rintro (h | h | h) <;> simp [h]
theorem mem_dedS [DecidableEq α] {lt : α → α → Bool} {y : α} : ∀ {l : List α}, y ∈ dedS lt l ↔ y ∈ l
  | [] => Iff.rfl
  | x :: l => by rw [dedS, mem_insB, mem_dedS, List.mem_cons]
theorem srt_insB [DecidableEq α] {lt : α → α → Bool} (s : Swo lt) {x : α} : ∀ {l : List α}, Srt lt l → Srt lt (insB lt x l)
  | [], _ => by simp [insB]
  | z :: l, h => by
    have hp := List.pairwise_cons.mp h
    unfold insB
    split
    · rename_i hx
      refine List.pairwise_cons.mpr ⟨fun y hy => ?_, h⟩
      rcases List.mem_cons.mp hy with rfl | hy
      · exact hx
      · exact s.tr hx (hp.1 y hy)
    · rename_i hx
      split
      · exact h
      · rename_i hne
        refine List.pairwise_cons.mpr ⟨fun y hy => ?_, srt_insB s hp.2⟩
        rcases mem_insB.mp hy with rfl | hy
        · cases hz : lt z y with
          | true => rfl
          | false => exact absurd (s.tri _ _ (by simpa using hx) hz) hne
        · exact hp.1 y hy
theorem srt_dedS [DecidableEq α] {lt : α → α → Bool} (s : Swo lt) : ∀ {l : List α}, Srt lt (dedS lt l)
  | [] => .nil
  | x :: l => srt_insB s (srt_dedS s)
theorem insB_len [DecidableEq α] {lt : α → α → Bool} {x : α} : ∀ {l : List α}, (insB lt x l).length ≤ l.length + 1
  | [] => by simp [insB]
  | y :: l => by
    unfold insB
    split
    · simp
    · split
      · simp
      · have := insB_len (lt := lt) (x := x) (l := l); simp; omega
theorem dedS_len [DecidableEq α] {lt : α → α → Bool} : ∀ {l : List α}, (dedS lt l).length ≤ l.length
  | [] => Nat.le_refl _
  | x :: l => by
    have h1 := dedS_len (lt := lt) (l := l)
    have h2 := insB_len (lt := lt) (x := x) (l := dedS lt l)
    rw [dedS, List.length_cons]
    omega
theorem dedSO_ok [DecidableEq α] {lt : α → α → Bool} {xs : List α} (h : xs.length < 64) : dedSO lt xs = some (dedS lt xs) := if_pos h
theorem srt_nodup {lt : α → α → Bool} (s : Swo lt) {l : List α} (h : Srt lt l) : l.Nodup := h.imp fun q e => by subst e; rw [s.irr] at q; cases q
/-- rows in strict order with the same members are the same -/
theorem srt_ext {lt : α → α → Bool} (s : Swo lt) : ∀ {l m : List α}, Srt lt l → Srt lt m → (∀ x, x ∈ l ↔ x ∈ m) → l = m
  | [], [], _, _, _ => rfl
  | [], y :: m, _, _, h => by have := (h y).mpr List.mem_cons_self; cases this
  | x :: l, [], _, _, h => by have := (h x).mp List.mem_cons_self; cases this
  | x :: l, y :: m, hl, hm, h => by
    have h1 := List.pairwise_cons.mp hl
    have h2 := List.pairwise_cons.mp hm
    have e : x = y := by
      rcases List.mem_cons.mp ((h x).mp List.mem_cons_self) with e | e
      · exact e
      · rcases List.mem_cons.mp ((h y).mpr List.mem_cons_self) with q | q
        · exact q.symm
        · have a := h2.1 x e; rw [s.asym _ _ (h1.1 y q)] at a; cases a
    subst e
    congr 1
    refine srt_ext s h1.2 h2.2 fun z => ⟨fun hz => ?_, fun hz => ?_⟩
    · rcases List.mem_cons.mp ((h z).mp (List.mem_cons_of_mem _ hz)) with e | e
      · have a := h1.1 z hz; rw [e, s.irr] at a; cases a
      · exact e
    · rcases List.mem_cons.mp ((h z).mpr (List.mem_cons_of_mem _ hz)) with e | e
      · have a := h2.1 z hz; rw [e, s.irr] at a; cases a
      · exact e
theorem srt_sortT {lt : α → α → Bool} (s : Swo lt) {l : List α} (h : l.Nodup) : Srt lt (sortT lt l) := by
  have h1 := sortT_sorted s l
  have h2 : (sortT lt l).Nodup := (perm_sortT.nodup_iff).mpr h
  have := h1.and h2
  refine this.imp fun {a b} ⟨q1, q2⟩ => ?_
  cases hab : lt a b with
  | true => rfl
  | false => exact absurd (s.tri _ _ hab q1) q2
theorem sortT_srt {lt : α → α → Bool} (s : Swo lt) {l : List α} (h : Srt lt l) : sortT lt l = l := sortT_self s (h.imp fun q => s.asym _ _ q)
theorem dedS_self [DecidableEq α] {lt : α → α → Bool} (s : Swo lt) {l : List α} (h : Srt lt l) : dedS lt l = l := srt_ext s (srt_dedS s) h fun _ => mem_dedS
/-! ### rising -/
def risG (lt : α → α → Bool) (d : α) (xs : List α) : Bool := (iota 0 ((xs.length : Int) - 1).toNat).all fun k => lt (xs.getD k.toNat d) (xs.getD (k + 1).toNat d)
theorem risG_at (d : α) {xs : List α} {k : Int} (h : k ∈ iota 0 ((xs.length : Int) - 1).toNat) : atI xs k = some (xs.getD k.toNat d) ∧ atI xs (k + 1) = some (xs.getD (k + 1).toNat d) := by
  have := iota_mem.mp h
  exact ⟨at_getD (by omega) (by omega), at_getD (by omega) (by omega)⟩
theorem risG_iff {lt : α → α → Bool} (s : Swo lt) (d : α) : ∀ xs : List α, risG lt d xs = true ↔ Srt lt xs
  | [] => by simp [risG]
  | [a] => by simp [risG]
  | a :: b :: r => by
    have e : risG lt d (a :: b :: r) = (lt a b && risG lt d (b :: r)) := by
      unfold risG
      rw [show (((a :: b :: r).length : Int) - 1).toNat = r.length + 1 by simp only [List.length_cons]; omega, show (((b :: r).length : Int) - 1).toNat = r.length by simp, iota_all_succ]
      congr 1
      rw [Bool.eq_iff_iff, List.all_eq_true, List.all_eq_true]
      have e : ∀ k ∈ iota 0 r.length, ((a :: b :: r).getD (k + 1).toNat d = (b :: r).getD k.toNat d) ∧ ((a :: b :: r).getD (k + 1 + 1).toNat d = (b :: r).getD (k + 1).toNat d) := fun k hk => by
        have := (iota_mem.mp hk).1
        rw [show (k + 1).toNat = k.toNat + 1 by omega, show (k + 1 + 1).toNat = k.toNat + 1 + 1 by omega]
        exact ⟨rfl, rfl⟩
      constructor
      · intro h k hk
        have := h k hk
        rw [(e k hk).1, (e k hk).2] at this
        exact this
      · intro h k hk
        have := h k hk
        rw [← (e k hk).1, ← (e k hk).2] at this
        exact this
    rw [e, Bool.and_eq_true, risG_iff s d (b :: r)]
    constructor
    · rintro ⟨h1, h2⟩
      refine List.pairwise_cons.mpr ⟨fun c hc => ?_, h2⟩
      rcases List.mem_cons.mp hc with rfl | hc
      · exact h1
      · exact s.tr h1 ((List.pairwise_cons.mp h2).1 c hc)
    · intro h
      have h2 := List.pairwise_cons.mp h
      exact ⟨h2.1 b List.mem_cons_self, h2.2⟩
/-! ### all sets -/
abbrev lxI : List Int → List Int → Bool := ltL ltI
theorem swo_lxI : Swo lxI := swo_ltL swo_ltI
theorem setsN_nodup : ∀ n, (setsN n).Nodup
  | 0 => by simp [setsN]
  | n + 1 => by
    unfold setsN
    refine List.nodup_append.mpr ⟨setsN_nodup n, ?_, fun a ha b hb e => ?_⟩
    · refine List.pairwise_map.mpr ((setsN_nodup n).imp fun {a b} hne h => hne ?_)
      exact List.append_cancel_right h
    · obtain ⟨c, hc, rfl⟩ := List.mem_map.mp hb
      have := (mem_setsN.mp ha).2 (n : Int) (by rw [e]; simp)
      omega
theorem setsA_srt {n : Nat} : Srt lxI (setsA n) := srt_sortT swo_lxI (setsN_nodup n)
theorem asc_set {n : Nat} {S : List Int} (h : S.Pairwise (· < ·)) (hi : ∀ a ∈ S, 0 ≤ a ∧ a < n) : S = (iota 0 n).filter fun a => memB a S := by
  refine asc_ext h (asc_iota.filter _) fun x => ?_
  rw [List.mem_filter, memB_iff, iota_mem]
  exact ⟨fun hx => ⟨by have := hi x hx; omega, hx⟩, fun hx => hx.2⟩
/-- the sum over the kept -/
def wsum (f : Int → Int) (p : Int → Bool) (l : List Int) : Int := (l.map fun k => if p k = true then f k else 0).sum
theorem wsum_filter {f : Int → Int} {p : Int → Bool} : ∀ {l : List Int}, ((l.filter p).map f).sum = wsum f p l
  | [] => rfl
  | x :: l => by
    unfold wsum
    rw [List.filter_cons, List.map_cons, List.sum_cons]
    have := wsum_filter (f := f) (p := p) (l := l)
    unfold wsum at this
    cases h : p x with
    | true => simp only [if_true, List.map_cons, List.sum_cons, this]
    | false => rw [if_neg (by simp), this]; simp
theorem wsum_mono {f : Int → Int} {p q : Int → Bool} : ∀ {l : List Int}, (∀ x ∈ l, 0 ≤ f x) → (∀ x ∈ l, p x = true → q x = true) → wsum f p l ≤ wsum f q l
  | [], _, _ => Int.le_refl _
  | x :: l, h1, h2 => by
    have := wsum_mono (l := l) (fun y hy => h1 y (List.mem_cons_of_mem _ hy)) fun y hy => h2 y (List.mem_cons_of_mem _ hy)
    have a := h1 x List.mem_cons_self
    have b := h2 x List.mem_cons_self
    unfold wsum at this ⊢
    rw [List.map_cons, List.sum_cons, List.map_cons, List.sum_cons]
    cases hp : p x <;> cases hq : q x <;> simp [hp, hq] at b ⊢ <;> omega
theorem wsum_add {f : Int → Int} {p : Int → Bool} : ∀ {l : List Int}, wsum f p l + wsum f (fun x => !p x) l = (l.map f).sum
  | [] => rfl
  | x :: l => by
    have := wsum_add (f := f) (p := p) (l := l)
    unfold wsum at this ⊢
    simp only [List.map_cons, List.sum_cons]
    by_cases hp : p x = true
    · simp only [hp]; simp at this ⊢; omega
    · have hp : p x = false := by simpa using hp
      simp only [hp]; simp at this ⊢; omega
/-! ### the least of a row -/
theorem leastBy_G {lt : α → α → Bool} (s : Swo lt) : ∀ (xs : List α) (m : α), leastBy lt m xs ∈ m :: xs ∧ ∀ y ∈ m :: xs, lt y (leastBy lt m xs) = false
  | [], m => ⟨List.mem_cons_self, fun y hy => by cases List.mem_singleton.mp hy; exact s.irr _⟩
  | x :: xs, m => by
    obtain ⟨h1, h2⟩ := leastBy_G s xs (if lt x m = true then x else m)
    show leastBy lt (if lt x m = true then x else m) xs ∈ m :: x :: xs ∧ ∀ y ∈ m :: x :: xs, lt y (leastBy lt (if lt x m = true then x else m) xs) = false
    have h0 := h2 _ List.mem_cons_self
    generalize leastBy lt (if lt x m = true then x else m) xs = z at h0 h1 h2 ⊢
    -- what does not come ahead of the less of the two
    have up : ∀ y, lt (if lt x m = true then x else m) z = false → lt y (if lt x m = true then x else m) = false → lt y z = false := fun y a b => by
      cases hy : lt y z with
      | false => rfl
      | true =>
        rcases s.nt y (if lt x m = true then x else m) z hy with q | q
        · rw [b] at q; cases q
        · rw [a] at q; cases q
    refine ⟨?_, fun y hy => ?_⟩
    · rcases List.mem_cons.mp h1 with h | h
      · rw [h]; split <;> simp
      · exact List.mem_cons_of_mem _ (List.mem_cons_of_mem _ h)
    · rcases List.mem_cons.mp hy with rfl | hy
      · refine up _ h0 ?_
        split
        · rename_i q; exact s.asym _ _ q
        · exact s.irr _
      · rcases List.mem_cons.mp hy with rfl | hy
        · refine up _ h0 ?_
          split
          · exact s.irr _
          · rename_i q; simpa using q
        · exact h2 y (List.mem_cons_of_mem _ hy)
theorem minO_G {lt : α → α → Bool} (s : Swo lt) {xs : List α} (h : xs ≠ []) : ∃ m, minO lt xs = some m ∧ m ∈ xs ∧ ∀ y ∈ xs, lt y m = false := by
  cases xs with
  | nil => exact absurd rfl h
  | cons x xs =>
    obtain ⟨h1, h2⟩ := leastBy_G s xs x
    exact ⟨_, rfl, h1, h2⟩
theorem minO_least {lt : α → α → Bool} (s : Swo lt) {xs : List α} {x : α} (hx : x ∈ xs) (h : ∀ y ∈ xs, lt y x = false) : minO lt xs = some x := by
  obtain ⟨m, h1, h2, h3⟩ := minO_G s (List.ne_nil_of_mem hx)
  rw [h1, s.tri m x (h m h2) (h3 x hx)]
/-! ### dicts -/
theorem getM_putM [DecidableEq α] {m : List (α × β)} {k j : α} {v : β} : getM (putM m k v) j = if k = j then some v else getM m j := by
  unfold putM
  by_cases h : hasM m k = true
  · rw [if_pos h]
    unfold hasM at h
    unfold getM
    induction m with
    | nil => simp at h
    | cons p m ih =>
      rw [List.map_cons, List.find?_cons, List.find?_cons]
      by_cases hp : p.1 = k
      · rw [if_pos hp]
        by_cases hj : k = j
        · rw [if_pos hj, decide_eq_true (show (p.1, v).1 = j from hp.trans hj)]; rfl
        · rw [if_neg hj, decide_eq_false (show ¬ (p.1, v).1 = j from fun q => hj (hp.symm.trans q))]
          simp only []
          by_cases h2 : (m.any fun p => decide (p.1 = k)) = true
          · have := ih h2
            rw [if_neg hj] at this; exact this
          · have e : m.map (fun p => if p.1 = k then (p.1, v) else p) = m := by
              refine (List.map_congr_left fun q hq => ?_).trans (List.map_id m)
              have : ¬ q.1 = k := fun z => h2 (List.any_eq_true.mpr ⟨q, hq, decide_eq_true z⟩)
              rw [if_neg this]; rfl
            rw [e]
      · rw [if_neg hp]
        rw [List.any_cons, decide_eq_false hp, Bool.false_or] at h
        by_cases hj : p.1 = j
        · rw [decide_eq_true hj, if_neg (fun q => hp (hj.trans q.symm))]
        · rw [decide_eq_false hj]; exact ih h
  · rw [if_neg h]
    unfold getM
    rw [List.find?_append]
    by_cases hj : k = j
    · subst hj
      have : (m.find? fun p => decide (p.1 = k)) = none := List.find?_eq_none.mpr fun q hq z => h (List.any_eq_true.mpr ⟨q, hq, z⟩)
      rw [this, if_pos rfl]; simp
    · rw [if_neg hj]
      have : ([(k, v)] : List (α × β)).find? (fun p => decide (p.1 = j)) = none := by simp [hj]
      rw [this, Option.or_none]
theorem putM_len [DecidableEq α] {m : List (α × β)} {k : α} {v : β} : (putM m k v).length ≤ m.length + 1 := by
  unfold putM
  split <;> simp
theorem putO_ok [DecidableEq α] {m : List (α × β)} {k : α} {v : β} (h : m.length < 16777216) : putO m k v = some (putM m k v) := if_pos h
/-- pointwise below, as long: not behind -/
theorem ltL_pt : ∀ {S G : List Int}, S.length = G.length → (∀ (i : Nat) (x y : Int), S[i]? = some x → G[i]? = some y → y ≤ x) → ltL ltI S G = false
  | [], [], _, _ => rfl
  | x :: S, y :: G, hl, h => by
    have h0 := h 0 x y rfl rfl
    unfold ltL
    by_cases e : x = y
    · rw [if_pos e]
      exact ltL_pt (by simpa using hl) fun i a c ha hc => h (i + 1) a c (by simpa using ha) (by simpa using hc)
    · rw [if_neg e]; unfold ltI; exact decide_eq_false (by omega)
theorem getM_vis [DecidableEq α] {m : List (α × β)} {k : α} : (getM m k).isSome = true ↔ k ∈ m.map fun p => p.1 := by
  unfold getM
  rw [Option.isSome_map, List.find?_isSome, List.mem_map]
  exact exists_congr fun p => and_congr_right fun _ => decide_eq_true_iff
theorem getM_mem [DecidableEq α] {m : List (α × β)} {k : α} {v : β} (h : getM m k = some v) : (k, v) ∈ m := by
  unfold getM at h
  obtain ⟨p, hp, rfl⟩ := Option.map_eq_some_iff.mp h
  have hs := List.find?_some hp
  have := of_decide_eq_true hs
  rw [← this]; exact List.mem_of_find?_eq_some hp
theorem putM_new [DecidableEq α] {m : List (α × β)} {k : α} {v : β} (h : (getM m k).isSome = false) : putM m k v = m ++ [(k, v)] := by
  refine if_neg fun q => ?_
  obtain ⟨p, hp, e⟩ := List.any_eq_true.mp q
  have : (getM m k).isSome = true := getM_vis.mpr (List.mem_map.mpr ⟨p, hp, of_decide_eq_true e⟩)
  rw [h] at this; cases this
theorem popO_head {x : α} {q : List α} (h : q.length < 1000000) : popO (x :: q) (some 0) = some (x, q) := by
  unfold popO
  rw [if_pos (by decide)]
  have : ixN (x :: q).length ((some (0 : Int)).getD (-1)) = some 0 := by
    unfold ixN
    simp
  rw [this]; rfl
end
end Ev
set_option maxHeartbeats 0
namespace Ev
open PySem PySem.Spec PyProof.Rows L2
abbrev ROW := PySem.Challenge.rw_runwarden_k65_whole_windows_rich_or_none
def topS (i : Nat) : Stmt := ROW.prog.main.body.getD i (.Pass ⟨0, 0, 0, 0⟩)
def fns : List Str := ["window_sums", "window_tops", "longest_within", "is_rich", "told_rich", "_law_cell", "_law_draws", "_law_is_integer", "_law_is", "_law_windows", "_law_sum", "_law_longest", "_law_rich", "law"]
def gls : List (Str × D) := []
/-! 0 window_sums: 0=numbers 1=w 2=i -/
def body0 : List S := [.ret (.bf .tuple [(.comp (.bf .sum [(.sl (.var 0) (some (.var 2)) (some (.bin .Add (.var 2) (.var 1))))]) [2] (.nm 2) (.rng [(.bin .Add (.bin .Sub (.bf .len [(.var 0)]) (.var 1)) (.cst (.int 1)))]) none)])]
def d0 : DefI := ⟨["numbers", "w"], ["numbers", "w", "i"], [], body0⟩
theorem ok0 : DefOk fns gls (topS 1) d0 "window_sums" := ⟨⟨rfl, rfl, rfl, by decide +kernel, rfl, by decide +kernel, by decide +kernel⟩, ⟨40, 12, by kernel_rfl⟩, fun _ _ _ _ _ _ us hl => match us, hl with | [_, _], _ => rfl⟩
/-! 1 window_tops: 0=numbers 1=w 2=waiting 3=found 4=at 5=number -/
def b1_1 : List S := [.pop none 2 none]
def b1_2 : List S := [.while_ (.and (.var 2) (.cmp .LtE (.ix (.var 0) (.ix (.var 2) (.neg (.cst (.int 1))))) (.var 5))) b1_1, .app 2 (.var 4), .ite (.cmp .LtE (.ix (.var 2) (.cst (.int 0))) (.bin .Sub (.var 4) (.var 1))) [.asg (.nm 2) (.sl (.var 2) (some (.cst (.int 1))) none)] [], .ite (.cmp .GtE (.var 4) (.bin .Sub (.var 1) (.cst (.int 1)))) [.app 3 (.ix (.var 0) (.ix (.var 2) (.cst (.int 0))))] []]
def body1 : List S := [.asg (.nm 2) (.lst []), .asg (.nm 3) (.lst []), .for_ (.tup [4, 5]) (.enm (.var 0)) b1_2, .ret (.bf .tuple [(.var 3)])]
def d1 : DefI := ⟨["numbers", "w"], ["numbers", "w", "waiting", "found", "at", "number"], [2, 3], body1⟩
theorem ok1 : DefOk fns gls (topS 2) d1 "window_tops" := ⟨⟨rfl, rfl, rfl, by decide +kernel, rfl, by decide +kernel, by decide +kernel⟩, ⟨40, 12, by kernel_rfl⟩, fun _ _ _ _ _ _ us hl => match us, hl with | [_, _], _ => rfl⟩
/-! 2 longest_within: 0=numbers 1=limit 2=best 3=i 4=j -/
def b2_1 : List S := [.asg (.nm 4) (.bin .Add (.var 4) (.cst (.int 1)))]
def b2_2 : List S := [.asg (.nm 4) (.var 3), .while_ (.and (.cmp .Lt (.var 4) (.bf .len [(.var 0)])) (.cmp .LtE (.bf .sum [(.sl (.var 0) (some (.var 3)) (some (.bin .Add (.var 4) (.cst (.int 1)))))]) (.var 1))) b2_1, .ite (.cmp .Gt (.bin .Sub (.var 4) (.var 3)) (.bin .Sub (.ix (.var 2) (.cst (.int 1))) (.ix (.var 2) (.cst (.int 0))))) [.asg (.nm 2) (.tup [(.var 3), (.var 4)])] []]
def body2 : List S := [.asg (.nm 2) (.tup [(.cst (.int 0)), (.cst (.int 0))]), .for_ (.nm 3) (.rng [(.bf .len [(.var 0)])]) b2_2, .ret (.var 2)]
def d2 : DefI := ⟨["numbers", "limit"], ["numbers", "limit", "best", "i", "j"], [], body2⟩
theorem ok2 : DefOk fns gls (topS 3) d2 "longest_within" := ⟨⟨rfl, rfl, rfl, by decide +kernel, rfl, by decide +kernel, by decide +kernel⟩, ⟨40, 12, by kernel_rfl⟩, fun _ _ _ _ _ _ us hl => match us, hl with | [_, _], _ => rfl⟩
/-! 3 is_rich: 0=numbers 1=w 2=a 3=b 4=i 5=j -/
def body3 : List S := [.ite (.or (.not (.chain3 .LtE .LtE .LtE (.cst (.int 0)) (.var 4) (.var 5) (.bf .len [(.var 0)]))) (.cmp .Lt (.bin .Sub (.var 5) (.var 4)) (.var 1))) [.ret (.cst (.bl false))] [], .ret (.cmp .Gt (.bin .Mult (.var 3) (.bf .sum [(.sl (.var 0) (some (.var 4)) (some (.var 5)))])) (.bin .Mult (.var 2) (.bin .Sub (.var 5) (.var 4))))]
def d3 : DefI := ⟨["numbers", "w", "a", "b", "i", "j"], ["numbers", "w", "a", "b", "i", "j"], [], body3⟩
theorem ok3 : DefOk fns gls (topS 4) d3 "is_rich" := ⟨⟨rfl, rfl, rfl, by decide +kernel, rfl, by decide +kernel, by decide +kernel⟩, ⟨40, 12, by kernel_rfl⟩, fun _ _ _ _ _ _ us hl => match us, hl with | [_, _, _, _, _, _], _ => rfl⟩
/-! 4 told_rich: 0=numbers 1=w 2=a 3=b 4=i 5=j -/
def b4_1 : List S := [.ite (.call 3 [(.var 0), (.var 1), (.var 2), (.var 3), (.var 4), (.var 5)]) [.ret (.tup [(.var 4), (.var 5)])] []]
def b4_2 : List S := [.for_ (.nm 5) (.rng [(.bin .Add (.var 4) (.var 1)), (.bin .Add (.bf .len [(.var 0)]) (.cst (.int 1)))]) b4_1]
def body4 : List S := [.for_ (.nm 4) (.rng [(.bf .len [(.var 0)])]) b4_2, .ret (.cst .non)]
def d4 : DefI := ⟨["numbers", "w", "a", "b"], ["numbers", "w", "a", "b", "i", "j"], [], body4⟩
theorem ok4 : DefOk fns gls (topS 5) d4 "told_rich" := ⟨⟨rfl, rfl, rfl, by decide +kernel, rfl, by decide +kernel, by decide +kernel⟩, ⟨40, 12, by kernel_rfl⟩, fun _ _ _ _ _ _ us hl => match us, hl with | [_, _, _, _], _ => rfl⟩
/-! 5 _law_cell: 0=script 1=k -/
def body5 : List S := [.ite (.cmp .Lt (.var 1) (.bf .len [(.var 0)])) [.ret (.ix (.var 0) (.var 1))] [], .ret (.bin .Add (.bin .Mult (.cst (.int 5)) (.var 1)) (.cst (.int 3)))]
def d5 : DefI := ⟨["script", "k"], ["script", "k"], [], body5⟩
theorem ok5 : DefOk fns gls (topS 7) d5 "_law_cell" := ⟨⟨rfl, rfl, rfl, by decide +kernel, rfl, by decide +kernel, by decide +kernel⟩, ⟨40, 12, by kernel_rfl⟩, fun _ _ _ _ _ _ us hl => match us, hl with | [_, _], _ => rfl⟩
/-! 6 _law_draws: 0=cell 1=count 2=rest 3=digits 4=seed 5=draws 6=k 7=mixed -/
def b6_1 : List S := [.ite (.and (.var 3) (.cmp .Gt (.var 2) (.cst (.int 0)))) [.app 5 (.bin .Mod (.bf .int [(.var 2)]) (.cst (.int 5040))), .asg (.nm 2) (.bin .FloorDiv (.var 2) (.cst (.int 5040)))] [.asg (.nm 7) (.bin .Mod (.bf .int [(.bin .Add (.bin .Add (.bin .Mult (.var 4) (.cst (.int 48271))) (.bin .Mult (.bin .Add (.var 6) (.cst (.int 1))) (.cst (.int 69621)))) (.cst (.int 11)))]) (.cst (.int 2147483647))), .asg (.nm 7) (.bin .Mod (.bf .int [(.bin .Add (.bin .Mult (.var 7) (.var 7)) (.bin .Mult (.cst (.int 40692)) (.bin .Add (.var 6) (.cst (.int 3)))))]) (.cst (.int 2147483399))), .app 5 (.bin .Mod (.bf .int [(.bin .FloorDiv (.var 7) (.cst (.int 64)))]) (.cst (.int 5040)))]]
def body6 : List S := [.asg (.nm 2) (.bf .abs [(.bf .int [(.var 0)])]), .asg (.nm 3) (.cmp .GtE (.var 2) (.bin .Pow (.cst (.int 10)) (.cst (.int 18)))), .asg (.nm 4) (.var 2), .asg (.nm 5) (.lst []), .for_ (.nm 6) (.rng [(.var 1)]) b6_1, .ret (.var 5)]
def d6 : DefI := ⟨["cell", "count"], ["cell", "count", "rest", "digits", "seed", "draws", "k", "mixed"], [5], body6⟩
theorem ok6 : DefOk fns gls (topS 8) d6 "_law_draws" := ⟨⟨rfl, rfl, rfl, by decide +kernel, rfl, by decide +kernel, by decide +kernel⟩, ⟨40, 12, by kernel_rfl⟩, fun _ _ _ _ _ _ us hl => match us, hl with | [_, _], _ => rfl⟩
/-! 7 _law_is_integer: 0=value -/
def body7 : List S := [.ret (.and (.isin (.var 0) .int) (.not (.isin (.var 0) .bool)))]
def d7 : DefI := ⟨["value"], ["value"], [], body7⟩
theorem ok7 : DefOk fns gls (topS 9) d7 "_law_is_integer" := ⟨⟨rfl, rfl, rfl, by decide +kernel, rfl, by decide +kernel, by decide +kernel⟩, ⟨40, 12, by kernel_rfl⟩, fun _ _ _ _ _ _ us hl => match us, hl with | [_], _ => rfl⟩
/-! 8 _law_is: 0=value 1=due 2=at -/
def body8 : List S := [.ite (.cmp .Is (.var 1) (.cst .non)) [.ret (.cmp .Is (.var 0) (.cst .non))] [], .ite (.isin (.var 1) .bool) [.ret (.and (.isin (.var 0) .bool) (.cmp .Eq (.var 0) (.var 1)))] [], .ite (.isin (.var 1) .int) [.ret (.and (.call 7 [(.var 0)]) (.cmp .Eq (.var 0) (.var 1)))] [], .ite (.isin (.var 1) .str) [.ret (.and (.isin (.var 0) .str) (.cmp .Eq (.var 0) (.var 1)))] [], .ite (.or (.not (.isin (.var 0) .tuple)) (.cmp .NotEq (.bf .len [(.var 0)]) (.bf .len [(.var 1)]))) [.ret (.cst (.bl false))] [], .ret (.bf .all [(.comp (.call 8 [(.ix (.var 0) (.var 2)), (.ix (.var 1) (.var 2))]) [2] (.nm 2) (.rng [(.bf .len [(.var 1)])]) none)])]
def d8 : DefI := ⟨["value", "due"], ["value", "due", "at"], [], body8⟩
theorem ok8 : DefOk fns gls (topS 10) d8 "_law_is" := ⟨⟨rfl, rfl, rfl, by decide +kernel, rfl, by decide +kernel, by decide +kernel⟩, ⟨40, 12, by kernel_rfl⟩, fun _ _ _ _ _ _ us hl => match us, hl with | [_, _], _ => rfl⟩
/-! 9 _law_windows: 0=size 1=found 2=i 3=j -/
def b9_1 : List S := [.asg (.nm 1) (.bin .Add (.var 1) (.comp (.tup [(.var 2), (.var 3)]) [3] (.nm 3) (.rng [(.var 2), (.bin .Add (.var 0) (.cst (.int 1)))]) none))]
def body9 : List S := [.asg (.nm 1) (.lst []), .for_ (.nm 2) (.rng [(.bin .Add (.var 0) (.cst (.int 1)))]) b9_1, .ret (.var 1)]
def d9 : DefI := ⟨["size"], ["size", "found", "i", "j"], [1], body9⟩
theorem ok9 : DefOk fns gls (topS 11) d9 "_law_windows" := ⟨⟨rfl, rfl, rfl, by decide +kernel, rfl, by decide +kernel, by decide +kernel⟩, ⟨40, 12, by kernel_rfl⟩, fun _ _ _ _ _ _ us hl => match us, hl with | [_], _ => rfl⟩
/-! 10 _law_sum: 0=numbers 1=i 2=j 3=total 4=at -/
def b10_1 : List S := [.asg (.nm 3) (.bin .Add (.var 3) (.ix (.var 0) (.var 4)))]
def body10 : List S := [.asg (.nm 3) (.cst (.int 0)), .for_ (.nm 4) (.rng [(.var 1), (.var 2)]) b10_1, .ret (.var 3)]
def d10 : DefI := ⟨["numbers", "i", "j"], ["numbers", "i", "j", "total", "at"], [], body10⟩
theorem ok10 : DefOk fns gls (topS 12) d10 "_law_sum" := ⟨⟨rfl, rfl, rfl, by decide +kernel, rfl, by decide +kernel, by decide +kernel⟩, ⟨40, 12, by kernel_rfl⟩, fun _ _ _ _ _ _ us hl => match us, hl with | [_, _, _], _ => rfl⟩
/-! 11 _law_longest: 0=numbers 1=limit 2=fine 3=most 4=i 5=j -/
def body11 : List S := [.asg (.nm 2) (.comp (.tup [(.var 4), (.var 5)]) [4, 5] (.tup [4, 5]) (.seq (.call 9 [(.bf .len [(.var 0)])])) (some (.cmp .LtE (.call 10 [(.var 0), (.var 4), (.var 5)]) (.var 1)))), .asg (.nm 3) (.bf .max [(.comp (.bin .Sub (.var 5) (.var 4)) [4, 5] (.tup [4, 5]) (.seq (.var 2)) none)]), .ret (.ix (.comp (.tup [(.var 4), (.var 5)]) [4, 5] (.tup [4, 5]) (.seq (.var 2)) (some (.cmp .Eq (.bin .Sub (.var 5) (.var 4)) (.var 3)))) (.cst (.int 0)))]
def d11 : DefI := ⟨["numbers", "limit"], ["numbers", "limit", "fine", "most", "i", "j"], [], body11⟩
theorem ok11 : DefOk fns gls (topS 13) d11 "_law_longest" := ⟨⟨rfl, rfl, rfl, by decide +kernel, rfl, by decide +kernel, by decide +kernel⟩, ⟨40, 12, by kernel_rfl⟩, fun _ _ _ _ _ _ us hl => match us, hl with | [_, _], _ => rfl⟩
/-! 12 _law_rich: 0=numbers 1=w 2=a 3=b 4=i 5=j -/
def body12 : List S := [.ite (.or (.cmp .Lt (.var 4) (.cst (.int 0))) (.or (.cmp .Gt (.var 5) (.bf .len [(.var 0)])) (.cmp .Lt (.bin .Sub (.var 5) (.var 4)) (.var 1)))) [.ret (.cst (.bl false))] [], .ret (.cmp .Gt (.bin .Mult (.var 3) (.call 10 [(.var 0), (.var 4), (.var 5)])) (.bin .Mult (.var 2) (.bin .Sub (.var 5) (.var 4))))]
def d12 : DefI := ⟨["numbers", "w", "a", "b", "i", "j"], ["numbers", "w", "a", "b", "i", "j"], [], body12⟩
theorem ok12 : DefOk fns gls (topS 14) d12 "_law_rich" := ⟨⟨rfl, rfl, rfl, by decide +kernel, rfl, by decide +kernel, by decide +kernel⟩, ⟨40, 12, by kernel_rfl⟩, fun _ _ _ _ _ _ us hl => match us, hl with | [_, _, _, _, _, _], _ => rfl⟩
/-! 13 law: 0=script 1=draws 2=k 3=parts 4=size 5=wide 6=numbers 7=over 8=every 9=w 10=turn 11=sums 12=tops 13=limit 14=b 15=a 16=rich 17=short 18=i 19=j 20=at 21=number -/
def b13_1 : List S := [.ite (.not (.call 8 [(.call 3 [(.var 6), (.var 9), (.var 15), (.var 14), (.var 18), (.var 19)]), (.call 12 [(.var 6), (.var 9), (.var 15), (.var 14), (.var 18), (.var 19)])])) [.ret (.cst (.bl false))] []]
def b13_2 : List S := [.asg (.nm 13) (.bin .Mod (.bf .int [(.ix (.var 1) (.bin .Add (.bin .Add (.cst (.int 4)) (.var 10)) (.bin .Mult (.cst (.int 3)) (.var 2))))]) (.ix (.tup [(.cst (.int 2)), (.var 5), (.bin .Mult (.cst (.int 3)) (.var 5))]) (.var 10))), .ite (.not (.call 8 [(.call 2 [(.var 7), (.var 13)]), (.call 11 [(.var 7), (.var 13)])])) [.ret (.cst (.bl false))] [], .asg (.nm 9) (.bin .Add (.cst (.int 1)) (.bin .Mod (.bf .int [(.ix (.var 1) (.bin .Add (.bin .Add (.cst (.int 10)) (.var 10)) (.bin .Mult (.cst (.int 3)) (.var 2))))]) (.ix (.tup [(.cst (.int 3)), (.cst (.int 2)), (.cst (.int 20))]) (.var 10)))), .asg (.nm 14) (.bin .Add (.cst (.int 1)) (.bin .Mod (.bf .int [(.ix (.var 1) (.bin .Add (.bin .Add (.cst (.int 16)) (.var 10)) (.bin .Mult (.cst (.int 3)) (.var 2))))]) (.ix (.tup [(.cst (.int 4)), (.cst (.int 20)), (.cst (.int 1))]) (.var 10)))), .asg (.nm 15) (.bin .Sub (.bin .Add (.bin .FloorDiv (.bin .Mult (.var 14) (.bf .sum [(.var 6)])) (.bf .max [(.cst (.int 1)), (.var 4)])) (.bin .Mod (.bf .int [(.ix (.var 1) (.bin .Add (.bin .Add (.cst (.int 22)) (.var 10)) (.bin .Mult (.cst (.int 3)) (.var 2))))]) (.bin .Add (.bin .Mult (.cst (.int 2)) (.var 14)) (.cst (.int 1))))) (.var 14)), .asg (.nm 15) (.bf .max [(.bin .Sub (.cst (.int 0)) (.cst (.int 1000))), (.bf .min [(.cst (.int 1000)), (.var 15)])]), .asg (.nm 16) (.comp (.tup [(.var 18), (.var 19)]) [18, 19] (.tup [18, 19]) (.seq (.var 8)) (some (.call 12 [(.var 6), (.var 9), (.var 15), (.var 14), (.var 18), (.var 19)]))), .asg (.nm 17) (.comp (.tup [(.var 18), (.var 19)]) [18, 19] (.tup [18, 19]) (.seq (.var 16)) (some (.cmp .Lt (.bin .Sub (.var 19) (.var 18)) (.bin .Mult (.cst (.int 2)) (.var 9))))), .ite (.cmp .NotEq (.cmp .Gt (.bf .len [(.var 16)]) (.cst (.int 0))) (.cmp .Gt (.bf .len [(.var 17)]) (.cst (.int 0)))) [.ret (.cst (.bl false))] [], .ite (.not (.call 8 [(.call 4 [(.var 6), (.var 9), (.var 15), (.var 14)]), (.ite (.cmp .Gt (.bf .len [(.var 16)]) (.cst (.int 0))) (.ix (.var 16) (.cst (.int 0))) (.cst .non))])) [.ret (.cst (.bl false))] [], .for_ (.tup [18, 19]) (.seq (.bin .Add (.op (.sls 2) [(.var 8)]) (.lst [(.tup [(.bin .Sub (.cst (.int 0)) (.cst (.int 1))), (.var 4)]), (.tup [(.cst (.int 0)), (.bin .Add (.var 4) (.cst (.int 1)))]), (.tup [(.var 4), (.cst (.int 0))]), (.tup [(.bin .Sub (.cst (.int 0)) (.bin .Pow (.cst (.int 10)) (.cst (.int 20)))), (.bin .Pow (.cst (.int 10)) (.cst (.int 20)))]), (.tup [(.cst (.int 2)), (.cst (.int 1))])]))) b13_1, .asg (.nm 18) (.bin .Sub (.bin .Mod (.bf .int [(.ix (.var 1) (.bin .Add (.bin .Add (.cst (.int 28)) (.var 10)) (.bin .Mult (.cst (.int 3)) (.var 2))))]) (.bin .Add (.var 4) (.cst (.int 3)))) (.cst (.int 1))), .asg (.nm 19) (.bin .Sub (.bin .Mod (.bf .int [(.ix (.var 1) (.bin .Add (.bin .Add (.cst (.int 34)) (.var 10)) (.bin .Mult (.cst (.int 3)) (.var 2))))]) (.bin .Add (.var 4) (.cst (.int 3)))) (.cst (.int 1))), .ite (.not (.call 8 [(.call 3 [(.var 6), (.var 9), (.var 15), (.var 14), (.var 18), (.var 19)]), (.call 12 [(.var 6), (.var 9), (.var 15), (.var 14), (.var 18), (.var 19)])])) [.ret (.cst (.bl false))] []]
def b13_3 : List S := [.asg (.nm 11) (.bf .tuple [(.comp (.call 10 [(.var 6), (.var 18), (.bin .Add (.var 18) (.var 9))]) [18] (.nm 18) (.rng [(.bin .Add (.bin .Sub (.var 4) (.var 9)) (.cst (.int 1)))]) none)]), .asg (.nm 12) (.bf .tuple [(.comp (.bf .max [(.sl (.var 6) (some (.var 18)) (some (.bin .Add (.var 18) (.var 9))))]) [18] (.nm 18) (.rng [(.bin .Add (.bin .Sub (.var 4) (.var 9)) (.cst (.int 1)))]) none)]), .ite (.or (.not (.call 8 [(.call 0 [(.var 6), (.var 9)]), (.var 11)])) (.not (.call 8 [(.call 1 [(.var 6), (.var 9)]), (.var 12)]))) [.ret (.cst (.bl false))] []]
def b13_4 : List S := [.asg (.nm 3) (.call 6 [(.call 5 [(.var 0), (.bin .Add (.cst (.int 1)) (.var 2))]), (.cst (.int 10))]), .asg (.nm 4) (.ix (.tup [(.cst (.int 7)), (.cst (.int 9)), (.cst (.int 5)), (.cst (.int 9)), (.cst (.int 2)), (.cst (.int 0))]) (.bin .Mod (.bf .int [(.ix (.var 1) (.var 2))]) (.cst (.int 6)))), .asg (.nm 5) (.ix (.tup [(.cst (.int 3)), (.cst (.int 21)), (.cst (.int 2001))]) (.bin .Mod (.bf .int [(.ix (.var 1) (.bin .Add (.cst (.int 2)) (.var 2)))]) (.cst (.int 3)))), .asg (.nm 6) (.bf .tuple [(.comp (.bin .Sub (.bin .Mod (.bf .int [(.ix (.var 3) (.var 20))]) (.var 5)) (.bin .FloorDiv (.var 5) (.cst (.int 2)))) [20] (.nm 20) (.rng [(.var 4)]) none)]), .asg (.nm 7) (.bf .tuple [(.comp (.bf .abs [(.var 21)]) [21] (.nm 21) (.seq (.var 6)) none)]), .asg (.nm 8) (.call 9 [(.var 4)]), .for_ (.nm 9) (.rng [(.cst (.int 1)), (.cst (.int 6))]) b13_3, .for_ (.nm 10) (.rng [(.cst (.int 3))]) b13_2]
def body13 : List S := [.asg (.nm 1) (.call 6 [(.call 5 [(.var 0), (.cst (.int 0))]), (.cst (.int 50))]), .for_ (.nm 2) (.rng [(.cst (.int 2))]) b13_4, .ret (.cst (.bl true))]
def d13 : DefI := ⟨["script"], ["script", "draws", "k", "parts", "size", "wide", "numbers", "over", "every", "w", "turn", "sums", "tops", "limit", "b", "a", "rich", "short", "i", "j", "at", "number"], [], body13⟩
theorem ok13 : DefOk fns gls (topS 15) d13 "law" := ⟨⟨rfl, rfl, rfl, by decide +kernel, rfl, by decide +kernel, by decide +kernel⟩, ⟨40, 12, by kernel_rfl⟩, fun _ _ _ _ _ _ us hl => match us, hl with | [_], _ => rfl⟩
def defs : List DefI := [d0, d1, d2, d3, d4, d5, d6, d7, d8, d9, d10, d11, d12, d13]
def dDef (x : Str) (i : Nat) : He.DefD := ⟨(x, none), x, x, defArgs (topS i), defBody (topS i), defScope (topS i), [], []⟩
def fnL : List He.DefD := [dDef "window_sums" 1, dDef "window_tops" 2, dDef "longest_within" 3, dDef "is_rich" 4, dDef "told_rich" 5, dDef "_law_cell" 7, dDef "_law_draws" 8, dDef "_law_is_integer" 9, dDef "_law_is" 10, dDef "_law_windows" 11, dDef "_law_sum" 12, dDef "_law_longest" 13, dDef "_law_rich" 14, dDef "law" 15]
def fa : List He.Fa := fns.map .glo ++ bltNames.map .free
def tf : List He.Defn := [("window_sums", none), ("window_tops", none), ("longest_within", none), ("is_rich", none), ("told_rich", none), ("_law_cell", none), ("_law_draws", none), ("_law_is_integer", none), ("_law_is", none), ("_law_windows", none), ("_law_sum", none), ("_law_longest", none), ("_law_rich", none), ("law", none)]
def exK : PySem.W.Frag → Bool := glsB gls
abbrev R : PySem.W.OpenRow := PySem.W.OpenLaw.row ROW
abbrev hk : PySem.W.Hook := He.hookX 4 fa fnL [] tf exK
def ob (s : PySem.W.SharedT) : He.AlX := He.obsX 4 fa fnL [] tf exK (HandSHeadRun.getT s)
theorem ob_eq (s : PySem.W.SharedT) : ob s = hk.obs s.abs := He.obsX_eq (HandSHeadRun.getT_eq s)
def loose : List Str := (["window_sums", "window_tops", "longest_within", "is_rich", "told_rich", "_law_cell", "_law_draws", "_law_is_integer", "_law_is", "_law_windows", "_law_sum", "_law_longest", "_law_rich"] : List Str)
theorem run (w : World) : HandSHeadRun.RunEq R (PySem.W.view R.prog [15]) hk ob 20000 loose w := by
  intro os
  kernel_rfl
theorem top_ok {w : World} {K : PySem.W.Frag} {h : Heap} {mg : Str → Option Value} (X : K.In h) (G : h.Ns mainGlobals mg) (c : He.SaysX fa fnL [] tf exK w h K) : @Top (tabsOf tf K) K mg fns gls defs := by
  have g : ∀ (j : Nat) (x : Str), fns[j]? = some x → fa[j]? = some (.glo x) := fun j x hx => by
    have hl := (List.getElem?_eq_some_iff.mp hx).1
    unfold fa
    rw [List.getElem?_append_left (by simpa using hl), List.getElem?_map, hx]; rfl
  refine @Top.mk (tabsOf tf K) _ _ _ _ _ (fun x hx => ?_) (fun f x i h1 h2 => ?_) rfl (fun x d e => ⟨_, He.glo_ok X G (glsB_ok c.more e).1, (glsB_ok c.more e).2⟩)
  · obtain ⟨j, hj, e⟩ := List.getElem_of_mem hx
    refine He.free_ok X G (c.t.d.fact (fns.length + j) (f := .free x) ?_)
    unfold fa
    rw [List.getElem?_append_right (by simp), List.getElem?_map]
    simp [List.getElem?_eq_getElem hj, e]
  · match f, h1, h2 with
    | 0, h1, h2 => cases h1; cases h2; obtain ⟨fd, F⟩ := c.t.d.def_ 0 (d := dDef "window_sums" 1) rfl; exact ⟨_, _, fd, ok0, F, He.glo_ok X G (c.t.d.fact 0 (f := .glo "window_sums") (g _ _ rfl)), code_mem (p := ("window_sums", none)) (List.mem_of_getElem? (i := 0) rfl) (fun_code F)⟩
    | 1, h1, h2 => cases h1; cases h2; obtain ⟨fd, F⟩ := c.t.d.def_ 1 (d := dDef "window_tops" 2) rfl; exact ⟨_, _, fd, ok1, F, He.glo_ok X G (c.t.d.fact 1 (f := .glo "window_tops") (g _ _ rfl)), code_mem (p := ("window_tops", none)) (List.mem_of_getElem? (i := 1) rfl) (fun_code F)⟩
    | 2, h1, h2 => cases h1; cases h2; obtain ⟨fd, F⟩ := c.t.d.def_ 2 (d := dDef "longest_within" 3) rfl; exact ⟨_, _, fd, ok2, F, He.glo_ok X G (c.t.d.fact 2 (f := .glo "longest_within") (g _ _ rfl)), code_mem (p := ("longest_within", none)) (List.mem_of_getElem? (i := 2) rfl) (fun_code F)⟩
    | 3, h1, h2 => cases h1; cases h2; obtain ⟨fd, F⟩ := c.t.d.def_ 3 (d := dDef "is_rich" 4) rfl; exact ⟨_, _, fd, ok3, F, He.glo_ok X G (c.t.d.fact 3 (f := .glo "is_rich") (g _ _ rfl)), code_mem (p := ("is_rich", none)) (List.mem_of_getElem? (i := 3) rfl) (fun_code F)⟩
    | 4, h1, h2 => cases h1; cases h2; obtain ⟨fd, F⟩ := c.t.d.def_ 4 (d := dDef "told_rich" 5) rfl; exact ⟨_, _, fd, ok4, F, He.glo_ok X G (c.t.d.fact 4 (f := .glo "told_rich") (g _ _ rfl)), code_mem (p := ("told_rich", none)) (List.mem_of_getElem? (i := 4) rfl) (fun_code F)⟩
    | 5, h1, h2 => cases h1; cases h2; obtain ⟨fd, F⟩ := c.t.d.def_ 5 (d := dDef "_law_cell" 7) rfl; exact ⟨_, _, fd, ok5, F, He.glo_ok X G (c.t.d.fact 5 (f := .glo "_law_cell") (g _ _ rfl)), code_mem (p := ("_law_cell", none)) (List.mem_of_getElem? (i := 5) rfl) (fun_code F)⟩
    | 6, h1, h2 => cases h1; cases h2; obtain ⟨fd, F⟩ := c.t.d.def_ 6 (d := dDef "_law_draws" 8) rfl; exact ⟨_, _, fd, ok6, F, He.glo_ok X G (c.t.d.fact 6 (f := .glo "_law_draws") (g _ _ rfl)), code_mem (p := ("_law_draws", none)) (List.mem_of_getElem? (i := 6) rfl) (fun_code F)⟩
    | 7, h1, h2 => cases h1; cases h2; obtain ⟨fd, F⟩ := c.t.d.def_ 7 (d := dDef "_law_is_integer" 9) rfl; exact ⟨_, _, fd, ok7, F, He.glo_ok X G (c.t.d.fact 7 (f := .glo "_law_is_integer") (g _ _ rfl)), code_mem (p := ("_law_is_integer", none)) (List.mem_of_getElem? (i := 7) rfl) (fun_code F)⟩
    | 8, h1, h2 => cases h1; cases h2; obtain ⟨fd, F⟩ := c.t.d.def_ 8 (d := dDef "_law_is" 10) rfl; exact ⟨_, _, fd, ok8, F, He.glo_ok X G (c.t.d.fact 8 (f := .glo "_law_is") (g _ _ rfl)), code_mem (p := ("_law_is", none)) (List.mem_of_getElem? (i := 8) rfl) (fun_code F)⟩
    | 9, h1, h2 => cases h1; cases h2; obtain ⟨fd, F⟩ := c.t.d.def_ 9 (d := dDef "_law_windows" 11) rfl; exact ⟨_, _, fd, ok9, F, He.glo_ok X G (c.t.d.fact 9 (f := .glo "_law_windows") (g _ _ rfl)), code_mem (p := ("_law_windows", none)) (List.mem_of_getElem? (i := 9) rfl) (fun_code F)⟩
    | 10, h1, h2 => cases h1; cases h2; obtain ⟨fd, F⟩ := c.t.d.def_ 10 (d := dDef "_law_sum" 12) rfl; exact ⟨_, _, fd, ok10, F, He.glo_ok X G (c.t.d.fact 10 (f := .glo "_law_sum") (g _ _ rfl)), code_mem (p := ("_law_sum", none)) (List.mem_of_getElem? (i := 10) rfl) (fun_code F)⟩
    | 11, h1, h2 => cases h1; cases h2; obtain ⟨fd, F⟩ := c.t.d.def_ 11 (d := dDef "_law_longest" 13) rfl; exact ⟨_, _, fd, ok11, F, He.glo_ok X G (c.t.d.fact 11 (f := .glo "_law_longest") (g _ _ rfl)), code_mem (p := ("_law_longest", none)) (List.mem_of_getElem? (i := 11) rfl) (fun_code F)⟩
    | 12, h1, h2 => cases h1; cases h2; obtain ⟨fd, F⟩ := c.t.d.def_ 12 (d := dDef "_law_rich" 14) rfl; exact ⟨_, _, fd, ok12, F, He.glo_ok X G (c.t.d.fact 12 (f := .glo "_law_rich") (g _ _ rfl)), code_mem (p := ("_law_rich", none)) (List.mem_of_getElem? (i := 12) rfl) (fun_code F)⟩
    | 13, h1, h2 => cases h1; cases h2; obtain ⟨fd, F⟩ := c.t.d.def_ 13 (d := dDef "law" 15) rfl; exact ⟨_, _, fd, ok13, F, He.glo_ok X G (c.t.d.fact 13 (f := .glo "law") (g _ _ rfl)), code_mem (p := ("law", none)) (List.mem_of_getElem? (i := 13) rfl) (fun_code F)⟩
    | n + 14, h1, h2 => cases h1
/-- the law, by the evaluator -/
def lawF : Nat := 13
theorem finish (k : Nat) (hr : Room (2 * k) callerA) (hlaw : ∀ (sc : D) (ns : List Int), IsScr sc ns → ns.length ≤ 63 → callD defs k lawF [sc] = some (.bl true)) : ROW.Holds := by
  open PySem.W PySem.Calls in
  w_on; o_law
  refine HandSHeadRun.head_any (r := OpenLaw.row ROW) (q := view (OpenLaw.row ROW).prog [15]) (H := hk) (ob := ob) (M := 20000) (loose := loose) (d := HandSHeadRun.topDef (OpenLaw.row ROW).prog 15) (kwd := []) ob_eq
    (by kernel_rfl) (fun s => by kernel_rfl) run (by kernel_rfl) (by kernel_rfl) (by kernel_rfl) (by rfl) (by first | assumption | decide +kernel) (by decide +kernel) ⟨rfl, rfl, rfl, rfl, rfl, by decide +kernel⟩ ?hw ?hc
  case hw => w_witness2
  case hc =>
    letI : Tabs := ⟨[]⟩
    refine walk_tab (l := ROW) (n := 63) (k := 2 * k) (x := "script") rfl (by decide) (by kernel_rfl) hr ?F
    intro w mg fa0 h Y hmn hmg0
    obtain ⟨K, KX, c⟩ := Y
    have hmg : mg ("law" : PySem.Str) = some (.ref fa0) := by
      have e : (HandSHeadRun.topDef (OpenLaw.row ROW).prog 15).name = ("law" : PySem.Str) := by kernel_rfl
      rw [← e]
      exact hmg0
    letI : Tabs := tabsOf tf K
    exact ⟨K, KX, law_top (top_ok KX hmn c) (i := d13) (f := lawF) rfl rfl hmg hlaw (tabs_empty c) (tabs_out c) (tabs_code KX c) rfl⟩
end Ev
set_option maxHeartbeats 4000000
namespace Ev
open PySem PySem.Spec PyProof.Rows L2
def F_law_windows_L1 (size : Int) (found : (List (Int × Int))) (i : Int) : Option ((List (Int × Int))) :=
  (rng2 i (size + 1)).bind fun r => (catO found (r.map fun j => ((i, j) : (Int × Int)))).bind fun ct => some ct
theorem f_law_windows_b1 {m : Nat} (hm : 0 ≤ m) (size : Int)  (found : (List (Int × Int))) (i : Int) {g : (List (Int × Int))} (h : F_law_windows_L1 size found i = some g) : Run (callD defs m) [1] [some (eI size), some ((eL (eT2 eI eI)) found), some (eI i), none] b9_1 (.go [some (eI size), some ((eL (eT2 eI eI)) g), none, none]) := by
  unfold F_law_windows_L1 at h
  obtain ⟨r, hr, h⟩ := bind_some h
  obtain ⟨ct, hct, h⟩ := bind_some h
  refine r_asg (i := 1) (v_bin (v_var (d := (eL (eT2 eI eI)) found)) (v_comp (e' := (eT2 eI eI)) (g := fun (j : Int) => ((i, j) : (Int × Int))) (i_rng2 (v_var (d := eI i)) (v_bin (v_var (d := eI size)) (v_cst (d := eI 1)) o_add) hr) (fun _ => rfl) (fun j => (vt ((eT2 eI eI) (i, j)) (v_tup (x_cons (v_var (d := eI i)) (x_cons (v_var (d := eI j)) x_nil))) rfl))) (o_catL hct)) (b_own (fr_1 (by rfl) (Im1.im1 (e := (eL (eT2 eI eI))) _)) (by rfl)) ?_
  obtain rfl := Option.some.inj h
  exact r_nilg (.so (.so (.no (.no .nil))))
def F_law_windows (size : Int) : Option (List (Int × Int)) :=
  (rng1 (size + 1)).bind fun r => (foldO (fun (zs_ : (List (Int × Int))) zx_ => F_law_windows_L1 size zs_ zx_) ([] : (List (Int × Int))) r).bind fun g_ => some g_
theorem f_law_windows {k : Nat} (hk : 0 + 1 ≤ k) {size : Int} {zr_ : (List (Int × Int))} (h : F_law_windows size = some zr_) : callD defs k 9 [eI size] = some ((eL (eT2 eI eI)) zr_) := by
  refine call_run (i := d9) (K := 0) rfl rfl rfl hk fun m hm => ?_
  change Run (callD defs m) [1] [some (eI size), none, none, none] body9 (.rt ((eL (eT2 eI eI)) zr_))
  unfold F_law_windows at h
  refine r_asg (i := 1) (vt ((eL (eT2 eI eI)) ([] : (List (Int × Int)))) (v_lst x_nil) rfl) (b_own (fr_1 (by rfl) (Im1.im1 (e := (eL (eT2 eI eI))) _)) (by rfl)) ?_
  obtain ⟨r, hr, h⟩ := bind_some h
  obtain ⟨g_, hg_, h⟩ := bind_some h
  refine r_fold (e := eI) (P := fun zs_ : (List (Int × Int)) => [some (eI size), some ((eL (eT2 eI eI)) zs_), none, none]) (s0 := ([] : (List (Int × Int)))) (i_rng1 (v_bin (v_var (d := eI size)) (v_cst (d := eI 1)) o_add) hr) (w_rng) (.so (.so (.no (.no .nil)))) hg_ (fun zx_ zs_ _ zq_ => ⟨_, rfl, f_law_windows_b1 (Nat.le_trans (by decide) hm) size zs_ zx_ zq_⟩) ?_
  obtain rfl := Option.some.inj h
  refine r_ret (v_var (d := (eL (eT2 eI eI)) g_)) (k_var (by rfl))
def F_law_sum_L1 (numbers : (List Int)) (total : Int) (at_ : Int) : Option (Int) :=
  (atI numbers at_).bind fun v => letO ((total + v) : Int) fun total_1 => some total_1
theorem f_law_sum_b1 {m : Nat} (hm : 0 ≤ m) (numbers : (List Int))  (total : Int) (at_ : Int) {g : Int} (h : F_law_sum_L1 numbers total at_ = some g) : Run (callD defs m) [] [some ((eU eI) numbers), none, none, some (eI total), some (eI at_)] b10_1 (.go [some ((eU eI) numbers), none, none, some (eI g), none]) := by
  unfold F_law_sum_L1 at h
  obtain ⟨v, hv, h⟩ := bind_some h
  obtain ⟨total_1, htotal_1, h⟩ := letO_some h
  refine r_asg (i := 3) (v_asE (e := eI) htotal_1 (v_bin (v_var (d := eI total)) (v_ixU (v_var (d := (eU eI) numbers)) (v_var (d := eI at_)) hv) o_add)) (b_imm (Im.im (e := eI) _)) ?_
  obtain rfl := Option.some.inj h
  exact r_nilg (.so (.no (.no (.so (.no .nil)))))
def F_law_sum (numbers : (List Int)) (i : Int) (j : Int) : Option Int :=
  (rng2 i j).bind fun r => (foldO (fun (zs_ : Int) zx_ => F_law_sum_L1 numbers zs_ zx_) 0 r).bind fun g_ => some g_
theorem f_law_sum {k : Nat} (hk : 0 + 1 ≤ k) {numbers : (List Int)} {i : Int} {j : Int} {zr_ : Int} (h : F_law_sum numbers i j = some zr_) : callD defs k 10 [(eU eI) numbers, eI i, eI j] = some (eI zr_) := by
  refine call_run (i := d10) (K := 0) rfl rfl rfl hk fun m hm => ?_
  change Run (callD defs m) [] [some ((eU eI) numbers), some (eI i), some (eI j), none, none] body10 (.rt (eI zr_))
  unfold F_law_sum at h
  refine r_asg (i := 3) (v_cst (d := eI 0)) (b_imm (Im.im (e := eI) _)) ?_
  obtain ⟨r, hr, h⟩ := bind_some h
  obtain ⟨g_, hg_, h⟩ := bind_some h
  refine r_fold (e := eI) (P := fun zs_ : Int => [some ((eU eI) numbers), none, none, some (eI zs_), none]) (s0 := 0) (i_rng2 (v_var (d := eI i)) (v_var (d := eI j)) hr) (w_rng) (.so (.no (.no (.so (.no .nil))))) hg_ (fun zx_ zs_ _ zq_ => ⟨_, rfl, f_law_sum_b1 (Nat.le_trans (by decide) hm) numbers zs_ zx_ zq_⟩) ?_
  obtain rfl := Option.some.inj h
  refine r_ret (v_var (d := eI g_)) (k_imm (Im.im (e := eI) _))
def F_window_sums (numbers : (List Int)) (w : Int) : Option (List Int) :=
  (rng1 (((numbers.length : Int) - w) + 1)).bind fun r => some (r.map fun i => ((cutG numbers (some i) (some (i + w))).sum : Int))
theorem f_window_sums {k : Nat} (hk : 0 + 1 ≤ k) {numbers : (List Int)} {w : Int} {zr_ : (List Int)} (h : F_window_sums numbers w = some zr_) : callD defs k 0 [(eU eI) numbers, eI w] = some ((eU eI) zr_) := by
  refine call_run (i := d0) (K := 0) rfl rfl rfl hk fun m hm => ?_
  change Run (callD defs m) [] [some ((eU eI) numbers), some (eI w), none] body0 (.rt ((eU eI) zr_))
  unfold F_window_sums at h
  obtain ⟨r, hr, h⟩ := bind_some h
  obtain rfl := Option.some.inj h
  refine r_ret (v_bf1 (v_comp (e' := eI) (g := fun (i : Int) => ((cutG numbers (some i) (some (i + w))).sum : Int)) (i_rng1 (v_bin (v_bin (v_bf1 (v_var (d := (eU eI) numbers)) f_lenU) (v_var (d := eI w)) o_sub) (v_cst (d := eI 1)) o_add) hr) (fun _ => rfl) (fun i => (v_bf1 (v_slU (v_var (d := (eU eI) numbers)) (x_o1 (v_var (d := eI i))) (x_o1 (v_bin (v_var (d := eI i)) (v_var (d := eI w)) o_add))) f_sumU))) f_tupL) (k_imm (Im.im (e := (eU eI)) _))
def F_window_tops_L2 (numbers : (List Int)) (w : Int) (found : (List Int)) (at_ : Int) (number : Int) (waiting : (List Int))  : Option (Stp ((List Int)) Unit) :=
  (popO waiting none).bind fun pp => some (.nx pp.2)
def F_window_tops_L2c (numbers : (List Int)) (w : Int) (found : (List Int)) (at_ : Int) (number : Int) (waiting : (List Int)) : Option Bool :=
  ((if (!waiting.isEmpty) = true then ((atI waiting (-1)).bind fun v => (atI numbers v).bind fun v_1 => some (decide (v_1 ≤ number))) else some false)).bind fun k => some k
theorem f_window_tops_b2 {m : Nat} (hm : 0 ≤ m) (numbers : (List Int)) (w : Int) (found : (List Int)) (at_ : Int) (number : Int)  (waiting : (List Int))  {g : Stp ((List Int)) Unit} (h : F_window_tops_L2 numbers w found at_ number waiting  = some g) : StpRun (callD defs m) [2, 3] [some ((eU eI) numbers), some (eI w), some ((eL eI) waiting), some ((eL eI) found), some (eI at_), some (eI number)] b1_1 (fun g : (List Int) => [some ((eU eI) numbers), some (eI w), some ((eL eI) g), some ((eL eI) found), some (eI at_), some (eI number)]) eN g := by
  unfold F_window_tops_L2 at h
  obtain ⟨pp, hpp, h⟩ := bind_some h
  refine r_popN (e := eI) (xs := waiting) (v := pp.1) (ys := pp.2) (by rfl) x_o0 (by rfl) hpp ?_
  obtain rfl := Option.some.inj h
  exact r_nilg (.so (.so (.so (.so (.so (.so .nil))))))
theorem f_window_tops_b2c {m : Nat} (hm : 0 ≤ m) (numbers : (List Int)) (w : Int) (found : (List Int)) (at_ : Int) (number : Int) (waiting : (List Int)) {k : Bool} (h : F_window_tops_L2c numbers w found at_ number waiting = some k) : TE (callD defs m) [some ((eU eI) numbers), some (eI w), some ((eL eI) waiting), some ((eL eI) found), some (eI at_), some (eI number)] (.and (.var 2) (.cmp .LtE (.ix (.var 0) (.ix (.var 2) (.neg (.cst (.int 1))))) (.var 5))) k := by
  unfold F_window_tops_L2c at h
  obtain ⟨k, hk, h⟩ := bind_some h
  obtain rfl := Option.some.inj h
  refine (te_andP (te_v (v_var (d := (eL eI) waiting)) t_l) hk ?_)
  · intro _ q
    obtain ⟨v, hv, q⟩ := bind_some q
    obtain ⟨v_1, hv_1, q⟩ := bind_some q
    obtain rfl := Option.some.inj q
    refine (te_v (v_cmp (v_ixU (v_var (d := (eU eI) numbers)) (v_ixL (v_var (d := (eL eI) waiting)) (v_neg (v_cst (d := eI 1))) hv) hv_1) (v_var (d := eI number)) (c_le (x := v_1) (y := number))) t_b)
def F_window_tops_L1 (numbers : (List Int)) (w : Int) (waiting : (List Int)) (found : (List Int)) (x : (Int × Int)) : Option ((List Int) × (List Int)) :=
  (whileO (fun (zs_ : (List Int)) => F_window_tops_L2c numbers w found x.1 x.2 zs_) (fun zs_ => F_window_tops_L2 numbers w found x.1 x.2 zs_) fuel waiting).bind fun g_ => (match g_ with | .nx s => (appO s x.1).bind fun waiting_1 => (atI waiting_1 0).bind fun v => (if (decide (v ≤ (x.1 - w))) = true then (letO ((cutG waiting_1 (some 1) none) : (List Int)) fun waiting_2 => some waiting_2) else (some waiting_1)).bind fun waiting_3 => (if (decide ((w - 1) ≤ x.1)) = true then ((atI waiting_3 0).bind fun v_1 => (atI numbers v_1).bind fun v_2 => (appO found v_2).bind fun found_1 => some found_1) else (some found)).bind fun found_2 => some (waiting_3, found_2) | .rt _ => none | .bk _ => none)
theorem f_window_tops_b1 {m : Nat} (hm : 0 ≤ m) (numbers : (List Int)) (w : Int)  (waiting : (List Int)) (found : (List Int)) (x : (Int × Int)) {g : (List Int) × (List Int)} (h : F_window_tops_L1 numbers w waiting found x = some g) : Run (callD defs m) [2, 3] [some ((eU eI) numbers), some (eI w), some ((eL eI) waiting), some ((eL eI) found), some (eI x.1), some (eI x.2)] b1_2 (.go [some ((eU eI) numbers), some (eI w), some ((eL eI) g.1), some ((eL eI) g.2), none, none]) := by
  unfold F_window_tops_L1 at h
  obtain ⟨g_, hg_, h⟩ := bind_some h
  refine r_while (e' := eN) (P := fun zs_ : (List Int) => [some ((eU eI) numbers), some (eI w), some ((eL eI) zs_), some ((eL eI) found), some (eI x.1), some (eI x.2)]) (s0 := waiting) (.so (.so (.so (.so (.so (.so .nil)))))) hg_ (fun zs_ _ zq_ => f_window_tops_b2c (Nat.le_trans (by decide) hm) numbers w found x.1 x.2 zs_ zq_) (fun zs_ _ _ zq_ => f_window_tops_b2 (Nat.le_trans (by decide) hm) numbers w found x.1 x.2 zs_ zq_) (fun s q_ => ?_) (fun r_ q_ => ?_)
  · subst q_
    dsimp only at h
    obtain ⟨waiting_1, hwaiting_1, h⟩ := bind_some h
    refine r_app (i := 2) (e := eI) (xs := s) (v_var (d := eI x.1)) (by rfl) (by rfl) (a_imm (Im.im (e := eI) _)) hwaiting_1 ?_
    obtain ⟨v, hv, h⟩ := bind_some h
    obtain ⟨waiting_3, hj2_, h⟩ := bind_some h
    refine r_join (p := [some ((eU eI) numbers), some (eI w), some ((eL eI) waiting_3), some ((eL eI) found), some (eI x.1), none]) ?_ ?_
    · clear h
      by_cases hc : (decide (v ≤ (x.1 - w))) = true
      · rw [if_pos hc] at hj2_
        refine r_ift0 (te_t (te_v (v_cmp (v_ixL (v_var (d := (eL eI) waiting_1)) (v_cst (d := eI 0)) hv) (v_bin (v_var (d := eI x.1)) (v_var (d := eI w)) o_sub) (c_le (x := v) (y := (x.1 - w)))) t_b) hc) ?_
        obtain ⟨waiting_2, hwaiting_2, hj2_⟩ := letO_some hj2_
        refine r_asg (i := 2) (v_asE (e := (eL eI)) hwaiting_2 (v_slL (v_var (d := (eL eI) waiting_1)) (x_o1 (v_cst (d := eI 1))) x_o0)) (b_own (fr_1 (by rfl) (Im1.im1 (e := (eL eI)) _)) (by rfl)) ?_
        obtain rfl := Option.some.inj hj2_
        exact r_nil (.so (.so (.so (.so (.so (.no .nil))))))
      · rw [if_neg hc] at hj2_
        refine r_iff0 (te_f (te_v (v_cmp (v_ixL (v_var (d := (eL eI) waiting_1)) (v_cst (d := eI 0)) hv) (v_bin (v_var (d := eI x.1)) (v_var (d := eI w)) o_sub) (c_le (x := v) (y := (x.1 - w)))) t_b) hc) ?_
        obtain rfl := Option.some.inj hj2_
        exact r_nil (.so (.so (.so (.so (.so (.no .nil))))))
    · clear hj2_
      obtain ⟨found_2, hj1_, h⟩ := bind_some h
      refine r_join (p := [some ((eU eI) numbers), some (eI w), some ((eL eI) waiting_3), some ((eL eI) found_2), none, none]) ?_ ?_
      · clear h
        by_cases hc : (decide ((w - 1) ≤ x.1)) = true
        · rw [if_pos hc] at hj1_
          refine r_ift0 (te_t (te_v (v_cmp (v_var (d := eI x.1)) (v_bin (v_var (d := eI w)) (v_cst (d := eI 1)) o_sub) (c_ge (x := x.1) (y := (w - 1)))) t_b) hc) ?_
          obtain ⟨v_1, hv_1, hj1_⟩ := bind_some hj1_
          obtain ⟨v_2, hv_2, hj1_⟩ := bind_some hj1_
          obtain ⟨found_1, hfound_1, hj1_⟩ := bind_some hj1_
          refine r_app (i := 3) (e := eI) (xs := found) (v_ixU (v_var (d := (eU eI) numbers)) (v_ixL (v_var (d := (eL eI) waiting_3)) (v_cst (d := eI 0)) hv_1) hv_2) (by rfl) (by rfl) (a_imm (Im.im (e := eI) _)) hfound_1 ?_
          obtain rfl := Option.some.inj hj1_
          exact r_nil (.so (.so (.so (.so (.no (.no .nil))))))
        · rw [if_neg hc] at hj1_
          refine r_iff0 (te_f (te_v (v_cmp (v_var (d := eI x.1)) (v_bin (v_var (d := eI w)) (v_cst (d := eI 1)) o_sub) (c_ge (x := x.1) (y := (w - 1)))) t_b) hc) ?_
          obtain rfl := Option.some.inj hj1_
          exact r_nil (.so (.so (.so (.so (.no (.no .nil))))))
      · clear hj1_
        obtain rfl := Option.some.inj h
        exact r_nilg (.so (.so (.so (.so (.no (.no .nil))))))
  · subst q_
    cases h
def F_window_tops (numbers : (List Int)) (w : Int) : Option (List Int) :=
  (foldO (fun (zs_ : (List Int) × (List Int)) zx_ => F_window_tops_L1 numbers w zs_.1 zs_.2 zx_) (([] : (List Int)), ([] : (List Int))) (enumT numbers)).bind fun g_ => some g_.2
theorem f_window_tops {k : Nat} (hk : 0 + 1 ≤ k) {numbers : (List Int)} {w : Int} {zr_ : (List Int)} (h : F_window_tops numbers w = some zr_) : callD defs k 1 [(eU eI) numbers, eI w] = some ((eU eI) zr_) := by
  refine call_run (i := d1) (K := 0) rfl rfl rfl hk fun m hm => ?_
  change Run (callD defs m) [2, 3] [some ((eU eI) numbers), some (eI w), none, none, none, none] body1 (.rt ((eU eI) zr_))
  unfold F_window_tops at h
  refine r_asg (i := 2) (vt ((eL eI) ([] : (List Int))) (v_lst x_nil) rfl) (b_own (fr_1 (by rfl) (Im1.im1 (e := (eL eI)) _)) (by rfl)) ?_
  refine r_asg (i := 3) (vt ((eL eI) ([] : (List Int))) (v_lst x_nil) rfl) (b_own (fr_1 (by rfl) (Im1.im1 (e := (eL eI)) _)) (by rfl)) ?_
  obtain ⟨g_, hg_, h⟩ := bind_some h
  refine r_fold (e := (eT2 eI eI)) (P := fun zs_ : (List Int) × (List Int) => [some ((eU eI) numbers), some (eI w), some ((eL eI) zs_.1), some ((eL eI) zs_.2), none, none]) (s0 := (([] : (List Int)), ([] : (List Int)))) (i_enmU (v_var (d := (eU eI) numbers))) (w_clean (by rfl)) (.so (.so (.so (.so (.no (.no .nil)))))) hg_ (fun zx_ zs_ _ zq_ => ⟨_, rfl, f_window_tops_b1 (Nat.le_trans (by decide) hm) numbers w zs_.1 zs_.2 zx_ zq_⟩) ?_
  obtain rfl := Option.some.inj h
  refine r_ret (v_bf1 (v_var (d := (eL eI) g_.2)) f_tupL) (k_imm (Im.im (e := (eU eI)) _))
def F_law_L2 (script : (List Int)) (draws : (List Int)) (k : Int) (size : Int) (wide : Int) (numbers : (List Int)) (over : (List Int)) (every : (List (Int × Int)))  (w : Int) : Option (Option Bool) :=
  (rng1 ((size - w) + 1)).bind fun r => (mapO (fun i => (F_law_sum numbers i (i + w)).bind fun sum => some sum) r).bind fun l => (rng1 ((size - w) + 1)).bind fun r_1 => (mapO (fun i_1 => (maxO ltI (cutG numbers (some i_1) (some (i_1 + w)))).bind fun v => some v) r_1).bind fun l_1 => (F_window_sums numbers w).bind fun window => (isO (okU okT) window l).bind fun k_1 => ((if (!k_1) = true then some true else ((F_window_tops numbers w).bind fun window_1 => (isO (okU okT) window_1 l_1).bind fun k_2 => some (!k_2)))).bind fun k_3 => if k_3 = true then (some (some false)) else some none
theorem f_law_b2 {m : Nat} (hm : 10 ≤ m) {sc : D} (script : (List Int)) (draws : (List Int)) (k : Int) (size : Int) (wide : Int) (numbers : (List Int)) (over : (List Int)) (every : (List (Int × Int))) (hsc : IsScr sc script)   (w : Int) {g : Option Bool} (h : F_law_L2 script draws k size wide numbers over every  w = some g) : FndRun (callD defs m) [] [some ((eX sc) script), some ((eL eI) draws), some (eI k), none, some (eI size), some (eI wide), some ((eU eI) numbers), some ((eU eI) over), some ((eL (eT2 eI eI)) every), some (eI w), none, none, none, none, none, none, none, none, none, none, none, none] b13_3 [some ((eX sc) script), some ((eL eI) draws), some (eI k), none, some (eI size), some (eI wide), some ((eU eI) numbers), some ((eU eI) over), some ((eL (eT2 eI eI)) every), none, none, none, none, none, none, none, none, none, none, none, none, none] eB g := by
  unfold F_law_L2 at h
  obtain ⟨r, hr, h⟩ := bind_some h
  obtain ⟨l, hl, h⟩ := bind_some h
  refine r_asg (i := 11) (v_bf1 (v_compP (e' := eI) (i_rng1 (v_bin (v_bin (v_var (d := eI size)) (v_var (d := eI w)) o_sub) (v_cst (d := eI 1)) o_add) hr) (fun _ => rfl) hl ?_) f_tupL) (b_imm (Im.im (e := (eU eI)) _)) ?_
  · intro i y q
    obtain ⟨sum, hsum, q⟩ := bind_some q
    obtain rfl := Option.some.inj q
    refine (v_call (x_cons (v_var (d := (eU eI) numbers)) (x_cons (v_var (d := eI i)) (x_cons (v_bin (v_var (d := eI i)) (v_var (d := eI w)) o_add) x_nil))) (f_law_sum (Nat.le_trans (by decide) hm) hsum))
  obtain ⟨r_1, hr_1, h⟩ := bind_some h
  obtain ⟨l_1, hl_1, h⟩ := bind_some h
  refine r_asg (i := 12) (v_bf1 (v_compP (e' := eI) (i_rng1 (v_bin (v_bin (v_var (d := eI size)) (v_var (d := eI w)) o_sub) (v_cst (d := eI 1)) o_add) hr_1) (fun _ => rfl) hl_1 ?_) f_tupL) (b_imm (Im.im (e := (eU eI)) _)) ?_
  · intro i_1 y q
    obtain ⟨v, hv, q⟩ := bind_some q
    obtain rfl := Option.some.inj q
    refine (v_bf1 (v_slU (v_var (d := (eU eI) numbers)) (x_o1 (v_var (d := eI i_1))) (x_o1 (v_bin (v_var (d := eI i_1)) (v_var (d := eI w)) o_add))) (f_maxU (e := eI) hv))
  obtain ⟨window, hwindow, h⟩ := bind_some h
  obtain ⟨k_1, hk_1, h⟩ := bind_some h
  obtain ⟨k_3, hk_3, h⟩ := bind_some h
  by_cases hc : k_3 = true
  · rw [if_pos hc] at h
    refine r_ift (te_t (te_orP (te_not (te_v (v_call (x_cons (v_call (x_cons (v_var (d := (eU eI) numbers)) (x_cons (v_var (d := eI w)) x_nil)) (f_window_sums (Nat.le_trans (by decide) hm) hwindow)) (x_cons (v_var (d := (eU eI) l)) x_nil)) (is_run (e := (eU eI)) (f := 8) (g := 7) rfl rfl (Nat.le_trans (by decide) hm) hk_1)) t_b)) hk_3 ?_) hc) ?_
    · intro _ q
      obtain ⟨window_1, hwindow_1, q⟩ := bind_some q
      obtain ⟨k_2, hk_2, q⟩ := bind_some q
      obtain rfl := Option.some.inj q
      refine (te_not (te_v (v_call (x_cons (v_call (x_cons (v_var (d := (eU eI) numbers)) (x_cons (v_var (d := eI w)) x_nil)) (f_window_tops (Nat.le_trans (by decide) hm) hwindow_1)) (x_cons (v_var (d := (eU eI) l_1)) x_nil)) (is_run (e := (eU eI)) (f := 8) (g := 7) rfl rfl (Nat.le_trans (by decide) hm) hk_2)) t_b))
    obtain rfl := Option.some.inj h
    refine r_ret (v_cst (d := eB false)) (k_imm (Im.im (e := eB) _))
  · rw [if_neg hc] at h
    refine r_iff (te_f (te_orP (te_not (te_v (v_call (x_cons (v_call (x_cons (v_var (d := (eU eI) numbers)) (x_cons (v_var (d := eI w)) x_nil)) (f_window_sums (Nat.le_trans (by decide) hm) hwindow)) (x_cons (v_var (d := (eU eI) l)) x_nil)) (is_run (e := (eU eI)) (f := 8) (g := 7) rfl rfl (Nat.le_trans (by decide) hm) hk_1)) t_b)) hk_3 ?_) hc) ?_
    · intro _ q
      obtain ⟨window_1, hwindow_1, q⟩ := bind_some q
      obtain ⟨k_2, hk_2, q⟩ := bind_some q
      obtain rfl := Option.some.inj q
      refine (te_not (te_v (v_call (x_cons (v_call (x_cons (v_var (d := (eU eI) numbers)) (x_cons (v_var (d := eI w)) x_nil)) (f_window_tops (Nat.le_trans (by decide) hm) hwindow_1)) (x_cons (v_var (d := (eU eI) l_1)) x_nil)) (is_run (e := (eU eI)) (f := 8) (g := 7) rfl rfl (Nat.le_trans (by decide) hm) hk_2)) t_b))
    obtain rfl := Option.some.inj h
    exact r_nilg (.so (.so (.so (.no (.so (.so (.so (.so (.so (.no (.no (.no (.no (.no (.no (.no (.no (.no (.no (.no (.no (.no .nil))))))))))))))))))))))
def F_longest_within_L2 (numbers : (List Int)) (limit : Int) (best : (Int × Int)) (i : Int) (j : Int)  : Option (Stp (Int) Unit) :=
  letO ((j + 1) : Int) fun j_1 => some (.nx j_1)
def F_longest_within_L2c (numbers : (List Int)) (limit : Int) (best : (Int × Int)) (i : Int) (j : Int) : Option Bool :=
  some ((decide (j < (numbers.length : Int))) && (decide ((cutG numbers (some i) (some (j + 1))).sum ≤ limit)))
theorem f_longest_within_b2 {m : Nat} (hm : 0 ≤ m) (numbers : (List Int)) (limit : Int) (best : (Int × Int)) (i : Int)  (j : Int)  {g : Stp (Int) Unit} (h : F_longest_within_L2 numbers limit best i j  = some g) : StpRun (callD defs m) [] [some ((eU eI) numbers), some (eI limit), some ((eT2 eI eI) best), some (eI i), some (eI j)] b2_1 (fun g : Int => [some ((eU eI) numbers), some (eI limit), some ((eT2 eI eI) best), some (eI i), some (eI g)]) eN g := by
  unfold F_longest_within_L2 at h
  obtain ⟨j_1, hj_1, h⟩ := letO_some h
  refine r_asg (i := 4) (v_asE (e := eI) hj_1 (v_bin (v_var (d := eI j)) (v_cst (d := eI 1)) o_add)) (b_imm (Im.im (e := eI) _)) ?_
  obtain rfl := Option.some.inj h
  exact r_nilg (.so (.so (.so (.so (.so .nil)))))
theorem f_longest_within_b2c {m : Nat} (hm : 0 ≤ m) (numbers : (List Int)) (limit : Int) (best : (Int × Int)) (i : Int) (j : Int) {k : Bool} (h : F_longest_within_L2c numbers limit best i j = some k) : TE (callD defs m) [some ((eU eI) numbers), some (eI limit), some ((eT2 eI eI) best), some (eI i), some (eI j)] (.and (.cmp .Lt (.var 4) (.bf .len [(.var 0)])) (.cmp .LtE (.bf .sum [(.sl (.var 0) (some (.var 3)) (some (.bin .Add (.var 4) (.cst (.int 1)))))]) (.var 1))) k := by
  unfold F_longest_within_L2c at h
  obtain rfl := Option.some.inj h
  refine (te_and (te_v (v_cmp (v_var (d := eI j)) (v_bf1 (v_var (d := (eU eI) numbers)) f_lenU) (c_lt (x := j) (y := (numbers.length : Int)))) t_b) (te_v (v_cmp (v_bf1 (v_slU (v_var (d := (eU eI) numbers)) (x_o1 (v_var (d := eI i))) (x_o1 (v_bin (v_var (d := eI j)) (v_cst (d := eI 1)) o_add))) f_sumU) (v_var (d := eI limit)) (c_le (x := (cutG numbers (some i) (some (j + 1))).sum) (y := limit))) t_b))
def F_longest_within_L1 (numbers : (List Int)) (limit : Int) (best : (Int × Int)) (i : Int) : Option ((Int × Int)) :=
  (whileO (fun (zs_ : Int) => F_longest_within_L2c numbers limit best i zs_) (fun zs_ => F_longest_within_L2 numbers limit best i zs_) fuel i).bind fun g_ => (match g_ with | .nx s => (if (decide ((best.2 - best.1) < (s - i))) = true then (letO ((i, s) : (Int × Int)) fun best_1 => some best_1) else (some best)).bind fun best_2 => some best_2 | .rt _ => none | .bk _ => none)
theorem f_longest_within_b1 {m : Nat} (hm : 0 ≤ m) (numbers : (List Int)) (limit : Int)  (best : (Int × Int)) (i : Int) {g : (Int × Int)} (h : F_longest_within_L1 numbers limit best i = some g) : Run (callD defs m) [] [some ((eU eI) numbers), some (eI limit), some ((eT2 eI eI) best), some (eI i), none] b2_2 (.go [some ((eU eI) numbers), some (eI limit), some ((eT2 eI eI) g), none, none]) := by
  unfold F_longest_within_L1 at h
  refine r_asg (i := 4) (v_var (d := eI i)) (b_imm (Im.im (e := eI) _)) ?_
  obtain ⟨g_, hg_, h⟩ := bind_some h
  refine r_while (e' := eN) (P := fun zs_ : Int => [some ((eU eI) numbers), some (eI limit), some ((eT2 eI eI) best), some (eI i), some (eI zs_)]) (s0 := i) (.so (.so (.so (.so (.so .nil))))) hg_ (fun zs_ _ zq_ => f_longest_within_b2c (Nat.le_trans (by decide) hm) numbers limit best i zs_ zq_) (fun zs_ _ _ zq_ => f_longest_within_b2 (Nat.le_trans (by decide) hm) numbers limit best i zs_ zq_) (fun s q_ => ?_) (fun r_ q_ => ?_)
  · subst q_
    dsimp only at h
    obtain ⟨best_2, hj3_, h⟩ := bind_some h
    refine r_join (p := [some ((eU eI) numbers), some (eI limit), some ((eT2 eI eI) best_2), none, none]) ?_ ?_
    · clear h
      by_cases hc : (decide ((best.2 - best.1) < (s - i))) = true
      · rw [if_pos hc] at hj3_
        refine r_ift0 (te_t (te_v (v_cmp (v_bin (v_var (d := eI s)) (v_var (d := eI i)) o_sub) (v_bin (vt (eI best.2) (v_ixT (vt (.tup [eI best.1, eI best.2]) (v_var (d := (eT2 eI eI) best)) rfl) (v_cst (d := eI 1)) rfl) rfl) (vt (eI best.1) (v_ixT (vt (.tup [eI best.1, eI best.2]) (v_var (d := (eT2 eI eI) best)) rfl) (v_cst (d := eI 0)) rfl) rfl) o_sub) (c_gt (x := (s - i)) (y := (best.2 - best.1)))) t_b) hc) ?_
        obtain ⟨best_1, hbest_1, hj3_⟩ := letO_some hj3_
        refine r_asg (i := 2) (v_asE (e := (eT2 eI eI)) hbest_1 (vt ((eT2 eI eI) (i, s)) (v_tup (x_cons (v_var (d := eI i)) (x_cons (v_var (d := eI s)) x_nil))) rfl)) (b_imm (Im.im (e := (eT2 eI eI)) _)) ?_
        obtain rfl := Option.some.inj hj3_
        exact r_nil (.so (.so (.so (.no (.no .nil)))))
      · rw [if_neg hc] at hj3_
        refine r_iff0 (te_f (te_v (v_cmp (v_bin (v_var (d := eI s)) (v_var (d := eI i)) o_sub) (v_bin (vt (eI best.2) (v_ixT (vt (.tup [eI best.1, eI best.2]) (v_var (d := (eT2 eI eI) best)) rfl) (v_cst (d := eI 1)) rfl) rfl) (vt (eI best.1) (v_ixT (vt (.tup [eI best.1, eI best.2]) (v_var (d := (eT2 eI eI) best)) rfl) (v_cst (d := eI 0)) rfl) rfl) o_sub) (c_gt (x := (s - i)) (y := (best.2 - best.1)))) t_b) hc) ?_
        obtain rfl := Option.some.inj hj3_
        exact r_nil (.so (.so (.so (.no (.no .nil)))))
    · clear hj3_
      obtain rfl := Option.some.inj h
      exact r_nilg (.so (.so (.so (.no (.no .nil)))))
  · subst q_
    cases h
def F_longest_within (numbers : (List Int)) (limit : Int) : Option (Int × Int) :=
  letO ((0, 0) : (Int × Int)) fun best => (rng1 (numbers.length : Int)).bind fun r => (foldO (fun (zs_ : (Int × Int)) zx_ => F_longest_within_L1 numbers limit zs_ zx_) best r).bind fun g_ => some g_
theorem f_longest_within {k : Nat} (hk : 0 + 1 ≤ k) {numbers : (List Int)} {limit : Int} {zr_ : (Int × Int)} (h : F_longest_within numbers limit = some zr_) : callD defs k 2 [(eU eI) numbers, eI limit] = some ((eT2 eI eI) zr_) := by
  refine call_run (i := d2) (K := 0) rfl rfl rfl hk fun m hm => ?_
  change Run (callD defs m) [] [some ((eU eI) numbers), some (eI limit), none, none, none] body2 (.rt ((eT2 eI eI) zr_))
  unfold F_longest_within at h
  obtain ⟨best, hbest, h⟩ := letO_some h
  refine r_asg (i := 2) (v_asE (e := (eT2 eI eI)) hbest (vt ((eT2 eI eI) (0, 0)) (v_tup (x_cons (v_cst (d := eI 0)) (x_cons (v_cst (d := eI 0)) x_nil))) rfl)) (b_imm (Im.im (e := (eT2 eI eI)) _)) ?_
  obtain ⟨r, hr, h⟩ := bind_some h
  obtain ⟨g_, hg_, h⟩ := bind_some h
  refine r_fold (e := eI) (P := fun zs_ : (Int × Int) => [some ((eU eI) numbers), some (eI limit), some ((eT2 eI eI) zs_), none, none]) (s0 := best) (i_rng1 (v_bf1 (v_var (d := (eU eI) numbers)) f_lenU) hr) (w_rng) (.so (.so (.so (.no (.no .nil))))) hg_ (fun zx_ zs_ _ zq_ => ⟨_, rfl, f_longest_within_b1 (Nat.le_trans (by decide) hm) numbers limit zs_ zx_ zq_⟩) ?_
  obtain rfl := Option.some.inj h
  refine r_ret (v_var (d := (eT2 eI eI) g_)) (k_imm (Im.im (e := (eT2 eI eI)) _))
def F_law_longest (numbers : (List Int)) (limit : Int) : Option (Int × Int) :=
  (F_law_windows (numbers.length : Int)).bind fun window => (fmO (fun x => (F_law_sum numbers x.1 x.2).bind fun sum => some (decide (sum ≤ limit))) (fun x => some ((x.1, x.2) : (Int × Int))) window).bind fun l => (maxO ltI (l.map fun x_1 => ((x_1.2 - x_1.1) : Int))).bind fun v => (atI ((l.filter fun x_2 => (decide ((x_2.2 - x_2.1) = v))).map fun x_2 => ((x_2.1, x_2.2) : (Int × Int))) 0).bind fun v_1 => some v_1
theorem f_law_longest {k : Nat} (hk : 1 + 1 ≤ k) {numbers : (List Int)} {limit : Int} {zr_ : (Int × Int)} (h : F_law_longest numbers limit = some zr_) : callD defs k 11 [(eU eI) numbers, eI limit] = some ((eT2 eI eI) zr_) := by
  refine call_run (i := d11) (K := 1) rfl rfl rfl hk fun m hm => ?_
  change Run (callD defs m) [] [some ((eU eI) numbers), some (eI limit), none, none, none, none] body11 (.rt ((eT2 eI eI) zr_))
  unfold F_law_longest at h
  obtain ⟨window, hwindow, h⟩ := bind_some h
  obtain ⟨l, hl, h⟩ := bind_some h
  refine r_asg (i := 2) (v_compCP (e' := (eT2 eI eI)) (i_seqL (v_call (x_cons (v_bf1 (v_var (d := (eU eI) numbers)) f_lenU) x_nil) (f_law_windows (Nat.le_trans (by decide) hm) hwindow))) (fun _ => rfl) hl ?_ ?_) (b_clean (by rfl) (by rfl)) ?_
  · intro x k q
    obtain ⟨sum, hsum, q⟩ := bind_some q
    obtain rfl := Option.some.inj q
    refine (te_v (v_cmp (v_call (x_cons (v_var (d := (eU eI) numbers)) (x_cons (v_var (d := eI x.1)) (x_cons (v_var (d := eI x.2)) x_nil))) (f_law_sum (Nat.le_trans (by decide) hm) hsum)) (v_var (d := eI limit)) (c_le (x := sum) (y := limit))) t_b)
  · intro x y _ q
    obtain rfl := Option.some.inj q
    refine (vt ((eT2 eI eI) (x.1, x.2)) (v_tup (x_cons (v_var (d := eI x.1)) (x_cons (v_var (d := eI x.2)) x_nil))) rfl)
  obtain ⟨v, hv, h⟩ := bind_some h
  refine r_asg (i := 3) (v_bf1 (v_comp (e' := eI) (g := fun (x_1 : (Int × Int)) => ((x_1.2 - x_1.1) : Int)) (i_seqL (v_var (d := (eL (eT2 eI eI)) l))) (fun _ => rfl) (fun x_1 => (v_bin (v_var (d := eI x_1.2)) (v_var (d := eI x_1.1)) o_sub))) (f_maxL (e := eI) hv)) (b_imm (Im.im (e := eI) _)) ?_
  obtain ⟨v_1, hv_1, h⟩ := bind_some h
  obtain rfl := Option.some.inj h
  refine r_ret (v_ixL (v_compC (e' := (eT2 eI eI)) (p := fun (x_2 : (Int × Int)) => (decide ((x_2.2 - x_2.1) = v))) (g := fun (x_2 : (Int × Int)) => ((x_2.1, x_2.2) : (Int × Int))) (i_seqL (v_var (d := (eL (eT2 eI eI)) l))) (fun _ => rfl) (fun x_2 => (te_v (v_cmp (v_bin (v_var (d := eI x_2.2)) (v_var (d := eI x_2.1)) o_sub) (v_var (d := eI v)) (c_eq (e := eI) (x := (x_2.2 - x_2.1)) (y := v))) t_b)) (fun x_2 _ => (vt ((eT2 eI eI) (x_2.1, x_2.2)) (v_tup (x_cons (v_var (d := eI x_2.1)) (x_cons (v_var (d := eI x_2.2)) x_nil))) rfl))) (v_cst (d := eI 0)) hv_1) (k_imm (Im.im (e := (eT2 eI eI)) _))
def F_law_rich (numbers : (List Int)) (w : Int) (a : Int) (b : Int) (i : Int) (j : Int) : Option Bool :=
  if ((decide (i < 0)) || ((decide ((numbers.length : Int) < j)) || (decide ((j - i) < w)))) = true then (some false) else (F_law_sum numbers i j).bind fun sum => (mulO b sum).bind fun p => (mulO a (j - i)).bind fun p_1 => some (decide (p_1 < p))
theorem f_law_rich {k : Nat} (hk : 1 + 1 ≤ k) {numbers : (List Int)} {w : Int} {a : Int} {b : Int} {i : Int} {j : Int} {zr_ : Bool} (h : F_law_rich numbers w a b i j = some zr_) : callD defs k 12 [(eU eI) numbers, eI w, eI a, eI b, eI i, eI j] = some (eB zr_) := by
  refine call_run (i := d12) (K := 1) rfl rfl rfl hk fun m hm => ?_
  change Run (callD defs m) [] [some ((eU eI) numbers), some (eI w), some (eI a), some (eI b), some (eI i), some (eI j)] body12 (.rt (eB zr_))
  unfold F_law_rich at h
  by_cases hc : ((decide (i < 0)) || ((decide ((numbers.length : Int) < j)) || (decide ((j - i) < w)))) = true
  · rw [if_pos hc] at h
    refine r_ift (te_t (te_or (te_v (v_cmp (v_var (d := eI i)) (v_cst (d := eI 0)) (c_lt (x := i) (y := 0))) t_b) (te_or (te_v (v_cmp (v_var (d := eI j)) (v_bf1 (v_var (d := (eU eI) numbers)) f_lenU) (c_gt (x := j) (y := (numbers.length : Int)))) t_b) (te_v (v_cmp (v_bin (v_var (d := eI j)) (v_var (d := eI i)) o_sub) (v_var (d := eI w)) (c_lt (x := (j - i)) (y := w))) t_b))) hc) ?_
    obtain rfl := Option.some.inj h
    refine r_ret (v_cst (d := eB false)) (k_imm (Im.im (e := eB) _))
  · rw [if_neg hc] at h
    refine r_iff (te_f (te_or (te_v (v_cmp (v_var (d := eI i)) (v_cst (d := eI 0)) (c_lt (x := i) (y := 0))) t_b) (te_or (te_v (v_cmp (v_var (d := eI j)) (v_bf1 (v_var (d := (eU eI) numbers)) f_lenU) (c_gt (x := j) (y := (numbers.length : Int)))) t_b) (te_v (v_cmp (v_bin (v_var (d := eI j)) (v_var (d := eI i)) o_sub) (v_var (d := eI w)) (c_lt (x := (j - i)) (y := w))) t_b))) hc) ?_
    obtain ⟨sum, hsum, h⟩ := bind_some h
    obtain ⟨p, hp, h⟩ := bind_some h
    obtain ⟨p_1, hp_1, h⟩ := bind_some h
    obtain rfl := Option.some.inj h
    refine r_ret (v_cmp (v_bin (v_var (d := eI b)) (v_call (x_cons (v_var (d := (eU eI) numbers)) (x_cons (v_var (d := eI i)) (x_cons (v_var (d := eI j)) x_nil))) (f_law_sum (Nat.le_trans (by decide) hm) hsum)) (o_mul hp)) (v_bin (v_var (d := eI a)) (v_bin (v_var (d := eI j)) (v_var (d := eI i)) o_sub) (o_mul hp_1)) (c_gt (x := p) (y := p_1))) (k_imm (Im.im (e := eB) _))
def F_is_rich (numbers : (List Int)) (w : Int) (a : Int) (b : Int) (i : Int) (j : Int) : Option Bool :=
  if ((!(decide (0 ≤ i) && (decide (i ≤ j) && decide (j ≤ (numbers.length : Int))))) || (decide ((j - i) < w))) = true then (some false) else (mulO b ((cutG numbers (some i) (some j)).sum)).bind fun p => (mulO a (j - i)).bind fun p_1 => some (decide (p_1 < p))
theorem f_is_rich {k : Nat} (hk : 0 + 1 ≤ k) {numbers : (List Int)} {w : Int} {a : Int} {b : Int} {i : Int} {j : Int} {zr_ : Bool} (h : F_is_rich numbers w a b i j = some zr_) : callD defs k 3 [(eU eI) numbers, eI w, eI a, eI b, eI i, eI j] = some (eB zr_) := by
  refine call_run (i := d3) (K := 0) rfl rfl rfl hk fun m hm => ?_
  change Run (callD defs m) [] [some ((eU eI) numbers), some (eI w), some (eI a), some (eI b), some (eI i), some (eI j)] body3 (.rt (eB zr_))
  unfold F_is_rich at h
  by_cases hc : ((!(decide (0 ≤ i) && (decide (i ≤ j) && decide (j ≤ (numbers.length : Int))))) || (decide ((j - i) < w))) = true
  · rw [if_pos hc] at h
    refine r_ift (te_t (te_or (te_not (te_v (v_chain3 (v_cst (d := eI 0)) (v_var (d := eI i)) (v_var (d := eI j)) (v_bf1 (v_var (d := (eU eI) numbers)) f_lenU) (c_le (x := 0) (y := i)) (c_le (x := i) (y := j)) (c_le (x := j) (y := (numbers.length : Int)))) t_b)) (te_v (v_cmp (v_bin (v_var (d := eI j)) (v_var (d := eI i)) o_sub) (v_var (d := eI w)) (c_lt (x := (j - i)) (y := w))) t_b)) hc) ?_
    obtain rfl := Option.some.inj h
    refine r_ret (v_cst (d := eB false)) (k_imm (Im.im (e := eB) _))
  · rw [if_neg hc] at h
    refine r_iff (te_f (te_or (te_not (te_v (v_chain3 (v_cst (d := eI 0)) (v_var (d := eI i)) (v_var (d := eI j)) (v_bf1 (v_var (d := (eU eI) numbers)) f_lenU) (c_le (x := 0) (y := i)) (c_le (x := i) (y := j)) (c_le (x := j) (y := (numbers.length : Int)))) t_b)) (te_v (v_cmp (v_bin (v_var (d := eI j)) (v_var (d := eI i)) o_sub) (v_var (d := eI w)) (c_lt (x := (j - i)) (y := w))) t_b)) hc) ?_
    obtain ⟨p, hp, h⟩ := bind_some h
    obtain ⟨p_1, hp_1, h⟩ := bind_some h
    obtain rfl := Option.some.inj h
    refine r_ret (v_cmp (v_bin (v_var (d := eI b)) (v_bf1 (v_slU (v_var (d := (eU eI) numbers)) (x_o1 (v_var (d := eI i))) (x_o1 (v_var (d := eI j)))) f_sumU) (o_mul hp)) (v_bin (v_var (d := eI a)) (v_bin (v_var (d := eI j)) (v_var (d := eI i)) o_sub) (o_mul hp_1)) (c_gt (x := p) (y := p_1))) (k_imm (Im.im (e := eB) _))
def F_told_rich_L2 (numbers : (List Int)) (w : Int) (a : Int) (b : Int) (i : Int)  (j : Int) : Option (Option (Option (Int × Int))) :=
  (F_is_rich numbers w a b i j).bind fun is_ric => if is_ric = true then (some (some (some ((i, j))))) else some none
theorem f_told_rich_b2 {m : Nat} (hm : 1 ≤ m) (numbers : (List Int)) (w : Int) (a : Int) (b : Int) (i : Int)   (j : Int) {g : Option (Option (Int × Int))} (h : F_told_rich_L2 numbers w a b i  j = some g) : FndRun (callD defs m) [] [some ((eU eI) numbers), some (eI w), some (eI a), some (eI b), some (eI i), some (eI j)] b4_1 [some ((eU eI) numbers), some (eI w), some (eI a), some (eI b), some (eI i), none] (eO (eT2 eI eI)) g := by
  unfold F_told_rich_L2 at h
  obtain ⟨is_ric, his_ric, h⟩ := bind_some h
  by_cases hc : is_ric = true
  · rw [if_pos hc] at h
    refine r_ift (te_t (te_v (v_call (x_cons (v_var (d := (eU eI) numbers)) (x_cons (v_var (d := eI w)) (x_cons (v_var (d := eI a)) (x_cons (v_var (d := eI b)) (x_cons (v_var (d := eI i)) (x_cons (v_var (d := eI j)) x_nil)))))) (f_is_rich (Nat.le_trans (by decide) hm) his_ric)) t_b) hc) ?_
    obtain rfl := Option.some.inj h
    refine r_ret (vt ((eO (eT2 eI eI)) (some ((i, j)))) (vt ((eT2 eI eI) (i, j)) (v_tup (x_cons (v_var (d := eI i)) (x_cons (v_var (d := eI j)) x_nil))) rfl) rfl) (k_imm (Im.im (e := (eO (eT2 eI eI))) _))
  · rw [if_neg hc] at h
    refine r_iff (te_f (te_v (v_call (x_cons (v_var (d := (eU eI) numbers)) (x_cons (v_var (d := eI w)) (x_cons (v_var (d := eI a)) (x_cons (v_var (d := eI b)) (x_cons (v_var (d := eI i)) (x_cons (v_var (d := eI j)) x_nil)))))) (f_is_rich (Nat.le_trans (by decide) hm) his_ric)) t_b) hc) ?_
    obtain rfl := Option.some.inj h
    exact r_nilg (.so (.so (.so (.so (.so (.no .nil))))))
def F_told_rich_L1 (numbers : (List Int)) (w : Int) (a : Int) (b : Int)  (i : Int) : Option (Option (Option (Int × Int))) :=
  (rng2 (i + w) ((numbers.length : Int) + 1)).bind fun r => (findO (fun zx_ => F_told_rich_L2 numbers w a b i  zx_) r).bind fun g_ => (match g_ with | some r_ => some (some r_) | none => some none)
theorem f_told_rich_b1 {m : Nat} (hm : 1 ≤ m) (numbers : (List Int)) (w : Int) (a : Int) (b : Int)   (i : Int) {g : Option (Option (Int × Int))} (h : F_told_rich_L1 numbers w a b  i = some g) : FndRun (callD defs m) [] [some ((eU eI) numbers), some (eI w), some (eI a), some (eI b), some (eI i), none] b4_2 [some ((eU eI) numbers), some (eI w), some (eI a), some (eI b), none, none] (eO (eT2 eI eI)) g := by
  unfold F_told_rich_L1 at h
  obtain ⟨r, hr, h⟩ := bind_some h
  obtain ⟨g_, hg_, h⟩ := bind_some h
  refine r_find (e := eI) (e' := (eO (eT2 eI eI))) (p := [some ((eU eI) numbers), some (eI w), some (eI a), some (eI b), some (eI i), none]) (i_rng2 (v_bin (v_var (d := eI i)) (v_var (d := eI w)) o_add) (v_bin (v_bf1 (v_var (d := (eU eI) numbers)) f_lenU) (v_cst (d := eI 1)) o_add) hr) (w_rng) (.so (.so (.so (.so (.so (.no .nil)))))) hg_ (fun zx_ _ zq_ => ⟨_, rfl, f_told_rich_b2 (Nat.le_trans (by decide) hm) numbers w a b i  zx_ zq_⟩) (fun q_ => ?_) (fun r_ q_ => ?_)
  · subst q_
    dsimp only at h
    obtain rfl := Option.some.inj h
    exact r_nilg (.so (.so (.so (.so (.no (.no .nil))))))
  · subst q_
    dsimp only at h
    obtain rfl := Option.some.inj h
    rfl
def F_told_rich (numbers : (List Int)) (w : Int) (a : Int) (b : Int) : Option (Option (Int × Int)) :=
  (rng1 (numbers.length : Int)).bind fun r => (findO (fun zx_ => F_told_rich_L1 numbers w a b  zx_) r).bind fun g_ => (match g_ with | some r_ => some r_ | none => some (none : (Option (Int × Int))))
theorem f_told_rich {k : Nat} (hk : 1 + 1 ≤ k) {numbers : (List Int)} {w : Int} {a : Int} {b : Int} {zr_ : (Option (Int × Int))} (h : F_told_rich numbers w a b = some zr_) : callD defs k 4 [(eU eI) numbers, eI w, eI a, eI b] = some ((eO (eT2 eI eI)) zr_) := by
  refine call_run (i := d4) (K := 1) rfl rfl rfl hk fun m hm => ?_
  change Run (callD defs m) [] [some ((eU eI) numbers), some (eI w), some (eI a), some (eI b), none, none] body4 (.rt ((eO (eT2 eI eI)) zr_))
  unfold F_told_rich at h
  obtain ⟨r, hr, h⟩ := bind_some h
  obtain ⟨g_, hg_, h⟩ := bind_some h
  refine r_find (e := eI) (e' := (eO (eT2 eI eI))) (p := [some ((eU eI) numbers), some (eI w), some (eI a), some (eI b), none, none]) (i_rng1 (v_bf1 (v_var (d := (eU eI) numbers)) f_lenU) hr) (w_rng) (.so (.so (.so (.so (.no (.no .nil)))))) hg_ (fun zx_ _ zq_ => ⟨_, rfl, f_told_rich_b1 (Nat.le_trans (by decide) hm) numbers w a b  zx_ zq_⟩) (fun q_ => ?_) (fun r_ q_ => ?_)
  · subst q_
    dsimp only at h
    obtain rfl := Option.some.inj h
    refine r_ret (vt ((eO (eT2 eI eI)) none) (v_cst (d := eN ())) rfl) (k_imm (Im.im (e := (eO (eT2 eI eI))) _))
  · subst q_
    dsimp only at h
    obtain rfl := Option.some.inj h
    rfl
def F_law_L4 (script : (List Int)) (draws : (List Int)) (k : Int) (size : Int) (wide : Int) (numbers : (List Int)) (over : (List Int)) (every : (List (Int × Int))) (w : Int) (turn : Int) (b : Int) (a : Int)  (x : (Int × Int)) : Option (Option Bool) :=
  (F_is_rich numbers w a b x.1 x.2).bind fun is_ric => (F_law_rich numbers w a b x.1 x.2).bind fun rich => if (!(decide (is_ric = rich))) = true then (some (some false)) else some none
theorem f_law_b4 {m : Nat} (hm : 10 ≤ m) {sc : D} (script : (List Int)) (draws : (List Int)) (k : Int) (size : Int) (wide : Int) (numbers : (List Int)) (over : (List Int)) (every : (List (Int × Int))) (w : Int) (turn : Int) (b : Int) (a : Int) (hsc : IsScr sc script)   (x : (Int × Int)) {g : Option Bool} (h : F_law_L4 script draws k size wide numbers over every w turn b a  x = some g) : FndRun (callD defs m) [] [some ((eX sc) script), some ((eL eI) draws), some (eI k), none, some (eI size), some (eI wide), some ((eU eI) numbers), some ((eU eI) over), some ((eL (eT2 eI eI)) every), some (eI w), some (eI turn), none, none, none, some (eI b), some (eI a), none, none, some (eI x.1), some (eI x.2), none, none] b13_1 [some ((eX sc) script), some ((eL eI) draws), some (eI k), none, some (eI size), some (eI wide), some ((eU eI) numbers), some ((eU eI) over), some ((eL (eT2 eI eI)) every), some (eI w), some (eI turn), none, none, none, some (eI b), some (eI a), none, none, none, none, none, none] eB g := by
  unfold F_law_L4 at h
  obtain ⟨is_ric, his_ric, h⟩ := bind_some h
  obtain ⟨rich, hrich, h⟩ := bind_some h
  by_cases hc : (!(decide (is_ric = rich))) = true
  · rw [if_pos hc] at h
    refine r_ift (te_t (te_not (te_v (v_call (x_cons (v_call (x_cons (v_var (d := (eU eI) numbers)) (x_cons (v_var (d := eI w)) (x_cons (v_var (d := eI a)) (x_cons (v_var (d := eI b)) (x_cons (v_var (d := eI x.1)) (x_cons (v_var (d := eI x.2)) x_nil)))))) (f_is_rich (Nat.le_trans (by decide) hm) his_ric)) (x_cons (v_call (x_cons (v_var (d := (eU eI) numbers)) (x_cons (v_var (d := eI w)) (x_cons (v_var (d := eI a)) (x_cons (v_var (d := eI b)) (x_cons (v_var (d := eI x.1)) (x_cons (v_var (d := eI x.2)) x_nil)))))) (f_law_rich (Nat.le_trans (by decide) hm) hrich)) x_nil)) (is_runT (e := eB) (f := 8) (g := 7) is_ric rich rfl rfl (Nat.le_trans (by decide) hm))) t_b)) hc) ?_
    obtain rfl := Option.some.inj h
    refine r_ret (v_cst (d := eB false)) (k_imm (Im.im (e := eB) _))
  · rw [if_neg hc] at h
    refine r_iff (te_f (te_not (te_v (v_call (x_cons (v_call (x_cons (v_var (d := (eU eI) numbers)) (x_cons (v_var (d := eI w)) (x_cons (v_var (d := eI a)) (x_cons (v_var (d := eI b)) (x_cons (v_var (d := eI x.1)) (x_cons (v_var (d := eI x.2)) x_nil)))))) (f_is_rich (Nat.le_trans (by decide) hm) his_ric)) (x_cons (v_call (x_cons (v_var (d := (eU eI) numbers)) (x_cons (v_var (d := eI w)) (x_cons (v_var (d := eI a)) (x_cons (v_var (d := eI b)) (x_cons (v_var (d := eI x.1)) (x_cons (v_var (d := eI x.2)) x_nil)))))) (f_law_rich (Nat.le_trans (by decide) hm) hrich)) x_nil)) (is_runT (e := eB) (f := 8) (g := 7) is_ric rich rfl rfl (Nat.le_trans (by decide) hm))) t_b)) hc) ?_
    obtain rfl := Option.some.inj h
    exact r_nilg (.so (.so (.so (.no (.so (.so (.so (.so (.so (.so (.so (.no (.no (.no (.so (.so (.no (.no (.no (.no (.no (.no .nil))))))))))))))))))))))
def F_law_L3 (script : (List Int)) (draws : (List Int)) (k : Int) (size : Int) (wide : Int) (numbers : (List Int)) (over : (List Int)) (every : (List (Int × Int)))  (turn : Int) : Option (Option Bool) :=
  (mulO 3 k).bind fun p => (atI draws ((4 + turn) + p)).bind fun v => (mulO 3 wide).bind fun p_1 => (atI ([2, wide, p_1]) turn).bind fun v_1 => (modO v v_1).bind fun r => (F_longest_within over r).bind fun longes => (F_law_longest over r).bind fun longes_1 => if (!(decide (longes = longes_1))) = true then (some (some false)) else (mulO 3 k).bind fun p_2 => (atI draws ((10 + turn) + p_2)).bind fun v_2 => (atI ([3, 2, 20]) turn).bind fun v_3 => (modO v_2 v_3).bind fun r_1 => letO ((1 + r_1) : Int) fun w => (mulO 3 k).bind fun p_3 => (atI draws ((16 + turn) + p_3)).bind fun v_4 => (atI ([4, 20, 1]) turn).bind fun v_5 => (modO v_4 v_5).bind fun r_2 => letO ((1 + r_2) : Int) fun b => (mulO b numbers.sum).bind fun p_4 => (fdivO p_4 (max 1 size)).bind fun q => (mulO 3 k).bind fun p_5 => (atI draws ((22 + turn) + p_5)).bind fun v_6 => (mulO 2 b).bind fun p_6 => (modO v_6 (p_6 + 1)).bind fun r_3 => letO (((q + r_3) - b) : Int) fun a => letO ((max (0 - 1000) (min 1000 a)) : Int) fun a_1 => (fmO (fun x => (F_law_rich numbers w a_1 b x.1 x.2).bind fun rich => some rich) (fun x => some ((x.1, x.2) : (Int × Int))) every).bind fun l => (fmO (fun x_1 => (mulO 2 w).bind fun p_7 => some (decide ((x_1.2 - x_1.1) < p_7))) (fun x_1 => some ((x_1.1, x_1.2) : (Int × Int))) l).bind fun l_1 => if (decide ((decide (0 < (l.length : Int))) ≠ (decide (0 < (l_1.length : Int))))) = true then (some (some false)) else (F_told_rich numbers w a_1 b).bind fun told_r => ((if (decide (0 < (l.length : Int))) = true then ((atI l 0).bind fun v_7 => some (some v_7)) else (some (none : (Option (Int × Int)))))).bind fun v_8 => (isO (okO (okP2 okT okT)) told_r v_8).bind fun k_1 => if (!k_1) = true then (some (some false)) else (powO 10 20).bind fun w_1 => (powO 10 20).bind fun w_2 => (catO (everyG 2 every) [((0 - 1), size), (0, (size + 1)), (size, 0), ((0 - w_1), w_2), (2, 1)]).bind fun ct => (findO (fun zx_ => F_law_L4 script draws k size wide numbers over every w turn b a_1  zx_) ct).bind fun g_ => (match g_ with | some r_ => some (some r_) | none => (mulO 3 k).bind fun p_8 => (atI draws ((28 + turn) + p_8)).bind fun v_9 => (modO v_9 (size + 3)).bind fun r_4 => letO ((r_4 - 1) : Int) fun i => (mulO 3 k).bind fun p_9 => (atI draws ((34 + turn) + p_9)).bind fun v_10 => (modO v_10 (size + 3)).bind fun r_5 => letO ((r_5 - 1) : Int) fun j => (F_is_rich numbers w a_1 b i j).bind fun is_ric => (F_law_rich numbers w a_1 b i j).bind fun rich_1 => if (!(decide (is_ric = rich_1))) = true then (some (some false)) else some none)
theorem f_law_b3 {m : Nat} (hm : 10 ≤ m) {sc : D} (script : (List Int)) (draws : (List Int)) (k : Int) (size : Int) (wide : Int) (numbers : (List Int)) (over : (List Int)) (every : (List (Int × Int))) (hsc : IsScr sc script)   (turn : Int) {g : Option Bool} (h : F_law_L3 script draws k size wide numbers over every  turn = some g) : FndRun (callD defs m) [] [some ((eX sc) script), some ((eL eI) draws), some (eI k), none, some (eI size), some (eI wide), some ((eU eI) numbers), some ((eU eI) over), some ((eL (eT2 eI eI)) every), none, some (eI turn), none, none, none, none, none, none, none, none, none, none, none] b13_2 [some ((eX sc) script), some ((eL eI) draws), some (eI k), none, some (eI size), some (eI wide), some ((eU eI) numbers), some ((eU eI) over), some ((eL (eT2 eI eI)) every), none, none, none, none, none, none, none, none, none, none, none, none, none] eB g := by
  unfold F_law_L3 at h
  obtain ⟨p, hp, h⟩ := bind_some h
  obtain ⟨v, hv, h⟩ := bind_some h
  obtain ⟨p_1, hp_1, h⟩ := bind_some h
  obtain ⟨v_1, hv_1, h⟩ := bind_some h
  obtain ⟨r, hr, h⟩ := bind_some h
  refine r_asg (i := 13) (v_bin (v_bf1 (v_ixL (v_var (d := (eL eI) draws)) (v_bin (v_bin (v_cst (d := eI 4)) (v_var (d := eI turn)) o_add) (v_bin (v_cst (d := eI 3)) (v_var (d := eI k)) (o_mul hp)) o_add) hv) f_int) (v_ixU (vt ((eU eI) [2, wide, p_1]) (v_tup (x_cons (v_cst (d := eI 2)) (x_cons (v_var (d := eI wide)) (x_cons (v_bin (v_cst (d := eI 3)) (v_var (d := eI wide)) (o_mul hp_1)) x_nil)))) rfl) (v_var (d := eI turn)) hv_1) (o_mod hr)) (b_imm (Im.im (e := eI) _)) ?_
  obtain ⟨longes, hlonges, h⟩ := bind_some h
  obtain ⟨longes_1, hlonges_1, h⟩ := bind_some h
  by_cases hc : (!(decide (longes = longes_1))) = true
  · rw [if_pos hc] at h
    refine r_ift (te_t (te_not (te_v (v_call (x_cons (v_call (x_cons (v_var (d := (eU eI) over)) (x_cons (v_var (d := eI r)) x_nil)) (f_longest_within (Nat.le_trans (by decide) hm) hlonges)) (x_cons (v_call (x_cons (v_var (d := (eU eI) over)) (x_cons (v_var (d := eI r)) x_nil)) (f_law_longest (Nat.le_trans (by decide) hm) hlonges_1)) x_nil)) (is_runT (e := (eT2 eI eI)) (f := 8) (g := 7) longes longes_1 rfl rfl (Nat.le_trans (by decide) hm))) t_b)) hc) ?_
    obtain rfl := Option.some.inj h
    refine r_ret (v_cst (d := eB false)) (k_imm (Im.im (e := eB) _))
  · rw [if_neg hc] at h
    refine r_iff (te_f (te_not (te_v (v_call (x_cons (v_call (x_cons (v_var (d := (eU eI) over)) (x_cons (v_var (d := eI r)) x_nil)) (f_longest_within (Nat.le_trans (by decide) hm) hlonges)) (x_cons (v_call (x_cons (v_var (d := (eU eI) over)) (x_cons (v_var (d := eI r)) x_nil)) (f_law_longest (Nat.le_trans (by decide) hm) hlonges_1)) x_nil)) (is_runT (e := (eT2 eI eI)) (f := 8) (g := 7) longes longes_1 rfl rfl (Nat.le_trans (by decide) hm))) t_b)) hc) ?_
    obtain ⟨p_2, hp_2, h⟩ := bind_some h
    obtain ⟨v_2, hv_2, h⟩ := bind_some h
    obtain ⟨v_3, hv_3, h⟩ := bind_some h
    obtain ⟨r_1, hr_1, h⟩ := bind_some h
    obtain ⟨w, hw, h⟩ := letO_some h
    refine r_asg (i := 9) (v_asE (e := eI) hw (v_bin (v_cst (d := eI 1)) (v_bin (v_bf1 (v_ixL (v_var (d := (eL eI) draws)) (v_bin (v_bin (v_cst (d := eI 10)) (v_var (d := eI turn)) o_add) (v_bin (v_cst (d := eI 3)) (v_var (d := eI k)) (o_mul hp_2)) o_add) hv_2) f_int) (v_ixU (vt ((eU eI) [3, 2, 20]) (v_tup (x_cons (v_cst (d := eI 3)) (x_cons (v_cst (d := eI 2)) (x_cons (v_cst (d := eI 20)) x_nil)))) rfl) (v_var (d := eI turn)) hv_3) (o_mod hr_1)) o_add)) (b_imm (Im.im (e := eI) _)) ?_
    obtain ⟨p_3, hp_3, h⟩ := bind_some h
    obtain ⟨v_4, hv_4, h⟩ := bind_some h
    obtain ⟨v_5, hv_5, h⟩ := bind_some h
    obtain ⟨r_2, hr_2, h⟩ := bind_some h
    obtain ⟨b, hb, h⟩ := letO_some h
    refine r_asg (i := 14) (v_asE (e := eI) hb (v_bin (v_cst (d := eI 1)) (v_bin (v_bf1 (v_ixL (v_var (d := (eL eI) draws)) (v_bin (v_bin (v_cst (d := eI 16)) (v_var (d := eI turn)) o_add) (v_bin (v_cst (d := eI 3)) (v_var (d := eI k)) (o_mul hp_3)) o_add) hv_4) f_int) (v_ixU (vt ((eU eI) [4, 20, 1]) (v_tup (x_cons (v_cst (d := eI 4)) (x_cons (v_cst (d := eI 20)) (x_cons (v_cst (d := eI 1)) x_nil)))) rfl) (v_var (d := eI turn)) hv_5) (o_mod hr_2)) o_add)) (b_imm (Im.im (e := eI) _)) ?_
    obtain ⟨p_4, hp_4, h⟩ := bind_some h
    obtain ⟨q, hq, h⟩ := bind_some h
    obtain ⟨p_5, hp_5, h⟩ := bind_some h
    obtain ⟨v_6, hv_6, h⟩ := bind_some h
    obtain ⟨p_6, hp_6, h⟩ := bind_some h
    obtain ⟨r_3, hr_3, h⟩ := bind_some h
    obtain ⟨a, ha, h⟩ := letO_some h
    refine r_asg (i := 15) (v_asE (e := eI) ha (v_bin (v_bin (v_bin (v_bin (v_var (d := eI b)) (v_bf1 (v_var (d := (eU eI) numbers)) f_sumU) (o_mul hp_4)) (v_bf2 (v_cst (d := eI 1)) (v_var (d := eI size)) f_max2) (o_fdiv hq)) (v_bin (v_bf1 (v_ixL (v_var (d := (eL eI) draws)) (v_bin (v_bin (v_cst (d := eI 22)) (v_var (d := eI turn)) o_add) (v_bin (v_cst (d := eI 3)) (v_var (d := eI k)) (o_mul hp_5)) o_add) hv_6) f_int) (v_bin (v_bin (v_cst (d := eI 2)) (v_var (d := eI b)) (o_mul hp_6)) (v_cst (d := eI 1)) o_add) (o_mod hr_3)) o_add) (v_var (d := eI b)) o_sub)) (b_imm (Im.im (e := eI) _)) ?_
    obtain ⟨a_1, ha_1, h⟩ := letO_some h
    refine r_asg (i := 15) (v_asE (e := eI) ha_1 (v_bf2 (v_bin (v_cst (d := eI 0)) (v_cst (d := eI 1000)) o_sub) (v_bf2 (v_cst (d := eI 1000)) (v_var (d := eI a)) f_min2) f_max2)) (b_imm (Im.im (e := eI) _)) ?_
    obtain ⟨l, hl, h⟩ := bind_some h
    refine r_asg (i := 16) (v_compCP (e' := (eT2 eI eI)) (i_seqL (v_var (d := (eL (eT2 eI eI)) every))) (fun _ => rfl) hl ?_ ?_) (b_clean (by rfl) (by rfl)) ?_
    · intro x k q
      obtain ⟨rich, hrich, q⟩ := bind_some q
      obtain rfl := Option.some.inj q
      refine (te_v (v_call (x_cons (v_var (d := (eU eI) numbers)) (x_cons (v_var (d := eI w)) (x_cons (v_var (d := eI a_1)) (x_cons (v_var (d := eI b)) (x_cons (v_var (d := eI x.1)) (x_cons (v_var (d := eI x.2)) x_nil)))))) (f_law_rich (Nat.le_trans (by decide) hm) hrich)) t_b)
    · intro x y _ q
      obtain rfl := Option.some.inj q
      refine (vt ((eT2 eI eI) (x.1, x.2)) (v_tup (x_cons (v_var (d := eI x.1)) (x_cons (v_var (d := eI x.2)) x_nil))) rfl)
    obtain ⟨l_1, hl_1, h⟩ := bind_some h
    refine r_asg (i := 17) (v_compCP (e' := (eT2 eI eI)) (i_seqL (v_var (d := (eL (eT2 eI eI)) l))) (fun _ => rfl) hl_1 ?_ ?_) (b_clean (by rfl) (by rfl)) ?_
    · intro x_1 k q
      obtain ⟨p_7, hp_7, q⟩ := bind_some q
      obtain rfl := Option.some.inj q
      refine (te_v (v_cmp (v_bin (v_var (d := eI x_1.2)) (v_var (d := eI x_1.1)) o_sub) (v_bin (v_cst (d := eI 2)) (v_var (d := eI w)) (o_mul hp_7)) (c_lt (x := (x_1.2 - x_1.1)) (y := p_7))) t_b)
    · intro x_1 y _ q
      obtain rfl := Option.some.inj q
      refine (vt ((eT2 eI eI) (x_1.1, x_1.2)) (v_tup (x_cons (v_var (d := eI x_1.1)) (x_cons (v_var (d := eI x_1.2)) x_nil))) rfl)
    by_cases hc : (decide ((decide (0 < (l.length : Int))) ≠ (decide (0 < (l_1.length : Int))))) = true
    · rw [if_pos hc] at h
      refine r_ift (te_t (te_v (v_cmp (v_cmp (v_bf1 (v_var (d := (eL (eT2 eI eI)) l)) f_lenL) (v_cst (d := eI 0)) (c_gt (x := (l.length : Int)) (y := 0))) (v_cmp (v_bf1 (v_var (d := (eL (eT2 eI eI)) l_1)) f_lenL) (v_cst (d := eI 0)) (c_gt (x := (l_1.length : Int)) (y := 0))) (c_ne (e := eB) (x := (decide (0 < (l.length : Int)))) (y := (decide (0 < (l_1.length : Int)))))) t_b) hc) ?_
      obtain rfl := Option.some.inj h
      refine r_ret (v_cst (d := eB false)) (k_imm (Im.im (e := eB) _))
    · rw [if_neg hc] at h
      refine r_iff (te_f (te_v (v_cmp (v_cmp (v_bf1 (v_var (d := (eL (eT2 eI eI)) l)) f_lenL) (v_cst (d := eI 0)) (c_gt (x := (l.length : Int)) (y := 0))) (v_cmp (v_bf1 (v_var (d := (eL (eT2 eI eI)) l_1)) f_lenL) (v_cst (d := eI 0)) (c_gt (x := (l_1.length : Int)) (y := 0))) (c_ne (e := eB) (x := (decide (0 < (l.length : Int)))) (y := (decide (0 < (l_1.length : Int)))))) t_b) hc) ?_
      obtain ⟨told_r, htold_r, h⟩ := bind_some h
      obtain ⟨v_8, hv_8, h⟩ := bind_some h
      obtain ⟨k_1, hk_1, h⟩ := bind_some h
      by_cases hc : (!k_1) = true
      · rw [if_pos hc] at h
        refine r_ift (te_t (te_not (te_v (v_call (x_cons (v_call (x_cons (v_var (d := (eU eI) numbers)) (x_cons (v_var (d := eI w)) (x_cons (v_var (d := eI a_1)) (x_cons (v_var (d := eI b)) x_nil)))) (f_told_rich (Nat.le_trans (by decide) hm) htold_r)) (x_cons (v_iteP (e := (eO (eT2 eI eI))) (te_v (v_cmp (v_bf1 (v_var (d := (eL (eT2 eI eI)) l)) f_lenL) (v_cst (d := eI 0)) (c_gt (x := (l.length : Int)) (y := 0))) t_b) hv_8 ?_ ?_) x_nil)) (is_run (e := (eO (eT2 eI eI))) (f := 8) (g := 7) rfl rfl (Nat.le_trans (by decide) hm) hk_1)) t_b)) hc) ?_
        · intro _ q
          obtain ⟨v_7, hv_7, q⟩ := bind_some q
          obtain rfl := Option.some.inj q
          refine (vt ((eO (eT2 eI eI)) (some v_7)) (v_ixL (v_var (d := (eL (eT2 eI eI)) l)) (v_cst (d := eI 0)) hv_7) rfl)
        · intro _ q
          obtain rfl := Option.some.inj q
          refine (vt ((eO (eT2 eI eI)) none) (v_cst (d := eN ())) rfl)
        obtain rfl := Option.some.inj h
        refine r_ret (v_cst (d := eB false)) (k_imm (Im.im (e := eB) _))
      · rw [if_neg hc] at h
        refine r_iff (te_f (te_not (te_v (v_call (x_cons (v_call (x_cons (v_var (d := (eU eI) numbers)) (x_cons (v_var (d := eI w)) (x_cons (v_var (d := eI a_1)) (x_cons (v_var (d := eI b)) x_nil)))) (f_told_rich (Nat.le_trans (by decide) hm) htold_r)) (x_cons (v_iteP (e := (eO (eT2 eI eI))) (te_v (v_cmp (v_bf1 (v_var (d := (eL (eT2 eI eI)) l)) f_lenL) (v_cst (d := eI 0)) (c_gt (x := (l.length : Int)) (y := 0))) t_b) hv_8 ?_ ?_) x_nil)) (is_run (e := (eO (eT2 eI eI))) (f := 8) (g := 7) rfl rfl (Nat.le_trans (by decide) hm) hk_1)) t_b)) hc) ?_
        · intro _ q
          obtain ⟨v_7, hv_7, q⟩ := bind_some q
          obtain rfl := Option.some.inj q
          refine (vt ((eO (eT2 eI eI)) (some v_7)) (v_ixL (v_var (d := (eL (eT2 eI eI)) l)) (v_cst (d := eI 0)) hv_7) rfl)
        · intro _ q
          obtain rfl := Option.some.inj q
          refine (vt ((eO (eT2 eI eI)) none) (v_cst (d := eN ())) rfl)
        obtain ⟨w_1, hw_1, h⟩ := bind_some h
        obtain ⟨w_2, hw_2, h⟩ := bind_some h
        obtain ⟨ct, hct, h⟩ := bind_some h
        obtain ⟨g_, hg_, h⟩ := bind_some h
        refine r_find (e := (eT2 eI eI)) (e' := eB) (p := [some ((eX sc) script), some ((eL eI) draws), some (eI k), none, some (eI size), some (eI wide), some ((eU eI) numbers), some ((eU eI) over), some ((eL (eT2 eI eI)) every), some (eI w), some (eI turn), none, none, none, some (eI b), some (eI a_1), none, none, none, none, none, none]) (i_seqL (v_bin (v_sls (e := (eT2 eI eI)) (v_var (d := (eL (eT2 eI eI)) every))) (vt ((eL (eT2 eI eI)) [((0 - 1), size), (0, (size + 1)), (size, 0), ((0 - w_1), w_2), (2, 1)]) (v_lst (x_cons (vt ((eT2 eI eI) ((0 - 1), size)) (v_tup (x_cons (v_bin (v_cst (d := eI 0)) (v_cst (d := eI 1)) o_sub) (x_cons (v_var (d := eI size)) x_nil))) rfl) (x_cons (vt ((eT2 eI eI) (0, (size + 1))) (v_tup (x_cons (v_cst (d := eI 0)) (x_cons (v_bin (v_var (d := eI size)) (v_cst (d := eI 1)) o_add) x_nil))) rfl) (x_cons (vt ((eT2 eI eI) (size, 0)) (v_tup (x_cons (v_var (d := eI size)) (x_cons (v_cst (d := eI 0)) x_nil))) rfl) (x_cons (vt ((eT2 eI eI) ((0 - w_1), w_2)) (v_tup (x_cons (v_bin (v_cst (d := eI 0)) (v_bin (v_cst (d := eI 10)) (v_cst (d := eI 20)) (o_pow hw_1)) o_sub) (x_cons (v_bin (v_cst (d := eI 10)) (v_cst (d := eI 20)) (o_pow hw_2)) x_nil))) rfl) (x_cons (vt ((eT2 eI eI) (2, 1)) (v_tup (x_cons (v_cst (d := eI 2)) (x_cons (v_cst (d := eI 1)) x_nil))) rfl) x_nil)))))) rfl) (o_catL hct))) (w_clean (by rfl)) (.so (.so (.so (.no (.so (.so (.so (.so (.so (.so (.so (.no (.no (.no (.so (.so (.no (.no (.no (.no (.no (.no .nil)))))))))))))))))))))) hg_ (fun zx_ _ zq_ => ⟨_, rfl, f_law_b4 (Nat.le_trans (by decide) hm) script draws k size wide numbers over every w turn b a_1 hsc  zx_ zq_⟩) (fun q_ => ?_) (fun r_ q_ => ?_)
        · subst q_
          dsimp only at h
          obtain ⟨p_8, hp_8, h⟩ := bind_some h
          obtain ⟨v_9, hv_9, h⟩ := bind_some h
          obtain ⟨r_4, hr_4, h⟩ := bind_some h
          obtain ⟨i, hi, h⟩ := letO_some h
          refine r_asg (i := 18) (v_asE (e := eI) hi (v_bin (v_bin (v_bf1 (v_ixL (v_var (d := (eL eI) draws)) (v_bin (v_bin (v_cst (d := eI 28)) (v_var (d := eI turn)) o_add) (v_bin (v_cst (d := eI 3)) (v_var (d := eI k)) (o_mul hp_8)) o_add) hv_9) f_int) (v_bin (v_var (d := eI size)) (v_cst (d := eI 3)) o_add) (o_mod hr_4)) (v_cst (d := eI 1)) o_sub)) (b_imm (Im.im (e := eI) _)) ?_
          obtain ⟨p_9, hp_9, h⟩ := bind_some h
          obtain ⟨v_10, hv_10, h⟩ := bind_some h
          obtain ⟨r_5, hr_5, h⟩ := bind_some h
          obtain ⟨j, hj, h⟩ := letO_some h
          refine r_asg (i := 19) (v_asE (e := eI) hj (v_bin (v_bin (v_bf1 (v_ixL (v_var (d := (eL eI) draws)) (v_bin (v_bin (v_cst (d := eI 34)) (v_var (d := eI turn)) o_add) (v_bin (v_cst (d := eI 3)) (v_var (d := eI k)) (o_mul hp_9)) o_add) hv_10) f_int) (v_bin (v_var (d := eI size)) (v_cst (d := eI 3)) o_add) (o_mod hr_5)) (v_cst (d := eI 1)) o_sub)) (b_imm (Im.im (e := eI) _)) ?_
          obtain ⟨is_ric, his_ric, h⟩ := bind_some h
          obtain ⟨rich_1, hrich_1, h⟩ := bind_some h
          by_cases hc : (!(decide (is_ric = rich_1))) = true
          · rw [if_pos hc] at h
            refine r_ift (te_t (te_not (te_v (v_call (x_cons (v_call (x_cons (v_var (d := (eU eI) numbers)) (x_cons (v_var (d := eI w)) (x_cons (v_var (d := eI a_1)) (x_cons (v_var (d := eI b)) (x_cons (v_var (d := eI i)) (x_cons (v_var (d := eI j)) x_nil)))))) (f_is_rich (Nat.le_trans (by decide) hm) his_ric)) (x_cons (v_call (x_cons (v_var (d := (eU eI) numbers)) (x_cons (v_var (d := eI w)) (x_cons (v_var (d := eI a_1)) (x_cons (v_var (d := eI b)) (x_cons (v_var (d := eI i)) (x_cons (v_var (d := eI j)) x_nil)))))) (f_law_rich (Nat.le_trans (by decide) hm) hrich_1)) x_nil)) (is_runT (e := eB) (f := 8) (g := 7) is_ric rich_1 rfl rfl (Nat.le_trans (by decide) hm))) t_b)) hc) ?_
            obtain rfl := Option.some.inj h
            refine r_ret (v_cst (d := eB false)) (k_imm (Im.im (e := eB) _))
          · rw [if_neg hc] at h
            refine r_iff (te_f (te_not (te_v (v_call (x_cons (v_call (x_cons (v_var (d := (eU eI) numbers)) (x_cons (v_var (d := eI w)) (x_cons (v_var (d := eI a_1)) (x_cons (v_var (d := eI b)) (x_cons (v_var (d := eI i)) (x_cons (v_var (d := eI j)) x_nil)))))) (f_is_rich (Nat.le_trans (by decide) hm) his_ric)) (x_cons (v_call (x_cons (v_var (d := (eU eI) numbers)) (x_cons (v_var (d := eI w)) (x_cons (v_var (d := eI a_1)) (x_cons (v_var (d := eI b)) (x_cons (v_var (d := eI i)) (x_cons (v_var (d := eI j)) x_nil)))))) (f_law_rich (Nat.le_trans (by decide) hm) hrich_1)) x_nil)) (is_runT (e := eB) (f := 8) (g := 7) is_ric rich_1 rfl rfl (Nat.le_trans (by decide) hm))) t_b)) hc) ?_
            obtain rfl := Option.some.inj h
            exact r_nilg (.so (.so (.so (.no (.so (.so (.so (.so (.so (.no (.no (.no (.no (.no (.no (.no (.no (.no (.no (.no (.no (.no .nil))))))))))))))))))))))
        · subst q_
          dsimp only at h
          obtain rfl := Option.some.inj h
          rfl
def F_law_L1 (script : (List Int)) (draws : (List Int))  (k : Int) : Option (Option Bool) :=
  (cellO script (1 + k)).bind fun cell => (drawsO cell 10).bind fun ds => (atI draws k).bind fun v => (modO v 6).bind fun r => (atI ([7, 9, 5, 9, 2, 0]) r).bind fun v_1 => (atI draws (2 + k)).bind fun v_2 => (modO v_2 3).bind fun r_1 => (atI ([3, 21, 2001]) r_1).bind fun v_3 => (rng1 v_1).bind fun r_2 => (mapO (fun at_ => (atI ds at_).bind fun v_4 => (modO v_4 v_3).bind fun r_3 => (fdivO v_3 2).bind fun q => some ((r_3 - q) : Int)) r_2).bind fun l => letO ((l.map fun number => ((number.natAbs : Int) : Int)) : (List Int)) fun over => (F_law_windows v_1).bind fun window => (rng2 1 6).bind fun r_4 => (findO (fun zx_ => F_law_L2 script draws k v_1 v_3 l over window  zx_) r_4).bind fun g_ => (match g_ with | some r_ => some (some r_) | none => (rng1 3).bind fun r_5 => (findO (fun zx_ => F_law_L3 script draws k v_1 v_3 l over window  zx_) r_5).bind fun g__1 => (match g__1 with | some r_ => some (some r_) | none => some none))
theorem f_law_b1 {m : Nat} (hm : 10 ≤ m) {sc : D} (script : (List Int)) (draws : (List Int)) (hsc : IsScr sc script)   (k : Int) {g : Option Bool} (h : F_law_L1 script draws  k = some g) : FndRun (callD defs m) [] [some ((eX sc) script), some ((eL eI) draws), some (eI k), none, none, none, none, none, none, none, none, none, none, none, none, none, none, none, none, none, none, none] b13_4 [some ((eX sc) script), some ((eL eI) draws), none, none, none, none, none, none, none, none, none, none, none, none, none, none, none, none, none, none, none, none] eB g := by
  unfold F_law_L1 at h
  obtain ⟨cell, hcell, h⟩ := bind_some h
  obtain ⟨ds, hds, h⟩ := bind_some h
  refine r_asg (i := 3) (v_call (x_cons (v_call (x_cons (v_var (d := (eX sc) script)) (x_cons (v_bin (v_cst (d := eI 1)) (v_var (d := eI k)) o_add) x_nil)) (cell_run (f := 5) rfl (Nat.le_trans (by decide) hm) hsc hcell)) (x_cons (v_cst (d := eI 10)) x_nil)) (draws_run (f := 6) rfl (Nat.le_trans (by decide) hm) hds)) (b_clean (by rfl) (by rfl)) ?_
  obtain ⟨v, hv, h⟩ := bind_some h
  obtain ⟨r, hr, h⟩ := bind_some h
  obtain ⟨v_1, hv_1, h⟩ := bind_some h
  refine r_asg (i := 4) (v_ixU (vt ((eU eI) [7, 9, 5, 9, 2, 0]) (v_tup (x_cons (v_cst (d := eI 7)) (x_cons (v_cst (d := eI 9)) (x_cons (v_cst (d := eI 5)) (x_cons (v_cst (d := eI 9)) (x_cons (v_cst (d := eI 2)) (x_cons (v_cst (d := eI 0)) x_nil))))))) rfl) (v_bin (v_bf1 (v_ixL (v_var (d := (eL eI) draws)) (v_var (d := eI k)) hv) f_int) (v_cst (d := eI 6)) (o_mod hr)) hv_1) (b_imm (Im.im (e := eI) _)) ?_
  obtain ⟨v_2, hv_2, h⟩ := bind_some h
  obtain ⟨r_1, hr_1, h⟩ := bind_some h
  obtain ⟨v_3, hv_3, h⟩ := bind_some h
  refine r_asg (i := 5) (v_ixU (vt ((eU eI) [3, 21, 2001]) (v_tup (x_cons (v_cst (d := eI 3)) (x_cons (v_cst (d := eI 21)) (x_cons (v_cst (d := eI 2001)) x_nil)))) rfl) (v_bin (v_bf1 (v_ixL (v_var (d := (eL eI) draws)) (v_bin (v_cst (d := eI 2)) (v_var (d := eI k)) o_add) hv_2) f_int) (v_cst (d := eI 3)) (o_mod hr_1)) hv_3) (b_imm (Im.im (e := eI) _)) ?_
  obtain ⟨r_2, hr_2, h⟩ := bind_some h
  obtain ⟨l, hl, h⟩ := bind_some h
  refine r_asg (i := 6) (v_bf1 (v_compP (e' := eI) (i_rng1 (v_var (d := eI v_1)) hr_2) (fun _ => rfl) hl ?_) f_tupL) (b_imm (Im.im (e := (eU eI)) _)) ?_
  · intro at_ y q
    obtain ⟨v_4, hv_4, q⟩ := bind_some q
    obtain ⟨r_3, hr_3, q⟩ := bind_some q
    obtain ⟨q, hq, q⟩ := bind_some q
    obtain rfl := Option.some.inj q
    refine (v_bin (v_bin (v_bf1 (v_ixL (v_var (d := (eL eI) ds)) (v_var (d := eI at_)) hv_4) f_int) (v_var (d := eI v_3)) (o_mod hr_3)) (v_bin (v_var (d := eI v_3)) (v_cst (d := eI 2)) (o_fdiv hq)) o_sub)
  obtain ⟨over, hover, h⟩ := letO_some h
  refine r_asg (i := 7) (v_asE (e := (eU eI)) hover (v_bf1 (v_comp (e' := eI) (g := fun (number : Int) => ((number.natAbs : Int) : Int)) (i_seqU (v_var (d := (eU eI) l))) (fun _ => rfl) (fun number => (v_bf1 (v_var (d := eI number)) f_abs))) f_tupL)) (b_imm (Im.im (e := (eU eI)) _)) ?_
  obtain ⟨window, hwindow, h⟩ := bind_some h
  refine r_asg (i := 8) (v_call (x_cons (v_var (d := eI v_1)) x_nil) (f_law_windows (Nat.le_trans (by decide) hm) hwindow)) (b_clean (by rfl) (by rfl)) ?_
  obtain ⟨r_4, hr_4, h⟩ := bind_some h
  obtain ⟨g_, hg_, h⟩ := bind_some h
  refine r_find (e := eI) (e' := eB) (p := [some ((eX sc) script), some ((eL eI) draws), some (eI k), none, some (eI v_1), some (eI v_3), some ((eU eI) l), some ((eU eI) over), some ((eL (eT2 eI eI)) window), none, none, none, none, none, none, none, none, none, none, none, none, none]) (i_rng2 (v_cst (d := eI 1)) (v_cst (d := eI 6)) hr_4) (w_rng) (.so (.so (.so (.no (.so (.so (.so (.so (.so (.no (.no (.no (.no (.no (.no (.no (.no (.no (.no (.no (.no (.no .nil)))))))))))))))))))))) hg_ (fun zx_ _ zq_ => ⟨_, rfl, f_law_b2 (Nat.le_trans (by decide) hm) script draws k v_1 v_3 l over window hsc  zx_ zq_⟩) (fun q_ => ?_) (fun r_ q_ => ?_)
  · subst q_
    dsimp only at h
    obtain ⟨r_5, hr_5, h⟩ := bind_some h
    obtain ⟨g__1, hg__1, h⟩ := bind_some h
    refine r_find (e := eI) (e' := eB) (p := [some ((eX sc) script), some ((eL eI) draws), some (eI k), none, some (eI v_1), some (eI v_3), some ((eU eI) l), some ((eU eI) over), some ((eL (eT2 eI eI)) window), none, none, none, none, none, none, none, none, none, none, none, none, none]) (i_rng1 (v_cst (d := eI 3)) hr_5) (w_rng) (.so (.so (.so (.no (.so (.so (.so (.so (.so (.no (.no (.no (.no (.no (.no (.no (.no (.no (.no (.no (.no (.no .nil)))))))))))))))))))))) hg__1 (fun zx_ _ zq_ => ⟨_, rfl, f_law_b3 (Nat.le_trans (by decide) hm) script draws k v_1 v_3 l over window hsc  zx_ zq_⟩) (fun q_ => ?_) (fun r_ q_ => ?_)
    · subst q_
      dsimp only at h
      obtain rfl := Option.some.inj h
      exact r_nilg (.so (.so (.no (.no (.no (.no (.no (.no (.no (.no (.no (.no (.no (.no (.no (.no (.no (.no (.no (.no (.no (.no .nil))))))))))))))))))))))
    · subst q_
      dsimp only at h
      obtain rfl := Option.some.inj h
      rfl
  · subst q_
    dsimp only at h
    obtain rfl := Option.some.inj h
    rfl
def F_law (script : (List Int)) : Option Bool :=
  (cellO script 0).bind fun cell => (drawsO cell 50).bind fun ds => (rng1 2).bind fun r => (findO (fun zx_ => F_law_L1 script ds  zx_) r).bind fun g_ => (match g_ with | some r_ => some r_ | none => some true)
theorem f_law {k : Nat} (hk : 10 + 1 ≤ k) {sc : D} {script : (List Int)} (hsc : IsScr sc script) {zr_ : Bool} (h : F_law script = some zr_) : callD defs k 13 [(eX sc) script] = some (eB zr_) := by
  refine call_run (i := d13) (K := 10) rfl rfl rfl hk fun m hm => ?_
  change Run (callD defs m) [] [some ((eX sc) script), none, none, none, none, none, none, none, none, none, none, none, none, none, none, none, none, none, none, none, none, none] body13 (.rt (eB zr_))
  unfold F_law at h
  obtain ⟨cell, hcell, h⟩ := bind_some h
  obtain ⟨ds, hds, h⟩ := bind_some h
  refine r_asg (i := 1) (v_call (x_cons (v_call (x_cons (v_var (d := (eX sc) script)) (x_cons (v_cst (d := eI 0)) x_nil)) (cell_run (f := 5) rfl (Nat.le_trans (by decide) hm) hsc hcell)) (x_cons (v_cst (d := eI 50)) x_nil)) (draws_run (f := 6) rfl (Nat.le_trans (by decide) hm) hds)) (b_clean (by rfl) (by rfl)) ?_
  obtain ⟨r, hr, h⟩ := bind_some h
  obtain ⟨g_, hg_, h⟩ := bind_some h
  refine r_find (e := eI) (e' := eB) (p := [some ((eX sc) script), some ((eL eI) ds), none, none, none, none, none, none, none, none, none, none, none, none, none, none, none, none, none, none, none, none]) (i_rng1 (v_cst (d := eI 2)) hr) (w_rng) (.so (.so (.no (.no (.no (.no (.no (.no (.no (.no (.no (.no (.no (.no (.no (.no (.no (.no (.no (.no (.no (.no .nil)))))))))))))))))))))) hg_ (fun zx_ _ zq_ => ⟨_, rfl, f_law_b1 (Nat.le_trans (by decide) hm) script ds hsc  zx_ zq_⟩) (fun q_ => ?_) (fun r_ q_ => ?_)
  · subst q_
    dsimp only at h
    obtain rfl := Option.some.inj h
    refine r_ret (v_cst (d := eB true)) (k_imm (Im.im (e := eB) _))
  · subst q_
    dsimp only at h
    obtain rfl := Option.some.inj h
    rfl
end Ev
set_option maxHeartbeats 4000000
namespace Ev
open PySem PySem.Spec PyProof.Rows L2
/-- sums from the beginning -/
def pre (xs : List Int) (k : Nat) : Int := (xs.take k).sum
theorem pre_succ {xs : List Int} {k : Nat} (h : k < xs.length) : pre xs (k + 1) = pre xs k + xs.getD k 0 := by
  unfold pre
  rw [List.take_succ, getD_get? (d := 0) h]
  simp
theorem cut2 {xs : List Int} {i j : Nat} (hi : i ≤ j) (hj : j ≤ xs.length) : cutG xs (some (i : Int)) (some (j : Int)) = (xs.drop i).take (j - i) := by
  unfold cutG
  have e1 : HT.sIx xs.length 0 (some (i : Int)) = i := by unfold HT.sIx; simp only []; split <;> omega
  have e2 : HT.sIx xs.length xs.length (some (j : Int)) = j := by unfold HT.sIx; simp only []; split <;> omega
  rw [e1, e2]
theorem cut_sum {xs : List Int} {i j : Nat} (hi : i ≤ j) (hj : j ≤ xs.length) : (cutG xs (some (i : Int)) (some (j : Int))).sum = pre xs j - pre xs i := by
  rw [cut2 hi hj]
  unfold pre
  have : xs.take j = xs.take i ++ (xs.drop i).take (j - i) := by
    rw [show j = i + (j - i) by omega, List.take_add]
    congr 2
    omega
  rw [this, List.sum_append]
  omega
theorem sum_run {xs : List Int} : ∀ (m i : Nat) (t : Int), i + m ≤ xs.length → foldO (fun (zs_ : Int) zx_ => F_law_sum_L1 xs zs_ zx_) t (iota i m) = some (t + (pre xs (i + m) - pre xs i))
  | 0, i, t, _ => by show some t = _; congr 1; rw [Nat.add_zero]; omega
  | m + 1, i, t, h => by
    rw [iota_cons]
    have key : F_law_sum_L1 xs t (i : Int) = some (t + xs.getD i 0) := by
      unfold F_law_sum_L1
      exact eq_bind (at_nat (xs := xs) 0 (by omega)) rfl
    refine eq_bind key ?_
    have := sum_run (xs := xs) m (i + 1) (t + xs.getD i 0) (by omega)
    rw [show ((i + 1 : Nat) : Int) = (i : Int) + 1 by omega] at this
    rw [this, pre_succ (xs := xs) (k := i) (by omega), show i + 1 + m = i + (m + 1) by omega]
    congr 1
    omega
theorem sum_ok {xs : List Int} {i j : Nat} (hi : i ≤ j) (hj : j ≤ xs.length) (hl : xs.length ≤ 1000) : F_law_sum xs (i : Int) (j : Int) = some (pre xs j - pre xs i) := by
  unfold F_law_sum
  refine eq_bind (rng2_pos (by omega) (by omega) (by omega) (by omega) (by omega)) ?_
  rw [show ((j : Int) - (i : Int)).toNat = j - i by omega]
  refine eq_bind (sum_run (j - i) i 0 (by omega)) ?_
  rw [show i + (j - i) = j by omega]
  congr 1
  omega
/-! ### windows -/
def wins (n : Nat) : List (Int × Int) := (iota 0 (n + 1)).flatMap fun i => (iota i (n + 1 - i.toNat)).map fun j => (i, j)
theorem wins_ok {n : Nat} (h : n ≤ 100) : F_law_windows (n : Int) = some (wins n) := by
  unfold F_law_windows
  refine eq_bind (rng1_pos (by omega) (by omega)) ?_
  rw [show ((n : Int) + 1).toNat = n + 1 by omega]
  have := fold_cat (f := fun (zs_ : List (Int × Int)) zx_ => F_law_windows_L1 (n : Int) zs_ zx_) (R := fun i => (iota i (n + 1 - i.toNat)).map fun j => (i, j)) (c := 101) (B := 1000000) (iota 0 (n + 1)) [] (fun acc i hi hl => by
    obtain ⟨k, rfl, hk⟩ := iota_mem0 hi
    unfold F_law_windows_L1
    refine eq_bind (rng2_pos (by omega) (by omega) (by omega) (by omega) (by omega)) ?_
    rw [show ((n : Int) + 1 - (k : Int)).toNat = n + 1 - (k : Int).toNat by omega]
    exact eq_bind (catO_ok (by rw [List.length_map, iota_length]; omega)) rfl) (fun i hi => by rw [List.length_map, iota_length]; omega) (by rw [iota_length]; simp; omega)
  rw [List.nil_append] at this
  exact eq_bind this rfl
theorem mem_wins {n : Nat} {x : Int × Int} : x ∈ wins n ↔ ∃ i j : Nat, x = ((i : Int), (j : Int)) ∧ i ≤ j ∧ j ≤ n := by
  unfold wins
  rw [List.mem_flatMap]
  constructor
  · rintro ⟨i, hi, hx⟩
    obtain ⟨k, rfl, hk⟩ := iota_mem0 hi
    obtain ⟨j, hj, rfl⟩ := List.mem_map.mp hx
    have := iota_mem.mp hj
    exact ⟨k, j.toNat, by rw [Int.toNat_of_nonneg (by omega)], by omega, by omega⟩
  · rintro ⟨i, j, rfl, h1, h2⟩
    exact ⟨i, iota_mem.mpr (by omega), List.mem_map.mpr ⟨j, iota_mem.mpr (by omega), rfl⟩⟩
abbrev ord2 : Int × Int → Int × Int → Bool := lt2 ltI ltI
theorem wins_srt {n : Nat} : (wins n).Pairwise fun a b => ord2 a b = true := by
  have key : ∀ (m : Nat) (a : Int), ((iota a m).flatMap fun i => (iota i (n + 1 - i.toNat)).map fun j => (i, j)).Pairwise fun a b => ord2 a b = true := by
    intro m
    induction m with
    | zero => exact fun a => List.Pairwise.nil
    | succ m ih =>
      intro a
      rw [iota_cons, List.flatMap_cons, List.pairwise_append]
      refine ⟨?_, ih (a + 1), ?_⟩
      · rw [List.pairwise_map]
        exact asc_iota.imp fun {x y} h => by simp [ord2, lt2, ltI, h]
      · intro x hx y hy
        obtain ⟨j, _, rfl⟩ := List.mem_map.mp hx
        obtain ⟨i, hi, hy⟩ := List.mem_flatMap.mp hy
        obtain ⟨j', _, rfl⟩ := List.mem_map.mp hy
        have := iota_mem.mp hi
        have hne : ¬ a = i := by omega
        simp only [ord2, lt2, if_neg hne, ltI]
        exact decide_eq_true (by omega)
  exact key _ _
theorem wins_len {n : Nat} (h : n ≤ 100) : (wins n).length ≤ 10201 := by
  unfold wins
  rw [List.length_flatMap]
  have key : ∀ (l : List Int), (l.map fun i => ((iota i (n + 1 - i.toNat)).map fun j => (i, j)).length).sum ≤ 101 * l.length := by
    intro l
    induction l with
    | nil => simp
    | cons a l ih =>
      rw [List.map_cons, List.sum_cons, List.length_map, iota_length, List.length_cons]
      omega
  have := key (iota 0 (n + 1))
  rw [iota_length] at this
  omega
end Ev
set_option maxHeartbeats 4000000
namespace Ev
open PySem PySem.Spec PyProof.Rows L2
theorem find_skip {p : Int → Bool} : ∀ (k m : Nat) (i : Int), (∀ x, i ≤ x → x < i + k → p x = false) → (iota i m).find? p = (iota (i + k) (m - k)).find? p
  | 0, m, i, _ => by rw [Nat.sub_zero, show i + ((0 : Nat) : Int) = i by omega]
  | k + 1, 0, i, _ => by rw [Nat.zero_sub]; rfl
  | k + 1, m + 1, i, h => by
    rw [iota_cons, List.find?_cons_of_neg (by rw [h i (by omega) (by omega)]; simp), find_skip k m (i + 1) (fun x h1 h2 => h x (by omega) (by omega)), show i + 1 + (k : Int) = i + ((k + 1 : Nat) : Int) by omega, show m + 1 - (k + 1) = m - k by omega]
section
variable {xs : List Int} {w a b : Int}
structure Wab (w a b : Int) : Prop where
  w1 : 1 ≤ w
  w2 : w ≤ 100
  b1 : 1 ≤ b
  b2 : b ≤ 1000
  a1 : -1000 ≤ a
  a2 : a ≤ 1000
/-- rich or not, asked of any two integers -/
def rr (xs : List Int) (w a b i j : Int) : Bool := decide (0 ≤ i) && (decide (j ≤ xs.length) && (decide (w ≤ j - i) && decide (a * (j - i) < b * (pre xs j.toNat - pre xs i.toNat))))
theorem isr_ok (hw : Wab w a b) (hl : xs.length ≤ 1000) (i j : Int) : F_is_rich xs w a b i j = some (rr xs w a b i j) := by
  obtain ⟨w1, w2, b1, b2, a1, a2⟩ := hw
  unfold F_is_rich rr
  by_cases h : 0 ≤ i ∧ j ≤ xs.length ∧ w ≤ j - i
  · obtain ⟨h1, h2, h3⟩ := h
    have hij : i ≤ j := by omega
    have hn : ¬ (j - i < w) := by omega
    rw [if_neg (by simp [h1, h2, hij, hn])]
    refine eq_bind (mulO_l (by omega) (by omega)) (eq_bind (mulO_l (by omega) (by omega)) ?_)
    have := cut_sum (xs := xs) (i := i.toNat) (j := j.toNat) (by omega) (by omega)
    rw [Int.toNat_of_nonneg h1, Int.toNat_of_nonneg (show 0 ≤ j by omega)] at this
    rw [this]
    simp [h1, h2, h3]
  · rw [if_pos]
    · congr 1
      symm
      by_cases h1 : 0 ≤ i <;> by_cases h2 : j ≤ xs.length <;> by_cases h3 : w ≤ j - i <;> simp [h1, h2, h3] <;> exact absurd ⟨h1, h2, h3⟩ h
    · by_cases h1 : 0 ≤ i
      · by_cases h2 : j ≤ xs.length
        · have h3 : j - i < w := by
            by_cases h3 : w ≤ j - i
            · exact absurd ⟨h1, h2, h3⟩ h
            · omega
          simp [h3]
        · simp [h2]
      · simp [h1]
theorem lawr_ok (hw : Wab w a b) (hl : xs.length ≤ 1000) (i j : Int) : F_law_rich xs w a b i j = some (rr xs w a b i j) := by
  obtain ⟨w1, w2, b1, b2, a1, a2⟩ := hw
  unfold F_law_rich rr
  by_cases h : 0 ≤ i ∧ j ≤ xs.length ∧ w ≤ j - i
  · obtain ⟨h1, h2, h3⟩ := h
    have hi : ¬ (i < 0) := by omega
    have hj : ¬ ((xs.length : Int) < j) := by omega
    have hn : ¬ (j - i < w) := by omega
    rw [if_neg (by simp [hi, hj, hn])]
    have := sum_ok (xs := xs) (i := i.toNat) (j := j.toNat) (by omega) (by omega) hl
    rw [Int.toNat_of_nonneg h1, Int.toNat_of_nonneg (show 0 ≤ j by omega)] at this
    refine eq_bind this (eq_bind (mulO_l (by omega) (by omega)) (eq_bind (mulO_l (by omega) (by omega)) ?_))
    simp [h1, h2, h3]
  · rw [if_pos]
    · congr 1
      symm
      by_cases h1 : 0 ≤ i <;> by_cases h2 : j ≤ xs.length <;> by_cases h3 : w ≤ j - i <;> simp [h1, h2, h3] <;> exact absurd ⟨h1, h2, h3⟩ h
    · by_cases h1 : 0 ≤ i
      · by_cases h2 : j ≤ xs.length
        · have h3 : j - i < w := by
            by_cases h3 : w ≤ j - i
            · exact absurd ⟨h1, h2, h3⟩ h
            · omega
          simp [h3]
        · simp [show (xs.length : Int) < j by omega]
      · simp [show i < 0 by omega]
abbrev rw2 (xs : List Int) (w a b : Int) (x : Int × Int) : Bool := rr xs w a b x.1 x.2
theorem told_ok (hw : Wab w a b) (hl : xs.length ≤ 100) : F_told_rich xs w a b = some ((wins xs.length).find? (rw2 xs w a b)) := by
  unfold F_told_rich
  refine eq_bind (rng1_pos (by omega) (by omega)) ?_
  rw [Int.toNat_natCast]
  have key : ∀ i ∈ iota 0 xs.length, F_told_rich_L1 xs w a b i = some ((((iota i (xs.length + 1 - i.toNat)).map fun j => (i, j)).find? (rw2 xs w a b)).map fun x => some x) := fun i hi => by
    obtain ⟨k, rfl, hk⟩ := iota_mem0 hi
    unfold F_told_rich_L1
    refine eq_bind (rng2_pos (by have := hw.w1; omega) (by have := hw.w2; omega) (by omega) (by omega) (by have := hw.w1; omega)) ?_
    have hk' : k < xs.length := hk
    have e := findO_eq (f := fun zx_ => F_told_rich_L2 xs w a b (k : Int) zx_) (p := rr xs w a b (k : Int)) (g := fun j => some ((k : Int), j)) (iota ((k : Int) + w) ((xs.length : Int) + 1 - ((k : Int) + w)).toNat) fun j _ => by
      show F_told_rich_L2 xs w a b (k : Int) j = _
      unfold F_told_rich_L2
      exact eq_bind (isr_ok hw (by omega) _ _) (by cases rr xs w a b (k : Int) j <;> rfl)
    refine eq_bind e ?_
    have hs := find_skip (p := rr xs w a b (k : Int)) w.toNat (xs.length + 1 - k) (k : Int) fun x h1 h2 => by
      have : ¬ (w ≤ x - k) := by have := hw.w1; omega
      simp [rr, this]
    rw [Int.toNat_of_nonneg (show 0 ≤ w by have := hw.w1; omega)] at hs
    rw [show ((xs.length : Int) + 1 - ((k : Int) + w)).toNat = xs.length + 1 - k - w.toNat by have := hw.w1; omega, ← hs, List.find?_map, Int.toNat_natCast]
    have : (rw2 xs w a b ∘ fun j => ((k : Int), j)) = rr xs w a b (k : Int) := rfl
    rw [this]
    cases (iota (k : Int) (xs.length + 1 - k)).find? (rr xs w a b (k : Int)) <;> rfl
  have e := findO_fs (f := fun zx_ => F_told_rich_L1 xs w a b zx_) (iota 0 xs.length) key
  refine eq_bind e ?_
  have hall : (wins xs.length).find? (rw2 xs w a b) = (iota 0 xs.length).findSome? fun i => ((iota i (xs.length + 1 - i.toNat)).map fun j => (i, j)).find? (rw2 xs w a b) := by
    unfold wins
    rw [iota_succ, List.flatMap_append, List.find?_append, List.find?_flatMap]
    have hz : ((([0 + (xs.length : Int)] : List Int).flatMap fun i => (iota i (xs.length + 1 - i.toNat)).map fun j => (i, j))).find? (rw2 xs w a b) = none := by
      rw [List.find?_eq_none]
      intro x hx
      simp only [List.flatMap_cons, List.flatMap_nil, List.append_nil, List.mem_map] at hx
      obtain ⟨j, hj, rfl⟩ := hx
      have := iota_mem.mp hj
      have h2 : ¬ (w ≤ j - (xs.length : Int)) := by have := hw.w1; omega
      simp [rw2, rr, h2]
    rw [hz, Option.or_none]
  rw [hall]
  have hm : ∀ l : List Int, l.findSome? (fun i => ((((iota i (xs.length + 1 - i.toNat)).map fun j => (i, j)).find? (rw2 xs w a b)).map fun x => some x)) = (l.findSome? fun i => ((iota i (xs.length + 1 - i.toNat)).map fun j => (i, j)).find? (rw2 xs w a b)).map fun x => some x := by
    intro l
    induction l with
    | nil => rfl
    | cons i l ih =>
      rw [List.findSome?_cons, List.findSome?_cons]
      cases ((iota i (xs.length + 1 - i.toNat)).map fun j => (i, j)).find? (rw2 xs w a b) with
      | none => exact ih
      | some x => rfl
  rw [hm]
  cases (iota 0 xs.length).findSome? fun i => ((iota i (xs.length + 1 - i.toNat)).map fun j => (i, j)).find? (rw2 xs w a b) <;> rfl
/-- a rich window has a short rich one -/
theorem short_rich (hw : Wab w a b) : ∀ (m i j : Nat), j - i = m → i ≤ j → j ≤ xs.length → rr xs w a b i j = true → ∃ i' j' : Nat, i' ≤ j' ∧ j' ≤ xs.length ∧ rr xs w a b i' j' = true ∧ (j' : Int) - i' < 2 * w := by
  intro m
  induction m using Nat.strongRecOn with
  | ind m ih =>
    intro i j hm hi hj hr
    obtain ⟨w1, w2, b1, b2, a1, a2⟩ := id hw
    by_cases hs : (j : Int) - i < 2 * w
    · exact ⟨i, j, hi, hj, hr, hs⟩
    · simp only [rr, Bool.and_eq_true, decide_eq_true_eq, Int.toNat_natCast] at hr
      obtain ⟨_, _, _, h4⟩ := hr
      have hc : (i : Int) + w = ((i + w.toNat : Nat) : Int) := by omega
      by_cases h5 : rr xs w a b (i : Int) ((i + w.toNat : Nat) : Int) = true
      · exact ⟨i, i + w.toNat, by omega, by omega, h5, by omega⟩
      · by_cases h6 : rr xs w a b ((i + w.toNat : Nat) : Int) (j : Int) = true
        · exact ih (j - (i + w.toNat)) (by omega) (i + w.toNat) j rfl (by omega) hj h6
        · exfalso
          simp only [rr, Bool.and_eq_true, decide_eq_true_eq, Int.toNat_natCast, not_and] at h5 h6
          have g5 := h5 (by omega) (by omega) (by omega)
          have g6 := h6 (by omega) (by omega) (by omega)
          have e1 : ((i + w.toNat : Nat) : Int) - i = w := by omega
          rw [e1] at g5
          generalize hu : pre xs (i + w.toNat) = u at g5 g6
          have e2 : (j : Int) - ((i + w.toNat : Nat) : Int) = (j - i) - w := by omega
          rw [e2] at g6
          have q1 : a * ((j : Int) - i) = a * w + a * ((j : Int) - i - w) := by rw [← Int.mul_add]; congr 1; omega
          have q2 : b * (pre xs j - pre xs i) = b * (u - pre xs i) + b * (pre xs j - u) := by rw [← Int.mul_add]; congr 1; omega
          omega
theorem short_iff (hw : Wab w a b) : decide (0 < (((wins xs.length).filter (rw2 xs w a b)).length : Int)) = decide (0 < ((((wins xs.length).filter (rw2 xs w a b)).filter fun x => decide (x.2 - x.1 < 2 * w)).length : Int)) := by
  rw [filter_pos, filter_pos]
  by_cases h : (wins xs.length).any (rw2 xs w a b) = true
  · rw [h]
    symm
    obtain ⟨x, hx, hr⟩ := List.any_eq_true.mp h
    obtain ⟨i, j, rfl, h1, h2⟩ := mem_wins.mp hx
    obtain ⟨i', j', g1, g2, g3, g4⟩ := short_rich hw _ i j rfl h1 h2 hr
    exact List.any_eq_true.mpr ⟨((i' : Int), (j' : Int)), List.mem_filter.mpr ⟨mem_wins.mpr ⟨i', j', rfl, g1, g2⟩, g3⟩, decide_eq_true g4⟩
  · have h0 : (wins xs.length).any (rw2 xs w a b) = false := by simpa using h
    rw [h0]
    symm
    rw [List.any_eq_false] at h0 ⊢
    exact fun x hx => absurd (List.mem_filter.mp hx).2 (h0 x (List.mem_filter.mp hx).1)
end
end Ev
set_option maxHeartbeats 4000000
namespace Ev
open PySem PySem.Spec PyProof.Rows L2
section
variable {xs : List Int} {lim : Int}
theorem pre_mono (hp : ∀ x ∈ xs, 0 ≤ x) : ∀ {i j : Nat}, i ≤ j → j ≤ xs.length → pre xs i ≤ pre xs j := by
  intro i j
  induction j with
  | zero => intro h _; rw [show i = 0 by omega]; exact Int.le_refl _
  | succ j ih =>
    intro h hj
    by_cases e : i = j + 1
    · rw [e]; exact Int.le_refl _
    · rw [pre_succ (xs := xs) (k := j) (by omega)]
      have := ih (by omega) (by omega)
      have h0 := hp (xs.getD j 0) (List.mem_of_getElem? (getD_get? (d := 0) (show j < xs.length by omega)))
      omega
/-- how far a window from i may go -/
def Ext1 (xs : List Int) (lim : Int) (i e : Nat) : Prop := i ≤ e ∧ e ≤ xs.length ∧ ∀ j, i ≤ j → j ≤ xs.length → (pre xs j - pre xs i ≤ lim ↔ j ≤ e)
theorem ext_while (hp : ∀ x ∈ xs, 0 ≤ x) (h0 : 0 ≤ lim) (hl : xs.length ≤ 1000) (best : Int × Int) {i : Nat} (hi : i ≤ xs.length) :
    Ok (whileO (fun (zs_ : Int) => F_longest_within_L2c xs lim best i zs_) (fun zs_ => F_longest_within_L2 xs lim best i zs_) fuel (i : Int)) fun o => ∃ e : Nat, o = .nx (e : Int) ∧ Ext1 xs lim i e := by
  have hc : ∀ j : Nat, i ≤ j → j < xs.length → F_longest_within_L2c xs lim best i (j : Int) = some (decide (pre xs (j + 1) - pre xs i ≤ lim)) := fun j h1 h2 => by
    unfold F_longest_within_L2c
    have := cut_sum (xs := xs) (i := i) (j := j + 1) (by omega) (by omega)
    rw [show ((j : Int) + 1) = ((j + 1 : Nat) : Int) by omega, this]
    simp [h2]
  have hc2 : F_longest_within_L2c xs lim best i (xs.length : Int) = some false := by
    unfold F_longest_within_L2c
    simp
  refine Ok.mono (whileO_ok (I := fun s => ∃ j : Nat, s = (j : Int) ∧ i ≤ j ∧ j ≤ xs.length ∧ pre xs j - pre xs i ≤ lim) (m := fun s => xs.length - s.toNat) (fun s hs => ?_) fuel (i : Int) ⟨i, rfl, Nat.le_refl _, hi, by omega⟩ (by unfold fuel; omega)) fun o ho => ?_
  · obtain ⟨j, rfl, h1, h2, h3⟩ := hs
    by_cases h4 : j < xs.length
    · refine ok_of (hc j h1 h4) fun hk => ?_
      refine ok_some ⟨_, rfl, ⟨j + 1, by omega, by omega, by omega, of_decide_eq_true hk⟩, ?_⟩
      show xs.length - ((j : Int) + 1).toNat < xs.length - (j : Int).toNat
      omega
    · have : j = xs.length := by omega
      subst this
      exact ok_of hc2 fun hk => by cases hk
  · obtain ⟨s', rfl, ⟨j, rfl, h1, h2, h3⟩, h4⟩ := ho
    refine ⟨j, rfl, h1, h2, fun k hk1 hk2 => ⟨fun h => ?_, fun h => ?_⟩⟩
    · by_cases h5 : j < xs.length
      · rw [hc j h1 h5] at h4
        have h6 : ¬ (pre xs (j + 1) - pre xs i ≤ lim) := of_decide_eq_false (Option.some.inj h4)
        by_cases h7 : k ≤ j
        · exact h7
        · have := pre_mono hp (i := j + 1) (j := k) (by omega) hk2
          omega
      · omega
    · have := pre_mono hp (i := k) (j := j) h h2
      omega
/-- the longest window, the least one -/
structure Best (xs : List Int) (lim : Int) (k bi bj : Nat) : Prop where
  le : bi ≤ bj
  len : bj ≤ xs.length
  fine : pre xs bj - pre xs bi ≤ lim
  most : ∀ i < k, ∀ e, Ext1 xs lim i e → e - i ≤ bj - bi
  first : ∀ i < bi, ∀ e, Ext1 xs lim i e → e - i < bj - bi
theorem longest_ok (hp : ∀ x ∈ xs, 0 ≤ x) (h0 : 0 ≤ lim) (hl : xs.length ≤ 100) : ∃ bi bj : Nat, F_longest_within xs lim = some ((bi : Int), (bj : Int)) ∧ Best xs lim xs.length bi bj := by
  have key : Ok (F_longest_within xs lim) fun b => ∃ bi bj : Nat, b = ((bi : Int), (bj : Int)) ∧ Best xs lim xs.length bi bj := by
    unfold F_longest_within
    refine ok_let (ok_bind (rng1_pos (by omega) (by omega)) ?_)
    rw [Int.toNat_natCast]
    refine Ok.bind (foldO_inv (I := fun (s : Int × Int) r => ∃ k bi bj : Nat, r = iota k (xs.length - k) ∧ k ≤ xs.length ∧ s = ((bi : Int), (bj : Int)) ∧ Best xs lim k bi bj) (fun s x r hs => ?_) (iota 0 xs.length) (0, 0) ⟨0, 0, 0, rfl, Nat.zero_le _, rfl, ⟨Nat.le_refl _, Nat.zero_le _, by omega, fun i hi => by omega, fun i hi => by omega⟩⟩) fun g hg => ?_
    · obtain ⟨k, bi, bj, hr, hk, rfl, B⟩ := hs
      have hk2 : k < xs.length := by
        by_cases h : k < xs.length
        · exact h
        · rw [show xs.length - k = 0 by omega] at hr; cases hr
      rw [show xs.length - k = (xs.length - (k + 1)) + 1 by omega, iota_cons] at hr
      injection hr with hx hr
      subst hx
      unfold F_longest_within_L1
      refine Ok.bind (ext_while hp h0 (by omega) _ hk) fun o ho => ?_
      obtain ⟨e, rfl, E⟩ := ho
      simp only []
      have huniq : ∀ e', Ext1 xs lim k e' → e' = e := fun e' E' => by
        have a1 := (E.2.2 e' E'.1 E'.2.1).mp ((E'.2.2 e' E'.1 E'.2.1).mpr (Nat.le_refl _))
        have a2 := (E'.2.2 e E.1 E.2.1).mp ((E.2.2 e E.1 E.2.1).mpr (Nat.le_refl _))
        omega
      have hle := B.le
      have hke := E.1
      by_cases hb : ((bj : Int) - (bi : Int)) < ((e : Int) - (k : Int))
      · rw [if_pos (decide_eq_true hb)]
        refine ok_bind rfl (ok_some ⟨k + 1, k, e, by rw [hr]; congr 1, by omega, rfl, ⟨E.1, E.2.1, (E.2.2 e E.1 E.2.1).mpr (Nat.le_refl _), fun i hi e' E' => ?_, fun i hi e' E' => ?_⟩⟩)
        · by_cases hik : i = k
          · subst hik
            rw [huniq e' E']
            exact Nat.le_refl _
          · have := B.most i (by omega) e' E'
            omega
        · have := B.most i hi e' E'
          omega
      · rw [if_neg (by simpa using hb)]
        refine ok_bind rfl (ok_some ⟨k + 1, bi, bj, by rw [hr]; congr 1, by omega, rfl, ⟨B.le, B.len, B.fine, fun i hi e' E' => ?_, B.first⟩⟩)
        by_cases hik : i = k
        · subst hik
          rw [huniq e' E']
          omega
        · exact B.most i (by omega) e' E'
    · obtain ⟨k, bi, bj, hr, hk, rfl, B⟩ := hg
      have hkk : k = xs.length := by
        have := congrArg List.length hr
        rw [iota_length] at this
        simp at this
        omega
      subst hkk
      exact ok_some ⟨bi, bj, rfl, B⟩
  obtain ⟨b, h1, bi, bj, rfl, B⟩ := key
  exact ⟨bi, bj, h1, B⟩
theorem lawlong_ok (hp : ∀ x ∈ xs, 0 ≤ x) (h0 : 0 ≤ lim) (hl : xs.length ≤ 100) {bi bj : Nat} (B : Best xs lim xs.length bi bj) : F_law_longest xs lim = some ((bi : Int), (bj : Int)) := by
  unfold F_law_longest
  refine eq_bind (wins_ok hl) ?_
  let q : Int × Int → Bool := fun x => decide (pre xs x.2.toNat - pre xs x.1.toNat ≤ lim)
  refine eq_bind (fmO_eq (q := q) (g := fun x : Int × Int => x) (wins xs.length) (fun x hx => ?_) (fun x _ _ => rfl)) ?_
  · obtain ⟨i, j, rfl, h1, h2⟩ := mem_wins.mp hx
    refine eq_bind (sum_ok h1 h2 (by omega)) ?_
    simp [q]
  rw [List.map_id']
  have mem : ((bi : Int), (bj : Int)) ∈ (wins xs.length).filter q := List.mem_filter.mpr ⟨mem_wins.mpr ⟨bi, bj, rfl, B.le, B.len⟩, decide_eq_true (by simpa using B.fine)⟩
  have ex : ∀ i : Nat, i ≤ xs.length → ∃ e, Ext1 xs lim i e := fun i hi => by
    obtain ⟨o, _, e, _, E⟩ := ext_while hp h0 (by omega) (0, 0) hi
    exact ⟨e, E⟩
  have hle := B.le
  have up : ∀ i j : Nat, i ≤ j → j ≤ xs.length → pre xs j - pre xs i ≤ lim → j - i ≤ bj - bi ∧ (i < bi → j - i < bj - bi) := fun i j h1 h2 h3 => by
    obtain ⟨e, E⟩ := ex i (by omega)
    have hj := (E.2.2 j h1 h2).mp h3
    refine ⟨?_, fun hb => ?_⟩
    · by_cases hi : i < xs.length
      · have := B.most i hi e E
        omega
      · omega
    · have := B.first i hb e E
      omega
  obtain ⟨m, hm1, hm2, hm3⟩ := maxO_spec (xs := ((wins xs.length).filter q).map fun x_1 : Int × Int => x_1.2 - x_1.1) (by
    intro z
    rw [List.map_eq_nil_iff] at z
    rw [z] at mem
    cases mem)
  have hm : m = (bj : Int) - bi := by
    have h1 := hm3 _ (List.mem_map.mpr ⟨_, mem, rfl⟩)
    obtain ⟨x, hx, rfl⟩ := List.mem_map.mp hm2
    obtain ⟨hx1, hx2⟩ := List.mem_filter.mp hx
    obtain ⟨i, j, rfl, g1, g2⟩ := mem_wins.mp hx1
    have := (up i j g1 g2 (by simpa [q] using of_decide_eq_true hx2)).1
    simp only [] at h1 ⊢
    omega
  refine eq_bind hm1 ?_
  have hf := first_least (swo_lt2 swo_ltI swo_ltI) (p := fun x => q x && decide (x.2 - x.1 = m)) (x := ((bi : Int), (bj : Int))) (l := wins xs.length) wins_srt (List.mem_filter.mp mem).1 (by
    rw [Bool.and_eq_true]
    exact ⟨(List.mem_filter.mp mem).2, decide_eq_true hm.symm⟩) fun y hy hpy => by
    obtain ⟨i, j, rfl, g1, g2⟩ := mem_wins.mp hy
    simp only [Bool.and_eq_true, decide_eq_true_eq, q, Int.toNat_natCast] at hpy
    have hu := up i j g1 g2 hpy.1
    have hnb : ¬ i < bi := fun hb => by have := hu.2 hb; omega
    by_cases hib : i = bi
    · subst hib
      have : j = bj := by omega
      subst this
      simp [lt2, ltI]
    · have hne : ¬ ((i : Int) = (bi : Int)) := by omega
      simp only [lt2, if_neg hne, ltI]
      exact decide_eq_false (by omega)
  have hh : (((wins xs.length).filter q).filter fun x_2 : Int × Int => decide (x_2.2 - x_2.1 = m)).head? = some ((bi : Int), (bj : Int)) := by
    rw [List.filter_filter, List.head?_filter]
    rw [← hf]
    congr 1
    funext x
    exact Bool.and_comm _ _
  refine eq_bind (x := ((bi : Int), (bj : Int))) ?_ rfl
  show atI (List.map (fun x : Int × Int => x) _) 0 = _
  rw [List.map_id']
  refine atI_nat (k := 0) ?_
  rw [← List.head?_eq_getElem?]
  exact hh
end
end Ev
set_option maxHeartbeats 4000000
namespace Ev
open PySem PySem.Spec PyProof.Rows L2
theorem popO_last {α : Type} {q : List α} {x : α} : popO (q ++ [x]) none = some (x, q) := by
  unfold popO
  rw [if_pos rfl]
  have : ixN (q ++ [x]).length ((none : Option Int).getD (-1)) = some q.length := by
    unfold ixN
    simp
    omega
  rw [this, Option.bind_some, List.getElem?_append_right (Nat.le_refl _), Nat.sub_self]
  show some (x, (q ++ [x]).eraseIdx q.length) = some (x, q)
  rw [List.eraseIdx_append_of_length_le (Nat.le_refl _), Nat.sub_self]
  simp
section
variable {xs : List Int} {w : Nat}
abbrev at0 (xs : List Int) (k : Nat) : Int := xs.getD k 0
/-- what the waiting places are behind t numbers -/
structure Wt (xs : List Int) (w t : Nat) (ks : List Nat) : Prop where
  inc : ks.Pairwise (· < ·)
  dec : ks.Pairwise fun a b => at0 xs b < at0 xs a
  win : ∀ k ∈ ks, k < t ∧ t ≤ k + w
  cov : ∀ m, m < t → t ≤ m + w → ∃ k ∈ ks, m ≤ k ∧ at0 xs m ≤ at0 xs k
abbrev asI (ks : List Nat) : List Int := ks.map fun k : Nat => (k : Int)
theorem pop_ok {t : Nat} {ks : List Nat} {found : List Int} (W : Wt xs w t ks) (ht : t < xs.length) (hl : xs.length ≤ 1000) :
    Ok (whileO (fun (zs_ : List Int) => F_window_tops_L2c xs w found t (at0 xs t) zs_) (fun zs_ => F_window_tops_L2 xs w found t (at0 xs t) zs_) fuel (asI ks)) fun o => ∃ ks' p : List Nat, o = .nx (asI ks') ∧ ks = ks' ++ p ∧ (∀ k ∈ p, at0 xs k ≤ at0 xs t) ∧ ∀ k ∈ ks', at0 xs t < at0 xs k := by
  have hc : ∀ (ks' : List Nat) (k : Nat), k < xs.length → F_window_tops_L2c xs w found t (at0 xs t) (asI (ks' ++ [k])) = some (decide (at0 xs k ≤ at0 xs t)) := fun ks' k hk => by
    unfold F_window_tops_L2c
    rw [if_pos (by simp)]
    refine eq_bind (eq_bind (x := (k : Int)) ?_ (eq_bind (at_nat (xs := xs) 0 hk) rfl)) rfl
    rw [asI, List.map_append]
    exact atI_last
  have hc0 : F_window_tops_L2c xs w found t (at0 xs t) (asI []) = some false := rfl
  have hlen : ks.length ≤ xs.length := by
    have h1 : (ks.map fun k : Nat => (k : Int)).Pairwise (· < ·) := List.pairwise_map.mpr (W.inc.imp fun {a b} h => by omega)
    have h2 := asc_len (n := xs.length) h1 fun a ha => by
      obtain ⟨k, hk, rfl⟩ := List.mem_map.mp ha
      have := (W.win k hk).1
      omega
    rw [List.length_map] at h2
    exact h2
  refine Ok.mono (whileO_ok (I := fun s => ∃ ks' p : List Nat, s = asI ks' ∧ ks = ks' ++ p ∧ ∀ k ∈ p, at0 xs k ≤ at0 xs t) (m := fun s => s.length) (fun s hs => ?_) fuel (asI ks) ⟨ks, [], rfl, by simp, fun k hk => by cases hk⟩ (by rw [List.length_map]; unfold fuel; omega)) fun o ho => ?_
  · obtain ⟨ks', p, rfl, hk, hp⟩ := hs
    rcases List.eq_nil_or_concat ks' with rfl | ⟨ks2, k, rfl⟩
    · exact ok_of hc0 fun hk => by cases hk
    · rw [List.concat_eq_append] at hk ⊢
      have hkl : k < xs.length := by
        have := (W.win k (by rw [hk]; simp)).1
        omega
      refine ok_of (hc ks2 k hkl) fun h => ?_
      unfold F_window_tops_L2
      refine ok_bind (x := ((k : Int), asI ks2)) ?_ (ok_some ⟨_, rfl, ⟨ks2, k :: p, rfl, by rw [hk]; simp, fun j hj => ?_⟩, ?_⟩)
      · rw [asI, List.map_append]
        exact popO_last
      · rcases List.mem_cons.mp hj with rfl | hj
        · exact of_decide_eq_true h
        · exact hp j hj
      · show (asI ks2).length < (asI (ks2 ++ [k])).length
        simp
  · obtain ⟨s', rfl, ⟨ks', p, rfl, hk, hp⟩, h4⟩ := ho
    refine ⟨ks', p, rfl, hk, hp, fun j hj => ?_⟩
    rcases List.eq_nil_or_concat ks' with rfl | ⟨ks2, k, rfl⟩
    · cases hj
    · rw [List.concat_eq_append] at hk h4 hj
      have hkl : k < xs.length := by
        have := (W.win k (by rw [hk]; simp)).1
        omega
      rw [hc ks2 k hkl] at h4
      have h6 : ¬ (at0 xs k ≤ at0 xs t) := of_decide_eq_false (Option.some.inj h4)
      rcases List.mem_append.mp hj with hj | hj
      · have hd := W.dec
        rw [hk] at hd
        have := (List.pairwise_append.mp (List.pairwise_append.mp hd).1).2.2 j hj k (by simp)
        omega
      · rw [List.mem_singleton.mp hj]
        omega
/-- behind one more number -/
theorem Wt.step {t : Nat} {ks ks' p : List Nat} (W : Wt xs w t ks) (hw : 1 ≤ w) (hk : ks = ks' ++ p) (hp : ∀ k ∈ p, at0 xs k ≤ at0 xs t) (hq : ∀ k ∈ ks', at0 xs t < at0 xs k) :
    ∃ h r, (ks' ++ [t] = h :: r) ∧ ((h : Int) ≤ (t : Int) - w → Wt xs w (t + 1) r ∧ r ≠ []) ∧ (¬ (h : Int) ≤ (t : Int) - w → Wt xs w (t + 1) (h :: r)) := by
  have sub : ∀ k ∈ ks', k < t ∧ t ≤ k + w := fun k hkm => W.win k (by rw [hk]; exact List.mem_append_left _ hkm)
  have inc : (ks' ++ [t]).Pairwise (· < ·) := by
    have := W.inc
    rw [hk] at this
    refine List.pairwise_append.mpr ⟨(List.pairwise_append.mp this).1, List.pairwise_singleton _ _, fun a ha b hb => ?_⟩
    rw [List.mem_singleton.mp hb]
    exact (sub a ha).1
  have dec : (ks' ++ [t]).Pairwise fun a b => at0 xs b < at0 xs a := by
    have := W.dec
    rw [hk] at this
    refine List.pairwise_append.mpr ⟨(List.pairwise_append.mp this).1, List.pairwise_singleton _ _, fun a ha b hb => ?_⟩
    rw [List.mem_singleton.mp hb]
    exact hq a ha
  have cov : ∀ m, m < t + 1 → t + 1 ≤ m + w → ∃ k ∈ ks' ++ [t], m ≤ k ∧ at0 xs m ≤ at0 xs k := fun m h1 h2 => by
    by_cases hm : m = t
    · subst hm
      exact ⟨m, by simp, Nat.le_refl _, Int.le_refl _⟩
    · obtain ⟨k, hkm, g1, g2⟩ := W.cov m (by omega) (by omega)
      rw [hk] at hkm
      rcases List.mem_append.mp hkm with hkm | hkm
      · exact ⟨k, List.mem_append_left _ hkm, g1, g2⟩
      · exact ⟨t, by simp, by omega, Int.le_trans g2 (hp k hkm)⟩
  have memL : ∀ k ∈ ks' ++ [t], k < t + 1 ∧ t ≤ k + w := fun k hkm => by
    rcases List.mem_append.mp hkm with hkm | hkm
    · have := sub k hkm
      omega
    · rw [List.mem_singleton.mp hkm]
      omega
  cases hl : ks' ++ [t] with
  | nil => simp at hl
  | cons h r =>
    rw [hl] at inc dec cov memL
    have i2 := List.pairwise_cons.mp inc
    have d2 := List.pairwise_cons.mp dec
    refine ⟨h, r, rfl, fun hh => ⟨⟨i2.2, d2.2, fun k hkm => ?_, fun m h1 h2 => ?_⟩, fun z => ?_⟩, fun hh => ⟨inc, dec, fun k hkm => ?_, cov⟩⟩
    · have a1 := memL k (List.mem_cons_of_mem _ hkm)
      have a2 := i2.1 k hkm
      have a3 := memL h List.mem_cons_self
      omega
    · obtain ⟨k, hkm, g1, g2⟩ := cov m h1 h2
      rcases List.mem_cons.mp hkm with rfl | hkm
      · omega
      · exact ⟨k, hkm, g1, g2⟩
    · subst z
      have ht : t ∈ [h] := by rw [← hl]; simp
      have := List.mem_singleton.mp ht
      omega
    · have a1 := memL k hkm
      rcases List.mem_cons.mp hkm with rfl | hkm2
      · omega
      · have a2 := i2.1 k hkm2
        omega
/-- the first waiting place has the greatest number of the window -/
theorem wtop_ok {t h : Nat} {r : List Nat} (W : Wt xs w (t + 1) (h :: r)) (ht : t < xs.length) (hw : w ≤ t + 1) (hw1 : 1 ≤ w) : maxO ltI (cutG xs (some ((t + 1 - w : Nat) : Int)) (some (((t + 1 - w : Nat) : Int) + (w : Int)))) = some (at0 xs h) := by
  rw [show ((t + 1 - w : Nat) : Int) + (w : Int) = ((t + 1 : Nat) : Int) by omega, cut2 (by omega) (by omega)]
  have mem : ∀ y, y ∈ (xs.drop (t + 1 - w)).take (t + 1 - (t + 1 - w)) ↔ ∃ m, t + 1 - w ≤ m ∧ m < t + 1 ∧ at0 xs m = y := fun y => by
    constructor
    · intro hy
      obtain ⟨j, hj⟩ := List.mem_iff_getElem?.mp hy
      rw [List.getElem?_take] at hj
      split at hj
      · rw [List.getElem?_drop] at hj
        refine ⟨t + 1 - w + j, by omega, by omega, ?_⟩
        show xs.getD _ 0 = y
        rw [List.getD_eq_getElem?_getD, hj]
        rfl
      · cases hj
    · rintro ⟨m, h1, h2, rfl⟩
      refine List.mem_iff_getElem?.mpr ⟨m - (t + 1 - w), ?_⟩
      rw [List.getElem?_take, if_pos (by omega), List.getElem?_drop, show t + 1 - w + (m - (t + 1 - w)) = m by omega]
      exact getD_get? (by omega)
  have hh := W.win h List.mem_cons_self
  have h0 : at0 xs h ∈ (xs.drop (t + 1 - w)).take (t + 1 - (t + 1 - w)) := (mem _).mpr ⟨h, by omega, by omega, rfl⟩
  obtain ⟨m, h1, h2, h3⟩ := maxO_spec (xs := (xs.drop (t + 1 - w)).take (t + 1 - (t + 1 - w))) (fun z => by rw [z] at h0; cases h0)
  rw [h1]
  congr 1
  have g1 := h3 _ h0
  obtain ⟨j, j1, j2, rfl⟩ := (mem m).mp h2
  obtain ⟨k, hk, k1, k2⟩ := W.cov j j2 (by omega)
  rcases List.mem_cons.mp hk with rfl | hk
  · omega
  · have := (List.pairwise_cons.mp W.dec).1 k hk
    omega
end
end Ev
set_option maxHeartbeats 4000000
namespace Ev
open PySem PySem.Spec PyProof.Rows L2
theorem mapO_snoc {α β : Type} {f : α → Option β} {y : α} {z : β} : ∀ {xs : List α} {ys : List β}, mapO f xs = some ys → f y = some z → mapO f (xs ++ [y]) = some (ys ++ [z])
  | [], ys, h, h2 => by cases h; simp [mapO, h2]
  | x :: xs, ys, h, h2 => by
    simp only [mapO, Option.bind_eq_some_iff] at h
    obtain ⟨v, h3, vs, h4, h5⟩ := h
    cases h5
    have := mapO_snoc h4 h2
    simp only [List.cons_append, mapO, h3, this, Option.bind_some]
theorem mapO_len {α β : Type} {f : α → Option β} : ∀ {xs : List α} {ys : List β}, mapO f xs = some ys → ys.length = xs.length
  | [], ys, h => by cases h; rfl
  | x :: xs, ys, h => by
    simp only [mapO, Option.bind_eq_some_iff] at h
    obtain ⟨v, h3, vs, h4, h5⟩ := h
    cases h5
    rw [List.length_cons, List.length_cons, mapO_len h4]
section
variable {xs : List Int}
theorem Wt.len {w t : Nat} {ks : List Nat} (W : Wt xs w t ks) (ht : t ≤ xs.length) : ks.length ≤ xs.length := by
  have h1 : (ks.map fun k : Nat => (k : Int)).Pairwise (· < ·) := List.pairwise_map.mpr (W.inc.imp fun {a b} h => by omega)
  have h2 := asc_len (n := xs.length) h1 fun a ha => by
    obtain ⟨k, hk, rfl⟩ := List.mem_map.mp ha
    have := (W.win k hk).1
    omega
  rw [List.length_map] at h2
  exact h2
abbrev topF (xs : List Int) (w : Int) (i : Int) : Option Int := (maxO ltI (cutG xs (some i) (some (i + w)))).bind fun v => some v
theorem tops_ok {w : Nat} (hw : 1 ≤ w) (hl : xs.length ≤ 100) : ∃ f, F_window_tops xs w = some f ∧ mapO (topF xs w) (iota 0 (xs.length + 1 - w)) = some f ∧ f.length ≤ 1000 := by
  have key : Ok (F_window_tops xs w) fun f => mapO (topF xs w) (iota 0 (xs.length + 1 - w)) = some f := by
    unfold F_window_tops
    rw [enumT_iota 0]
    refine Ok.bind (foldO_inv (I := fun (s : List Int × List Int) r => ∃ (t : Nat) (ks : List Nat), r = (iota t (xs.length - t)).map (fun j => (j, xs.getD j.toNat 0)) ∧ t ≤ xs.length ∧ s.1 = asI ks ∧ Wt xs w t ks ∧ mapO (topF xs w) (iota 0 (t + 1 - w)) = some s.2) (fun s x r hs => ?_) _ _ ⟨0, [], rfl, Nat.zero_le _, rfl, ⟨List.Pairwise.nil, List.Pairwise.nil, fun k hk => (by cases hk), fun m hm => (by omega)⟩, by rw [show 0 + 1 - w = 0 by omega]; rfl⟩) fun g hg => ?_
    · obtain ⟨t, ks, hr, ht, hs1, W, hf⟩ := hs
      obtain ⟨s1, found⟩ := s
      simp only at hs1 hf
      subst hs1
      have ht2 : t < xs.length := by
        by_cases h : t < xs.length
        · exact h
        · rw [show xs.length - t = 0 by omega] at hr; cases hr
      rw [show xs.length - t = (xs.length - (t + 1)) + 1 by omega, iota_cons, List.map_cons] at hr
      injection hr with hx hr
      subst hx
      have hfl : found.length ≤ 101 := by
        have := mapO_len hf
        rw [iota_length] at this
        omega
      unfold F_window_tops_L1
      simp only [Int.toNat_natCast]
      refine Ok.bind (pop_ok W ht2 (by omega)) fun o ho => ?_
      obtain ⟨ks', p, rfl, hk, hp, hq⟩ := ho
      simp only []
      obtain ⟨h, r', hc, s1, s2⟩ := W.step hw hk hp hq
      have hlen : ks'.length ≤ 1000 := by
        have := W.len ht
        rw [hk, List.length_append] at this
        omega
      refine ok_bind (appO_ok (by rw [List.length_map]; omega)) ?_
      have hcI : asI ks' ++ [(t : Int)] = (h : Int) :: asI r' := by
        rw [show asI ks' ++ [(t : Int)] = asI (ks' ++ [t]) by simp [asI], hc]; rfl
      rw [hcI]
      refine ok_bind atI_zero ?_
      -- the places behind
      have fin : ∀ h2 r2, Wt xs w (t + 1) (h2 :: r2) → Ok ((if decide ((w : Int) - 1 ≤ (t : Int)) = true then ((atI (asI (h2 :: r2)) 0).bind fun v_1 => (atI xs v_1).bind fun v_2 => (appO found v_2).bind fun found_1 => some found_1) else some found).bind fun found_2 => some (asI (h2 :: r2), found_2)) fun s => ∃ (t' : Nat) (ks : List Nat), r = (iota t' (xs.length - t')).map (fun j => (j, xs.getD j.toNat 0)) ∧ t' ≤ xs.length ∧ s.1 = asI ks ∧ Wt xs w t' ks ∧ mapO (topF xs w) (iota 0 (t' + 1 - w)) = some s.2 := fun h2 r2 W2 => by
        have hh := W2.win h2 List.mem_cons_self
        by_cases hc2 : w ≤ t + 1
        · rw [if_pos (decide_eq_true (by omega))]
          have top := wtop_ok W2 ht2 hc2 hw
          refine Ok.bind (P := fun f => f = found ++ [at0 xs h2]) (ok_bind (x := (h2 : Int)) atI_zero (ok_bind (at_nat (xs := xs) 0 (by omega)) (ok_bind (appO_ok (by omega)) (ok_some rfl)))) fun f hf2 => ?_
          subst hf2
          refine ok_some ⟨t + 1, h2 :: r2, by rw [hr]; congr 2, by omega, rfl, W2, ?_⟩
          rw [show t + 1 + 1 - w = (t + 1 - w) + 1 by omega, iota_succ]
          refine mapO_snoc hf ?_
          rw [Int.zero_add]
          unfold topF
          rw [top]
          rfl
        · rw [if_neg (by simp; omega)]
          refine ok_bind rfl (ok_some ⟨t + 1, h2 :: r2, by rw [hr]; congr 2, by omega, rfl, W2, ?_⟩)
          rw [show t + 1 + 1 - w = 0 by omega]
          rw [show t + 1 - w = 0 by omega] at hf
          exact hf
      by_cases hh : (h : Int) ≤ (t : Int) - w
      · rw [if_pos (decide_eq_true hh)]
        obtain ⟨W2, hne⟩ := s1 hh
        cases r' with
        | nil => exact absurd rfl hne
        | cons h2 r2 =>
          refine ok_bind (x := asI (h2 :: r2)) ?_ (fin h2 r2 W2)
          show some (cutG ((h : Int) :: asI (h2 :: r2)) (some 1) none) = _
          have := cutG_drop (xs := (h : Int) :: asI (h2 :: r2)) (k := 1) (by simp)
          rw [show ((1 : Nat) : Int) = 1 from rfl] at this
          rw [this]
          rfl
      · rw [if_neg (by simpa using hh)]
        exact ok_bind rfl (fin h r' (s2 hh))
    · obtain ⟨t, ks, hr, ht, hs1, W, hf⟩ := hg
      have htt : t = xs.length := by
        have := congrArg List.length hr
        rw [List.length_map, iota_length] at this
        simp at this
        omega
      subst htt
      exact ok_some hf
  obtain ⟨f, h1, h2⟩ := key
  refine ⟨f, h1, h2, ?_⟩
  have := mapO_len h2
  rw [iota_length] at this
  omega
end
end Ev
set_option maxHeartbeats 4000000
namespace Ev
open PySem PySem.Spec PyProof.Rows L2
section
variable {sc ds xs ov ev : List Int} {k size wide : Int} {every : List (Int × Int)}
theorem l2_ok {x : Int} (hx : x ∈ iota 1 5) (hs : size = xs.length) (hl : xs.length ≤ 100) : F_law_L2 sc ds k size wide xs ov every x = some none := by
  obtain ⟨h1, h2⟩ := iota_mem.mp hx
  refine Ok.eq ?_
  subst hs
  obtain ⟨w, rfl⟩ : ∃ w : Nat, x = w := ⟨x.toNat, by omega⟩
  unfold F_law_L2
  have e : ((xs.length : Int) - (w : Int) + 1).toNat = xs.length + 1 - w := by omega
  have hr : rng1 ((xs.length : Int) - (w : Int) + 1) = some (iota 0 (xs.length + 1 - w)) := by rw [rng1_pos (by omega) (by omega), e]
  have pl : ∀ i ∈ iota 0 (xs.length + 1 - w), ∃ j : Nat, i = j ∧ j + w ≤ xs.length := fun i hi => by
    obtain ⟨j, rfl, hj⟩ := iota_mem0 hi
    exact ⟨j, rfl, by omega⟩
  obtain ⟨f, t1, t2, t3⟩ := tops_ok (xs := xs) (w := w) (by omega) hl
  refine ok_bind hr (ok_bind (mapO_eq (g := fun i : Int => pre xs (i.toNat + w) - pre xs i.toNat) _ fun i hi => ?_) (ok_bind hr (ok_bind t2 ?_)))
  · obtain ⟨j, rfl, hj⟩ := pl i hi
    refine eq_bind ?_ rfl
    rw [show (j : Int) + (w : Int) = ((j + w : Nat) : Int) by omega]
    exact sum_ok (by omega) hj (by omega)
  have ws : F_window_sums xs w = some ((iota 0 (xs.length + 1 - w)).map fun i : Int => pre xs (i.toNat + w) - pre xs i.toNat) := by
    unfold F_window_sums
    refine eq_bind hr ?_
    congr 1
    refine List.map_congr_left fun i hi => ?_
    obtain ⟨j, rfl, hj⟩ := pl i hi
    rw [show (j : Int) + (w : Int) = ((j + w : Nat) : Int) by omega]
    exact cut_sum (by omega) hj
  refine ok_bind ws (ok_bind (isO_self (okInts (by rw [List.length_map, iota_length]; omega))) ?_)
  rw [if_neg (by simp)]
  refine ok_bind (x := false) ?_ (ok_some (by simp))
  exact eq_bind t1 (eq_bind (isO_self (okInts t3)) rfl)
theorem l4_ok {w a b : Int} (hw : Wab w a b) (hl : xs.length ≤ 1000) (t : Int) (x : Int × Int) : F_law_L4 sc ds k size wide xs ov every w t b a x = some none := by
  unfold F_law_L4
  refine eq_bind (isr_ok hw hl _ _) (eq_bind (lawr_ok hw hl _ _) ?_)
  simp
theorem l3_ok {x : Int} (hd : Draws 50 ds) (hx : x ∈ iota 0 3) (hk : 0 ≤ k ∧ k < 2) (hs : size = xs.length) (hl : xs.length ≤ 9) (hwd : 3 ≤ wide ∧ wide ≤ 2001) (hov : ov.length = xs.length) (hop : ∀ y ∈ ov, 0 ≤ y) (he : every = wins xs.length) :
    F_law_L3 sc ds k size wide xs ov every x = some none := by
  obtain ⟨h1, h2⟩ := iota_mem.mp hx
  refine Ok.eq ?_
  subst hs he
  unfold F_law_L3
  refine ok_bind (mulO_l (by decide) (by decide)) (ok_draw hd (by omega) (by omega) fun v v0 v1 => ok_bind (mulO_l (by decide) (by decide)) (ok_pick h1 (by simpa using h2) fun z hz => ?_))
  have hz0 : 0 < z := by
    simp only [List.mem_cons, List.not_mem_nil, or_false] at hz
    omega
  refine ok_bind (modO_pos hz0) ?_
  have hr0 := Int.emod_nonneg v (show z ≠ 0 by omega)
  obtain ⟨bi, bj, l1, B⟩ := longest_ok (xs := ov) (lim := v % z) hop hr0 (by omega)
  refine ok_bind l1 (ok_bind (lawlong_ok hop hr0 (by omega) B) ?_)
  rw [if_neg (by simp)]
  refine ok_bind (mulO_l (by decide) (by decide)) (ok_draw hd (by omega) (by omega) fun v2 v20 v21 => ok_pick h1 (by simpa using h2) fun z3 hz3 => ?_)
  have hz3' : 0 < z3 ∧ z3 ≤ 20 := by
    simp only [List.mem_cons, List.not_mem_nil, or_false] at hz3
    omega
  refine ok_bind (modO_pos hz3'.1) (ok_let (ok_bind (mulO_l (by decide) (by decide)) (ok_draw hd (by omega) (by omega) fun v4 v40 v41 => ok_pick h1 (by simpa using h2) fun z5 hz5 => ?_)))
  have hz5' : 0 < z5 ∧ z5 ≤ 20 := by
    simp only [List.mem_cons, List.not_mem_nil, or_false] at hz5
    omega
  have hw1 := Int.emod_nonneg v2 (show z3 ≠ 0 by omega)
  have hw2 := Int.emod_lt_of_pos v2 hz3'.1
  have hb1 := Int.emod_nonneg v4 (show z5 ≠ 0 by omega)
  have hb2 := Int.emod_lt_of_pos v4 hz5'.1
  refine ok_bind (modO_pos hz5'.1) (ok_let ?_)
  generalize hwv : 1 + v2 % z3 = w
  generalize hbv : 1 + v4 % z5 = b
  refine ok_bind (mulO_l (by omega) (by omega)) (ok_bind (fdivO_pos (by omega) (by omega)) (ok_bind (mulO_l (by decide) (by decide)) (ok_draw hd (by omega) (by omega) fun v6 v60 v61 => ok_bind (mulO_l (by decide) (by decide)) (ok_bind (modO_pos (by omega)) (ok_let (ok_let ?_))))))
  have hW : Wab w (max (0 - 1000) (min 1000 (b * xs.sum / max 1 (xs.length : Int) + v6 % (2 * b + 1) - b))) b := ⟨by omega, by omega, by omega, by omega, by omega, by omega⟩
  generalize max (0 - 1000) (min 1000 (b * xs.sum / max 1 (xs.length : Int) + v6 % (2 * b + 1) - b)) = a at hW ⊢
  refine ok_bind (fmO_eq (q := rw2 xs w a b) (g := fun x : Int × Int => x) _ (fun y _ => eq_bind (lawr_ok hW (by omega) _ _) rfl) (fun y _ _ => rfl)) ?_
  rw [List.map_id']
  refine ok_bind (fmO_eq (q := fun y : Int × Int => decide (y.2 - y.1 < 2 * w)) (g := fun x : Int × Int => x) _ (fun y _ => eq_bind (mulO_l (by decide) (by decide)) rfl) (fun y _ _ => rfl)) ?_
  rw [List.map_id', if_neg (by rw [short_iff hW]; simp)]
  refine ok_bind (told_ok hW (by omega)) ?_
  have hv : (if decide (0 < (((wins xs.length).filter (rw2 xs w a b)).length : Int)) = true then ((atI ((wins xs.length).filter (rw2 xs w a b)) 0).bind fun v_7 => some (some v_7)) else some (none : Option (Int × Int))) = some ((wins xs.length).find? (rw2 xs w a b)) := by
    rw [← List.head?_filter]
    cases (wins xs.length).filter (rw2 xs w a b) with
    | nil => rfl
    | cons y r => rw [if_pos (by simp), atI_zero]; rfl
  refine ok_bind hv (ok_bind (isO_self (by cases (wins xs.length).find? (rw2 xs w a b) <;> rfl)) ?_)
  rw [if_neg (by simp)]
  refine ok_pow20 (ok_pow20 (ok_bind (catO_ok ?_) (findO_ok (fun y _ => l4_ok hW (by omega) x y) ?_)))
  · have h3 := wins_len (n := xs.length) (by omega)
    have h4 : (everyG 2 (wins xs.length)).length ≤ (wins xs.length).length := by
      letI : Tabs := ⟨[]⟩
      have := everyG_len (k := 2) (us := (wins xs.length).map fun _ => PySem.Value.none)
      rw [everyG_map, List.length_map, List.length_map] at this
      exact this
    simp only [List.length_cons, List.length_nil]
    omega
  refine ok_bind (mulO_l (by decide) (by decide)) (ok_draw hd (by omega) (by omega) fun v9 v90 v91 => ok_bind (modO_pos (by omega)) (ok_let (ok_bind (mulO_l (by decide) (by decide)) (ok_draw hd (by omega) (by omega) fun v10 v100 v101 => ok_bind (modO_pos (by omega)) (ok_let (ok_bind (isr_ok hW (by omega) _ _) (ok_bind (lawr_ok hW (by omega) _ _) ?_)))))))
  rw [if_neg (by simp)]
  exact ok_some rfl
theorem l1_ok (hd : Draws 50 ds) (hk : 0 ≤ k ∧ k < 2) : F_law_L1 sc ds k = some none := by
  refine Ok.eq ?_
  unfold F_law_L1
  refine ok_cell (by omega) (by omega) fun c => ok_draws (by decide) (by decide) fun ps hp => ok_draw hd (by omega) (by omega) fun v v0 v1 => ok_bind (modO_pos (by decide)) (ok_pick (by omega) (by simp; omega) fun n hn => ok_draw hd (by omega) (by omega) fun v2 v20 v21 => ok_bind (modO_pos (by decide)) (ok_pick (by omega) (by simp; omega) fun wide hwd => ?_))
  have hn' : 0 ≤ n ∧ n ≤ 9 := by
    simp only [List.mem_cons, List.not_mem_nil, or_false] at hn
    omega
  have hw' : 3 ≤ wide ∧ wide ≤ 2001 := by
    simp only [List.mem_cons, List.not_mem_nil, or_false] at hwd
    omega
  refine ok_bind (rng1_pos (by omega) (by omega)) (Ok.bind (mapO_ok (R := fun _ => True) (iota 0 n.toNat) fun x hx => ?_) fun l hl => ?_)
  · have := iota_mem.mp hx
    exact ok_draw hp this.1 (by have := this.2; show x < 10; omega) fun v v0 v1 => ok_bind (modO_pos (by omega)) (ok_bind (fdivO_pos (by decide) (by decide)) (ok_some trivial))
  · obtain ⟨hll, _⟩ := hl
    rw [iota_length] at hll
    refine ok_let ?_
    have hw := wins_ok (n := l.length) (by omega)
    rw [show (l.length : Int) = n by omega] at hw
    refine ok_bind hw (ok_bind (rng2_pos (by decide) (by decide) (by decide) (by decide) (by decide)) (findO_ok (fun x hx => l2_ok (by simpa using hx) (by omega) (by omega)) (ok_bind (rng1_pos (by decide) (by decide)) (findO_ok (fun x hx => l3_ok hd (by simpa using hx) hk (by omega) (by omega) hw' (by rw [List.length_map]) (fun y hy => ?_) rfl) (ok_some rfl)))))
    obtain ⟨z, _, rfl⟩ := List.mem_map.mp hy
    omega
theorem law_ok (script : List Int) : F_law script = some true := by
  unfold F_law
  refine Ok.eq (ok_cell (by decide) (by decide) fun c => ok_draws (by decide) (by decide) fun ds hds => ok_bind (rng1_pos (by decide) (by decide)) (findO_ok (fun x hx => ?_) (ok_some rfl)))
  have := iota_mem.mp hx
  exact l1_ok hds ⟨this.1, by simpa using this.2⟩
end
end Ev
set_option maxHeartbeats 0
namespace Ev
theorem last : PySem.Challenge.rw_runwarden_k65_whole_windows_rich_or_none.Holds := finish 11 ⟨rfl, by decide, by decide⟩ fun sc ns hs hl => f_law (by decide) hs (law_ok ns)
end Ev

set_option maxHeartbeats 0
theorem PySem.Challenge.cw_runwarden_k65_whole_windows_rich_or_none_holds : PySem.Challenge.rw_runwarden_k65_whole_windows_rich_or_none.Holds := by
  exact Ev.last
