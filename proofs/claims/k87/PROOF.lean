import PyProof.Rows.All
import Wide.All
import OpenK.AllK
import Wide.FinOn
import KE.LtData
import KE.DataCmp
import KE.DataEq
import KE.DataFind
import KE.DataMinMax
import KE.DataAny
import KE.SortCalls
import HandS.ForMost
import HandS.TupAny
import HandS.IsInst
import KE.SortData
import HandS.Flow
import HandS.Defaults
import HandS.HeadEnd
import HandS.HeadHook1
import HandS.HeadHook2
import HandS.Head0
import HandS.Head1
import HandS.Head2
import PySem.Challenge.RW_runwarden_k87_whole_waits_and_prices
set_option Elab.async false
set_option linter.all false
set_option maxRecDepth 100000
set_option maxHeartbeats 4000000
/-! Ev: an evaluator of a part of Python over data, proved sound below over the hand layer. -/
namespace Ev
open PySem PySem.Spec PyProof.Rows L2

/-! ### data -/
inductive D where
  | non | bl (b : Bool) | int (i : Int) | str (s : Str) | tup (xs : List D) | lst (xs : List D) | scr (ns : List Int)
  deriving Inhabited
mutual
/-- the library's data -/
def D.py : D → PyData
  | .non => .none
  | .bl b => .bool b
  | .int i => .int i
  | .str s => .str s
  | .tup xs => .tuple (D.pys xs)
  | .lst xs => .list (D.pys xs)
  | .scr _ => .dict []
def D.pys : List D → List PyData
  | [] => []
  | x :: xs => D.py x :: D.pys xs
end
mutual
/-- nothing in it can be changed -/
def D.imm : D → Bool
  | .non | .bl _ | .int _ | .str _ => true
  | .tup xs => D.imms xs
  | .lst _ => false
  | .scr _ => false
def D.imms : List D → Bool
  | [] => true
  | x :: xs => D.imm x && D.imms xs
end
/-- it can be compared -/
def D.wf (d : D) : Bool := d.py.plain && decide (d.py.depth ≤ 60)
def wfs (ds : List D) : Bool := PyData.plainAll (D.pys ds) && decide (PyData.depthAll (D.pys ds) ≤ 60)

abbrev EnvD := List (Option D)
abbrev Oracle := Nat → List D → Option D

/-! ### operations -/
def small (i : Int) : Bool := decide (-(2 ^ 64) < i) && decide (i < 2 ^ 64)
def lineOk (n : Nat) : Bool := decide (n ≤ sizeLine)
def addD : D → D → Option D
  | .int a, .int b => some (.int (a + b))
  | .str a, .str b => if lineOk (a.length + b.length) then some (.str (a ++ b)) else none
  | .tup a, .tup b => if lineOk (a.length + b.length) then some (.tup (a ++ b)) else none
  | .lst a, .lst b => if lineOk (a.length + b.length) then some (.lst (a ++ b)) else none
  | _, _ => none
def subD : D → D → Option D
  | .int a, .int b => some (.int (a - b))
  | _, _ => none
def mulD : D → D → Option D
  | .int a, .int b => if small a || small b then some (.int (a * b)) else none
  | .lst a, .int k => if decide (-(2 ^ 63) ≤ k) && decide (k < 2 ^ 63) && lineOk (a.length * k.toNat) then some (.lst (List.replicate k.toNat a).flatten) else none
  | _, _ => none
def fdivD : D → D → Option D
  | .int a, .int b => if decide (0 < b) && decide (b < 1073741824) then some (.int (a / b)) else none
  | _, _ => none
def modD : D → D → Option D
  | .int a, .int b => if decide (0 < b) then some (.int (a % b)) else none
  | _, _ => none
def powD : D → D → Option D
  | .int a, .int b => if decide (0 ≤ b) && decide (b ≤ 1000000) && decide (a.natAbs < 2 ^ 64) then some (.int (a ^ b.toNat)) else none
  | _, _ => none
def binD : Operator → D → D → Option D
  | .Add => addD
  | .Sub => subD
  | .Mult => mulD
  | .FloorDiv => fdivD
  | .Mod => modD
  | .Pow => powD
  | _ => fun _ _ => none
def negD : D → Option D
  | .int a => some (.int (-a))
  | _ => none

def eqD (x y : D) : Option Bool := if x.wf && y.wf then some (PyData.eqv x.py y.py) else none
def ltD (x y : D) : Option Bool := if PySem.W.alike x.py y.py && x.wf && y.wf && !(match x with | .non => true | _ => false) then some (PySem.W.dataLt x.py y.py) else none
def memD (x c : D) : Option Bool := match c with
  | .tup ys => if x.wf && wfs ys then some (ys.any fun y => PyData.eqv y.py x.py) else none
  | .lst ys => if x.wf && wfs ys then some (ys.any fun y => PyData.eqv y.py x.py) else none
  | .str t => (match x with | .str s => some (!(Builtin.Str.occurrences t s 0 t.length 1).isEmpty) | _ => none)
  | _ => none
def isNon : D → Bool
  | .non => true
  | _ => false
def cmpD : CmpOp → D → D → Option Bool
  | .Eq, x, y => eqD x y
  | .NotEq, x, y => (eqD x y).map (!·)
  | .Lt, x, y => ltD x y
  | .Gt, x, y => if PySem.W.alike x.py y.py then ltD y x else none
  | .LtE, x, y => if PySem.W.alike x.py y.py then (ltD y x).map (!·) else none
  | .GtE, x, y => (ltD x y).map (!·)
  | .In, x, y => memD x y
  | .NotIn, x, y => (memD x y).map (!·)
  | .Is, x, y => if isNon y then some (isNon x) else none
  | .IsNot, x, y => if isNon y then some (!isNon x) else none
def truthD : D → Option Bool
  | .non => some false
  | .bl b => some b
  | .int i => some (i != 0)
  | .tup xs => some (!xs.isEmpty)
  | .lst xs => some (!xs.isEmpty)
  | _ => none
def ixD : D → D → Option D
  | .tup xs, .int i => atI xs i
  | .lst xs, .int i => atI xs i
  | .scr ns, .int i => (atI ns i).map .int
  | .str s, .int i => if lineOk s.length then (atI s.cps.toList i).map fun c => .str ⟨#[c]⟩ else none
  | _, _ => none
def cutL (xs : List D) (lo hi : Option Int) : List D := (xs.drop (HT.sIx xs.length 0 lo)).take (HT.sIx xs.length xs.length hi - HT.sIx xs.length 0 lo)
def slD : D → Option Int → Option Int → Option D
  | .tup xs, lo, hi => some (.tup (cutL xs lo hi))
  | .lst xs, lo, hi => some (.lst (cutL xs lo hi))
  | _, _, _ => none
def intOf : D → Option Int
  | .int i => some i
  | _ => none
def boolOf : D → Option Bool
  | .bl b => some b
  | _ => none

/-! ### built-ins -/
inductive BF where
  | len | abs | int | min | max | sum | sorted | tuple | list | all | any
  deriving DecidableEq
inductive Ty where
  | int | bool | str | tuple
  deriving DecidableEq
def mapO {α β : Type} (f : α → Option β) : List α → Option (List β)
  | [] => some []
  | x :: xs => (f x).bind fun y => (mapO f xs).bind fun ys => some (y :: ys)
def itemsD : D → Option (List D)
  | .tup xs => some xs
  | .lst xs => some xs
  | _ => none
def allAlike (xs : List D) : Bool := xs.all fun x => xs.all fun y => PySem.W.alike x.py y.py
/-- the first of the least -/
def minL : D → List D → D
  | m, [] => m
  | m, x :: xs => minL (if PySem.W.dataLt x.py m.py then x else m) xs
def maxL : D → List D → D
  | m, [] => m
  | m, x :: xs => maxL (if PySem.W.dataLt m.py x.py then x else m) xs
/-- all are tuples with an item, or none is a tuple or None -/
def fullTup : D → Bool
  | .tup (_ :: _) => true
  | _ => false
def noTup : D → Bool
  | .tup _ => false
  | .non => false
  | _ => true
def sortable (xs : List D) : Bool := xs.all fullTup || xs.all noTup
def leD (x y : D) : Bool := !PySem.W.dataLt y.py x.py
def lenD : D → Option D
  | .tup xs => some (.int xs.length)
  | .lst xs => some (.int xs.length)
  | .scr ns => some (.int ns.length)
  | .str s => if lineOk s.length then some (.int s.length) else none
  | _ => none
def bf1 : BF → D → Option D
  | .len, x => lenD x
  | .abs, .int i => some (.int (if i < 0 then -i else i))
  | .int, .int i => some (.int i)
  | .int, .bl b => some (.int (if b then 1 else 0))
  | .sum, .lst xs => (mapO intOf xs).bind fun ns => some (.int ns.sum)
  | .all, .lst xs => (mapO boolOf xs).bind fun bs => some (.bl (bs.all id))
  | .any, .lst xs => (mapO boolOf xs).bind fun bs => some (.bl (bs.any id))
  | .tuple, .tup xs => some (.tup xs)
  | .tuple, .lst xs => some (.tup xs)
  | .list, .tup xs => some (.lst xs)
  | .list, .lst xs => some (.lst xs)
  | .min, x => (itemsD x).bind fun xs => (match xs with
    | [] => none
    | y :: ys => if allAlike xs && wfs xs && !xs.any isNon && D.imms xs then some (minL y ys) else none)
  | .max, x => (itemsD x).bind fun xs => (match xs with
    | [] => none
    | y :: ys => if allAlike xs && wfs xs && !xs.any isNon && D.imms xs then some (maxL y ys) else none)
  | .sorted, .lst xs => if allAlike xs && wfs xs && sortable xs then some (.lst (xs.mergeSort leD)) else none
  | _, _ => none
def bf2 : BF → D → D → Option D
  | .min, .int i, .int j => some (.int (if j < i then j else i))
  | .max, .int i, .int j => some (.int (if j > i then j else i))
  | _, _, _ => none
def bfD (f : BF) : List D → Option D
  | [x] => bf1 f x
  | [x, y] => bf2 f x y
  | _ => none
def tyD : D → Option String
  | .non => some "NoneType"
  | .bl _ => some "bool"
  | .int _ => some "int"
  | .str _ => some "str"
  | .tup _ => some "tuple"
  | .lst _ => some "list"
  | .scr _ => none
def Ty.nm : Ty → String
  | .int => "int"
  | .bool => "bool"
  | .str => "str"
  | .tuple => "tuple"
def isinT (t : Ty) (d : D) : Bool := match t, d with
  | .int, .int _ => true
  | .int, .bl _ => true
  | .bool, .bl _ => true
  | .str, .str _ => true
  | .tuple, .tup _ => true
  | _, _ => false
def isinD (t : Ty) (d : D) : Option Bool := match d with
  | .scr _ => none
  | d => some (isinT t d)

/-! ### syntax -/
inductive Tg where
  | nm (i : Nat) | tup (ts : List Nat)
mutual
inductive E where
  | var (i : Nat) | cst (d : D)
  | bin (op : Operator) (a b : E) | neg (a : E) | not (a : E) | and (a b : E) | or (a b : E)
  | cmp (op : CmpOp) (a b : E) | chain (op op' : CmpOp) (a b c : E) | ite (c a b : E)
  | tup (es : List E) | lst (es : List E) | ix (a b : E) | sl (a : E) (lo hi : Option E)
  | bf (f : BF) (es : List E) | isin (a : E) (t : Ty) | call (f : Nat) (es : List E)
  | comp (elt : E) (vs : List Nat) (tg : Tg) (it : It) (c : Option E)
inductive It where
  | seq (a : E) | rng (es : List E) | enm (a : E) | zip (a b : E)
end
instance : Inhabited E := ⟨.var 0⟩
def wipe {α : Type} (ρ : List (Option α)) : List Nat → List (Option α)
  | [] => ρ
  | v :: vs => (wipe ρ vs).set v none
def bindT : Tg → D → EnvD → Option EnvD
  | .nm i, d, ρ => some (ρ.set i (some d))
  | .tup ts, .tup ds, ρ => if ts.length = ds.length then some ((ts.zip ds).foldl (fun r p => r.set p.1 (some p.2)) ρ) else none
  | _, _, _ => none
def intsFrom (lo : Int) (n : Nat) : List D := (List.range n).map fun (k : Nat) => .int (lo + (k : Int))
def rangeD : List D → Option (List D)
  | [.int n] => if decide (-(2 ^ 62) ≤ n) && decide (n < 2 ^ 62) && lineOk n.toNat then some (intsFrom 0 n.toNat) else none
  | [.int a, .int b] => if decide (-(2 ^ 62) ≤ a) && decide (a < 2 ^ 62) && decide (-(2 ^ 62) ≤ b) && decide (b < 2 ^ 62) && lineOk (b - a).toNat then some (intsFrom a (b - a).toNat) else none
  | _ => none
def enumD (xs : List D) : List D := List.zipWith (fun (k : Nat) x => .tup [.int (k : Int), x]) (List.range xs.length) xs
def zipD (xs ys : List D) : List D := List.zipWith (fun x y => .tup [x, y]) xs ys
/-- the items that a comprehension keeps -/
def compL (f : D → Option (Option D)) : List D → Option (List D)
  | [] => some []
  | x :: xs => (f x).bind fun o => (compL f xs).bind fun ys => some (match o with
    | some y => y :: ys
    | none => ys)
mutual
def evE (C : Oracle) (ρ : EnvD) : E → Option D
  | .var i => ρ[i]?.bind id
  | .cst d => some d
  | .bin op a b => (evE C ρ a).bind fun x => (evE C ρ b).bind fun y => binD op x y
  | .neg a => (evE C ρ a).bind negD
  | .not a => (evE C ρ a).bind fun x => (truthD x).bind fun b => some (.bl !b)
  | .and a b => (evE C ρ a).bind fun x => (truthD x).bind fun k => if k then evE C ρ b else some x
  | .or a b => (evE C ρ a).bind fun x => (truthD x).bind fun k => if k then some x else evE C ρ b
  | .cmp op a b => (evE C ρ a).bind fun x => (evE C ρ b).bind fun y => (cmpD op x y).bind fun k => some (.bl k)
  | .chain op op' a b c => (evE C ρ a).bind fun x => (evE C ρ b).bind fun y => (cmpD op x y).bind fun k =>
      if k then (evE C ρ c).bind fun z => (cmpD op' y z).bind fun k' => some (.bl k') else some (.bl false)
  | .ite c a b => (evE C ρ c).bind fun x => (truthD x).bind fun k => if k then evE C ρ a else evE C ρ b
  | .tup es => (evEs C ρ es).bind fun ds => if lineOk ds.length then some (.tup ds) else none
  | .lst es => (evEs C ρ es).bind fun ds => if lineOk ds.length then some (.lst ds) else none
  | .ix a b => (evE C ρ a).bind fun x => (evE C ρ b).bind fun y => ixD x y
  | .sl a lo hi => (evE C ρ a).bind fun x => (evO C ρ lo).bind fun l => (evO C ρ hi).bind fun h => slD x l h
  | .bf f es => (evEs C ρ es).bind fun ds => bfD f ds
  | .isin a t => (evE C ρ a).bind fun x => (isinD t x).bind fun k => some (.bl k)
  | .call f es => (evEs C ρ es).bind fun ds => C f ds
  | .comp elt vs tg it c => (evI C ρ it).bind fun xs => (compL (fun x => (bindT tg x (wipe ρ vs)).bind fun ρ' =>
      (evC C ρ' c).bind fun k => if k then (evE C ρ' elt).bind fun y => some (some y) else some none) xs).bind fun ys => some (.lst ys)
/-- as something walked -/
def evI (C : Oracle) (ρ : EnvD) : It → Option (List D)
  | .seq e => (evE C ρ e).bind itemsD
  | .rng es => (evEs C ρ es).bind rangeD
  | .enm a => (evE C ρ a).bind fun x => (itemsD x).bind fun xs => some (enumD xs)
  | .zip a b => (evE C ρ a).bind fun x => (evE C ρ b).bind fun y => (itemsD x).bind fun xs => (itemsD y).bind fun ys => some (zipD xs ys)
def evC (C : Oracle) (ρ : EnvD) : Option E → Option Bool
  | none => some true
  | some e => (evE C ρ e).bind truthD
def evO (C : Oracle) (ρ : EnvD) : Option E → Option (Option Int)
  | none => some none
  | some e => (evE C ρ e).bind fun d => (intOf d).bind fun i => some (some i)
def evEs (C : Oracle) (ρ : EnvD) : List E → Option (List D)
  | [] => some []
  | e :: es => (evE C ρ e).bind fun d => (evEs C ρ es).bind fun ds => some (d :: ds)
end
end Ev
set_option maxHeartbeats 4000000
namespace Ev
open PySem PySem.Spec PyProof.Rows L2

/-! ### data in the abstract heap -/
/-- the script: locked, or of the written part -/
def SqF (K : PySem.W.Frag) (H : Hp) (a : Addr) (xs : List V) : Prop := (∃ o, H a = some (.frz o (.lst xs))) ∨
    ∃ (o : Obj) (its : Array Value) (n : Nat), K.lookup a = some o ∧ o.cls = .type "list" ∧ o.dict = none ∧ o.data = .seq its n ∧ its.size ≤ sizeLine ∧ Vals xs its.toList
theorem SqF.sq {K : PySem.W.Frag} {H : Hp} {a : Addr} {xs : List V} (h : SqF K H a xs) : SqL K H a xs := by
  rcases h with h | h
  · exact .inl (.inr h)
  · exact .inr h
mutual
/-- v is the datum d in H; the lists within stand at addresses of P -/
inductive Rep (K : PySem.W.Frag) (H : Hp) : (Addr → Prop) → V → D → Prop
  | non {P : Addr → Prop} : Rep K H P .non .non
  | bl {P : Addr → Prop} (b : Bool) : Rep K H P (.bl b) (.bl b)
  | int {P : Addr → Prop} (i : Int) : Rep K H P (.int i) (.int i)
  | str {P : Addr → Prop} (x : Str) : Rep K H P (.str x) (.str x)
  | tup {P : Addr → Prop} {a : Addr} {vs : List V} {ds : List D} : SqT K H a vs → Reps K H P vs ds → Rep K H P (.ref a) (.tup ds)
  | lst {P : Addr → Prop} {a : Addr} {vs : List V} {ds : List D} : P a → H a = some (.lst vs) → Reps K H (fun b => P b ∧ b ≠ a) vs ds → Rep K H P (.ref a) (.lst ds)
  | scr {P : Addr → Prop} {a : Addr} {ns : List Int} : SqF K H a (ns.map V.int) → Rep K H P (.ref a) (.scr ns)
inductive Reps (K : PySem.W.Frag) (H : Hp) : (Addr → Prop) → List V → List D → Prop
  | nil {P : Addr → Prop} : Reps K H P [] []
  | cons {P : Addr → Prop} {v : V} {vs : List V} {d : D} {ds : List D} : Rep K H P v d → Reps K H P vs ds → Reps K H P (v :: vs) (d :: ds)
end
def Any : Addr → Prop := fun _ => True
/-- what was not there in H -/
def New (H : Hp) : Addr → Prop := fun a => H a = none
/-- all that was there stands as it was (tables may grow) -/
structure Ext (H H' : Hp) : Prop where
  at_ : ∀ a o, H a = some o → (∀ ps, o ≠ .tbl ps) → H' a = some o
  tb : ∀ a ps, H a = some (.tbl ps) → ∃ more, H' a = some (.tbl (ps ++ more))
theorem Ext.refl (H : Hp) : Ext H H := ⟨fun _ _ h _ => h, fun a ps h => ⟨#[], by rw [h]; simp⟩⟩
theorem Ext.trans {H H1 H2 : Hp} (a : Ext H H1) (b : Ext H1 H2) : Ext H H2 :=
  ⟨fun x o h n => b.at_ x o (a.at_ x o h n) n, fun x ps h => by
    obtain ⟨m, e⟩ := a.tb x ps h
    obtain ⟨m2, e2⟩ := b.tb x _ e
    exact ⟨m ++ m2, by rw [e2, Array.append_assoc]⟩⟩
theorem Ext.new {H : Hp} {p : Addr} {o : HO} (h : H p = none) : Ext H (upd H p o) :=
  ⟨fun a u e _ => by rw [upd_ne (ne_of_none e h)]; exact e, fun a ps e => ⟨#[], by rw [upd_ne (ne_of_none e h), e]; simp⟩⟩
theorem Ext.none {H H' : Hp} (e : Ext H H') {a : Addr} (h : H' a = none) : H a = none := by
  cases q : H a with
  | none => rfl
  | some o =>
    cases o with
    | tbl ps => obtain ⟨m, z⟩ := e.tb a ps q; rw [z] at h; cases h
    | _ => rw [e.at_ a _ q (fun _ z => by cases z)] at h; cases h
/-- tuples and frozen things stay -/
structure Stay (P : Addr → Prop) (H H' : Hp) : Prop where
  tup : ∀ a xs, H a = some (.tup xs) → H' a = some (.tup xs)
  frz : ∀ a o u, H a = some (.frz o u) → H' a = some (.frz o u)
  lst : ∀ a xs, P a → H a = some (.lst xs) → H' a = some (.lst xs)
theorem Ext.stay {H H' : Hp} (e : Ext H H') (P : Addr → Prop) : Stay P H H' :=
  ⟨fun a xs h => e.at_ a _ h (fun _ z => by cases z), fun a o u h => e.at_ a _ h (fun _ z => by cases z), fun a xs _ h => e.at_ a _ h (fun _ z => by cases z)⟩
theorem sqT_stay {K : PySem.W.Frag} {H H' : Hp} {P : Addr → Prop} {a : Addr} {xs : List V} (h : SqT K H a xs) (s : Stay P H H') : SqT K H' a xs := by
  rcases h with (h | ⟨o, h⟩) | h
  · exact .inl (.inl (s.tup _ _ h))
  · exact .inl (.inr ⟨o, s.frz _ _ _ h⟩)
  · exact .inr h
theorem sqF_stay {K : PySem.W.Frag} {H H' : Hp} {P : Addr → Prop} {a : Addr} {xs : List V} (h : SqF K H a xs) (s : Stay P H H') : SqF K H' a xs := by
  rcases h with ⟨o, h⟩ | h
  · exact .inl ⟨o, s.frz _ _ _ h⟩
  · exact .inr h
theorem Stay.sub {P P' : Addr → Prop} {H H' : Hp} (s : Stay P H H') (h : ∀ a, P' a → P a) : Stay P' H H' := ⟨s.tup, s.frz, fun a xs p e => s.lst a xs (h a p) e⟩
mutual
theorem Rep.stay {K : PySem.W.Frag} {H H' : Hp} : ∀ {P Q : Addr → Prop} {v : V} {d : D}, Stay P H H' → (∀ a, P a → Q a) → Rep K H P v d → Rep K H' Q v d
  | _, _, _, _, _, _, .non => .non
  | _, _, _, _, _, _, .bl b => .bl b
  | _, _, _, _, _, _, .int i => .int i
  | _, _, _, _, _, _, .str x => .str x
  | _, _, _, _, s, hq, .tup h r => .tup (sqT_stay h s) (Reps.stay s hq r)
  | _, _, _, _, s, hq, .lst p h r => .lst (hq _ p) (s.lst _ _ p h) (Reps.stay (s.sub fun _ z => z.1) (fun _ z => ⟨hq _ z.1, z.2⟩) r)
  | _, _, _, _, s, hq, .scr h => .scr (sqF_stay h s)
theorem Reps.stay {K : PySem.W.Frag} {H H' : Hp} : ∀ {P Q : Addr → Prop} {vs : List V} {ds : List D}, Stay P H H' → (∀ a, P a → Q a) → Reps K H P vs ds → Reps K H' Q vs ds
  | _, _, _, _, _, _, .nil => .nil
  | _, _, _, _, s, hq, .cons r t => .cons (Rep.stay s hq r) (Reps.stay s hq t)
end
section
variable {K : PySem.W.Frag} {H H' : Hp} {P Q : Addr → Prop} {v : V} {vs : List V} {d : D} {ds : List D}
theorem stay_refl : Stay P H H := (Ext.refl H).stay P
theorem Rep.stay' (r : Rep K H P v d) (s : Stay P H H') (hq : ∀ a, P a → Q a) : Rep K H' Q v d := Rep.stay s hq r
theorem Reps.stay' (r : Reps K H P vs ds) (s : Stay P H H') (hq : ∀ a, P a → Q a) : Reps K H' Q vs ds := Reps.stay s hq r
theorem Rep.ext (r : Rep K H P v d) (e : Ext H H') : Rep K H' P v d := r.stay' (e.stay P) fun _ p => p
theorem Reps.ext (r : Reps K H P vs ds) (e : Ext H H') : Reps K H' P vs ds := r.stay' (e.stay P) fun _ p => p
theorem Rep.mono (r : Rep K H P v d) (h : ∀ a, P a → Q a) : Rep K H Q v d := r.stay' stay_refl h
theorem Reps.mono (r : Reps K H P vs ds) (h : ∀ a, P a → Q a) : Reps K H Q vs ds := r.stay' stay_refl h
theorem Rep.any (r : Rep K H P v d) : Rep K H Any v d := r.mono fun _ _ => trivial
theorem Reps.any (r : Reps K H P vs ds) : Reps K H Any vs ds := r.mono fun _ _ => trivial
end
mutual
theorem Rep.there {K : PySem.W.Frag} {H : Hp} : ∀ {P : Addr → Prop} {v : V} {d : D}, Rep K H P v d → Rep K H (fun a => P a ∧ H a ≠ none) v d
  | _, _, _, .non => .non
  | _, _, _, .bl b => .bl b
  | _, _, _, .int i => .int i
  | _, _, _, .str x => .str x
  | _, _, _, .tup h r => .tup h (Reps.there r)
  | _, _, _, .lst p h r => .lst ⟨p, by rw [h]; simp⟩ h (Reps.stay stay_refl (fun _ z => ⟨⟨z.1.1, z.2⟩, z.1.2⟩) (Reps.there r))
  | _, _, _, .scr h => .scr h
theorem Reps.there {K : PySem.W.Frag} {H : Hp} : ∀ {P : Addr → Prop} {vs : List V} {ds : List D}, Reps K H P vs ds → Reps K H (fun a => P a ∧ H a ≠ none) vs ds
  | _, _, _, .nil => .nil
  | _, _, _, .cons r t => .cons (Rep.there r) (Reps.there t)
end
mutual
/-- what cannot be changed stands anywhere -/
theorem Rep.imm0 {K : PySem.W.Frag} {H H' : Hp} : ∀ {P Q R : Addr → Prop} {v : V} {d : D}, Stay R H H' → Rep K H P v d → d.imm = true → Rep K H' Q v d
  | _, _, _, _, _, s, .non, _ => .non
  | _, _, _, _, _, s, .bl b, _ => .bl b
  | _, _, _, _, _, s, .int i, _ => .int i
  | _, _, _, _, _, s, .str x, _ => .str x
  | _, _, _, _, _, s, .tup h r, e => .tup (sqT_stay h s) (Reps.imm0 s r (by simpa [D.imm] using e))
  | _, _, _, _, _, s, .lst _ _ _, e => absurd e (by simp [D.imm])
  | _, _, _, _, _, s, .scr _, e => absurd e (by simp [D.imm])
theorem Reps.imm0 {K : PySem.W.Frag} {H H' : Hp} : ∀ {P Q R : Addr → Prop} {vs : List V} {ds : List D}, Stay R H H' → Reps K H P vs ds → D.imms ds = true → Reps K H' Q vs ds
  | _, _, _, _, _, s, .nil, _ => .nil
  | _, _, _, _, _, s, .cons r t, e => by
    simp only [D.imms, Bool.and_eq_true] at e
    exact .cons (Rep.imm0 s r e.1) (Reps.imm0 s t e.2)
end
theorem Rep.imm {K : PySem.W.Frag} {H H' : Hp} {P Q R : Addr → Prop} (s : Stay R H H') {v : V} {d : D} (r : Rep K H P v d) (h : d.imm = true) : Rep K H' Q v d := Rep.imm0 s r h
theorem Reps.imm {K : PySem.W.Frag} {H H' : Hp} {P Q R : Addr → Prop} (s : Stay R H H') {vs : List V} {ds : List D} (r : Reps K H P vs ds) (h : D.imms ds = true) : Reps K H' Q vs ds := Reps.imm0 s r h
mutual
/-- .. as the library's data -/
theorem Rep.dp {K : PySem.W.Frag} {H : Hp} : ∀ {P : Addr → Prop} {v : V} {d : D}, Rep K H P v d → d.py.plain = true → Dp K H v d.py
  | _, _, _, .non, _ => by rw [D.py]; exact .non
  | _, _, _, .bl b, _ => by rw [D.py]; exact .bl b
  | _, _, _, .int i, _ => by rw [D.py]; exact .int i
  | _, _, _, .str x, _ => by rw [D.py]; exact .str x
  | _, _, _, .tup h r, e => by
    rw [D.py] at e ⊢
    exact .tup h (Reps.dps r (by simpa [PyData.plain] using e))
  | _, _, _, .lst _ h r, e => by
    rw [D.py] at e ⊢
    exact .lst (SqL.of h) (Reps.dps r (by simpa [PyData.plain] using e))
  | _, _, _, .scr _, e => by
    rw [D.py] at e
    exact absurd e (by simp [PyData.plain])
theorem Reps.dps {K : PySem.W.Frag} {H : Hp} : ∀ {P : Addr → Prop} {vs : List V} {ds : List D}, Reps K H P vs ds → PyData.plainAll (D.pys ds) = true → DpAll K H vs (D.pys ds)
  | _, _, _, .nil, _ => by rw [D.pys]; exact .nil
  | _, _, _, .cons r t, e => by
    rw [D.pys] at e ⊢
    simp only [PyData.plainAll, Bool.and_eq_true] at e
    exact .cons (Rep.dp r e.1) (Reps.dps t e.2)
end
section
variable {K : PySem.W.Frag} {H H' : Hp} {P Q : Addr → Prop} {v : V} {vs ws : List V} {d : D} {ds es : List D}
theorem Reps.length : ∀ {vs : List V} {ds : List D}, Reps K H P vs ds → vs.length = ds.length
  | _, _, .nil => rfl
  | _, _, .cons _ t => by simp [t.length]
theorem Reps.get : ∀ {vs : List V} {ds : List D} {i : Nat} {d : D}, Reps K H P vs ds → ds[i]? = some d → ∃ v, vs[i]? = some v ∧ Rep K H P v d
  | _, _, _, _, .nil, e => by simp at e
  | _, _, 0, _, .cons r _, e => by simp at e; subst e; exact ⟨_, rfl, r⟩
  | _, _, i + 1, d, .cons _ t, e => by
    obtain ⟨v, h1, h2⟩ := Reps.get (i := i) (d := d) t (by simpa using e)
    exact ⟨v, by simpa using h1, h2⟩
theorem Reps.getV : ∀ {vs : List V} {ds : List D} {i : Nat} {v : V}, Reps K H P vs ds → vs[i]? = some v → ∃ d, ds[i]? = some d ∧ Rep K H P v d
  | _, _, _, _, .nil, e => by simp at e
  | _, _, 0, _, .cons r _, e => by simp at e; subst e; exact ⟨_, rfl, r⟩
  | _, _, i + 1, v, .cons _ t, e => by
    obtain ⟨d, h1, h2⟩ := Reps.getV (i := i) (v := v) t (by simpa using e)
    exact ⟨d, by simpa using h1, h2⟩
theorem Reps.append : ∀ {vs ws : List V} {ds es : List D}, Reps K H P vs ds → Reps K H P ws es → Reps K H P (vs ++ ws) (ds ++ es)
  | _, _, _, _, .nil, s => s
  | _, _, _, _, .cons r t, s => .cons r (Reps.append t s)
theorem Reps.take : ∀ {vs : List V} {ds : List D} (n : Nat), Reps K H P vs ds → Reps K H P (vs.take n) (ds.take n)
  | _, _, 0, _ => by simp; exact .nil
  | _, _, _ + 1, .nil => by simp; exact .nil
  | _, _, n + 1, .cons r t => by simp; exact .cons r (Reps.take n t)
theorem Reps.drop : ∀ {vs : List V} {ds : List D} (n : Nat), Reps K H P vs ds → Reps K H P (vs.drop n) (ds.drop n)
  | _, _, 0, r => r
  | _, _, _ + 1, .nil => by simp; exact .nil
  | _, _, n + 1, .cons _ t => by simp; exact Reps.drop n t
theorem Reps.set {x : V} {y : D} (r : Rep K H P x y) : ∀ {vs : List V} {ds : List D} (i : Nat), Reps K H P vs ds → Reps K H P (vs.set i x) (ds.set i y)
  | _, _, _, .nil => by simp; exact .nil
  | _, _, 0, .cons _ t => .cons r t
  | _, _, i + 1, .cons q t => .cons q (Reps.set r i t)
theorem Reps.rep {vs : List V} {ds : List D} (r : Reps K H P vs ds) : ∀ n : Nat, Reps K H P (List.replicate n vs).flatten (List.replicate n ds).flatten
  | 0 => by simp; exact .nil
  | n + 1 => by simp only [List.replicate_succ, List.flatten_cons]; exact r.append (Reps.rep r n)
theorem Reps.ints : ∀ {vs : List V} {ds : List D} {ns : List Int}, Reps K H P vs ds → mapO intOf ds = some ns → vs = ns.map V.int
  | _, _, _, .nil, e => by simp [mapO] at e; subst e; rfl
  | _, _, ns, .cons (d := d) (ds := ds) r t, e => by
    simp only [mapO, Option.bind_eq_some_iff] at e
    obtain ⟨i, h1, ms, h2, h3⟩ := e
    cases h3
    have hd : d = .int i := by cases d <;> simp_all [intOf]
    subst hd
    cases r
    rw [t.ints h2]; rfl
theorem Reps.bls : ∀ {vs : List V} {ds : List D} {ns : List Bool}, Reps K H P vs ds → mapO boolOf ds = some ns → vs = ns.map V.bl
  | _, _, _, .nil, e => by simp [mapO] at e; subst e; rfl
  | _, _, ns, .cons (d := d) (ds := ds) r t, e => by
    simp only [mapO, Option.bind_eq_some_iff] at e
    obtain ⟨i, h1, ms, h2, h3⟩ := e
    cases h3
    have hd : d = .bl i := by cases d <;> simp_all [boolOf]
    subst hd
    cases r
    rw [t.bls h2]; rfl
theorem Rep.int_inv {i : Int} (r : Rep K H P v (.int i)) : v = .int i := by cases r; rfl
theorem Rep.bl_inv {b : Bool} (r : Rep K H P v (.bl b)) : v = .bl b := by cases r; rfl
theorem Rep.str_inv {b : Str} (r : Rep K H P v (.str b)) : v = .str b := by cases r; rfl
theorem Rep.non_inv (r : Rep K H P v .non) : v = .non := by cases r; rfl
theorem Rep.tup_inv (r : Rep K H P v (.tup ds)) : ∃ a vs, v = .ref a ∧ SqT K H a vs ∧ Reps K H P vs ds := by
  cases r with
  | tup h r => exact ⟨_, _, rfl, h, r⟩
theorem Rep.lst_inv (r : Rep K H P v (.lst ds)) : ∃ a vs, v = .ref a ∧ P a ∧ H a = some (.lst vs) ∧ Reps K H P vs ds := by
  cases r with
  | lst p h r => exact ⟨_, _, rfl, p, h, r.mono fun _ z => z.1⟩
theorem Rep.lst_inv' (r : Rep K H P v (.lst ds)) : ∃ a vs, v = .ref a ∧ P a ∧ H a = some (.lst vs) ∧ Reps K H (fun b => P b ∧ b ≠ a) vs ds := by
  cases r with
  | lst p h r => exact ⟨_, _, rfl, p, h, r⟩
theorem Rep.scr_inv {ns : List Int} (r : Rep K H P v (.scr ns)) : ∃ a, v = .ref a ∧ SqF K H a (ns.map V.int) := by
  cases r with
  | scr h => exact ⟨_, rfl, h⟩
end
def D.imm1 : D → Bool
  | .lst ds => D.imms ds
  | d => d.imm
/-- what is wanted of a result d: the heap has grown, d stands at old places of P or new ones -/
def Res (K : PySem.W.Frag) (H : Hp) (P : Addr → Prop) (d : D) (Q : VK) : Prop :=
  ∀ v H', Ext H H' → Rep K H' (fun a => P a ∨ H a = none) v d → (d.imm1 = true → Rep K H' (New H) v d) → Q v H'
section
variable {K : PySem.W.Frag} {H H1 H' : Hp} {P Q' : Addr → Prop} {v : V} {vs ws : List V} {d : D} {ds es : List D} {Q : VK}
theorem Res.here (q : Res K H P d Q) (r : Rep K H P v d) (i : d.imm = true) : Q v H :=
  q v H (Ext.refl H) (r.mono fun _ p => .inl p) fun _ => r.imm (R := P) stay_refl i
theorem Res.atom (q : Res K H P d Q) (r : ∀ P', Rep K H P' v d) : Q v H := q v H (Ext.refl H) (r _) fun _ => r _
theorem Res.bl {b : Bool} (q : Res K H P (.bl b) Q) : Q (.bl b) H := q.atom fun _ => .bl b
theorem Res.int {i : Int} (q : Res K H P (.int i) Q) : Q (.int i) H := q.atom fun _ => .int i
theorem Res.str {i : Str} (q : Res K H P (.str i) Q) : Q (.str i) H := q.atom fun _ => .str i
theorem Res.old (q : Res K H P d Q) (r : Rep K H P v d) (i : d.imm1 = true → d.imm = true) : Q v H :=
  q v H (Ext.refl H) (r.mono fun _ p => .inl p) fun z => r.imm (R := P) stay_refl (i z)
theorem Res.tup (q : Res K H P (.tup ds) Q) (r : Reps K H P vs ds) {p : Addr} (hp : H p = none) : Q (.ref p) (upd H p (.tup vs)) := by
  have e : Ext H (upd H p (.tup vs)) := .new hp
  refine q _ _ e (.tup (SqT.of upd_same) ((r.ext e).mono fun _ z => .inl z)) fun z => .tup (SqT.of upd_same) (r.imm (e.stay P) ?_)
  simpa [D.imm1, D.imm] using z
theorem Res.lst (q : Res K H P (.lst ds) Q) (r : Reps K H P vs ds) {p : Addr} (hp : H p = none) : Q (.ref p) (upd H p (.lst vs)) := by
  have e : Ext H (upd H p (.lst vs)) := .new hp
  refine q _ _ e (.lst (.inr hp) upd_same ((r.there.ext e).mono fun b z => ⟨.inl z.1, fun q => by rw [q] at z; exact z.2 hp⟩)) fun z => .lst hp upd_same (r.imm (e.stay P) ?_)
  simpa [D.imm1] using z
theorem Res.ext (q : Res K H P d Q) (e : Ext H H1) : Res K H1 P d Q := fun v H' e' r f =>
  q v H' (e.trans e') (r.mono fun _ z => z.imp id fun z => e.none z) fun i => (f i).mono fun _ z => e.none z
end
end Ev
set_option maxHeartbeats 4000000
namespace Ev
open PySem PySem.Spec PySem.SeqAt PyProof.Rows L2
section
variable {X : Cx}
def rB (K : PySem.W.Frag) (f : D → D → Option D) : R2 := fun x y H Q => ∃ P dx dy d, Rep K H P x dx ∧ Rep K H P y dy ∧ f dx dy = some d ∧ Res K H P d Q
def rC (K : PySem.W.Frag) (f : D → D → Option Bool) : R2 := fun x y H Q => ∃ P dx dy k, Rep K H P x dx ∧ Rep K H P y dy ∧ f dx dy = some k ∧ Q (.bl k) H
theorem lineOk_iff {n : Nat} : lineOk n = true ↔ n ≤ sizeLine := by simp [lineOk]
theorem ite_some {α : Type} {c : Prop} [Decidable c] {a b : α} (h : (if c then some a else none) = some b) : c ∧ a = b := by
  by_cases hc : c
  · rw [if_pos hc] at h; exact ⟨hc, Option.some.inj h⟩
  · rw [if_neg hc] at h; cases h
theorem ite_some' {α : Type} {c : Prop} [Decidable c] {a : Option α} {b : α} (h : (if c then a else none) = some b) : c ∧ a = some b := by
  by_cases hc : c
  · rw [if_pos hc] at h; exact ⟨hc, h⟩
  · rw [if_neg hc] at h; cases h
theorem small_mul {a b : Int} (h : (small a || small b) = true) : CMul a b := by
  simp only [small, Bool.or_eq_true, Bool.and_eq_true, decide_eq_true_eq] at h
  exact h
theorem op_addD : OpR X (binaryOp .Add) (rB X.K addD) := by
  intro pins s σ H x y v u Q I rx ry h
  obtain ⟨P, dx, dy, d, r1, r2, e, q⟩ := h
  unfold addD at e
  split at e
  · cases e
    exact op_add pins s σ H x y v u Q I rx ry ⟨_, _, r1.int_inv, r2.int_inv, q.int⟩
  · obtain ⟨hc, rfl⟩ := ite_some e
    exact op_add_str pins s σ H x y v u Q I rx ry ⟨_, _, r1.str_inv, r2.str_inv, lineOk_iff.mp hc, q.str⟩
  · obtain ⟨hc, rfl⟩ := ite_some e
    obtain ⟨a1, vs, rfl, h1, s1⟩ := r1.tup_inv
    obtain ⟨a2, ws, rfl, h2, s2⟩ := r2.tup_inv
    have hz := lineOk_iff.mp hc
    refine op_catA pins s σ H _ _ v u Q I rx ry ⟨a1, a2, vs, ws, rfl, rfl, h1, h2, by rw [s1.length, s2.length]; exact hz, fun e => ?_, fun _ e => ?_, fun _ _ p hp => ?_⟩
    · subst e
      cases s1
      refine q.old (.tup h2 s2) (fun z => ?_)
      simpa [D.imm1] using z
    · subst e
      cases s2
      refine q.old (.tup h1 (by simpa using s1)) (fun z => ?_)
      simpa [D.imm1] using z
    · exact q.tup (s1.append s2) hp
  · obtain ⟨hc, rfl⟩ := ite_some e
    obtain ⟨a1, vs, rfl, _, h1, s1⟩ := r1.lst_inv
    obtain ⟨a2, ws, rfl, _, h2, s2⟩ := r2.lst_inv
    have hz := lineOk_iff.mp hc
    exact op_cat pins s σ H _ _ v u Q I rx ry ⟨a1, a2, vs, ws, rfl, rfl, h1, h2, by rw [s1.length, s2.length]; exact hz, fun p hp => q.lst (s1.append s2) hp⟩
  · cases e
theorem op_subD : OpR X (binaryOp .Sub) (rB X.K subD) := by
  intro pins s σ H x y v u Q I rx ry h
  obtain ⟨P, dx, dy, d, r1, r2, e, q⟩ := h
  unfold subD at e
  split at e
  · cases e
    exact op_sub pins s σ H x y v u Q I rx ry ⟨_, _, r1.int_inv, r2.int_inv, q.int⟩
  · cases e
theorem op_mulD : OpR X (binaryOp .Mult) (rB X.K mulD) := by
  intro pins s σ H x y v u Q I rx ry h
  obtain ⟨P, dx, dy, d, r1, r2, e, q⟩ := h
  unfold mulD at e
  split at e
  · obtain ⟨hc, rfl⟩ := ite_some e
    exact op_mul pins s σ H x y v u Q I rx ry ⟨_, _, r1.int_inv, r2.int_inv, small_mul hc, q.int⟩
  · obtain ⟨hc, rfl⟩ := ite_some e
    simp only [Bool.and_eq_true, decide_eq_true_eq, lineOk_iff] at hc
    obtain ⟨a1, vs, rfl, _, h1, s1⟩ := r1.lst_inv
    cases r2.int_inv
    exact op_rep pins s σ H _ _ v u Q I rx ry ⟨a1, _, vs, rfl, rfl, h1, hc.1.1, hc.1.2, by rw [s1.length]; exact hc.2, fun p hp => q.lst (s1.rep _) hp⟩
  · cases e
theorem op_fdivD : OpR X (binaryOp .FloorDiv) (rB X.K fdivD) := by
  intro pins s σ H x y v u Q I rx ry h
  obtain ⟨P, dx, dy, d, r1, r2, e, q⟩ := h
  unfold fdivD at e
  split at e
  · obtain ⟨hc, rfl⟩ := ite_some e
    simp only [Bool.and_eq_true, decide_eq_true_eq] at hc
    exact op_fdiv pins s σ H x y v u Q I rx ry ⟨_, _, r1.int_inv, r2.int_inv, hc, q.int⟩
  · cases e
theorem op_modD : OpR X (binaryOp .Mod) (rB X.K modD) := by
  intro pins s σ H x y v u Q I rx ry h
  obtain ⟨P, dx, dy, d, r1, r2, e, q⟩ := h
  unfold modD at e
  split at e
  · obtain ⟨hc, rfl⟩ := ite_some e
    simp only [decide_eq_true_eq] at hc
    exact op_mod pins s σ H x y v u Q I rx ry ⟨_, _, r1.int_inv, r2.int_inv, hc, q.int⟩
  · cases e
theorem op_powD : OpR X (binaryOp .Pow) (rB X.K powD) := by
  intro pins s σ H x y v u Q I rx ry h
  obtain ⟨P, dx, dy, d, r1, r2, e, q⟩ := h
  unfold powD at e
  split at e
  · obtain ⟨hc, rfl⟩ := ite_some e
    simp only [Bool.and_eq_true, decide_eq_true_eq] at hc
    exact op_pow pins s σ H x y v u Q I rx ry ⟨_, _, r1.int_inv, r2.int_inv, ⟨hc.1.1, hc.1.2, hc.2⟩, q.int⟩
  · cases e
theorem op_none {f : Value → Value → Sem Value} {g : D → D → Option D} (h : ∀ x y, g x y = none) : OpR X f (rB X.K g) := by
  intro pins s σ H x y v u Q I rx ry ⟨P, dx, dy, d, r1, r2, e, q⟩
  rw [h] at e; cases e
theorem op_binD (op : Operator) : OpR X (binaryOp op) (rB X.K (binD op)) := by
  cases op with
  | Add => exact op_addD
  | Sub => exact op_subD
  | Mult => exact op_mulD
  | FloorDiv => exact op_fdivD
  | Mod => exact op_modD
  | Pow => exact op_powD
  | _ => exact op_none fun _ _ => rfl

/-! ### comparisons -/
theorem wf_iff {d : D} : d.wf = true ↔ d.py.plain = true ∧ d.py.depth ≤ 60 := by simp [D.wf]
theorem wfs_iff {ds : List D} : wfs ds = true ↔ PyData.plainAll (D.pys ds) = true ∧ PyData.depthAll (D.pys ds) ≤ 60 := by simp [wfs]
section
variable {pins : List (Addr × Obj)} {s : Shared} {σ : L2.St} {H : Hp} {P : Addr → Prop} {x y : V} {v u : Value} {dx dy : D}
theorem Rep.reads (I : Inv X pins σ H s) (r : Rep X.K H P x dx) (w : dx.py.plain = true) (rx : RelV x v) : ∃ as, Reads s.heap v dx.py as := Dp.reads I _ _ _ (r.dp w) rx
theorem Reps.reads (I : Inv X pins σ H s) {vs : List V} {us : List Value} {ds : List D} (r : Reps X.K H P vs ds) (w : PyData.plainAll (D.pys ds) = true) (rx : Vals vs us) : ∃ as, ReadsAll s.heap us (D.pys ds) as := Dp.readsAll I _ _ _ (r.dps w) rx
end
theorem op_eqD' (hu : X.A.units + 100 < cLine) : OpR X (compareOp .Eq) (rC X.K eqD) := by
  intro pins s σ H x y v u Q I rx ry h
  obtain ⟨P, dx, dy, k, r1, r2, e, q⟩ := h
  unfold eqD at e
  obtain ⟨hc, rfl⟩ := ite_some e
  simp only [Bool.and_eq_true, wf_iff] at hc
  obtain ⟨⟨p1, l1⟩, p2, l2⟩ := hc
  obtain ⟨as, a1⟩ := r1.reads I p1 rx
  obtain ⟨bs, b1⟩ := r2.reads I p2 ry
  exact eq_plain a1 b1 p1 p2 (by omega) ⟨.bl _, H, I, rfl, q⟩
theorem op_neD' (hu : X.A.units + 100 < cLine) : OpR X (compareOp .NotEq) (rC X.K fun x y => (eqD x y).map (!·)) := by
  intro pins s σ H x y v u Q I rx ry h
  obtain ⟨P, dx, dy, k, r1, r2, e, q⟩ := h
  obtain ⟨k0, e1, rfl⟩ := Option.map_eq_some_iff.mp e
  clear e
  have e := e1
  clear e1
  unfold eqD at e
  obtain ⟨hc, rfl⟩ := ite_some e
  simp only [Bool.and_eq_true, wf_iff] at hc
  obtain ⟨⟨p1, l1⟩, p2, l2⟩ := hc
  obtain ⟨as, a1⟩ := r1.reads I p1 rx
  obtain ⟨bs, b1⟩ := r2.reads I p2 ry
  exact ne_plain a1 b1 p1 p2 (by omega) ⟨.bl _, H, I, rfl, q⟩
theorem ltD_inv {x y : D} {k : Bool} (e : ltD x y = some k) : PySem.W.alike x.py y.py = true ∧ (x.py.plain = true ∧ x.py.depth ≤ 60) ∧ (y.py.plain = true ∧ y.py.depth ≤ 60) ∧ x.py ≠ .none ∧ k = PySem.W.dataLt x.py y.py := by
  unfold ltD at e
  obtain ⟨hc, rfl⟩ := ite_some e
  simp only [Bool.and_eq_true, wf_iff] at hc
  refine ⟨hc.1.1.1, hc.1.1.2, hc.1.2, fun z => ?_, rfl⟩
  have := hc.2
  cases x <;> simp_all [D.py]
theorem alike_none {x y : PyData} (h : PySem.W.alike x y = true) (hn : x ≠ .none) : y ≠ .none := PySem.W.ne_none_both h hn
theorem op_ltD' (hu : X.A.units + 100 < cLine) : OpR X (compareOp .Lt) (rC X.K ltD) := by
  intro pins s σ H x y v u Q I rx ry h
  obtain ⟨P, dx, dy, k, r1, r2, e, q⟩ := h
  obtain ⟨al, ⟨p1, l1⟩, ⟨p2, l2⟩, hn, rfl⟩ := ltD_inv e
  obtain ⟨as, a1⟩ := r1.reads I p1 rx
  obtain ⟨bs, b1⟩ := r2.reads I p2 ry
  exact PySem.W.lt_data a1 b1 al hn (by omega) ⟨.bl _, H, I, rfl, q⟩
theorem op_geD' (hu : X.A.units + 100 < cLine) : OpR X (compareOp .GtE) (rC X.K fun x y => (ltD x y).map (!·)) := by
  intro pins s σ H x y v u Q I rx ry h
  obtain ⟨P, dx, dy, k, r1, r2, e, q⟩ := h
  obtain ⟨k0, e1, rfl⟩ := Option.map_eq_some_iff.mp e
  clear e
  have e := e1
  clear e1
  obtain ⟨al, ⟨p1, l1⟩, ⟨p2, l2⟩, hn, rfl⟩ := ltD_inv e
  obtain ⟨as, a1⟩ := r1.reads I p1 rx
  obtain ⟨bs, b1⟩ := r2.reads I p2 ry
  exact PySem.W.ge_data a1 b1 al hn (by omega) ⟨.bl _, H, I, rfl, q⟩
theorem op_gtD' (hu : X.A.units + 100 < cLine) : OpR X (compareOp .Gt) (rC X.K fun x y => if PySem.W.alike x.py y.py then ltD y x else none) := by
  intro pins s σ H x y v u Q I rx ry h
  obtain ⟨P, dx, dy, k, r1, r2, e, q⟩ := h
  dsimp only at e
  by_cases hal : PySem.W.alike dx.py dy.py = true
  · rw [if_pos hal] at e
    obtain ⟨al, ⟨p1, l1⟩, ⟨p2, l2⟩, hn, rfl⟩ := ltD_inv e
    obtain ⟨as, a1⟩ := r1.reads I p2 rx
    obtain ⟨bs, b1⟩ := r2.reads I p1 ry
    exact PySem.W.gt_data a1 b1 hal (alike_none al hn) (by omega) ⟨.bl _, H, I, rfl, q⟩
  · rw [if_neg hal] at e; cases e
theorem op_leD' (hu : X.A.units + 100 < cLine) : OpR X (compareOp .LtE) (rC X.K fun x y => if PySem.W.alike x.py y.py then (ltD y x).map (!·) else none) := by
  intro pins s σ H x y v u Q I rx ry h
  obtain ⟨P, dx, dy, k, r1, r2, e, q⟩ := h
  dsimp only at e
  by_cases hal : PySem.W.alike dx.py dy.py = true
  · rw [if_pos hal] at e
    obtain ⟨k0, e1, rfl⟩ := Option.map_eq_some_iff.mp e
    clear e
    have e := e1
    clear e1
    obtain ⟨al, ⟨p1, l1⟩, ⟨p2, l2⟩, hn, rfl⟩ := ltD_inv e
    obtain ⟨as, a1⟩ := r1.reads I p2 rx
    obtain ⟨bs, b1⟩ := r2.reads I p1 ry
    exact PySem.W.le_data a1 b1 hal (alike_none al hn) (by omega) ⟨.bl _, H, I, rfl, q⟩
  · rw [if_neg hal] at e; cases e
theorem any_pys {f : PyData → Bool} : ∀ ys : List D, (D.pys ys).any f = ys.any fun y => f y.py
  | [] => by rw [D.pys]; rfl
  | y :: ys => by rw [D.pys]; simp [any_pys ys]
theorem op_inD' (hu : X.A.units + 100 < cLine) : OpR X (compareOp .In) (rC X.K memD) := by
  intro pins s σ H x y v u Q I rx ry h
  obtain ⟨P, dx, dy, k, r1, r2, e, q⟩ := h
  unfold memD at e
  split at e
  · obtain ⟨hc, rfl⟩ := ite_some e
    simp only [Bool.and_eq_true, wf_iff, wfs_iff] at hc
    obtain ⟨⟨p1, l1⟩, p2, l2⟩ := hc
    obtain ⟨as, a1⟩ := r1.reads I p1 rx
    obtain ⟨bs, b1⟩ := r2.reads I (by rw [D.py]; simpa [PyData.plain] using p2) ry
    rw [D.py] at b1
    exact in_tuple_data b1 a1 p2 p1 (by omega) ⟨.bl _, H, I, rfl, by rw [any_pys]; exact q⟩
  · obtain ⟨hc, rfl⟩ := ite_some e
    simp only [Bool.and_eq_true, wf_iff, wfs_iff] at hc
    obtain ⟨⟨p1, l1⟩, p2, l2⟩ := hc
    obtain ⟨as, a1⟩ := r1.reads I p1 rx
    obtain ⟨bs, b1⟩ := r2.reads I (by rw [D.py]; simpa [PyData.plain] using p2) ry
    rw [D.py] at b1
    exact in_list_data b1 a1 p2 p1 (by omega) ⟨.bl _, H, I, rfl, by rw [any_pys]; exact q⟩
  · split at e
    · cases e
      exact op_in_str pins s σ H x y v u Q I rx ry ⟨_, _, r1.str_inv, r2.str_inv, q⟩
    · cases e
  · cases e
theorem op_notInD' (hu : X.A.units + 100 < cLine) : OpR X (compareOp .NotIn) (rC X.K fun x y => (memD x y).map (!·)) := by
  intro pins s σ H x y v u Q I rx ry h
  obtain ⟨P, dx, dy, k, r1, r2, e, q⟩ := h
  obtain ⟨k0, e1, rfl⟩ := Option.map_eq_some_iff.mp e
  clear e
  have e := e1
  clear e1
  unfold memD at e
  split at e
  · obtain ⟨hc, rfl⟩ := ite_some e
    simp only [Bool.and_eq_true, wf_iff, wfs_iff] at hc
    obtain ⟨⟨p1, l1⟩, p2, l2⟩ := hc
    obtain ⟨as, a1⟩ := r1.reads I p1 rx
    obtain ⟨bs, b1⟩ := r2.reads I (by rw [D.py]; simpa [PyData.plain] using p2) ry
    rw [D.py] at b1
    exact notIn_tuple_data b1 a1 p2 p1 (by omega) ⟨.bl _, H, I, rfl, by rw [any_pys]; exact q⟩
  · obtain ⟨hc, rfl⟩ := ite_some e
    simp only [Bool.and_eq_true, wf_iff, wfs_iff] at hc
    obtain ⟨⟨p1, l1⟩, p2, l2⟩ := hc
    obtain ⟨as, a1⟩ := r1.reads I p1 rx
    obtain ⟨bs, b1⟩ := r2.reads I (by rw [D.py]; simpa [PyData.plain] using p2) ry
    rw [D.py] at b1
    exact notIn_list_data b1 a1 p2 p1 (by omega) ⟨.bl _, H, I, rfl, by rw [any_pys]; exact q⟩
  · split at e
    · cases e
      exact op_notin_str pins s σ H x y v u Q I rx ry ⟨_, _, r1.str_inv, r2.str_inv, q⟩
    · cases e
  · cases e
theorem isNon_rep {K : PySem.W.Frag} {H : Hp} {P : Addr → Prop} {x : V} {d : D} (r : Rep K H P x d) : decide (x = .non) = isNon d := by
  cases r <;> rfl
theorem op_isD' : OpR X (compareOp .Is) (rC X.K fun x y => if isNon y then some (isNon x) else none) := by
  intro pins s σ H x y v u Q I rx ry h
  obtain ⟨P, dx, dy, k, r1, r2, e, q⟩ := h
  obtain ⟨hc, rfl⟩ := ite_some e
  have hy : y = .non := by
    have := isNon_rep r2
    rw [hc] at this
    exact of_decide_eq_true this
  exact op_isN pins s σ H x y v u Q I rx ry ⟨hy, by rw [isNon_rep r1]; exact q⟩
theorem op_isnotD' : OpR X (compareOp .IsNot) (rC X.K fun x y => if isNon y then some (!isNon x) else none) := by
  intro pins s σ H x y v u Q I rx ry h
  obtain ⟨P, dx, dy, k, r1, r2, e, q⟩ := h
  obtain ⟨hc, rfl⟩ := ite_some e
  have hy : y = .non := by
    have := isNon_rep r2
    rw [hc] at this
    exact of_decide_eq_true this
  exact op_notN pins s σ H x y v u Q I rx ry ⟨hy, by rw [isNon_rep r1]; exact q⟩
theorem op_cmpD (hu : X.A.units + 100 < cLine) (op : CmpOp) : OpR X (compareOp op) (rC X.K (cmpD op)) := by
  cases op with
  | Eq => exact op_eqD' hu
  | NotEq => exact op_neD' hu
  | Lt => exact op_ltD' hu
  | LtE => exact op_leD' hu
  | Gt => exact op_gtD' hu
  | GtE => exact op_geD' hu
  | Is => exact op_isD'
  | IsNot => exact op_isnotD'
  | In => exact op_inD' hu
  | NotIn => exact op_notInD' hu

/-! ### truth, minus -/
theorem tru_D : TruR X (fun x H Q => ∃ P d k, Rep X.K H P x d ∧ truthD d = some k ∧ Q k H) := by
  intro pins s σ H x v Q I rx h
  obtain ⟨P, d, k, r, e, q⟩ := h
  refine tru_ok pins s σ H x v Q I rx ⟨k, ?_, q⟩
  cases r with
  | non => cases e; rfl
  | bl b => cases e; rfl
  | int i => cases e; rfl
  | str x => cases e
  | tup h r =>
    cases e
    refine .inr (.inl ⟨_, h, ?_⟩)
    cases r <;> rfl
  | lst p h r =>
    cases e
    refine .inl ⟨_, SqL.of h, ?_⟩
    cases r <;> rfl
  | scr h => cases e
theorem un_negD : UnR X (unaryOp .USub) (fun x H Q => ∃ P d d', Rep X.K H P x d ∧ negD d = some d' ∧ Res X.K H P d' Q) := by
  intro pins s σ H x v Q I rx h
  obtain ⟨P, d, d', r, e, q⟩ := h
  unfold negD at e
  split at e
  · cases e
    exact un_neg pins s σ H x v Q I rx ⟨_, r.int_inv, q.int⟩
  · cases e

/-! ### items, slices -/
theorem reps_atI {K : PySem.W.Frag} {H : Hp} {P : Addr → Prop} {vs : List V} {ds : List D} {i : Int} {d : D} (r : Reps K H P vs ds) (h : atI ds i = some d) : ∃ v, atI vs i = some v ∧ Rep K H P v d := by
  unfold atI at h ⊢
  rw [r.length]
  cases e : ixN ds.length i with
  | none => rw [e] at h; cases h
  | some j =>
    rw [e] at h
    exact r.get h
theorem atI_map {α β : Type} (f : α → β) (xs : List α) (i : Int) : atI (xs.map f) i = (atI xs i).map f := by
  unfold atI
  rw [List.length_map]
  cases ixN xs.length i with
  | none => rfl
  | some j => simp
/-- an old thing is handed on -/
def rO (K : PySem.W.Frag) (f : D → D → Option D) : R2 := fun x y H Q => ∃ P dx dy d, Rep K H P x dx ∧ Rep K H P y dy ∧ f dx dy = some d ∧ ∀ v, Rep K H P v d → Q v H
theorem ix_D : IxR X (rO X.K ixD) := by
  intro value slice pins s σ H x y v u Q I rx ry h hsub
  obtain ⟨P, dx, dy, d, r1, r2, e, q⟩ := h
  unfold ixD at e
  split at e
  · obtain ⟨a, vs, rfl, h1, s1⟩ := r1.tup_inv
    cases r2.int_inv
    obtain ⟨z, hz, rz⟩ := reps_atI s1 e
    exact ix_tup value slice pins s σ H _ _ v u Q I rx ry ⟨a, vs, _, z, rfl, rfl, h1, hz, q z rz⟩ hsub
  · obtain ⟨a, vs, rfl, _, h1, s1⟩ := r1.lst_inv
    cases r2.int_inv
    obtain ⟨z, hz, rz⟩ := reps_atI s1 e
    exact ix_list value slice pins s σ H _ _ v u Q I rx ry ⟨a, vs, _, z, rfl, rfl, SqL.of h1, hz, q z rz⟩ hsub
  · obtain ⟨a, rfl, h1⟩ := r1.scr_inv
    cases r2.int_inv
    obtain ⟨n, hn, rfl⟩ := Option.map_eq_some_iff.mp e
    exact ix_list value slice pins s σ H _ _ v u Q I rx ry ⟨a, _, _, .int n, rfl, rfl, h1.sq, by rw [atI_map, hn]; rfl, q _ (.int n)⟩ hsub
  · obtain ⟨hc, e⟩ := ite_some' e
    obtain ⟨c, hn, rfl⟩ := Option.map_eq_some_iff.mp e
    exact ix_str value slice pins s σ H _ _ v u Q I rx ry ⟨_, _, c, r1.str_inv, r2.int_inv, lineOk_iff.mp hc, hn, q _ (.str _)⟩ hsub
  · cases e
theorem cutV_reps {K : PySem.W.Frag} {H : Hp} {P : Addr → Prop} {vs : List V} {ds : List D} (r : Reps K H P vs ds) (lo hi : Option Int) : Reps K H P (cutV vs lo hi) (cutL ds lo hi) := by
  unfold cutV cutL
  rw [r.length]
  exact (r.drop _).take _
theorem cutV_whole {vs : List V} {lo hi : Option Int} (h : HT.sIx vs.length 0 lo = 0 ∧ HT.sIx vs.length vs.length hi = vs.length) : cutV vs lo hi = vs := by
  unfold cutV
  rw [h.1, h.2]; simp
def rS (K : PySem.W.Frag) : V → Option Int → Option Int → Hp → VK → Prop := fun x lo hi H Q => ∃ P dx d, Rep K H P x dx ∧ slD dx lo hi = some d ∧ Res K H P d Q
theorem sl_D : SlR X (rS X.K) := by
  intro pins s σ H x v vl vu lo hi sl Q I rx hs pl pu h
  obtain ⟨P, dx, d, r, e, q⟩ := h
  unfold slD at e
  split at e
  · cases e
    obtain ⟨a, vs, rfl, h1, s1⟩ := r.tup_inv
    have rc := cutV_reps s1 lo hi
    refine sl_tupA pins s σ H _ v vl vu lo hi sl Q I rx hs pl pu ⟨a, vs, rfl, h1, fun w => ?_, fun _ p hp => q.tup rc hp⟩
    rw [cutV_whole w] at rc
    exact q.old (.tup h1 rc) (fun z => by simpa [D.imm1] using z)
  · cases e
    obtain ⟨a, vs, rfl, _, h1, s1⟩ := r.lst_inv
    exact sl_list pins s σ H _ v vl vu lo hi sl Q I rx hs pl pu ⟨a, vs, rfl, SqL.of h1, fun p hp => q.lst (cutV_reps s1 lo hi) hp⟩
  · cases e
end
end Ev
set_option maxHeartbeats 4000000
namespace Ev
open PySem PySem.Spec PySem.SeqAt PySem.W PyProof.Rows L2
section
variable {X : Cx}
def rF (K : PySem.W.Frag) (f : BF) : List V → Hp → VK → Prop := fun xs H Q => ∃ P ds d, Reps K H P xs ds ∧ bfD f ds = some d ∧ Res K H P d Q
/-- one argument -/
theorem bfD_one {f : BF} {ds : List D} {d : D} (h : bfD f ds = some d) : (∃ x, ds = [x] ∧ bf1 f x = some d) ∨ ∃ x y, ds = [x, y] ∧ bf2 f x y = some d := by
  unfold bfD at h
  split at h
  · exact .inl ⟨_, rfl, h⟩
  · exact .inr ⟨_, _, rfl, h⟩
  · cases h
theorem Reps.one {K : PySem.W.Frag} {H : Hp} {P : Addr → Prop} {xs : List V} {x : D} (r : Reps K H P xs [x]) : ∃ v, xs = [v] ∧ Rep K H P v x := by
  cases r with
  | cons r t => cases t; exact ⟨_, rfl, r⟩
theorem Reps.two {K : PySem.W.Frag} {H : Hp} {P : Addr → Prop} {xs : List V} {x y : D} (r : Reps K H P xs [x, y]) : ∃ v u, xs = [v, u] ∧ Rep K H P v x ∧ Rep K H P u y := by
  cases r with
  | cons r t =>
    obtain ⟨u, rfl, q⟩ := t.one
    exact ⟨_, _, rfl, r, q⟩
theorem bf2_none {f : BF} (h : ∀ x y, bf2 f x y = none) {ds : List D} {d : D} (e : bfD f ds = some d) : ∃ x, ds = [x] ∧ bf1 f x = some d := by
  rcases bfD_one e with h1 | ⟨x, y, rfl, h1⟩
  · exact h1
  · rw [h] at h1; cases h1
theorem cr_lenD : CallR X (.builtin "len") (rF X.K .len) := by
  intro pins s σ H xs us Q I r h
  obtain ⟨P, ds, d, rs, e, q⟩ := h
  obtain ⟨x, rfl, e⟩ := bf2_none (fun _ _ => rfl) e
  obtain ⟨v, rfl, rx⟩ := rs.one
  have e : lenD x = some d := e
  unfold lenD at e
  split at e
  · cases e
    obtain ⟨a, vs, rfl, h1, s1⟩ := rx.tup_inv
    exact call_len_seq pins s σ H _ us Q I r ⟨a, vs, rfl, .inr h1, by rw [s1.length]; exact q.int⟩
  · cases e
    obtain ⟨a, vs, rfl, _, h1, s1⟩ := rx.lst_inv
    exact call_len_seq pins s σ H _ us Q I r ⟨a, vs, rfl, .inl (SqL.of h1), by rw [s1.length]; exact q.int⟩
  · cases e
    obtain ⟨a, rfl, h1⟩ := rx.scr_inv
    exact call_len_seq pins s σ H _ us Q I r ⟨a, _, rfl, .inl h1.sq, by rw [List.length_map]; exact q.int⟩
  · obtain ⟨hc, rfl⟩ := ite_some e
    cases rx.str_inv
    exact call_len_str pins s σ H _ us Q I r ⟨_, rfl, lineOk_iff.mp hc, q.int⟩
  · cases e
theorem cr_absD : CallR X (.builtin "abs") (rF X.K .abs) := by
  intro pins s σ H xs us Q I r h
  obtain ⟨P, ds, d, rs, e, q⟩ := h
  obtain ⟨x, rfl, e⟩ := bf2_none (fun _ _ => rfl) e
  obtain ⟨v, rfl, rx⟩ := rs.one
  cases x with
  | int i =>
    cases e
    cases rx.int_inv
    exact call_abs pins s σ H _ us Q I r ⟨_, rfl, q.int⟩
  | _ => cases e
theorem cr_intD : CallR X (.type "int") (rF X.K .int) := by
  intro pins s σ H xs us Q I r h
  obtain ⟨P, ds, d, rs, e, q⟩ := h
  obtain ⟨x, rfl, e⟩ := bf2_none (fun _ _ => rfl) e
  obtain ⟨v, rfl, rx⟩ := rs.one
  cases x with
  | int i =>
    cases e
    cases rx.int_inv
    exact call_int1 pins s σ H _ us Q I r (.inl ⟨_, rfl, q.int⟩)
  | bl b =>
    cases e
    cases rx.bl_inv
    exact call_int1 pins s σ H _ us Q I r (.inr ⟨_, rfl, q.int⟩)
  | _ => cases e
theorem cr_tupleD : CallR X (.type "tuple") (rF X.K .tuple) := by
  intro pins s σ H xs us Q I r h
  obtain ⟨P, ds, d, rs, e, q⟩ := h
  obtain ⟨x, rfl, e⟩ := bf2_none (fun _ _ => rfl) e
  obtain ⟨v, rfl, rx⟩ := rs.one
  cases x with
  | tup xs =>
    cases e
    obtain ⟨a, vs, rfl, h1, s1⟩ := rx.tup_inv
    exact call_tuple_of pins s σ H _ us Q I r ⟨a, vs, rfl, .inr ⟨h1, q.old rx (fun z => by simpa [D.imm1] using z)⟩⟩
  | lst xs =>
    cases e
    obtain ⟨a, vs, rfl, _, h1, s1⟩ := rx.lst_inv
    exact call_tuple_of pins s σ H _ us Q I r ⟨a, vs, rfl, .inl ⟨SqL.of h1, fun p hp => q.tup s1 hp⟩⟩
  | _ => cases e
theorem cr_listD : CallR X (.type "list") (rF X.K .list) := by
  intro pins s σ H xs us Q I r h
  obtain ⟨P, ds, d, rs, e, q⟩ := h
  obtain ⟨x, rfl, e⟩ := bf2_none (fun _ _ => rfl) e
  obtain ⟨v, rfl, rx⟩ := rs.one
  cases x with
  | tup xs =>
    cases e
    obtain ⟨a, vs, rfl, h1, s1⟩ := rx.tup_inv
    exact call_list_of pins s σ H _ us Q I r ⟨a, vs, rfl, .inr h1, fun p hp => q.lst s1 hp⟩
  | lst xs =>
    cases e
    obtain ⟨a, vs, rfl, _, h1, s1⟩ := rx.lst_inv
    exact call_list_of pins s σ H _ us Q I r ⟨a, vs, rfl, .inl (SqL.of h1), fun p hp => q.lst s1 hp⟩
  | _ => cases e
/-- the items, as values of a list or a tuple -/
theorem itemsD_rep {K : PySem.W.Frag} {H : Hp} {P : Addr → Prop} {v : V} {x : D} {xs : List D} (r : Rep K H P v x) (e : itemsD x = some xs) : ∃ a vs, v = .ref a ∧ Reps K H P vs xs ∧ ((H a = some (.lst vs) ∧ P a ∧ x = .lst xs) ∨ (SqT K H a vs ∧ x = .tup xs)) := by
  cases x with
  | tup ys =>
    cases e
    obtain ⟨a, vs, rfl, h1, s1⟩ := r.tup_inv
    exact ⟨a, vs, rfl, s1, .inr ⟨h1, rfl⟩⟩
  | lst ys =>
    cases e
    obtain ⟨a, vs, rfl, p, h1, s1⟩ := r.lst_inv
    exact ⟨a, vs, rfl, s1, .inl ⟨h1, p, rfl⟩⟩
  | _ => cases e
end
section
variable {X : Cx}
theorem mapO_py_int : ∀ {xs : List D} {ns : List Int}, mapO intOf xs = some ns → xs = ns.map .int
  | [], ns, e => by simp [mapO] at e; subst e; rfl
  | x :: xs, ns, e => by
    simp only [mapO, Option.bind_eq_some_iff] at e
    obtain ⟨i, h1, ms, h2, h3⟩ := e
    cases h3
    rw [mapO_py_int h2]
    cases x <;> simp_all [intOf]
theorem cr_sumD (hc : X.calm = true) : CallR X (.builtin "sum") (rF X.K .sum) := by
  intro pins s σ H xs us Q I r h
  obtain ⟨P, ds, d, rs, e, q⟩ := h
  obtain ⟨x, rfl, e⟩ := bf2_none (fun _ _ => rfl) e
  obtain ⟨v, rfl, rx⟩ := rs.one
  cases x with
  | lst ys =>
    have e : ((mapO intOf ys).bind fun ns => some (D.int ns.sum)) = some d := e
    simp only [Option.bind_eq_some_iff] at e
    obtain ⟨ns, e2, e3⟩ := e
    cases e3
    obtain ⟨a, vs, rfl, _, h1, s1⟩ := rx.lst_inv
    have hv := s1.ints e2
    subst hv
    exact cr_sum hc pins s σ H _ us Q I r ⟨a, ns, rfl, SqL.of h1, q.int⟩
  | _ => cases e
theorem cr_allD (hc : X.calm = true) : CallR X (.builtin "all") (rF X.K .all) := by
  intro pins s σ H xs us Q I r h
  obtain ⟨P, ds, d, rs, e, q⟩ := h
  obtain ⟨x, rfl, e⟩ := bf2_none (fun _ _ => rfl) e
  obtain ⟨v, rfl, rx⟩ := rs.one
  cases x with
  | lst ys =>
    have e : ((mapO boolOf ys).bind fun ns => some (D.bl (ns.all id))) = some d := e
    simp only [Option.bind_eq_some_iff] at e
    obtain ⟨ns, e2, e3⟩ := e
    cases e3
    obtain ⟨a, vs, rfl, _, h1, s1⟩ := rx.lst_inv
    have hv := s1.bls e2
    subst hv
    exact cr_all hc pins s σ H _ us Q I r ⟨a, ns, rfl, SqL.of h1, q.bl⟩
  | _ => cases e
theorem cr_anyD (hc : X.calm = true) : CallR X (.builtin "any") (rF X.K .any) := by
  intro pins s σ H xs us Q I r h
  obtain ⟨P, ds, d, rs, e, q⟩ := h
  obtain ⟨x, rfl, e⟩ := bf2_none (fun _ _ => rfl) e
  obtain ⟨v, rfl, rx⟩ := rs.one
  cases x with
  | lst ys =>
    have e : ((mapO boolOf ys).bind fun ns => some (D.bl (ns.any id))) = some d := e
    simp only [Option.bind_eq_some_iff] at e
    obtain ⟨ns, e2, e3⟩ := e
    cases e3
    obtain ⟨a, vs, rfl, _, h1, s1⟩ := rx.lst_inv
    have hv := s1.bls e2
    subst hv
    exact cr_any hc pins s σ H _ us Q I r ⟨a, ns, rfl, SqL.of h1, q.bl⟩
  | _ => cases e
/-! min, max, sorted -/
mutual
theorem py_inj : ∀ (x y : D), x.py = y.py → x.py.plain = true → x = y
  | .non, y, h, _ => by cases y <;> simp_all [D.py]
  | .bl b, y, h, _ => by cases y <;> simp_all [D.py]
  | .int i, y, h, _ => by cases y <;> simp_all [D.py]
  | .str s, y, h, _ => by cases y <;> simp_all [D.py]
  | .tup xs, y, h, p => by
    cases y with
    | tup ys =>
      simp only [D.py, PyData.tuple.injEq] at h
      rw [pys_inj xs ys h (by simpa [D.py, PyData.plain] using p)]
    | _ => simp [D.py] at h
  | .lst xs, y, h, p => by
    cases y with
    | lst ys =>
      simp only [D.py, PyData.list.injEq] at h
      rw [pys_inj xs ys h (by simpa [D.py, PyData.plain] using p)]
    | _ => simp [D.py] at h
  | .scr ns, y, h, p => by simp [D.py, PyData.plain] at p
theorem pys_inj : ∀ (xs ys : List D), D.pys xs = D.pys ys → PyData.plainAll (D.pys xs) = true → xs = ys
  | [], [], _, _ => rfl
  | [], y :: ys, h, _ => by simp [D.pys] at h
  | x :: xs, [], h, _ => by simp [D.pys] at h
  | x :: xs, y :: ys, h, p => by
    simp only [D.pys, List.cons.injEq] at h
    simp only [D.pys, PyData.plainAll, Bool.and_eq_true] at p
    rw [py_inj x y h.1 p.1, pys_inj xs ys h.2 p.2]
end
theorem pys_eq : ∀ xs : List D, D.pys xs = xs.map D.py
  | [] => by rw [D.pys]; rfl
  | x :: xs => by rw [D.pys, pys_eq xs]; rfl
theorem minL_py : ∀ (xs : List D) (m : D), (minL m xs).py = minD m.py (D.pys xs)
  | [], m => by rw [D.pys]; rfl
  | x :: xs, m => by
    rw [D.pys]
    unfold minL
    rw [minL_py xs]
    unfold minD
    rw [List.foldl_cons]
    congr 1
    split <;> rfl
theorem maxL_py : ∀ (xs : List D) (m : D), (maxL m xs).py = maxD m.py (D.pys xs)
  | [], m => by rw [D.pys]; rfl
  | x :: xs, m => by
    rw [D.pys]
    unfold maxL
    rw [maxL_py xs]
    unfold maxD
    rw [List.foldl_cons]
    congr 1
    split <;> rfl
theorem minL_mem : ∀ (xs : List D) (m : D), minL m xs ∈ m :: xs
  | [], m => by simp [minL]
  | x :: xs, m => by
    unfold minL
    have := minL_mem xs (if PySem.W.dataLt x.py m.py = true then x else m)
    split at this <;> split <;> simp_all <;> (rcases this with h | h <;> simp [h])
theorem maxL_mem : ∀ (xs : List D) (m : D), maxL m xs ∈ m :: xs
  | [], m => by simp [maxL]
  | x :: xs, m => by
    unfold maxL
    have := maxL_mem xs (if PySem.W.dataLt m.py x.py = true then x else m)
    split at this <;> split <;> simp_all <;> (rcases this with h | h <;> simp [h])
theorem plain_of_mem : ∀ {xs : List D} (h : PyData.plainAll (D.pys xs) = true) {x : D} (m : x ∈ xs), x.py.plain = true
  | [], _, _, m => by cases m
  | y :: ys, h, x, m => by
    simp only [D.pys, PyData.plainAll, Bool.and_eq_true] at h
    rcases List.mem_cons.mp m with rfl | m
    · exact h.1
    · exact plain_of_mem h.2 m
theorem imm_of_mem : ∀ {xs : List D} (h : D.imms xs = true) {x : D} (m : x ∈ xs), x.imm = true
  | [], _, _, m => by cases m
  | y :: ys, h, x, m => by
    simp only [D.imms, Bool.and_eq_true] at h
    rcases List.mem_cons.mp m with rfl | m
    · exact h.1
    · exact imm_of_mem h.2 m
theorem depth_of_mem : ∀ {xs : List D} {x : D} (m : x ∈ xs), x.py.depth ≤ PyData.depthAll (D.pys xs)
  | [], _, m => by cases m
  | y :: ys, x, m => by
    simp only [D.pys, PyData.depthAll]
    rcases List.mem_cons.mp m with rfl | m
    · omega
    · have := depth_of_mem m
      omega
theorem alikeAll_of {xs : List D} (h1 : allAlike xs = true) (h2 : (!xs.any isNon) = true) : AlikeAll (D.pys xs) := by
  rw [pys_eq]
  refine ⟨fun x hx y hy => ?_, fun x hx e => ?_⟩
  · obtain ⟨a, ha, rfl⟩ := List.mem_map.mp hx
    obtain ⟨b, hb, rfl⟩ := List.mem_map.mp hy
    simp only [allAlike, List.all_eq_true] at h1
    exact h1 a ha b hb
  · obtain ⟨a, ha, rfl⟩ := List.mem_map.mp hx
    have : isNon a = true := by cases a <;> simp_all [D.py, isNon]
    simp only [Bool.not_eq_true', List.any_eq_false] at h2
    exact absurd this (h2 a ha)
theorem vals_getV : ∀ {xs : List V} {us : List Value} {i : Nat} {u : Value}, Vals xs us → us[i]? = some u → ∃ x, xs[i]? = some x ∧ RelV x u
  | _, _, _, _, .nil, e => by simp at e
  | _, _, 0, _, .cons r _, e => by simp at e; subst e; exact ⟨_, rfl, r⟩
  | _, _, i + 1, u, .cons _ t, e => by
    obtain ⟨v, h1, h2⟩ := vals_getV (i := i) (u := u) t (by simpa using e)
    exact ⟨v, by simpa using h1, h2⟩
/-- the value that reads as d among the items is d -/
theorem pick_rep {pins : List (Addr × Obj)} {σ : L2.St} {H : Hp} {s : Shared} {P : Addr → Prop} {vs : List V} {its : List Value} {ds : List D} {i : Nat} {v : Value} {d : D} {h' : Heap} {bs : List Addr}
    (I : Inv X pins σ H s) (r : Reps X.K H P vs ds) (rv : Vals vs its) (hi : its[i]? = some v) (hp : PyData.plainAll (D.pys ds) = true) (hal : AlikeAll (D.pys ds)) (hm : d ∈ ds)
    (k : ∀ b o, s.heap.get? b = some o → h'.get? b = some o) (hr : Reads h' v d.py bs) : ∃ x, RelV x v ∧ Rep X.K H P x d := by
  obtain ⟨x, hx, rx⟩ := vals_getV rv hi
  obtain ⟨d', hd, rd⟩ := r.getV hx
  have hd' : d' ∈ ds := List.mem_of_getElem? hd
  obtain ⟨as, a1⟩ := rd.reads I (plain_of_mem hp hd') rx
  have a2 := PyProof.Rows.Reads.keeps k a1
  have e : d'.py = d.py := alike_unique _ _ _ _ _ (hal.1 _ (by rw [pys_eq]; exact List.mem_map.mpr ⟨d', hd', rfl⟩) _ (by rw [pys_eq]; exact List.mem_map.mpr ⟨d, hm, rfl⟩)) a2 hr
  have := py_inj d' d e (plain_of_mem hp hd')
  subst this
  exact ⟨x, rx, rd⟩
theorem itemsD_inv {x : D} {xs : List D} (h : itemsD x = some xs) : x = .lst xs ∨ x = .tup xs := by
  cases x <;> simp_all [itemsD]
theorem cr_minD (hc : X.calm = true) (hu : X.A.units + 100 < cLine) : CallR X (.builtin "min") (rF X.K .min) := by
  intro pins s σ H xs us Q I r h
  obtain ⟨P, ds, d, rs, e, q⟩ := h
  rcases bfD_one e with ⟨x, rfl, e⟩ | ⟨x, y, rfl, e⟩
  · obtain ⟨v, rfl, rx⟩ := rs.one
    have e : ((itemsD x).bind fun xs => (match xs with | [] => none | y :: ys => if allAlike xs && wfs xs && !xs.any isNon && D.imms xs then some (minL y ys) else none)) = some d := e
    simp only [Option.bind_eq_some_iff] at e
    obtain ⟨zs, e1, e2⟩ := e
    cases zs with
    | nil => cases e2
    | cons y ys =>
      obtain ⟨hc1, rfl⟩ := ite_some e2
      simp only [Bool.and_eq_true, wfs_iff] at hc1
      obtain ⟨⟨⟨h1, hp, hd⟩, h2⟩, hi0⟩ := hc1
      have hal := alikeAll_of h1 h2
      have hal' : AlikeAll (y.py :: D.pys ys) := by have := hal; rw [D.pys] at this; exact this
      have hd' : PyData.depthAll (y.py :: D.pys ys) ≤ 60 := by have := hd; rw [D.pys] at this; exact this
      obtain ⟨a, vs, rfl, r1, hh⟩ := itemsD_rep rx e1
      have fin : ∀ (i : Nat) (v : Value) (h' : Heap) (tk : Nat) (bs : List Addr) (its : List Value), Vals vs its → its.toArray[i]? = some v → Reads h' v (minD y.py (D.pys ys)) bs → (∀ b o, s.heap.get? b = some o → h'.get? b = some o) →
          EP X pins σ Q v { s with heap := h', toks := tk } := fun i v h' tk bs its rv hi hr k => by
        rw [← minL_py] at hr
        obtain ⟨z, rz, rp⟩ := pick_rep I r1 rv (by simpa using hi) hp hal (minL_mem ys y) k hr
        refine ⟨z, H, I.kept (t' := tk) k, rz, ?_⟩
        exact q.old rp fun z1 => imm_of_mem hi0 (minL_mem ys y)
      rcases hh with ⟨ha, _, _⟩ | ⟨ha, _⟩
      · obtain ⟨its, rv, hl, hz⟩ := I.list (SqL.of ha)
        obtain ⟨as, ra⟩ := r1.reads I hp rv
        rw [Vals.ref1 r]
        exact min_list_data (I.ok.hd hc) hl.isList (by rw [D.pys] at ra; simpa using ra) hal' (by omega) fun i v h' tk bs hi hr k => fin i v h' tk bs its rv hi hr k
      · obtain ⟨its, rv, hl, hz⟩ := I.tuple ha
        obtain ⟨as, ra⟩ := r1.reads I hp rv
        rw [Vals.ref1 r]
        exact min_tuple_data (I.ok.hd hc) hl (by rw [D.pys] at ra; simpa using ra) hal' (by omega) fun i v h' tk bs hi hr k => fin i v h' tk bs its rv hi hr k
  · obtain ⟨v, u, rfl, r1, r2⟩ := rs.two
    cases x <;> cases y <;> try cases e
    cases r1.int_inv
    cases r2.int_inv
    exact call_min2 hc pins s σ H _ us Q I r ⟨_, _, rfl, q.int⟩
theorem cr_maxD (hc : X.calm = true) (hu : X.A.units + 100 < cLine) : CallR X (.builtin "max") (rF X.K .max) := by
  intro pins s σ H xs us Q I r h
  obtain ⟨P, ds, d, rs, e, q⟩ := h
  rcases bfD_one e with ⟨x, rfl, e⟩ | ⟨x, y, rfl, e⟩
  · obtain ⟨v, rfl, rx⟩ := rs.one
    have e : ((itemsD x).bind fun xs => (match xs with | [] => none | y :: ys => if allAlike xs && wfs xs && !xs.any isNon && D.imms xs then some (maxL y ys) else none)) = some d := e
    simp only [Option.bind_eq_some_iff] at e
    obtain ⟨zs, e1, e2⟩ := e
    cases zs with
    | nil => cases e2
    | cons y ys =>
      obtain ⟨hc1, rfl⟩ := ite_some e2
      simp only [Bool.and_eq_true, wfs_iff] at hc1
      obtain ⟨⟨⟨h1, hp, hd⟩, h2⟩, hi0⟩ := hc1
      have hal := alikeAll_of h1 h2
      have hal' : AlikeAll (y.py :: D.pys ys) := by have := hal; rw [D.pys] at this; exact this
      have hd' : PyData.depthAll (y.py :: D.pys ys) ≤ 60 := by have := hd; rw [D.pys] at this; exact this
      obtain ⟨a, vs, rfl, r1, hh⟩ := itemsD_rep rx e1
      have fin : ∀ (i : Nat) (v : Value) (h' : Heap) (tk : Nat) (bs : List Addr) (its : List Value), Vals vs its → its.toArray[i]? = some v → Reads h' v (maxD y.py (D.pys ys)) bs → (∀ b o, s.heap.get? b = some o → h'.get? b = some o) →
          EP X pins σ Q v { s with heap := h', toks := tk } := fun i v h' tk bs its rv hi hr k => by
        rw [← maxL_py] at hr
        obtain ⟨z, rz, rp⟩ := pick_rep I r1 rv (by simpa using hi) hp hal (maxL_mem ys y) k hr
        refine ⟨z, H, I.kept (t' := tk) k, rz, ?_⟩
        exact q.old rp fun z1 => imm_of_mem hi0 (maxL_mem ys y)
      rcases hh with ⟨ha, _, _⟩ | ⟨ha, _⟩
      · obtain ⟨its, rv, hl, hz⟩ := I.list (SqL.of ha)
        obtain ⟨as, ra⟩ := r1.reads I hp rv
        rw [Vals.ref1 r]
        exact max_list_data (I.ok.hd hc) hl.isList (by rw [D.pys] at ra; simpa using ra) hal' (by omega) fun i v h' tk bs hi hr k => fin i v h' tk bs its rv hi hr k
      · obtain ⟨its, rv, hl, hz⟩ := I.tuple ha
        obtain ⟨as, ra⟩ := r1.reads I hp rv
        rw [Vals.ref1 r]
        exact max_tuple_data (I.ok.hd hc) hl (by rw [D.pys] at ra; simpa using ra) hal' (by omega) fun i v h' tk bs hi hr k => fin i v h' tk bs its rv hi hr k
  · obtain ⟨v, u, rfl, r1, r2⟩ := rs.two
    cases x <;> cases y <;> try cases e
    cases r1.int_inv
    cases r2.int_inv
    exact call_max2 hc pins s σ H _ us Q I r ⟨_, _, rfl, q.int⟩
theorem each_rep {pins : List (Addr × Obj)} {σ : L2.St} {H : Hp} {s : Shared} {P : Addr → Prop} (I : Inv X pins σ H s) : ∀ {vs : List V} {its : List Value} {ys : List D}, Reps X.K H P vs ys → Vals vs its → PyData.plainAll (D.pys ys) = true →
    PySem.W.EachIs (fun (u : Value) (b : D) => (∃ z, RelV z u ∧ Rep X.K H P z b) ∧ ∃ as, Reads s.heap u b.py as) its ys
  | _, _, _, .nil, rv, _ => by cases rv; exact .nil
  | _, _, _, .cons r t, rv, hp => by
    cases rv with
    | cons q1 q2 =>
      simp only [D.pys, PyData.plainAll, Bool.and_eq_true] at hp
      exact .cons ⟨⟨_, q1, r⟩, r.reads I hp.1 q1⟩ (each_rep I t q2 hp.2)
theorem cr_sortedD (hu : X.A.units + 100 < cLine) : CallR X (.builtin "sorted") (rF X.K .sorted) := by
  intro pins s σ H xs us Q I r h
  obtain ⟨P, ds, d, rs, e, q⟩ := h
  obtain ⟨x, rfl, e⟩ := bf2_none (fun _ _ => rfl) e
  obtain ⟨v, rfl, rx⟩ := rs.one
  cases x with
  | lst ys =>
    obtain ⟨hc1, rfl⟩ := ite_some (show (if (allAlike ys && wfs ys && sortable ys) = true then some (D.lst (ys.mergeSort leD)) else none) = some d from e)
    simp only [Bool.and_eq_true, wfs_iff] at hc1
    obtain ⟨⟨h1, hp, hd⟩, h2⟩ := hc1
    obtain ⟨a, vs, rfl, _, ha, s1⟩ := rx.lst_inv
    obtain ⟨its, rv, hl, hz⟩ := I.list (SqL.of ha)
    rw [Vals.ref1 r]
    have he := each_rep I s1 rv hp
    have hlen : ys.length ≤ sizeLine := by rw [← s1.length]; exact hz
    refine PySem.W.sorted_data (enc := D.py) hl.isList (he.mono fun _ _ z => z.1) (he.mono fun _ _ z => z.2) (fun d1 m1 d2 m2 => ?_) ?_ hlen (fun b hb => ?_) fun out ho eo => ?_
    · obtain ⟨a1, ha1, rfl⟩ := List.mem_map.mp m1
      obtain ⟨b1, hb1, rfl⟩ := List.mem_map.mp m2
      simp only [allAlike, List.all_eq_true] at h1
      exact h1 a1 ha1 b1 hb1
    · simp only [sortable, Bool.or_eq_true, List.all_eq_true] at h2
      rcases h2 with h2 | h2
      · refine .inl fun d1 m1 => ?_
        obtain ⟨a1, ha1, rfl⟩ := List.mem_map.mp m1
        have := h2 a1 ha1
        cases a1 with
        | tup l => cases l with
          | nil => cases this
          | cons y l => exact ⟨_, _, by rw [D.py, D.pys]⟩
        | _ => cases this
      · refine .inr fun d1 m1 => ?_
        obtain ⟨a1, ha1, rfl⟩ := List.mem_map.mp m1
        have := h2 a1 ha1
        cases a1 <;> simp_all [noTup, D.py]
    · have := depth_of_mem hb
      omega
    · have hsort : (ys.mergeSort (dataLe false D.py)) = ys.mergeSort leD := rfl
      rw [hsort] at eo
      have back : ∀ {out : List Value} {zs : List D}, EachIs (fun (u : Value) (b : D) => ∃ z, RelV z u ∧ Rep X.K H P z b) out zs → ∃ ws, Vals ws out ∧ Reps X.K H P ws zs := by
        intro out zs e
        induction e with
        | nil => exact ⟨[], .nil, .nil⟩
        | cons h1 t ih =>
          obtain ⟨z, q1, q2⟩ := h1
          obtain ⟨ws, q3, q4⟩ := ih
          exact ⟨z :: ws, .cons q1 q3, .cons q2 q4⟩
      obtain ⟨ws, q3, q4⟩ := back eo
      obtain ⟨c, hat⟩ := sortedAll_at s.heap its (List.toArray out)
      have hp0 : H (s.heap.objs.size + 1) = none := I.hok.fresh (Nat.le_succ _)
      refine ⟨.ref (s.heap.objs.size + 1), _, I.laid (t' := s.toks) (o := .lst ws) (fun b o e => sortedAll_old e) (Nat.le_succ _) ⟨by rw [q4.length]; simpa using hlen, out, c, q3, ?_⟩, rfl, q.lst q4 hp0⟩
      exact hat
  | _ => cases e
/-! isinstance -/
def rIsin (K : PySem.W.Frag) (t : Ty) : List V → Hp → VK → Prop := fun xs H Q => ∃ P v d k, xs = [v, .ty t.nm] ∧ Rep K H P v d ∧ isinD t d = some k ∧ Q (.bl k) H
theorem kit_all (K : PySem.W.Frag) (t : Ty) : ∀ d : D, (∀ ns, d ≠ .scr ns) → ∃ n, tyD d = some n ∧ PySem.W.kitOne K (.type n) (.type t.nm) = some (isinT t d)
  | .non, _ => ⟨_, rfl, kit_ty (by cases t <;> simp only [isinT, Ty.nm] <;> decide +kernel)⟩
  | .bl _, _ => ⟨_, rfl, kit_ty (by cases t <;> simp only [isinT, Ty.nm] <;> decide +kernel)⟩
  | .int _, _ => ⟨_, rfl, kit_ty (by cases t <;> simp only [isinT, Ty.nm] <;> decide +kernel)⟩
  | .str _, _ => ⟨_, rfl, kit_ty (by cases t <;> simp only [isinT, Ty.nm] <;> decide +kernel)⟩
  | .tup _, _ => ⟨_, rfl, kit_ty (by cases t <;> simp only [isinT, Ty.nm] <;> decide +kernel)⟩
  | .lst _, _ => ⟨_, rfl, kit_ty (by cases t <;> simp only [isinT, Ty.nm] <;> decide +kernel)⟩
  | .scr ns, h => absurd rfl (h ns)
theorem cr_isin (t : Ty) : CallR X (.builtin "isinstance") (rIsin X.K t) := by
  intro pins s σ H xs us Q I r h
  obtain ⟨P, v, d, k, rfl, rx, e, q⟩ := h
  have hd : ∀ ns, d ≠ .scr ns := fun ns z => by subst z; cases e
  have hk : isinT t d = k := by cases d <;> first | exact Option.some.inj e | cases e
  obtain ⟨n, h1, h2⟩ := kit_all X.K t d hd
  have ty : TyX X.K H v (.type n) := by
    cases rx with
    | non => cases h1; exact .base .non
    | bl b => cases h1; exact .base (.bl b)
    | int i => cases h1; exact .base (.int i)
    | str x => cases h1; exact .base (.str x)
    | tup h r =>
      cases h1
      rcases h with (h | ⟨o, h⟩) | ⟨o, its, m, h, c, _⟩
      · exact .base (.tup h)
      · exact .fTuple h
      · exact .kTuple h c
    | lst p h r => cases h1; exact .base (.lst h)
    | scr h => exact absurd rfl (hd _)
  exact call_isi pins s σ H _ us Q I r ⟨v, .ty t.nm, .type n, .type t.nm, k, rfl, .ty _, ty, by rw [h2, hk], q⟩
end
end Ev
set_option maxHeartbeats 4000000
namespace Ev
open PySem PySem.Spec PyProof.Rows L2

/-! ### from Python's trees -/
structure TC where
  N : List Str
  fns : List Str
abbrev Rc := Scope → Expr → Option E
def ixOf (N : List Str) (x : Str) : Option Nat := if N[N.findIdx (· == x)]? = some x then some (N.findIdx (· == x)) else none
def visB (sc : Scope) (x : Str) : Bool := match sc.names.lookup x with
  | some .local => true
  | some .cell => true
  | some .free => true
  | _ => false
def glB (sc : Scope) (x : Str) : Bool := match sc.names.lookup x with
  | some .globalImplicit => !(x == ("__debug__" : Str)) && !decide (x = "__name__")
  | _ => false
def slotOf (N : List Str) (sc : Scope) (x : Str) : Option Nat := if visB sc x && !(x == ("__debug__" : Str)) && !(x == ("__classdict__" : Str)) then ixOf N x else none
def isStar : Expr → Bool
  | .Starred _ _ => true
  | _ => false
def isSlice : Expr → Bool
  | .Slice _ _ _ _ => true
  | _ => false
def isSet : Expr → Bool
  | .Set _ _ _ => true
  | _ => false
def trB (R : Expr → Option E) (op : BoolOp) : List Expr → Option E
  | [] => none
  | [a] => R a
  | a :: b :: r => (R a).bind fun a' => (trB R op (b :: r)).bind fun r' => some (match op with
    | .And => .and a' r'
    | .Or => .or a' r')
def trO (R : Expr → Option E) : Option Expr → Option (Option E)
  | none => some none
  | some e => (R e).map some
def trIf (R : Expr → Option E) : List Expr → Option (Option E)
  | [] => some none
  | [c] => (R c).map some
  | _ => none
def bfTab : List (Str × BF) := [("len", .len), ("abs", .abs), ("int", .int), ("min", .min), ("max", .max), ("sum", .sum), ("sorted", .sorted), ("tuple", .tuple), ("list", .list), ("all", .all), ("any", .any)]
def tyTab : List (Str × Ty) := [("int", .int), ("bool", .bool), ("str", .str), ("tuple", .tuple)]
/-- the built-in names that may be used -/
def bltNames : List Str := ["len", "abs", "int", "min", "max", "sum", "sorted", "tuple", "list", "all", "any", "bool", "str", "isinstance", "range", "enumerate", "zip"]
def trC : Const → Option D
  | .int i => some (.int i)
  | .bool b => some (.bl b)
  | .str x => some (.str x)
  | .none => some .non
  | _ => none
def trTg1 (N : List Str) : Expr → Option (Str × Nat)
  | .Name x _ => (ixOf N x).map fun i => (x, i)
  | _ => none
/-- a target: its names and slots -/
def trTg (N : List Str) : Expr → Option (Tg × List (Str × Nat))
  | .Name x _ => (ixOf N x).map fun i => (.nm i, [(x, i)])
  | .Tuple es _ _ => (mapO (trTg1 N) es).map fun ps => (.tup (ps.map (·.2)), ps)
  | _ => none
def locB (sc : Scope) (x : Str) : Bool := match sc.names.lookup x with
  | some .local => true
  | some .cell => true
  | _ => false
def isCell (sc : Scope) (x : Str) : Bool := match sc.names.lookup x with
  | some .cell => true
  | _ => false
def isLocal (sc : Scope) (x : Str) : Bool := match sc.names.lookup x with
  | some .local => true
  | _ => false
def trI (T : TC) (R : Rc) (sc : Scope) : Expr → Option It
  | .Call (.Name x p) args kws pos => if decide (x = "range") then (if glB sc x && kws.isEmpty && !args.any isStar && (args.length == 1 || args.length == 2) then (mapO (R sc) args).map .rng else none)
      else (R sc (.Call (.Name x p) args kws pos)).map .seq
  | e => if isSet e then none else (R sc e).map .seq
def trStep (T : TC) (R : Rc) (sc : Scope) : Expr → Option E
  | .Constant c _ _ => (trC c).map .cst
  | .Name x _ => (slotOf T.N sc x).map .var
  | .BinOp a op b _ => (R sc a).bind fun a' => (R sc b).bind fun b' => some (.bin op a' b')
  | .UnaryOp op a _ => (match op with
    | .USub => (R sc a).map .neg
    | .Not => (R sc a).map .not
    | _ => none)
  | .BoolOp op es _ => (match es with
    | a :: b :: r => trB (R sc) op (a :: b :: r)
    | _ => none)
  | .Compare a ops bs _ => (match ops, bs with
    | [op], [b] => if behindInMarks op b then none else (R sc a).bind fun a' => (R sc b).bind fun b' => some (.cmp op a' b')
    | [op, op'], [b, c] => if lastMarks [op, op'] [b, c] then none else (R sc a).bind fun a' => (R sc b).bind fun b' => (R sc c).bind fun c' => some (.chain op op' a' b' c')
    | _, _ => none)
  | .IfExp c a b _ => (R sc c).bind fun c' => (R sc a).bind fun a' => (R sc b).bind fun b' => some (.ite c' a' b')
  | .Tuple es _ _ => if es.any isStar then none else (mapO (R sc) es).map .tup
  | .List es _ => if es.any isStar then none else (mapO (R sc) es).map .lst
  | .Subscript a b _ => (match b with
    | .Slice lo hi none _ => (R sc a).bind fun a' => (trO (R sc) lo).bind fun l' => (trO (R sc) hi).bind fun h' => some (.sl a' l' h')
    | b => if isSlice b then none else (R sc a).bind fun a' => (R sc b).bind fun b' => some (.ix a' b'))
  | .Call f args kws _ => (match f, kws with
    | .Name x _, [] => if !glB sc x || args.any isStar then none else (match ixOf T.fns x with
      | some i => (mapO (R sc) args).map (.call i)
      | none => if decide (x = "isinstance") then (match args with
          | [a, .Name t _] => if !glB sc t || (ixOf T.fns t).isSome then none else (tyTab.lookup t).bind fun ty => (R sc a).map fun a' => .isin a' ty
          | _ => none)
        else (bfTab.lookup x).bind fun f => if args.isEmpty then none else (mapO (R sc) args).map (.bf f))
    | _, _ => none)
  | .ListComp elt gens scope _ => (match gens with
    | [⟨tg, iter, ifs, k⟩] => (trTg T.N tg).bind fun (z : Tg × List (Str × Nat)) =>
        if blkC T.N sc scope z.2 && decide (k = 0) && z.2.all (fun p => locB (relS scope sc) p.1 && (isCell scope p.1 || isLocal (relS scope sc) p.1)) then
          (trI T R sc iter).bind fun it => (trIf (R (relS scope sc)) ifs).bind fun c' => (R (relS scope sc) elt).bind fun elt' => some (.comp elt' (z.2.map Prod.snd) z.1 it c')
        else none
    | _ => none)
  | _ => none
def tr (T : TC) : Nat → Rc
  | 0 => fun _ _ => none
  | n + 1 => trStep T (tr T n)

/-! ### readings -/
def SR (K : PySem.W.Frag) (H : Hp) (P : Addr → Prop) (σ : L2.St) (ρ : EnvD) : Prop := ∀ (i : Nat) (d : D), ρ[i]? = some (some d) → ∃ v, σ[i]? = some (some v) ∧ Rep K H P v d
/-- the value of e is new -/
def fr : E → D → Bool
  | .call _ _, _ => true
  | .comp elt _ _ _ _, .lst ds => D.imms ds || ds.all (fr elt)
  | .var _, d => d.imm
  | .ix _ _, d => d.imm
  | .ite _ _ _, d => d.imm
  | .and _ _, d => d.imm
  | .or _ _, d => d.imm
  | _, d => d.imm1
def PN (P : Addr → Prop) (H : Hp) : Addr → Prop := fun a => P a ∨ H a = none
def Got (K : PySem.W.Frag) (σ : L2.St) (H : Hp) (P : Addr → Prop) (e : E) (d : D) (Q : VK) : Prop := ∀ v H', Ext H H' → Rep K H' (PN P H) v d → (fr e d = true → Rep K H' (New H) v d) → (∀ i, e = .var i → σ[i]? = some (some v)) → Q v H'
def tE (K : PySem.W.Frag) (C : Oracle) (e : E) : TE := fun σ H Q => ∃ ρ P d, SR K H P σ ρ ∧ evE C ρ e = some d ∧ Got K σ H P e d Q
def tT (K : PySem.W.Frag) (C : Oracle) (e : E) : TT := fun σ H Q => ∃ ρ P d k, SR K H P σ ρ ∧ evE C ρ e = some d ∧ truthD d = some k ∧ ∀ H', Ext H H' → Q k H'
def tAs (K : PySem.W.Frag) (C : Oracle) (es : List E) : TA := fun σ H Q => ∃ ρ P ds, SR K H P σ ρ ∧ evEs C ρ es = some ds ∧ ∀ vs H', Ext H H' → Reps K H' (PN P H) vs ds → Q vs H'
def tOo (K : PySem.W.Frag) (C : Oracle) (o : Option E) : TO := fun σ H Q => ∃ ρ P i, SR K H P σ ρ ∧ evO C ρ o = some i ∧ ∀ H', Ext H H' → Q i H'
section
variable {K : PySem.W.Frag} {H H1 H2 H' : Hp} {P P' : Addr → Prop} {σ : L2.St} {ρ : EnvD} {e : E} {d : D} {v : V} {Q : VK}
theorem SR.ext (s : SR K H P σ ρ) (e : Ext H H') : SR K H' P σ ρ := fun i d h => by
  obtain ⟨v, h1, h2⟩ := s i d h
  exact ⟨v, h1, h2.ext e⟩
theorem SR.mono (s : SR K H P σ ρ) (h : ∀ a, P a → P' a) : SR K H P' σ ρ := fun i d hd => by
  obtain ⟨v, h1, h2⟩ := s i d hd
  exact ⟨v, h1, h2.mono h⟩
theorem SR.there (s : SR K H P σ ρ) : SR K H (fun a => P a ∧ H a ≠ none) σ ρ := fun i d hd => by
  obtain ⟨v, h1, h2⟩ := s i d hd
  exact ⟨v, h1, h2.there⟩
def E.isVar : E → Bool
  | .var _ => true
  | _ => false
theorem notvar {e : E} (h : e.isVar = false) {v : V} : ∀ i, e = .var i → σ[i]? = some (some v) := fun i q => by subst q; cases h
theorem Got.res (g : Got K σ H P e d Q) (hf : fr e d = true → d.imm1 = true) (x : Ext H H2) (nv : e.isVar = false := by rfl) : Res K H2 (PN P H) d Q := fun v H' x' r f => by
  refine g v H' (x.trans x') (r.mono fun a z => ?_) (fun z => (f (hf z)).mono fun a z => x.none z) (notvar nv)
  rcases z with z | z
  · exact z
  · exact .inr (x.none z)
theorem Got.old (g : Got K σ H P e d Q) (hf : fr e d = true → d.imm = true) (x : Ext H H2) (r : Rep K H2 (PN P H) v d) (nv : e.isVar = false := by rfl) : Q v H2 := g v H2 x r (fun z => r.imm (stay_refl (P := P)) (hf z)) (notvar nv)
theorem pn_step {a : Addr} (x : Ext H H1) : PN P H1 a → PN P H a := fun z => z.imp id fun z => x.none z
end
end Ev
set_option maxHeartbeats 4000000
namespace Ev
open PySem PySem.Spec PyProof.Rows L2

/-- what a def promises -/
def spD (K : PySem.W.Frag) (C : Oracle) (f : Nat) : Sp := fun vs H Q _ => ∃ ds r, Reps K H Any vs ds ∧ C f ds = some r ∧ ∀ v H', Ext H H' → Rep K H' (New H) v r → Q v H'
structure GX (T : TC) (C : Oracle) (sc : Scope) (X : Cx) : Prop where
  hN : X.N = T.N
  nd : T.N.Nodup
  hsc : X.env.scope = sc
  kind : sc.kind = .function
  calm : X.calm = true
  hu : X.A.units + 100 < cLine
  bl : ∀ x ∈ bltNames, X.mg x = none
  fn : ∀ (f : Nat) (x : Str), T.fns[f]? = some x → ∃ (k : Nat) (a : Addr) (fd : FuncData) (ps : List Str), X.mg x = some (.ref a) ∧ PySem.W.keepIn X.K (.ref a) = true ∧ Room k X.A ∧ Binds X.K fd ps [] ∧
    FnOk X.prog X.w X.K X.mg X.base CX0 k a fd ps (spD X.K C f)
structure SndX (T : TC) (C : Oracle) (sc : Scope) (e : Expr) (E : E) : Prop where
  v : ∀ X, GX T C sc X → PE X e (tE X.K C E)
  t : ∀ X, GX T C sc X → PT X e (tT X.K C E)
section
variable {T : TC} {C : Oracle} {sc : Scope} {X : Cx}
theorem pe_weak {e : Expr} {t t' : TE} (h : PE X e t) (w : ∀ σ H Q, t' σ H Q → t σ H Q) : PE X e t' := ⟨fun pins s σ H Q I q => h.run pins s σ H Q I (w _ _ _ q)⟩
theorem pt_weak {e : Expr} {t t' : TT} (h : PT X e t) (w : ∀ σ H Q, t' σ H Q → t σ H Q) : PT X e t' := ⟨fun pins s σ H Q I q => h.run pins s σ H Q I (w _ _ _ q)⟩
theorem pw_weak {e : Expr} {t t' : TT} (h : PW X e t) (w : ∀ σ H Q, t' σ H Q → t σ H Q) : PW X e t' := ⟨fun wh pins s σ H Q I q => h.run wh pins s σ H Q I (w _ _ _ q)⟩
theorem ixOf_some {N : List Str} {x : Str} {i : Nat} (h : ixOf N x = some i) : N[i]? = some x := by
  unfold ixOf at h
  obtain ⟨h1, rfl⟩ := ite_some h
  exact h1
theorem vis_of {sc : Scope} {x : Str} (h : visB sc x = true) : Vis sc x := by
  unfold visB at h
  split at h
  · exact .inl (by assumption)
  · exact .inr (.inl (by assumption))
  · exact .inr (.inr (by assumption))
  · cases h
theorem gl_of {x : Str} (G : GX T C sc X) (h : glB sc x = true) : Gl X x ∧ (x == ("__debug__" : Str)) = false ∧ x ≠ "__name__" := by
  unfold glB at h
  split at h
  · simp only [Bool.and_eq_true, Bool.not_eq_true', decide_eq_false_iff_not] at h
    refine ⟨?_, h.1, h.2⟩
    show X.env.scope.names.lookup x = _
    rw [G.hsc]; assumption
  · cases h
/-- a plain test -/
theorem pt_plain {e : Expr} {E : E} (h : PE X e (tE X.K C E)) (he : ∀ whole, isTrue e X.env whole = (do let v ← whole; standAt e.pos; holding [v] (truthy v))) : PT X e (tT X.K C E) := by
  refine ⟨fun pins s σ H Q I q => ?_⟩
  obtain ⟨ρ, P, d, k, sr, ev, tk, q⟩ := q
  refine isTrue_plain (thn (h.run pins s σ H (fun v H' => Ext H H' ∧ Rep X.K H' (PN P H) v d) I ⟨ρ, P, d, sr, ev, fun v H' x r _ _ => ⟨x, r⟩⟩) fun v s1 ⟨x, H1, I1, r1, x1, rp⟩ => ?_) (he _)
  exact tru_D pins s1 σ H1 x v Q I1 r1 ⟨_, d, k, rp, tk, q H1 x1⟩

/-! ### atoms -/
theorem snd_const {c : Const} {k : Nat} {pos : Pos} {d : D} (h : trC c = some d) : SndX T C sc (.Constant c k pos) (.cst d) := by
  have pv : ∀ X, GX T C sc X → PE X (.Constant c k pos) (tE X.K C (.cst d)) := by
    intro X G
    have go : ∀ (v : V), (∀ P' H, Rep X.K H P' v d) → PE X (.Constant c k pos) (tC v) → PE X (.Constant c k pos) (tE X.K C (.cst d)) := fun v hr hp => pe_weak hp fun σ H Q q => by
      obtain ⟨ρ, P, d', sr, ev, g⟩ := q
      have e : d = d' := by simpa [evE] using ev
      subst e
      exact g v H (Ext.refl H) (hr _ _) (fun _ => hr _ _) (notvar rfl)
    cases c with
    | int i => cases h; exact go _ (fun _ _ => .int i) pe_int
    | bool b => cases h; exact go _ (fun _ _ => .bl b) pe_bl
    | str x => cases h; exact go _ (fun _ _ => .str x) pe_str
    | none => cases h; exact go _ (fun _ _ => .non) pe_non
    | _ => cases h
  exact ⟨pv, fun X G => pt_plain (pv X G) fun _ => rfl⟩
theorem snd_name {x : Str} {pos : Pos} {i : Nat} (h : slotOf T.N sc x = some i) : SndX T C sc (.Name x pos) (.var i) := by
  unfold slotOf at h
  obtain ⟨hc, h⟩ := ite_some' h
  simp only [Bool.and_eq_true, Bool.not_eq_true'] at hc
  have pv : ∀ X, GX T C sc X → PE X (.Name x pos) (tE X.K C (.var i)) := fun X G => by
    refine pe_weak (pe_var (i := i) (by rw [G.hN]; exact ixOf_some h) (by rw [G.hsc]; exact vis_of hc.1.1) hc.1.2 hc.2) fun σ H Q q => ?_
    obtain ⟨ρ, P, d, sr, ev, g⟩ := q
    have ev' : ρ[i]? = some (some d) := by
      rw [evE] at ev
      cases e : ρ[i]? with
      | none => rw [e] at ev; cases ev
      | some o => rw [e] at ev; cases o with
        | none => cases ev
        | some d' => cases ev; rfl
    obtain ⟨v, h1, h2⟩ := sr i d ev'
    exact ⟨v, h1, g v H (Ext.refl H) (h2.mono fun _ z => .inl z) (fun z => h2.imm (stay_refl (P := P)) z) fun j e => by cases e; exact h1⟩
  exact ⟨pv, fun X G => pt_plain (pv X G) fun _ => rfl⟩

/-! ### operators -/
theorem snd_bin {a b : Expr} {A B : E} {op : Operator} {pos : Pos} (ha : SndX T C sc a A) (hb : SndX T C sc b B) : SndX T C sc (.BinOp a op b pos) (.bin op A B) := by
  have pv : ∀ X, GX T C sc X → PE X (.BinOp a op b pos) (tE X.K C (.bin op A B)) := fun X G => by
    refine pe_weak (pe_op (op_binD op) (ha.v X G) (hb.v X G)) fun σ H Q q => ?_
    obtain ⟨ρ, P, d, sr, ev, g⟩ := q
    simp only [evE, Option.bind_eq_some_iff] at ev
    obtain ⟨x, e1, y, e2, e3⟩ := ev
    exact ⟨ρ, P, x, sr, e1, fun v H1 x1 r1 _ _ => ⟨ρ, P, y, sr.ext x1, e2, fun u H2 x2 r2 _ _ => ⟨_, x, y, d, r1.ext x2, r2.mono fun _ z => pn_step x1 z, e3, g.res (fun z => z) (x1.trans x2)⟩⟩⟩
  exact ⟨pv, fun X G => pt_plain (pv X G) fun _ => rfl⟩
theorem snd_neg {a : Expr} {A : E} {pos : Pos} (ha : SndX T C sc a A) : SndX T C sc (.UnaryOp .USub a pos) (.neg A) := by
  have pv : ∀ X, GX T C sc X → PE X (.UnaryOp .USub a pos) (tE X.K C (.neg A)) := fun X G => by
    refine pe_weak (pe_un un_negD (ha.v X G)) fun σ H Q q => ?_
    obtain ⟨ρ, P, d, sr, ev, g⟩ := q
    simp only [evE, Option.bind_eq_some_iff] at ev
    obtain ⟨x, e1, e3⟩ := ev
    exact ⟨ρ, P, x, sr, e1, fun v H1 x1 r1 _ _ => ⟨_, x, d, r1, e3, g.res (fun z => z) x1⟩⟩
  exact ⟨pv, fun X G => pt_plain (pv X G) fun _ => rfl⟩
theorem truV_of {K : PySem.W.Frag} {H : Hp} {P : Addr → Prop} {v : V} {d : D} {k : Bool} (r : Rep K H P v d) (e : truthD d = some k) : TruV K v H k := by
  cases r with
  | non => cases e; rfl
  | bl b => cases e; rfl
  | int i => cases e; rfl
  | str x => cases e
  | tup h r => cases e; exact .inr (.inl ⟨_, h, by cases r <;> rfl⟩)
  | lst p h r => cases e; exact .inl ⟨_, SqL.of h, by cases r <;> rfl⟩
  | scr h => cases e
theorem snd_not {a : Expr} {A : E} {pos : Pos} (ha : SndX T C sc a A) : SndX T C sc (.UnaryOp .Not a pos) (.not A) := by
  refine ⟨fun X G => pe_weak (pe_notT (ha.v X G)) fun σ H Q q => ?_, fun X G => pt_weak (pt_not (ha.t X G)) fun σ H Q q => ?_⟩
  · obtain ⟨ρ, P, d, sr, ev, g⟩ := q
    simp only [evE, Option.bind_eq_some_iff] at ev
    obtain ⟨x, e1, b, e2, e3⟩ := ev
    cases e3
    exact ⟨ρ, P, x, sr, e1, fun v H1 x1 r1 _ _ => ⟨b, truV_of r1 e2, (g.res (fun z => z) x1).bl⟩⟩
  · obtain ⟨ρ, P, d, k, sr, ev, tk, g⟩ := q
    simp only [evE, Option.bind_eq_some_iff] at ev
    obtain ⟨x, e1, b, e2, e3⟩ := ev
    cases e3
    cases tk
    exact ⟨ρ, P, x, b, sr, e1, e2, g⟩
theorem snd_cmp {a b : Expr} {A B : E} {op : CmpOp} {pos : Pos} (hm : behindInMarks op b = false) (ha : SndX T C sc a A) (hb : SndX T C sc b B) : SndX T C sc (.Compare a [op] [b] pos) (.cmp op A B) := by
  refine ⟨fun X G => pe_weak (pe_cmpR (op_cmpD G.hu op) (ha.v X G) (hb.v X G) hm) fun σ H Q q => ?_, fun X G => pt_weak (pt_cmpR (op_cmpD G.hu op) (ha.v X G) (hb.v X G) hm) fun σ H Q q => ?_⟩
  · obtain ⟨ρ, P, d, sr, ev, g⟩ := q
    simp only [evE, Option.bind_eq_some_iff] at ev
    obtain ⟨x, e1, y, e2, k, e3, e4⟩ := ev
    cases e4
    exact ⟨ρ, P, x, sr, e1, fun v H1 x1 r1 _ _ => ⟨ρ, P, y, sr.ext x1, e2, fun u H2 x2 r2 _ _ => ⟨_, x, y, k, r1.ext x2, r2.mono fun _ z => pn_step x1 z, e3, (g.res (fun z => z) (x1.trans x2)).bl⟩⟩⟩
  · obtain ⟨ρ, P, d, k, sr, ev, tk, g⟩ := q
    simp only [evE, Option.bind_eq_some_iff] at ev
    obtain ⟨x, e1, y, e2, k', e3, e4⟩ := ev
    cases e4
    cases tk
    exact ⟨ρ, P, x, sr, e1, fun v H1 x1 r1 _ _ => ⟨ρ, P, y, sr.ext x1, e2, fun u H2 x2 r2 _ _ => ⟨_, x, y, k, r1.ext x2, r2.mono fun _ z => pn_step x1 z, e3, _, rfl, g _ (x1.trans x2)⟩⟩⟩
theorem snd_chain {a b c : Expr} {A B D' : E} {op op' : CmpOp} {pos : Pos} (hm : lastMarks [op, op'] [b, c] = false) (ha : SndX T C sc a A) (hb : SndX T C sc b B) (hc : SndX T C sc c D') : SndX T C sc (.Compare a [op, op'] [b, c] pos) (.chain op op' A B D') := by
  have core : ∀ (X : Cx) (P : Addr → Prop) (ρ : EnvD) (σ : L2.St) (H : Hp) (d : D) (Q : VK), SR X.K H P σ ρ → evE C ρ (.chain op op' A B D') = some d → (∀ k H', Ext H H' → d = .bl k → Q (.bl k) H') →
      tChain (rC X.K (cmpD op)) (rC X.K (cmpD op')) (tE X.K C A) (tE X.K C B) (tE X.K C D') σ H Q := fun X P ρ σ H d Q sr ev g => by
    simp only [evE, Option.bind_eq_some_iff] at ev
    obtain ⟨x, e1, y, e2, k, e3, e4⟩ := ev
    refine ⟨ρ, P, x, sr, e1, fun v H1 x1 r1 _ _ => ⟨ρ, P, y, sr.ext x1, e2, fun u H2 x2 r2 _ _ => ⟨_, x, y, k, r1.ext x2, r2.mono fun _ z => pn_step x1 z, e3, k, rfl, ?_⟩⟩⟩
    cases k with
    | false =>
      simp only [Bool.false_eq_true, if_false] at e4 ⊢
      cases e4
      exact g _ _ (x1.trans x2) rfl
    | true =>
      simp only [if_true] at e4 ⊢
      simp only [Option.bind_eq_some_iff] at e4
      obtain ⟨z, e5, k', e6, e7⟩ := e4
      cases e7
      exact ⟨ρ, P, z, sr.ext (x1.trans x2), e5, fun w H3 x3 r3 _ _ => ⟨PN P H, y, z, k', (r2.ext x3).mono fun _ z => pn_step x1 z, r3.mono fun _ z => pn_step (x1.trans x2) z, e6, g _ _ (x1.trans (x2.trans x3)) rfl⟩⟩
  refine ⟨fun X G => pe_weak (pe_chain (op_cmpD G.hu op) (op_cmpD G.hu op') (ha.v X G) (hb.v X G) (hc.v X G) hm) fun σ H Q q => ?_, fun X G => pt_weak (pt_chain (op_cmpD G.hu op) (op_cmpD G.hu op') (ha.v X G) (hb.v X G) (hc.v X G) hm) fun σ H Q q => ?_⟩
  · obtain ⟨ρ, P, d, sr, ev, g⟩ := q
    exact core X P ρ σ H d Q sr ev fun k H' x e => by subst e; exact (g.res (fun z => z) x).bl
  · obtain ⟨ρ, P, d, k, sr, ev, tk, g⟩ := q
    exact core X P ρ σ H d _ sr ev fun k H' x e => by subst e; cases tk; exact ⟨_, rfl, g _ x⟩
theorem snd_ite {c a b : Expr} {D' A B : E} {pos : Pos} (hc : SndX T C sc c D') (ha : SndX T C sc a A) (hb : SndX T C sc b B) : SndX T C sc (.IfExp c a b pos) (.ite D' A B) := by
  refine ⟨fun X G => pe_weak (pe_ifExp (hc.t X G) (ha.v X G) (hb.v X G)) fun σ H Q q => ?_, fun X G => ⟨fun pins s σ H Q I q => ?_⟩⟩
  · obtain ⟨ρ, P, d, sr, ev, g⟩ := q
    simp only [evE, Option.bind_eq_some_iff] at ev
    obtain ⟨x, e1, k, e2, e3⟩ := ev
    refine ⟨ρ, P, x, k, sr, e1, e2, fun H1 x1 => ?_⟩
    cases k with
    | true => exact ⟨ρ, P, d, sr.ext x1, e3, fun v H' x' r _ _ => g.old (fun z => z) (x1.trans x') (r.mono fun _ z => pn_step x1 z)⟩
    | false => exact ⟨ρ, P, d, sr.ext x1, e3, fun v H' x' r _ _ => g.old (fun z => z) (x1.trans x') (r.mono fun _ z => pn_step x1 z)⟩
  · obtain ⟨ρ, P, d, k, sr, ev, tk, g⟩ := q
    simp only [evE, Option.bind_eq_some_iff] at ev
    obtain ⟨x, e1, m, e2, e3⟩ := ev
    show wpAny _ _ (do if ← PySem.isTrue c X.env (eval c X.env) then PySem.isTrue a X.env (eval a X.env) else PySem.isTrue b X.env (eval b X.env)) _ _ _
    refine wpAny_bind (thn ((hc.t X G).run pins s σ H (fun c H' => c = m ∧ Ext H H') I ⟨ρ, P, x, m, sr, e1, e2, fun H' x' => ⟨rfl, x'⟩⟩) fun c s1 ⟨H1, I1, e, x1⟩ => ?_)
    subst e
    cases c with
    | true => exact (ha.t X G).run pins s1 σ H1 Q I1 ⟨ρ, P, d, k, sr.ext x1, e3, tk, fun H' x' => g H' (x1.trans x')⟩
    | false => exact (hb.t X G).run pins s1 σ H1 Q I1 ⟨ρ, P, d, k, sr.ext x1, e3, tk, fun H' x' => g H' (x1.trans x')⟩
/-! ### and, or -/
theorem snd_bool {op : BoolOp} {R : Expr → Option E} (hR : ∀ e E, R e = some E → SndX T C sc e E) : ∀ {es : List Expr} {E : E} {pos : Pos}, trB R op es = some E → ∀ X, GX T C sc X → PE X (.BoolOp op es pos) (tE X.K C E) ∧ PW X (.BoolOp op es pos) (tT X.K C E)
  | [], E, pos, h => by cases h
  | [a], E, pos, h => fun X G => by
    have := hR a E h
    refine ⟨pe_one (this.v X G), ?_⟩
    cases op with
    | And => exact pw_and1 (this.t X G)
    | Or => exact pw_or1 (this.t X G)
  | a :: b :: r, E, pos, h => fun X G => by
    simp only [trB, Option.bind_eq_some_iff] at h
    obtain ⟨A, h1, B, h2, h3⟩ := h
    have sa := hR a A h1
    obtain ⟨pb, pw⟩ := snd_bool (pos := pos) hR h2 X G
    cases op with
    | And =>
      cases h3
      refine ⟨pe_weak (pe_andT (sa.v X G) pb) fun σ H Q q => ?_, pw_weak (pw_and (sa.t X G) pw) fun σ H Q q => ?_⟩
      · obtain ⟨ρ, P, d, sr, ev, g⟩ := q
        simp only [evE, Option.bind_eq_some_iff] at ev
        obtain ⟨x, e1, k, e2, e3⟩ := ev
        refine ⟨ρ, P, x, sr, e1, fun v H1 x1 r1 _ _ => ⟨k, truV_of r1 e2, ?_⟩⟩
        cases k with
        | true => exact ⟨ρ, P, d, sr.ext x1, e3, fun v H' x' r _ _ => g.old (fun z => z) (x1.trans x') (r.mono fun _ z => pn_step x1 z)⟩
        | false => cases e3; exact g.old (fun z => z) x1 r1
      · obtain ⟨ρ, P, d, m, sr, ev, tk, g⟩ := q
        simp only [evE, Option.bind_eq_some_iff] at ev
        obtain ⟨x, e1, k, e2, e3⟩ := ev
        refine ⟨ρ, P, x, k, sr, e1, e2, fun H1 x1 => ?_⟩
        cases k with
        | true => exact ⟨ρ, P, d, m, sr.ext x1, e3, tk, fun H' x' => g H' (x1.trans x')⟩
        | false =>
          cases e3
          rw [e2] at tk
          cases tk
          exact g _ x1
    | Or =>
      cases h3
      refine ⟨pe_weak (pe_orT (sa.v X G) pb) fun σ H Q q => ?_, pw_weak (pw_or (sa.t X G) pw) fun σ H Q q => ?_⟩
      · obtain ⟨ρ, P, d, sr, ev, g⟩ := q
        simp only [evE, Option.bind_eq_some_iff] at ev
        obtain ⟨x, e1, k, e2, e3⟩ := ev
        refine ⟨ρ, P, x, sr, e1, fun v H1 x1 r1 _ _ => ⟨k, truV_of r1 e2, ?_⟩⟩
        cases k with
        | false => exact ⟨ρ, P, d, sr.ext x1, e3, fun v H' x' r _ _ => g.old (fun z => z) (x1.trans x') (r.mono fun _ z => pn_step x1 z)⟩
        | true => cases e3; exact g.old (fun z => z) x1 r1
      · obtain ⟨ρ, P, d, m, sr, ev, tk, g⟩ := q
        simp only [evE, Option.bind_eq_some_iff] at ev
        obtain ⟨x, e1, k, e2, e3⟩ := ev
        refine ⟨ρ, P, x, k, sr, e1, e2, fun H1 x1 => ?_⟩
        cases k with
        | false => exact ⟨ρ, P, d, m, sr.ext x1, e3, tk, fun H' x' => g H' (x1.trans x')⟩
        | true =>
          cases e3
          rw [e2] at tk
          cases tk
          exact g _ x1

/-! ### rows of expressions -/
theorem star_cons {e : Expr} {es : List Expr} {env : PySem.Env} (h : isStar e = false) : starEach (e :: es) env = (false, eval e env) :: starEach es env := by
  cases e <;> first | rfl | cases h
theorem star_any {es : List Expr} {env : PySem.Env} {pos : Pos} (h : es.any isStar = false) : (backTo pos (starEach es env)).any (·.1) = false := by
  induction es with
  | nil => rfl
  | cons e es ih =>
    simp only [List.any_cons, Bool.or_eq_false_iff] at h
    rw [star_cons h.1]
    simp only [backTo, List.map_cons, List.any_cons, Bool.false_or] at ih ⊢
    exact ih h.2
theorem snd_args {R : Expr → Option E} (hR : ∀ e E, R e = some E → SndX T C sc e E) : ∀ {es : List Expr} {Es : List E}, mapO R es = some Es → es.any isStar = false → ∀ X, GX T C sc X → PA X es (tAs X.K C Es)
  | [], Es, h, _ => fun X G => by
    cases h
    refine ⟨fun pos pins s σ H Q I q => pa_nil.run pos pins s σ H Q I ?_⟩
    obtain ⟨ρ, P, ds, sr, ev, g⟩ := q
    cases (show some [] = some ds from by simpa [evEs] using ev)
    exact g [] H (Ext.refl H) .nil
  | e :: es, Es, h, hs => fun X G => by
    simp only [mapO, Option.bind_eq_some_iff] at h
    obtain ⟨A, h1, B, h2, h3⟩ := h
    cases h3
    simp only [List.any_cons, Bool.or_eq_false_iff] at hs
    have pa := pa_cons ((hR e A h1).v X G) (snd_args hR h2 hs.2 X G) (star_cons hs.1)
    refine ⟨fun pos pins s σ H Q I q => pa.run pos pins s σ H Q I ?_⟩
    obtain ⟨ρ, P, ds, sr, ev, g⟩ := q
    simp only [evEs, Option.bind_eq_some_iff] at ev
    obtain ⟨x, e1, xs, e2, e3⟩ := ev
    cases e3
    exact ⟨ρ, P, x, sr, e1, fun v H1 x1 r1 _ _ => ⟨ρ, P, xs, sr.ext x1, e2, fun vs H2 x2 r2 => g _ H2 (x1.trans x2) (.cons (r1.ext x2) (r2.mono fun _ z => pn_step x1 z))⟩⟩
theorem snd_tup {R : Expr → Option E} (hR : ∀ e E, R e = some E → SndX T C sc e E) {es : List Expr} {Es : List E} {k : Nat} {pos : Pos} (h : mapO R es = some Es) (hs : es.any isStar = false) : SndX T C sc (.Tuple es k pos) (.tup Es) := by
  have pv : ∀ X, GX T C sc X → PE X (.Tuple es k pos) (tE X.K C (.tup Es)) := fun X G => by
    refine pe_weak (pe_tup (snd_args hR h hs X G)) fun σ H Q q => ?_
    obtain ⟨ρ, P, d, sr, ev, g⟩ := q
    simp only [evE, Option.bind_eq_some_iff] at ev
    obtain ⟨ds, e1, e2⟩ := ev
    obtain ⟨hl, rfl⟩ := ite_some e2
    exact ⟨ρ, P, ds, sr, e1, fun vs H1 x1 r1 => ⟨by rw [r1.length]; exact lineOk_iff.mp hl, fun p hp => (g.res (fun z => z) x1).tup r1 hp⟩⟩
  exact ⟨pv, fun X G => pt_plain (pv X G) fun _ => rfl⟩
theorem snd_lst {R : Expr → Option E} (hR : ∀ e E, R e = some E → SndX T C sc e E) {es : List Expr} {Es : List E} {pos : Pos} (h : mapO R es = some Es) (hs : es.any isStar = false) : SndX T C sc (.List es pos) (.lst Es) := by
  have pv : ∀ X, GX T C sc X → PE X (.List es pos) (tE X.K C (.lst Es)) := fun X G => by
    refine pe_weak (pe_lst (snd_args hR h hs X G)) fun σ H Q q => ?_
    obtain ⟨ρ, P, d, sr, ev, g⟩ := q
    simp only [evE, Option.bind_eq_some_iff] at ev
    obtain ⟨ds, e1, e2⟩ := ev
    obtain ⟨hl, rfl⟩ := ite_some e2
    exact ⟨ρ, P, ds, sr, e1, fun vs H1 x1 r1 => ⟨by rw [r1.length]; exact lineOk_iff.mp hl, fun p hp => (g.res (fun z => z) x1).lst r1 hp⟩⟩
  exact ⟨pv, fun X G => pt_plain (pv X G) fun _ => rfl⟩

/-! ### subscripts -/
theorem snd_ix {a b : Expr} {A B : E} {pos : Pos} (hb0 : isSlice b = false) (ha : SndX T C sc a A) (hb : SndX T C sc b B) : SndX T C sc (.Subscript a b pos) (.ix A B) := by
  have hp : PlainIx b := fun o i => by cases b <;> first | rfl | cases hb0
  have pv : ∀ X, GX T C sc X → PE X (.Subscript a b pos) (tE X.K C (.ix A B)) := fun X G => by
    refine pe_weak (pe_ix ix_D (ha.v X G) (hb.v X G) hp) fun σ H Q q => ?_
    obtain ⟨ρ, P, d, sr, ev, g⟩ := q
    simp only [evE, Option.bind_eq_some_iff] at ev
    obtain ⟨x, e1, y, e2, e3⟩ := ev
    exact ⟨ρ, P, x, sr, e1, fun v H1 x1 r1 _ _ => ⟨ρ, P, y, sr.ext x1, e2, fun u H2 x2 r2 _ _ => ⟨_, x, y, d, r1.ext x2, r2.mono fun _ z => pn_step x1 z, e3, fun w rw => g.old (fun z => z) (x1.trans x2) rw⟩⟩⟩
  exact ⟨pv, fun X G => pt_plain (pv X G) fun _ => rfl⟩
theorem snd_opt {R : Expr → Option E} (hR : ∀ e E, R e = some E → SndX T C sc e E) {o : Option Expr} {O : Option E} (h : trO R o = some O) : ∀ X, GX T C sc X → PO X o (tOo X.K C O) := fun X G => by
  cases o with
  | none =>
    cases h
    refine ⟨fun pins s σ H Q I q => po_none.run pins s σ H Q I ?_⟩
    obtain ⟨ρ, P, i, sr, ev, g⟩ := q
    cases (show some none = some i from by simpa [evO] using ev)
    exact g H (Ext.refl H)
  | some e =>
    obtain ⟨A, h1, rfl⟩ := Option.map_eq_some_iff.mp h
    refine ⟨fun pins s σ H Q I q => (po_some ((hR e A h1).v X G)).run pins s σ H Q I ?_⟩
    obtain ⟨ρ, P, i, sr, ev, g⟩ := q
    simp only [evO, Option.bind_eq_some_iff] at ev
    obtain ⟨x, e1, j, e2, e3⟩ := ev
    cases e3
    refine ⟨ρ, P, x, sr, e1, fun v H1 x1 r1 _ _ => ⟨j, ?_, g H1 x1⟩⟩
    cases x <;> first | cases e2 | skip
    exact r1.int_inv
theorem snd_sl {R : Expr → Option E} (hR : ∀ e E, R e = some E → SndX T C sc e E) {a : Expr} {A : E} {lo hi : Option Expr} {L U : Option E} {p2 pos : Pos} (ha : SndX T C sc a A) (hl : trO R lo = some L) (hu : trO R hi = some U) :
    SndX T C sc (.Subscript a (.Slice lo hi none p2) pos) (.sl A L U) := by
  have pv : ∀ X, GX T C sc X → PE X (.Subscript a (.Slice lo hi none p2) pos) (tE X.K C (.sl A L U)) := fun X G => by
    refine pe_weak (pe_slice sl_D (ha.v X G) (snd_opt hR hl X G) (snd_opt hR hu X G)) fun σ H Q q => ?_
    obtain ⟨ρ, P, d, sr, ev, g⟩ := q
    simp only [evE, Option.bind_eq_some_iff] at ev
    obtain ⟨x, e1, l, e2, u, e3, e4⟩ := ev
    exact ⟨ρ, P, x, sr, e1, fun v H1 x1 r1 _ _ => ⟨ρ, P, l, sr.ext x1, e2, fun H2 x2 => ⟨ρ, P, u, sr.ext (x1.trans x2), e3, fun H3 x3 => ⟨_, x, d, r1.ext (x2.trans x3), e4, g.res (fun z => z) (x1.trans (x2.trans x3))⟩⟩⟩⟩
  exact ⟨pv, fun X G => pt_plain (pv X G) fun _ => rfl⟩
end
end Ev
set_option maxHeartbeats 4000000
namespace Ev
open PySem PySem.Spec PyProof.Rows L2
section
variable {T : TC} {C : Oracle} {sc : Scope} {X : Cx}
def bfVal : BF → Value
  | .len => .builtin "len"
  | .abs => .builtin "abs"
  | .int => .type "int"
  | .min => .builtin "min"
  | .max => .builtin "max"
  | .sum => .builtin "sum"
  | .sorted => .builtin "sorted"
  | .tuple => .type "tuple"
  | .list => .type "list"
  | .all => .builtin "all"
  | .any => .builtin "any"
theorem cr_bf (hc : X.calm = true) (hu : X.A.units + 100 < cLine) (f : BF) : CallR X (bfVal f) (rF X.K f) := by
  cases f with
  | len => exact cr_lenD
  | abs => exact cr_absD
  | int => exact cr_intD
  | min => exact cr_minD hc hu
  | max => exact cr_maxD hc hu
  | sum => exact cr_sumD hc
  | sorted => exact cr_sortedD hu
  | tuple => exact cr_tupleD
  | list => exact cr_listD
  | all => exact cr_allD hc
  | any => exact cr_anyD hc
theorem mem_of_look {α : Type} {x : Str} {a : α} : ∀ {l : List (Str × α)}, l.lookup x = some a → (x, a) ∈ l
  | [], h => by cases h
  | (y, b) :: l, h => by
    simp only [List.lookup_cons] at h
    split at h
    · rename_i e
      cases h
      rw [eq_of_beq e]
      exact List.mem_cons_self
    · exact List.mem_cons_of_mem _ (mem_of_look h)
theorem bf_ok : ∀ p ∈ bfTab, bootBuiltins p.1 = some (bfVal p.2) ∧ p.1 ∈ bltNames := by
  simp only [bfTab, List.forall_mem_cons, List.not_mem_nil, false_implies, implies_true, and_true]
  decide +kernel
theorem ty_ok : ∀ p ∈ tyTab, bootBuiltins p.1 = some (.type p.2.nm) ∧ p.1 ∈ bltNames := by
  simp only [tyTab, List.forall_mem_cons, List.not_mem_nil, false_implies, implies_true, and_true]
  decide +kernel
theorem isin_ok : bootBuiltins "isinstance" = some (.builtin "isinstance") := by decide +kernel
theorem snd_bf {R : Expr → Option E} (hR : ∀ e E, R e = some E → SndX T C sc e E) {x : Str} {p pos : Pos} {args : List Expr} {Es : List E} {f : BF} (hg : glB sc x = true) (hf : bfTab.lookup x = some f) (hne : args.isEmpty = false) (h : mapO R args = some Es)
    (hs : args.any isStar = false) : SndX T C sc (.Call (.Name x p) args [] pos) (.bf f Es) := by
  obtain ⟨hv, hb⟩ := bf_ok _ (mem_of_look hf)
  have pv : ∀ X, GX T C sc X → PE X (.Call (.Name x p) args [] pos) (tE X.K C (.bf f Es)) := fun X G => by
    obtain ⟨gx, hd, hn⟩ := gl_of G hg
    cases args with
    | nil => cases hne
    | cons e es =>
      have pa := snd_args hR h hs X G
      have hst : isStar e = false ∧ es.any isStar = false := by simpa using hs
      have key : PE X (.Call (.Name x p) (e :: es) [] pos) (tCB (rF X.K f) (tAs X.K C Es)) := by
        have cr := cr_bf G.calm G.hu f (X := X)
        cases f with
        | int => exact pe_callTy cr gx (G.bl x hb) hv pa hn hd (star_cons hst.1) (star_any hst.2)
        | tuple => exact pe_callTy cr gx (G.bl x hb) hv pa hn hd (star_cons hst.1) (star_any hst.2)
        | list => exact pe_callTy cr gx (G.bl x hb) hv pa hn hd (star_cons hst.1) (star_any hst.2)
        | _ => exact pe_callB cr gx (G.bl x hb) hv pa hn hd (star_cons hst.1) (star_any hst.2)
      refine pe_weak key fun σ H Q q => ?_
      obtain ⟨ρ, P, d, sr, ev, g⟩ := q
      simp only [evE, Option.bind_eq_some_iff] at ev
      obtain ⟨ds, e1, e2⟩ := ev
      exact ⟨ρ, P, ds, sr, e1, fun vs H1 x1 r1 => ⟨_, ds, d, r1, e2, g.res (fun z => z) x1⟩⟩
  exact ⟨pv, fun X G => pt_plain (pv X G) fun _ => rfl⟩
theorem snd_isin {a : Expr} {A : E} {x t : Str} {p p2 pos : Pos} {ty : Ty} (hx : x = "isinstance") (hg : glB sc x = true) (hgt : glB sc t = true) (ht : tyTab.lookup t = some ty) (ha : SndX T C sc a A) (hs : isStar a = false) :
    SndX T C sc (.Call (.Name x p) [a, .Name t p2] [] pos) (.isin A ty) := by
  obtain ⟨hv, hb⟩ := ty_ok _ (mem_of_look ht)
  subst hx
  have pv : ∀ X, GX T C sc X → PE X (.Call (.Name "isinstance" p) [a, .Name t p2] [] pos) (tE X.K C (.isin A ty)) := fun X G => by
    obtain ⟨gx, hd, hn⟩ := gl_of G hg
    obtain ⟨gt, hdt, hnt⟩ := gl_of G hgt
    have pt : PE X (.Name t p2) (tC (.ty ty.nm)) := pe_bltn gt (G.bl t hb) hv rfl hnt hdt
    refine pe_weak (pe_callB (cr_isin ty) gx (G.bl _ (by decide)) isin_ok (pa_cons (ha.v X G) (pa_cons pt pa_nil) (star_cons hs)) hn hd (star_cons hs) rfl) fun σ H Q q => ?_
    obtain ⟨ρ, P, d, sr, ev, g⟩ := q
    simp only [evE, Option.bind_eq_some_iff] at ev
    obtain ⟨y, e1, k, e2, e3⟩ := ev
    cases e3
    exact ⟨ρ, P, y, sr, e1, fun v H1 x1 r1 _ _ => ⟨_, v, y, k, rfl, r1, e2, (g.res (fun z => z) x1).bl⟩⟩
  exact ⟨pv, fun X G => pt_plain (pv X G) fun _ => rfl⟩
theorem snd_call {R : Expr → Option E} (hR : ∀ e E, R e = some E → SndX T C sc e E) {x : Str} {p pos : Pos} {args : List Expr} {Es : List E} {i : Nat} (hg : glB sc x = true) (hi : ixOf T.fns x = some i) (h : mapO R args = some Es)
    (hs : args.any isStar = false) : SndX T C sc (.Call (.Name x p) args [] pos) (.call i Es) := by
  have pv : ∀ X, GX T C sc X → PE X (.Call (.Name x p) args [] pos) (tE X.K C (.call i Es)) := fun X G => by
    obtain ⟨gx, hd, hn⟩ := gl_of G hg
    obtain ⟨k, a, fd, ps, hm, hk, hr, hb, F⟩ := G.fn i x (ixOf_some hi)
    have pa := snd_args hR h hs X G
    have key : PE X (.Call (.Name x p) args [] pos) (tCall (spD X.K C i) [] E0 (tAs X.K C Es)) := by
      cases args with
      | nil =>
        cases h
        refine pe_weak (pe_call0 (E := E0) F hr gx hm hk hb .nil pass0 hd) fun σ H Q q => ?_
        obtain ⟨ρ, P, ds, sr, ev, g⟩ := q
        cases (show some [] = some ds from by simpa [evEs] using ev)
        exact g [] H (Ext.refl H) .nil
      | cons e es =>
        have hst : isStar e = false ∧ es.any isStar = false := by simpa using hs
        exact pe_call F hr gx hm hk hb .nil pass0 pa hd (star_cons hst.1) (star_any hst.2)
    refine pe_weak key fun σ H Q q => ?_
    obtain ⟨ρ, P, d, sr, ev, g⟩ := q
    simp only [evE, Option.bind_eq_some_iff] at ev
    obtain ⟨ds, e1, e2⟩ := ev
    exact ⟨ρ, P, ds, sr, e1, fun vs H1 x1 r1 => ⟨ds, d, by rw [List.append_nil]; exact r1.any, e2, fun v H' x2 r2 =>
      g v H' (x1.trans x2) (r2.mono fun a z => .inr (x1.none z)) (fun _ => r2.mono fun a z => x1.none z) (notvar rfl)⟩⟩
  exact ⟨pv, fun X G => pt_plain (pv X G) fun _ => rfl⟩

/-! ### what is walked -/
/-- J gives the items ds, as long as Gd holds -/
structure Yld (K : PySem.W.Frag) (P : Addr → Prop) (J : L2.It) (ds : List D) (Gd : Hp → Prop) : Prop where
  go : ∀ i H, Gd H → i < ds.length → J.go i H
  stop : ∀ i H, Gd H → ds.length ≤ i → J.stop i H
  yld : ∀ i H x H', Gd H → i < ds.length → J.yld i H x H' → Ext H H' ∧ ∃ d, ds[i]? = some d ∧ Rep K H' (PN P H) x d
/-- the sources still stand -/
def Src (K : PySem.W.Frag) (P : Addr → Prop) (src : List (V × D)) : Hp → Prop := fun H => ∀ p ∈ src, Rep K H P p.1 p.2
/-- the values that are walked -/
def It.parts : It → List E
  | .seq e => [e]
  | .rng _ => []
  | .enm e => [e]
  | .zip a b => [a, b]
def tI (K : PySem.W.Frag) (C : Oracle) (it : It) : TI := fun σ H R => ∃ ρ P ds, SR K H P σ ρ ∧ evI C ρ it = some ds ∧ ∀ J H' src, Ext H H' → Src K (PN P H) src H' → (∀ P', Yld K P' J ds (Src K P' src)) → ds.length ≤ sizeLine →
  (∀ p ∈ src, ∃ e ∈ it.parts, evE C ρ e = some p.2 ∧ (fr e p.2 = true → Rep K H' (New H) p.1 p.2) ∧ ∀ i, e = .var i → σ[i]? = some (some p.1)) → R J H'
theorem rep_list_fun {K : PySem.W.Frag} {H : Hp} {P : Addr → Prop} {a : Addr} {xs : List V} {ds : List D} (r : Rep K H P (.ref a) (.lst ds)) : ∃ vs, H a = some (.lst vs) ∧ Reps K H P vs ds := by
  obtain ⟨b, vs, e, _, h, s⟩ := r.lst_inv
  cases e
  exact ⟨vs, h, s⟩
theorem yld_list {K : PySem.W.Frag} {P : Addr → Prop} {a : Addr} {ds : List D} : Yld K P (Itl K a) ds (Src K P [(.ref a, .lst ds)]) := by
  have inv : ∀ H, Src K P [(.ref a, .lst ds)] H → ∃ vs, H a = some (.lst vs) ∧ Reps K H P vs ds := fun H g => rep_list_fun (xs := []) (g _ List.mem_cons_self)
  refine ⟨fun i H g hi => ?_, fun i H g hi => ?_, fun i H x H' g hi y => ?_⟩
  · obtain ⟨vs, h, r⟩ := inv H g
    have hl := r.length
    exact ⟨vs, vs[i], SqL.of h, by simp [show i < vs.length by omega]⟩
  · obtain ⟨vs, h, r⟩ := inv H g
    have hl := r.length
    exact ⟨vs, SqL.of h, by omega⟩
  · obtain ⟨vs, h, r⟩ := inv H g
    obtain ⟨e, y⟩ := y
    subst e
    have hx := y vs (SqL.of h)
    obtain ⟨d, hd, rd⟩ := r.getV hx
    exact ⟨Ext.refl _, d, hd, rd.mono fun _ z => .inl z⟩
theorem yld_tup {K : PySem.W.Frag} {P : Addr → Prop} {a : Addr} {ds : List D} {vs0 : List V} : Yld K P (Itt K a) ds (Src K P [(.ref a, .tup ds)]) := by
  have inv : ∀ H, Src K P [(.ref a, .tup ds)] H → ∃ vs, SqT K H a vs ∧ Reps K H P vs ds := fun H g => by
    obtain ⟨b, vs, e, h, s⟩ := (g _ List.mem_cons_self).tup_inv
    cases e
    exact ⟨vs, h, s⟩
  refine ⟨fun i H g hi => ?_, fun i H g hi => ?_, fun i H x H' g hi y => ?_⟩
  · obtain ⟨vs, h, r⟩ := inv H g
    have hl := r.length
    exact ⟨vs, vs[i], h, by simp [show i < vs.length by omega]⟩
  · obtain ⟨vs, h, r⟩ := inv H g
    have hl := r.length
    exact ⟨vs, h, by omega⟩
  · obtain ⟨vs, h, r⟩ := inv H g
    obtain ⟨e, y⟩ := y
    subst e
    obtain ⟨d, hd, rd⟩ := r.getV (y vs h)
    exact ⟨Ext.refl _, d, hd, rd.mono fun _ z => .inl z⟩
theorem yld_rng {K : PySem.W.Frag} {P : Addr → Prop} {lo : Int} {n : Nat} : Yld K P (Itr lo n) (intsFrom lo n) (Src K P []) := by
  have hl : (intsFrom lo n).length = n := by simp [intsFrom]
  refine ⟨fun i H _ hi => by rw [hl] at hi; exact hi, fun i H _ hi => by rw [hl] at hi; exact hi, fun i H x H' _ hi y => ?_⟩
  obtain ⟨e, rfl⟩ := y
  subst e
  rw [hl] at hi
  refine ⟨Ext.refl _, .int (lo + (i : Int)), ?_, .int _⟩
  simp [intsFrom, hi]
structure SndI (T : TC) (C : Oracle) (sc : Scope) (e : Expr) (I : It) : Prop where
  run : ∀ X tg, GX T C sc X → PI X tg e (tI X.K C I)
  nofold : ∀ env x, foldedSetIterable e env x = pure x
theorem pi_weak {tg e : Expr} {t t' : TI} (h : PI X tg e t) (w : ∀ σ H R, t' σ H R → t σ H R) : PI X tg e t' := ⟨fun pins s σ H R I q => h.run pins s σ H R I (w _ _ _ q)⟩
theorem nofold_of {e : Expr} (h : isSet e = false) : ∀ env x, foldedSetIterable e env x = pure x := fun env x => by
  cases e <;> first | rfl | cases h
/-- how long a list or tuple is at most -/
def Sized (K : PySem.W.Frag) (v : V) (H : Hp) : Prop := ∀ a xs, v = .ref a → (SqL K H a xs ∨ SqT K H a xs) → xs.length ≤ sizeLine
theorem pe_sized {e : Expr} {t : TE} (h : PE X e t) : PE X e (fun σ H Q => t σ H fun v H' => Sized X.K v H' → Q v H') := by
  refine ⟨fun pins s σ H Q I q => thn (h.run pins s σ H _ I q) fun u s1 hq => ?_⟩
  obtain ⟨v, H', I', r, q'⟩ := hq
  refine ⟨v, H', I', r, q' fun a xs _ hx => ?_⟩
  rcases hx with hx | hx
  · obtain ⟨_, _, _, hz⟩ := I'.list hx
    exact hz
  · obtain ⟨_, _, _, hz⟩ := I'.tuple hx
    exact hz
theorem snd_seq {e : Expr} {A : E} (h0 : isSet e = false) (h : SndX T C sc e A) : SndI T C sc e (.seq A) := by
  refine ⟨fun X tg G => ⟨fun pins s σ H R I q => ?_⟩, nofold_of h0⟩
  obtain ⟨ρ, P, ds, sr, ev, g⟩ := q
  simp only [evI, Option.bind_eq_some_iff] at ev
  obtain ⟨x, e1, e2⟩ := ev
  rcases itemsD_inv e2 with rfl | rfl
  · refine (pi_list (tg := tg) (pe_sized (h.v X G))).run pins s σ H R I ⟨ρ, P, _, sr, e1, fun v H1 x1 r1 f1 w1 hsz => ?_⟩
    obtain ⟨a, vs, rfl, _, ha, r⟩ := r1.lst_inv
    exact ⟨a, rfl, ⟨vs, SqL.of ha⟩, g _ H1 [(.ref a, .lst ds)] x1 (fun p hp => by cases List.mem_singleton.mp hp; exact r1) (fun P' => yld_list) (by rw [← r.length]; exact hsz _ _ rfl (.inl (SqL.of ha))) fun p hp => by cases List.mem_singleton.mp hp; exact ⟨A, List.mem_cons_self, e1, f1, w1⟩⟩
  · refine (pi_tup (tg := tg) (pe_sized (h.v X G))).run pins s σ H R I ⟨ρ, P, _, sr, e1, fun v H1 x1 r1 f1 w1 hsz => ?_⟩
    obtain ⟨a, vs, rfl, ha, r⟩ := r1.tup_inv
    exact ⟨a, rfl, ⟨vs, ha⟩, g _ H1 [(.ref a, .tup ds)] x1 (fun p hp => by cases List.mem_singleton.mp hp; exact r1) (fun P' => yld_tup (vs0 := vs)) (by rw [← r.length]; exact hsz _ _ rfl (.inr ha)) fun p hp => by cases List.mem_singleton.mp hp; exact ⟨A, List.mem_cons_self, e1, f1, w1⟩⟩
end
end Ev
set_option maxHeartbeats 4000000
namespace Ev
open PySem PySem.Spec PyProof.Rows L2
section
variable {T : TC} {C : Oracle} {sc : Scope} {X : Cx}
theorem mapO_length {α β : Type} {f : α → Option β} : ∀ {xs : List α} {ys : List β}, mapO f xs = some ys → xs.length = ys.length
  | [], ys, h => by cases h; rfl
  | x :: xs, ys, h => by
    simp only [mapO, Option.bind_eq_some_iff] at h
    obtain ⟨y, _, zs, h2, h3⟩ := h
    cases h3
    simp [mapO_length h2]
theorem evEs_length {C : Oracle} {ρ : EnvD} : ∀ {es : List E} {ds : List D}, evEs C ρ es = some ds → es.length = ds.length
  | [], ds, h => by simp [evEs] at h; subst h; rfl
  | e :: es, ds, h => by
    simp only [evEs, Option.bind_eq_some_iff] at h
    obtain ⟨y, _, zs, h2, h3⟩ := h
    cases h3
    simp [evEs_length h2]
theorem snd_rng {R : Expr → Option E} (hR : ∀ e E, R e = some E → SndX T C sc e E) {x : Str} {p pos : Pos} {args : List Expr} {Es : List E} (hx : x = "range") (hg : glB sc x = true) (h : mapO R args = some Es) (hs : args.any isStar = false)
    (hl : (args.length == 1 || args.length == 2) = true) : SndI T C sc (.Call (.Name x p) args [] pos) (.rng Es) := by
  subst hx
  refine ⟨fun X tg G => ⟨fun pins s σ H Rr I q => ?_⟩, nofold_of rfl⟩
  obtain ⟨gx, hd, hn⟩ := gl_of G hg
  have hm : X.mg "range" = none := G.bl _ (by decide)
  have pa := snd_args hR h hs X G
  obtain ⟨ρ, P, ds, sr, ev, g⟩ := q
  simp only [evI, Option.bind_eq_some_iff] at ev
  obtain ⟨as, e1, e2⟩ := ev
  have l1 := mapO_length h
  have l2 := evEs_length e1
  match args, hl, pa, hs, l1 with
  | [a], _, pa, hs, l1 =>
    have hst : isStar a = false := by simpa using hs
    refine (pi_range1 (tg := tg) gx hm pa (star_cons hst)).run pins s σ H Rr I ⟨ρ, P, as, sr, e1, fun vs H1 x1 r1 => ?_⟩
    match as, l2.symm.trans l1.symm, r1, e2 with
    | [y], _, r1, e2 =>
      obtain ⟨v, rfl, ry⟩ := r1.one
      cases y with
      | int n =>
        simp only [rangeD] at e2
        obtain ⟨hc, rfl⟩ := ite_some e2
        simp only [Bool.and_eq_true, decide_eq_true_eq] at hc
        obtain ⟨hc, hln⟩ := hc
        cases ry.int_inv
        exact ⟨n, rfl, hc.1, hc.2, g _ H1 [] x1 (fun p hp => by cases hp) (fun P' => yld_rng) (by simp only [intsFrom, List.length_map, List.length_range]; exact lineOk_iff.mp hln) (fun p hp => by cases hp)⟩
      | _ => cases e2
  | [a, b], _, pa, hs, l1 =>
    have hst : isStar a = false ∧ isStar b = false := by simpa using hs
    refine (pi_range2 (tg := tg) gx hm pa (by rw [star_cons hst.1, star_cons hst.2]; rfl) (star_cons hst.2)).run pins s σ H Rr I ⟨ρ, P, as, sr, e1, fun vs H1 x1 r1 => ?_⟩
    match as, l2.symm.trans l1.symm, r1, e2 with
    | [y, z], _, r1, e2 =>
      obtain ⟨v, u, rfl, ry, rz⟩ := r1.two
      cases y with
      | int n => cases z with
        | int m =>
          simp only [rangeD] at e2
          obtain ⟨hc, rfl⟩ := ite_some e2
          simp only [Bool.and_eq_true, decide_eq_true_eq] at hc
          obtain ⟨hc, hln⟩ := hc
          cases ry.int_inv
          cases rz.int_inv
          exact ⟨n, m, rfl, ⟨hc.1.1.1, hc.1.1.2, hc.1.2, hc.2⟩, g _ H1 [] x1 (fun p hp => by cases hp) (fun P' => yld_rng) (by simp only [intsFrom, List.length_map, List.length_range]; exact lineOk_iff.mp hln) (fun p hp => by cases hp)⟩
        | _ => cases e2
      | _ => cases e2
theorem snd_It {R : Rc} (hR : ∀ e E, R sc e = some E → SndX T C sc e E) {e : Expr} {I : It} (h : trI T R sc e = some I) : SndI T C sc e I := by
  unfold trI at h
  split at h
  · rename_i x p args kws pos
    by_cases hx : x = "range"
    · rw [if_pos (decide_eq_true hx)] at h
      obtain ⟨hc, h⟩ := ite_some' h
      simp only [Bool.and_eq_true, Bool.not_eq_true', List.isEmpty_iff] at hc
      obtain ⟨⟨⟨hg, hk⟩, hs⟩, hl⟩ := hc
      obtain ⟨Es, h1, rfl⟩ := Option.map_eq_some_iff.mp h
      subst hk
      exact snd_rng (R := R sc) hR hx hg h1 hs hl
    · rw [if_neg (by simpa using hx)] at h
      obtain ⟨A, h1, rfl⟩ := Option.map_eq_some_iff.mp h
      exact snd_seq rfl (hR _ A h1)
  · by_cases hs : isSet e = true
    · rw [if_pos hs] at h; cases h
    · rw [if_neg hs] at h
      obtain ⟨A, h1, rfl⟩ := Option.map_eq_some_iff.mp h
      exact snd_seq (by simpa using hs) (hR _ A h1)

/-! ### targets -/
/-- the slots of a row of names, stored from the left -/
def setAll {α : Type} (ρ : List (Option α)) : List Nat → List α → List (Option α)
  | i :: is, d :: ds => setAll (ρ.set i (some d)) is ds
  | _, _ => ρ
theorem setAll_fold {α : Type} : ∀ (is : List Nat) (ds : List α) (ρ : List (Option α)), (is.zip ds).foldl (fun r p => r.set p.1 (some p.2)) ρ = setAll ρ is ds
  | [], ds, ρ => by simp [setAll]
  | i :: is, [], ρ => by simp [setAll]
  | i :: is, d :: ds, ρ => by simp only [List.zip_cons_cons, List.foldl_cons, setAll]; exact setAll_fold is ds _
def gNames : List Nat → TGs
  | [] => gNil
  | i :: is => gCons (gName i) (gNames is)
theorem gNames_run {Q : L2.St → Hp → Prop} : ∀ (is : List Nat) (vs : List V) (σ : L2.St) (H : Hp), is.length = vs.length → Q (setAll σ is vs) H → gNames is vs σ H Q
  | [], [], σ, H, _, q => ⟨rfl, q⟩
  | [], v :: vs, σ, H, hl, q => by cases hl
  | i :: is, [], σ, H, hl, q => by cases hl
  | i :: is, v :: vs, σ, H, hl, q => ⟨v, vs, rfl, gNames_run is vs _ H (by simpa using hl) q⟩
/-- what a target's names ask of the context -/
def OwnOk (X : Cx) (own : List (Str × Nat)) : Prop := ∀ p ∈ own, X.N[p.2]? = some p.1 ∧ Loc X.env.scope p.1 ∧ (X.fn p.1 = true ∨ X.env.scope.names.lookup p.1 = some .local)
theorem pgs_names (hN : X.N.Nodup) : ∀ {es : List Expr} {own : List (Str × Nat)}, mapO (trTg1 X.N) es = some own → OwnOk X own → PGs X es (gNames (own.map Prod.snd)) ∧ (assignEach es X.env).length = own.length ∧ (assignEach es X.env).findIdx? (·.1) = none
  | [], own, h, _ => by cases h; exact ⟨pgs_nil, rfl, rfl⟩
  | e :: es, own, h, o => by
    simp only [mapO, Option.bind_eq_some_iff] at h
    obtain ⟨p, h1, ps, h2, h3⟩ := h
    cases h3
    cases e with
    | Name x pos =>
      obtain ⟨i, hi, rfl⟩ := Option.map_eq_some_iff.mp h1
      obtain ⟨a1, a2, a3⟩ := o (x, i) List.mem_cons_self
      obtain ⟨b1, b2, b3⟩ := pgs_names hN h2 fun q hq => o q (List.mem_cons_of_mem _ hq)
      refine ⟨pgs_cons (pg_name hN a1 a2 a3) b1, ?_, ?_⟩
      · show (assignEach es X.env).length + 1 = _
        rw [b2]; rfl
      · show ((false, _) :: assignEach es X.env).findIdx? (·.1) = none
        simp [List.findIdx?_cons, b3]
    | _ => cases h1
theorem setAll_get {α : Type} {j : Nat} {x : Option α} : ∀ (is : List Nat) (ds : List α) (ρ : List (Option α)), (setAll ρ is ds)[j]? = some x → (∃ (k : Nat) (d : α), is[k]? = some j ∧ ds[k]? = some d ∧ x = some d) ∨ ρ[j]? = some x
  | [], ds, ρ, h => .inr (by simpa [setAll] using h)
  | i :: is, [], ρ, h => .inr (by simpa [setAll] using h)
  | i :: is, d :: ds, ρ, h => by
    rcases setAll_get is ds _ h with ⟨k, d', h1, h2, h3⟩ | h
    · exact .inl ⟨k + 1, d', by simpa using h1, by simpa using h2, h3⟩
    · by_cases e : i = j
      · subst e
        by_cases hl : i < ρ.length
        · rw [List.getElem?_set_self hl] at h
          cases h
          exact .inl ⟨0, d, rfl, rfl, rfl⟩
        · rw [List.getElem?_eq_none (by simpa using hl)] at h
          cases h
      · rw [List.getElem?_set_ne e] at h
        exact .inr h
theorem sr_set {K : PySem.W.Frag} {H : Hp} {P : Addr → Prop} {σ : L2.St} {ρ : EnvD} {i : Nat} {v : V} {d : D} (s : SR K H P σ ρ) (r : Rep K H P v d) (hl : i < σ.length) : SR K H P (σ.set i (some v)) (ρ.set i (some d)) := fun j d' h => by
  by_cases e : i = j
  · subst e
    have hρ : i < ρ.length := by
      by_cases z : i < ρ.length
      · exact z
      · rw [List.getElem?_eq_none (by simpa using z)] at h; cases h
    rw [List.getElem?_set_self hρ] at h
    cases h
    exact ⟨v, by rw [List.getElem?_set_self hl], r⟩
  · rw [List.getElem?_set_ne e] at h
    obtain ⟨u, h1, h2⟩ := s j d' h
    exact ⟨u, by rw [List.getElem?_set_ne e]; exact h1, h2⟩
theorem sr_setAll {K : PySem.W.Frag} {H : Hp} {P : Addr → Prop} : ∀ {is : List Nat} {vs : List V} {ds : List D} {σ : L2.St} {ρ : EnvD}, SR K H P σ ρ → Reps K H P vs ds → (∀ i ∈ is, i < σ.length) → SR K H P (setAll σ is vs) (setAll ρ is ds)
  | [], _, _, _, _, s, _, _ => by simpa [setAll] using s
  | _ :: _, _, _, _, _, s, .nil, _ => by simpa [setAll] using s
  | i :: is, _, _, σ, ρ, s, .cons r t, hl => by
    simp only [setAll]
    exact sr_setAll (sr_set s r (hl i List.mem_cons_self)) t fun j hj => by rw [List.length_set]; exact hl j (List.mem_cons_of_mem _ hj)
/-- a target's reading -/
def gTg (K : PySem.W.Frag) : Tg → TG
  | .nm i => gName i
  | .tup is => gTup K is.length (gNames is)
theorem pg_tg (hc : X.calm = true) (hN : X.N.Nodup) {tg : Expr} {t : Tg} {own : List (Str × Nat)} (h : trTg X.N tg = some (t, own)) (o : OwnOk X own) : PG X tg (gTg X.K t) := by
  cases tg with
  | Name x pos =>
    obtain ⟨i, hi, e⟩ := Option.map_eq_some_iff.mp h
    cases e
    obtain ⟨a1, a2, a3⟩ := o (x, i) List.mem_cons_self
    exact pg_name hN a1 a2 a3
  | Tuple es k pos =>
    obtain ⟨ps, hi, e⟩ := Option.map_eq_some_iff.mp h
    cases e
    obtain ⟨b1, b2, b3⟩ := pgs_names hN hi o
    have := pg_tup (pos := pos) (k := k) hc b1 (n := (own.map Prod.snd).length) (by rw [b2, List.length_map]) b3
    exact this
  | _ => cases h
def Tg.slots : Tg → List Nat
  | .nm i => [i]
  | .tup is => is
/-- storing an item -/
theorem tg_store {K : PySem.W.Frag} {H : Hp} {P : Addr → Prop} {t : Tg} {x : V} {d : D} {σ : L2.St} {ρ ρ' : EnvD} {Q : L2.St → Hp → Prop} (s : SR K H P σ ρ) (r : Rep K H P x d) (h : bindT t d ρ = some ρ')
    (hl : ∀ i ∈ t.slots, i < σ.length) (q : ∀ σ', SR K H P σ' ρ' → (∃ vs, σ' = setAll σ t.slots vs) → Q σ' H) : gTg K t x σ H Q := by
  cases t with
  | nm i =>
    cases h
    exact q _ (sr_set s r (hl i List.mem_cons_self)) ⟨[x], rfl⟩
  | tup is =>
    cases d with
    | tup ds =>
      obtain ⟨hlen, rfl⟩ := ite_some h
      obtain ⟨a, vs, rfl, ha, rs⟩ := r.tup_inv
      have hv := rs.length
      refine ⟨a, vs, rfl, ha, by omega, gNames_run is vs σ H (by omega) (q _ ?_ ⟨vs, rfl⟩)⟩
      rw [setAll_fold]
      exact sr_setAll s rs hl
    | _ => cases h
end
end Ev
set_option maxHeartbeats 4000000
namespace Ev
open PySem PySem.Spec PyProof.Rows L2
section
variable {T : TC} {C : Oracle} {sc : Scope} {X : Cx}
theorem wipe_length {α : Type} (ρ : List (Option α)) : ∀ vs : List Nat, (wipe ρ vs).length = ρ.length
  | [] => rfl
  | v :: vs => by unfold wipe; rw [List.length_set, wipe_length ρ vs]
theorem wipe_get {α : Type} (ρ : List (Option α)) (j : Nat) : ∀ vs : List Nat, (wipe ρ vs)[j]? = if j ∈ vs ∧ j < ρ.length then some none else ρ[j]?
  | [] => by simp [wipe]
  | v :: vs => by
    unfold wipe
    have ih := wipe_get ρ j vs
    by_cases e : v = j
    · subst e
      by_cases hl : v < ρ.length
      · rw [List.getElem?_set_self (by rw [wipe_length]; exact hl)]
        simp [hl]
      · rw [List.getElem?_eq_none (by rw [List.length_set, wipe_length]; omega)]
        simp [hl]
    · rw [List.getElem?_set_ne e, ih]
      have : (j ∈ v :: vs ∧ j < ρ.length) ↔ (j ∈ vs ∧ j < ρ.length) := by
        simp only [List.mem_cons]
        constructor
        · rintro ⟨h | h, h2⟩
          · exact absurd h.symm e
          · exact ⟨h, h2⟩
        · rintro ⟨h, h2⟩; exact ⟨.inr h, h2⟩
      simp only [this]
theorem wipe_L2 (σ : L2.St) : ∀ vs : List Nat, L2.wipe σ vs = wipe σ vs
  | [] => rfl
  | v :: vs => by unfold L2.wipe wipe; rw [wipe_L2 σ vs]
theorem setAll_length {α : Type} : ∀ (is : List Nat) (ds : List α) (ρ : List (Option α)), (setAll ρ is ds).length = ρ.length
  | [], ds, ρ => by simp [setAll]
  | i :: is, [], ρ => by simp [setAll]
  | i :: is, d :: ds, ρ => by simp only [setAll]; rw [setAll_length is ds, List.length_set]
theorem setAll_out {α : Type} {j : Nat} : ∀ (is : List Nat) (ds : List α) (ρ : List (Option α)), j ∉ is → (setAll ρ is ds)[j]? = ρ[j]?
  | [], ds, ρ, _ => by simp [setAll]
  | i :: is, [], ρ, _ => by simp [setAll]
  | i :: is, d :: ds, ρ, h => by
    simp only [List.mem_cons, not_or] at h
    simp only [setAll]
    rw [setAll_out is ds _ h.2, List.getElem?_set_ne (fun e => h.1 e.symm)]
theorem wipe_setAll {α : Type} (ρ : List (Option α)) (is vs : List Nat) (ds : List α) (h : ∀ i ∈ is, i ∈ vs) : wipe (setAll (wipe ρ vs) is ds) vs = wipe ρ vs := by
  apply List.ext_getElem?
  intro j
  rw [wipe_get, wipe_get, setAll_length, wipe_length]
  by_cases hj : j ∈ vs ∧ j < ρ.length
  · rw [if_pos hj, if_pos hj]
  · rw [if_neg hj, if_neg hj]
    by_cases hi : j ∈ is
    · have hv := h j hi
      have hl : ρ.length ≤ j := by
        by_cases z : j < ρ.length
        · exact absurd ⟨hv, z⟩ hj
        · omega
      rw [List.getElem?_eq_none (by rw [setAll_length, wipe_length]; exact hl), List.getElem?_eq_none hl]
    · rw [setAll_out _ _ _ hi, wipe_get, if_neg hj]
theorem sr_wipe {K : PySem.W.Frag} {H : Hp} {P : Addr → Prop} {σ : L2.St} {ρ : EnvD} (s : SR K H P σ ρ) (vs : List Nat) : SR K H P (L2.wipe σ vs) (wipe ρ vs) := fun j d h => by
  rw [wipe_L2]
  rw [wipe_get] at h
  by_cases hj : j ∈ vs ∧ j < ρ.length
  · rw [if_pos hj] at h; cases h
  · rw [if_neg hj] at h
    have hv : j ∉ vs := fun z => hj ⟨z, by
      by_cases z2 : j < ρ.length
      · exact z2
      · rw [List.getElem?_eq_none (by omega)] at h; cases h⟩
    obtain ⟨v, h1, h2⟩ := s j d h
    exact ⟨v, by rw [wipe_get, if_neg (fun z => hv z.1)]; exact h1, h2⟩
theorem ext_upd {H H' : Hp} {D : Addr} {o : HO} (e : Ext H H') (h : H D = none) : Ext H (upd H' D o) :=
  ⟨fun a u q n => by rw [upd_ne (ne_of_none q h)]; exact e.at_ a u q n, fun a ps q => by rw [upd_ne (ne_of_none q h)]; exact e.tb a ps q⟩
theorem stay_upd {H : Hp} {D : Addr} {acc : List V} {o : HO} {P : Addr → Prop} (h : H D = some (.lst acc)) (hp : ∀ a, P a → a ≠ D) : Stay P H (upd H D o) :=
  ⟨fun a xs q => by rw [upd_ne (ne_of q h (by intro z; cases z))]; exact q, fun a o u q => by rw [upd_ne (ne_of q h (by intro z; cases z))]; exact q, fun a xs p q => by rw [upd_ne (hp a p)]; exact q⟩
theorem reps_of {K : PySem.W.Frag} {H : Hp} {P : Addr → Prop} : ∀ {vs : List V} {ds : List D}, vs.length = ds.length → (∀ (k : Nat) v d, vs[k]? = some v → ds[k]? = some d → Rep K H P v d) → Reps K H P vs ds
  | [], [], _, _ => .nil
  | [], _ :: _, h, _ => by cases h
  | _ :: _, [], h, _ => by cases h
  | v :: vs, d :: ds, h, f => .cons (f 0 v d rfl rfl) (reps_of (by simpa using h) fun k v' d' h1 h2 => f (k + 1) v' d' (by simpa using h1) (by simpa using h2))
theorem gx_blk (G : GX T C sc X) {scope : Scope} (hk : scope.kind = .function) (s : Shared) (H : Hp) (Ca : Addr) (cl : List (Str × Addr)) (fp : List Addr) : GX T C (relS scope sc) (X.blk s H scope (compEnvC scope cl Ca X.env) fp) where
  hN := G.hN
  nd := G.nd
  hsc := by
    show relS scope X.env.scope = _
    rw [G.hsc]
  kind := hk
  calm := G.calm
  hu := G.hu
  bl := G.bl
  fn := G.fn
theorem trTg_slots {N : List Str} {tg : Expr} {t : Tg} {own : List (Str × Nat)} (h : trTg N tg = some (t, own)) : t.slots = own.map Prod.snd := by
  cases tg with
  | Name x pos =>
    obtain ⟨i, hi, e⟩ := Option.map_eq_some_iff.mp h
    cases e; rfl
  | Tuple es k pos =>
    obtain ⟨ps, hi, e⟩ := Option.map_eq_some_iff.mp h
    cases e; rfl
  | _ => cases h
/-- a clause's test, as a reading -/
def tIfs (K : PySem.W.Frag) (C : Oracle) : Option E → TT
  | none => tYes
  | some e => tT K C e
def stepF (C : Oracle) (ρ : EnvD) (vs : List Nat) (tg : Tg) (c : Option E) (elt : E) : D → Option (Option D) := fun x => (bindT tg x (wipe ρ vs)).bind fun ρ' =>
      (evC C ρ' c).bind fun k => if k then (evE C ρ' elt).bind fun y => some (some y) else some none
theorem comp_core {K : PySem.W.Frag} {H H1 : Hp} {P : Addr → Prop} {σ : L2.St} {ρ : EnvD} {vs : List Nat} {t : Tg} {it : It} {c : Option E} {elt : E} {xs ys : List D} {Q : VK} {J : L2.It} {src : List (V × D)}
    (sr : SR K H P σ ρ) (hl : ∀ i ∈ vs, i < σ.length) (hvs : t.slots = vs) (e2 : compL (stepF C ρ vs t c elt) xs = some ys) (g : Got K σ H P (.comp elt vs t it c) (.lst ys) Q) (hz : xs.length ≤ sizeLine)
    (x1 : Ext H H1) (hsrc : Src K (PN P H) src H1) (Y : ∀ P', Yld K P' J xs (Src K P' src)) (D : Addr) (hD : H1 D = none) :
    ∃ W : Nat → Nat → Hp → Prop, (∃ m, W 0 m (upd H1 D (.lst []))) ∧ ∀ i m H, W i m H →
      (J.stop i H ∧ Q (.ref D) H) ∨ (J.go i H ∧ ∃ Nx : Hp → Prop, (∀ H', Nx H' → ∃ m', m' < m ∧ W (i + 1) m' H') ∧ ∀ x H', J.yld i H x H' → gTg K t x (L2.wipe σ vs) H' fun σ2 H2 => L2.wipe σ2 vs = L2.wipe σ vs ∧ tIfs K C c σ2 H2 fun b H3 =>
        if b = true then tE K C elt σ2 H3 fun y H4 => ∃ acc, H4 D = some (.lst acc) ∧ acc.length < sizeLine ∧ Nx (upd H4 D (.lst (acc ++ [y]))) else Nx H3) := by
  have hDH : H D = none := x1.none hD
  let P2 : Addr → Prop := fun a => PN P H a ∧ a ≠ D
  let PF : Addr → Prop := fun a => New H a ∧ a ≠ D
  let Inv : Nat → Hp → Prop := fun i Hc => Ext H1 Hc ∧ ∃ acc ys1 ys2, Hc D = some (.lst acc) ∧ ys = ys1 ++ ys2 ∧ compL (stepF C ρ vs t c elt) (xs.drop i) = some ys2 ∧ acc.length ≤ i ∧ Reps K Hc P2 acc ys1 ∧
    ∀ (k : Nat) v y, acc[k]? = some v → ys1[k]? = some y → fr elt y = true → Rep K Hc PF v y
  refine ⟨fun i m Hc => m = xs.length - i ∧ i ≤ xs.length ∧ Inv i Hc, ⟨xs.length, by simp, Nat.zero_le _, Ext.new hD, [], [], ys, upd_same, rfl, by simpa using e2, Nat.le_refl _, .nil, fun k v y h => by simp at h⟩, ?_⟩
  rintro i m Hc ⟨rfl, hi, x2, acc, ys1, ys2, hacc, hys, hc2, hal, hr, hf⟩
  have srcC : Src K (fun a => PN P H a ∧ H1 a ≠ none) src Hc := fun p hp => (hsrc p hp).there.ext x2
  by_cases hlt : i < xs.length
  · refine .inr ⟨(Y _).go i Hc srcC hlt, Inv (i + 1), fun H' n => ⟨xs.length - (i + 1), by omega, rfl, hlt, n⟩, fun x H' y => ?_⟩
    obtain ⟨x3, d, hd, rd⟩ := (Y _).yld i Hc x H' srcC hlt y
    have hdrop : xs.drop i = d :: xs.drop (i + 1) := by
      obtain ⟨h1, h2⟩ := List.getElem?_eq_some_iff.mp hd
      rw [← h2, List.drop_eq_getElem_cons h1]
    rw [hdrop] at hc2
    simp only [compL, Option.bind_eq_some_iff] at hc2
    obtain ⟨o, hF, ys3, hrest, ho⟩ := hc2
    simp only [stepF, Option.bind_eq_some_iff] at hF
    obtain ⟨ρ', hb, k, hk, hkk⟩ := hF
    -- what may be read in the turn
    let P3 : Addr → Prop := fun a => (P a ∧ H a ≠ none) ∨ ((PN P H a ∧ H1 a ≠ none) ∨ Hc a = none)
    have hDc : Hc D ≠ none := by rw [hacc]; simp
    have p3 : ∀ a, P3 a → P2 a := fun a h => by
      rcases h with ⟨h1, h2⟩ | ⟨h1, h2⟩ | h1
      · exact ⟨.inl h1, fun e => by rw [e] at h2; exact h2 hDH⟩
      · exact ⟨h1, fun e => by rw [e] at h2; exact h2 hD⟩
      · exact ⟨.inr ((x1.trans x2).none h1), fun e => by rw [e] at h1; exact hDc h1⟩
    have x13 : Ext H H' := x1.trans (x2.trans x3)
    have srT : SR K H' P3 (L2.wipe σ vs) (wipe ρ vs) := ((sr_wipe sr.there vs).ext x13).mono fun a z => .inl z
    have rdT : Rep K H' P3 x d := rd.mono fun a z => .inr z
    refine tg_store srT rdT hb (fun i h => ?_) fun σ' s' hs' => ?_
    · rw [wipe_L2, wipe_length]
      exact hl i (hvs ▸ h)
    · obtain ⟨us, rfl⟩ := hs'
      refine ⟨?_, ?_⟩
      · rw [wipe_L2, wipe_L2]
        exact wipe_setAll σ _ vs us fun i h => hvs ▸ h
      · -- the test, then the element
        have skip : ∀ H3, Ext H' H3 → o = none → Inv (i + 1) H3 := fun H3 x4 e => by
          subst e
          cases ho
          refine ⟨x2.trans (x3.trans x4), acc, ys1, ys3, (x3.trans x4).at_ _ _ hacc (fun _ z => by cases z), hys, hrest, by omega, hr.ext (x3.trans x4), fun k v y h1 h2 h3 => (hf k v y h1 h2 h3).ext (x3.trans x4)⟩
        have take : ∀ H3 y, Ext H' H3 → o = some y → evE C ρ' elt = some y → tE K C elt (setAll (L2.wipe σ vs) t.slots us) H3 fun y H4 => ∃ acc, H4 D = some (.lst acc) ∧ acc.length < sizeLine ∧ Inv (i + 1) (upd H4 D (.lst (acc ++ [y]))) := fun H3 y x4 e hy => by
          subst e
          cases ho
          refine ⟨ρ', P3, y, s'.ext x4, hy, fun v H4 x5 rv fv _ => ?_⟩
          have x35 : Ext Hc H4 := x3.trans (x4.trans x5)
          have hacc4 : H4 D = some (.lst acc) := x35.at_ _ _ hacc (fun _ z => by cases z)
          have hD3 : H3 D ≠ none := by rw [(x3.trans x4).at_ _ _ hacc (fun _ z => by cases z)]; simp
          have st2 : Stay P2 H4 (upd H4 D (.lst (acc ++ [v]))) := stay_upd hacc4 fun a z => z.2
          have stF : Stay PF H4 (upd H4 D (.lst (acc ++ [v]))) := stay_upd hacc4 fun a z => z.2
          have x14 : Ext H H3 := x13.trans x4
          refine ⟨acc, hacc4, by omega, ext_upd (x2.trans x35) hD, acc ++ [v], ys1 ++ [y], ys3, upd_same, by rw [hys]; simp, hrest, by simp; omega, ?_, ?_⟩
          · refine ((hr.ext x35).append (.cons (rv.mono fun a z => ?_) .nil)).stay' st2 fun a z => z
            rcases z with z | z
            · exact p3 a z
            · exact ⟨.inr (x14.none z), fun e => by rw [e] at z; exact hD3 z⟩
          · intro k w yy h1 h2 h3
            have hlen := hr.length
            by_cases hk : k < acc.length
            · rw [List.getElem?_append_left hk] at h1
              rw [List.getElem?_append_left (by omega)] at h2
              exact ((hf k w yy h1 h2 h3).ext x35).stay' stF fun a z => z
            · have hk2 : k = acc.length := by
                obtain ⟨h4, _⟩ := List.getElem?_eq_some_iff.mp h1
                simp at h4; omega
              subst hk2
              rw [List.getElem?_append_right (Nat.le_refl _)] at h1
              rw [List.getElem?_append_right (by omega)] at h2
              have hsub : acc.length - ys1.length = 0 := by omega
              rw [hsub] at h2
              simp at h1 h2
              subst h1 h2
              refine ((fv h3).mono fun a z => ⟨x14.none z, fun e => by rw [e] at z; exact hD3 z⟩).stay' stF fun a z => z
        cases c with
        | none =>
          cases (show k = true by simpa [evC] using hk.symm)
          simp only [if_true, Option.bind_eq_some_iff] at hkk
          obtain ⟨y, hy, ho'⟩ := hkk
          simp only [tIfs, tYes, if_true]
          exact take H' y (Ext.refl _) (Option.some.inj ho').symm hy
        | some ce =>
          simp only [evC, Option.bind_eq_some_iff] at hk
          obtain ⟨dc, hk1, hk2⟩ := hk
          refine ⟨ρ', P3, dc, k, s', hk1, hk2, fun H3 x4 => ?_⟩
          cases k with
          | true =>
            simp only [if_true, Option.bind_eq_some_iff] at hkk ⊢
            obtain ⟨y, hy, ho'⟩ := hkk
            exact take H3 y x4 (Option.some.inj ho').symm hy
          | false =>
            simp only [Bool.false_eq_true, if_false] at hkk ⊢
            exact skip H3 x4 (Option.some.inj hkk).symm
  · have e : i = xs.length := by omega
    subst e
    have hy2 : ys2 = [] := by
      rw [List.drop_length] at hc2
      exact (Option.some.inj hc2).symm
    subst hy2
    rw [List.append_nil] at hys
    subst hys
    refine .inl ⟨(Y _).stop _ Hc srcC (Nat.le_refl _), g _ Hc (x1.trans x2) (.lst (.inr hDH) hacc hr) (fun hfr => ?_) (notvar rfl)⟩
    refine .lst hDH hacc ?_
    simp only [fr, Bool.or_eq_true, List.all_eq_true] at hfr
    rcases hfr with h | h
    · exact hr.imm stay_refl (P := P2) (R := P2) h
    · exact reps_of hr.length fun k v y h1 h2 => hf k v y h1 h2 (h y (List.mem_of_getElem? h2))
theorem loc_of {sc : Scope} {x : Str} (h : locB sc x = true) : Loc sc x := by
  unfold locB at h
  split at h
  · exact .inl (by assumption)
  · exact .inr (by assumption)
  · cases h
theorem comp_lc {K : PySem.W.Frag} {σ : L2.St} {H : Hp} {Q : VK} {A : E} {vs : List Nat} {t : Tg} {it : It} {c : Option E} (hl : ∀ i ∈ vs, i < σ.length) (hs : t.slots = vs) (q : tE K C (.comp A vs t it c) σ H Q) :
    tLc (tI K C it) (gTg K t) (tIfs K C c) (tE K C A) vs σ H Q := by
  obtain ⟨ρ, P, d, sr, ev, g⟩ := q
  simp only [evE, Option.bind_eq_some_iff] at ev
  obtain ⟨xs, e1, ys, e2, e3⟩ := ev
  cases e3
  exact ⟨ρ, P, xs, sr, e1, fun J H1 src x1 hsrc Y hz _ D hD => comp_core sr hl hs e2 g hz x1 hsrc Y D hD⟩
theorem comp_parts {R : Rc} (hR : ∀ sc e E, R sc e = some E → SndX T C sc e E) {elt tg iter : Expr} {ifs : List Expr} {k : Int} {scope : Scope} {pos : Pos} {t : Tg} {own : List (Str × Nat)} {it : It} {c : Option E} {A : E} (ht : trTg T.N tg = some (t, own))
    (hb : blkC T.N sc scope own = true) (hk : k = 0) (ho : own.all (fun p => locB (relS scope sc) p.1 && (isCell scope p.1 || isLocal (relS scope sc) p.1)) = true) (hi : trI T R sc iter = some it) (hc : trIf (R (relS scope sc)) ifs = some c) (he : R (relS scope sc) elt = some A) :
    ∀ X, GX T C sc X → PI X tg iter (tI X.K C it) ∧ BlkOk X.N X.env.scope scope own ∧
      (∀ (s : Shared) (H : Hp) (Ca : Addr) (cl : List (Str × Addr)) (fp : List Addr), PG (X.blk s H scope (compEnvC scope cl Ca X.env) fp) tg (gTg X.K t)) ∧
      (∀ (s : Shared) (H : Hp) (Ca : Addr) (cl : List (Str × Addr)) (fp : List Addr), PTs (X.blk s H scope (compEnvC scope cl Ca X.env) fp) ifs (tIfs X.K C c)) ∧
      (∀ (s : Shared) (H : Hp) (Ca : Addr) (cl : List (Str × Addr)) (fp : List Addr), PE (X.blk s H scope (compEnvC scope cl Ca X.env) fp) elt (tE X.K C A)) ∧ (∀ x, foldedSetIterable iter X.env x = pure x) ∧
      (∀ i ∈ own.map Prod.snd, i < T.N.length) := by
  have si := snd_It (hR sc) hi
  have bk := blkOk_by hb
  have oo : ∀ (X : Cx) (G : GX T C sc X) (s : Shared) (H : Hp) (Ca : Addr) (cl : List (Str × Addr)) (fp : List Addr), OwnOk (X.blk s H scope (compEnvC scope cl Ca X.env) fp) own := fun X G s H Ca cl fp p hp => by
    have h1 := List.all_eq_true.mp ho p hp
    simp only [Bool.and_eq_true, Bool.or_eq_true] at h1
    have gb := gx_blk G bk.kind s H Ca cl fp
    refine ⟨by rw [gb.hN]; exact bk.ix p hp, by rw [gb.hsc]; exact loc_of h1.1, ?_⟩
    rcases h1.2 with h2 | h2
    · refine .inl ?_
      show (scope.names.lookup p.1 == some .cell) = true
      unfold isCell at h2
      split at h2
      · rename_i e
        rw [e]; rfl
      · cases h2
    · refine .inr ?_
      rw [gb.hsc]
      unfold isLocal at h2
      split at h2
      · assumption
      · cases h2
  intro X G
  refine ⟨si.run X tg G, by rw [G.hN, G.hsc]; exact bk, fun s H Ca cl fp => pg_tg (X := X.blk s H scope (compEnvC scope cl Ca X.env) fp) G.calm (by show X.N.Nodup; rw [G.hN]; exact G.nd) (by show trTg X.N tg = _; rw [G.hN]; exact ht) (oo X G s H Ca cl fp),
    fun s H Ca cl fp => ?_, fun s H Ca cl fp => (hR _ _ _ he).v _ (gx_blk G bk.kind s H Ca cl fp), fun x => si.nofold _ x, fun i hi => ?_⟩
  · have gb := gx_blk G bk.kind s H Ca cl fp
    cases ifs with
    | nil => cases hc; exact pts_nil
    | cons e r => cases r with
      | nil =>
        obtain ⟨Ec, h1, rfl⟩ := Option.map_eq_some_iff.mp hc
        exact pts_one ((hR _ _ _ h1).t _ gb)
      | cons _ _ => cases hc
  · obtain ⟨p, hp, rfl⟩ := List.mem_map.mp hi
    have := bk.ix p hp
    obtain ⟨h1, _⟩ := List.getElem?_eq_some_iff.mp this
    exact h1
theorem snd_comp {R : Rc} (hR : ∀ sc e E, R sc e = some E → SndX T C sc e E) {elt tg iter : Expr} {ifs : List Expr} {k : Int} {scope : Scope} {pos : Pos} {t : Tg} {own : List (Str × Nat)} {it : It} {c : Option E} {A : E} (ht : trTg T.N tg = some (t, own))
    (hb : blkC T.N sc scope own = true) (hk : k = 0) (ho : own.all (fun p => locB (relS scope sc) p.1 && (isCell scope p.1 || isLocal (relS scope sc) p.1)) = true) (hi : trI T R sc iter = some it) (hc : trIf (R (relS scope sc)) ifs = some c) (he : R (relS scope sc) elt = some A) :
    SndX T C sc (.ListComp elt [⟨tg, iter, ifs, k⟩] scope pos) (.comp A (own.map Prod.snd) t it c) := by
  have pv : ∀ X, GX T C sc X → PE X (.ListComp elt [⟨tg, iter, ifs, k⟩] scope pos) (tE X.K C (.comp A (own.map Prod.snd) t it c)) := fun X G => by
    obtain ⟨h1, h2, h3, h4, h5, h6, h7⟩ := comp_parts (pos := pos) hR ht hb hk ho hi hc he X G
    subst hk
    have base := pe_lc (X := X) (own := own) (pos := pos) (ifs := ifs) G.calm (by rw [G.hN]; exact G.nd) h1 h2 h3 h4 h5 h6
    exact ⟨fun pins s σ H Q I q => base.run pins s σ H Q I (comp_lc (fun i hi => by rw [I.len, G.hN]; exact h7 i hi) (trTg_slots ht) q)⟩
  exact ⟨pv, fun X G => pt_plain (pv X G) fun _ => rfl⟩

/-! ### THE EXPRESSIONS -/
theorem snd_step {R : Rc} (hR : ∀ sc e E, R sc e = some E → SndX T C sc e E) : ∀ {e : Expr} {E : E}, trStep T R sc e = some E → SndX T C sc e E := by
  intro e E h
  cases e with
  | Constant c k pos =>
    obtain ⟨d, h1, rfl⟩ := Option.map_eq_some_iff.mp h
    exact snd_const h1
  | Name x pos =>
    obtain ⟨i, h1, rfl⟩ := Option.map_eq_some_iff.mp h
    exact snd_name h1
  | BinOp a op b pos =>
    simp only [trStep, Option.bind_eq_some_iff] at h
    obtain ⟨A, h1, B, h2, h3⟩ := h
    cases h3
    exact snd_bin (hR _ _ _ h1) (hR _ _ _ h2)
  | UnaryOp op a pos =>
    cases op with
    | USub =>
      obtain ⟨A, h1, rfl⟩ := Option.map_eq_some_iff.mp h
      exact snd_neg (hR _ _ _ h1)
    | Not =>
      obtain ⟨A, h1, rfl⟩ := Option.map_eq_some_iff.mp h
      exact snd_not (hR _ _ _ h1)
    | _ => cases h
  | BoolOp op es pos =>
    simp only [trStep] at h
    split at h
    · rename_i a b r
      have := fun X G => snd_bool (pos := pos) (hR sc) h X G
      exact ⟨fun X G => (this X G).1, fun X G => (this X G).2.pt⟩
    · cases h
  | Compare a ops bs pos =>
    simp only [trStep] at h
    split at h
    · rename_i op b
      by_cases hm : behindInMarks op b = true
      · rw [if_pos hm] at h; cases h
      · rw [if_neg hm] at h
        simp only [Option.bind_eq_some_iff] at h
        obtain ⟨A, h1, B, h2, h3⟩ := h
        cases h3
        exact snd_cmp (by simpa using hm) (hR _ _ _ h1) (hR _ _ _ h2)
    · rename_i op op' b c
      by_cases hm : lastMarks [op, op'] [b, c] = true
      · rw [if_pos hm] at h; cases h
      · rw [if_neg hm] at h
        simp only [Option.bind_eq_some_iff] at h
        obtain ⟨A, h1, B, h2, D', h3, h4⟩ := h
        cases h4
        exact snd_chain (by simpa using hm) (hR _ _ _ h1) (hR _ _ _ h2) (hR _ _ _ h3)
    · cases h
  | IfExp c a b pos =>
    simp only [trStep, Option.bind_eq_some_iff] at h
    obtain ⟨D', h1, A, h2, B, h3, h4⟩ := h
    cases h4
    exact snd_ite (hR _ _ _ h1) (hR _ _ _ h2) (hR _ _ _ h3)
  | Tuple es k pos =>
    simp only [trStep] at h
    by_cases hs : es.any isStar = true
    · rw [if_pos hs] at h; cases h
    · rw [if_neg hs] at h
      obtain ⟨Es, h1, rfl⟩ := Option.map_eq_some_iff.mp h
      exact snd_tup (hR sc) h1 (by simpa using hs)
  | List es pos =>
    simp only [trStep] at h
    by_cases hs : es.any isStar = true
    · rw [if_pos hs] at h; cases h
    · rw [if_neg hs] at h
      obtain ⟨Es, h1, rfl⟩ := Option.map_eq_some_iff.mp h
      exact snd_lst (hR sc) h1 (by simpa using hs)
  | Subscript a b pos =>
    simp only [trStep] at h
    split at h
    · rename_i lo hi p
      simp only [Option.bind_eq_some_iff] at h
      obtain ⟨A, h1, L, h2, U, h3, h4⟩ := h
      cases h4
      exact snd_sl (hR sc) (hR _ _ _ h1) h2 h3
    · by_cases hs : isSlice b = true
      · rw [if_pos hs] at h; cases h
      · rw [if_neg hs] at h
        simp only [Option.bind_eq_some_iff] at h
        obtain ⟨A, h1, B, h2, h3⟩ := h
        cases h3
        exact snd_ix (by simpa using hs) (hR _ _ _ h1) (hR _ _ _ h2)
  | Call f args kws pos =>
    simp only [trStep] at h
    split at h
    · rename_i x p
      by_cases hg : (!glB sc x || args.any isStar) = true
      · rw [if_pos hg] at h; cases h
      · rw [if_neg hg] at h
        simp only [Bool.or_eq_true, Bool.not_eq_true', not_or, Bool.not_eq_true, Bool.not_eq_false] at hg
        split at h
        · rename_i i hi
          obtain ⟨Es, h1, rfl⟩ := Option.map_eq_some_iff.mp h
          exact snd_call (hR sc) hg.1 hi h1 hg.2
        · by_cases hx : x = "isinstance"
          · rw [if_pos (decide_eq_true hx)] at h
            split at h
            · rename_i a t p2
              by_cases ht : (!glB sc t || (ixOf T.fns t).isSome) = true
              · rw [if_pos ht] at h; cases h
              · rw [if_neg ht] at h
                simp only [Bool.or_eq_true, Bool.not_eq_true', not_or, Bool.not_eq_true, Bool.not_eq_false] at ht
                simp only [Option.bind_eq_some_iff] at h
                obtain ⟨ty, h1, h2⟩ := h
                obtain ⟨A, h3, rfl⟩ := Option.map_eq_some_iff.mp h2
                have hst : isStar a = false := by
                  have := hg.2
                  simp only [List.any_cons, Bool.or_eq_false_iff] at this
                  exact this.1
                exact snd_isin hx hg.1 ht.1 h1 (hR _ _ _ h3) hst
            · cases h
          · rw [if_neg (by simpa using hx)] at h
            simp only [Option.bind_eq_some_iff] at h
            obtain ⟨f, h1, h2⟩ := h
            by_cases he : args.isEmpty = true
            · rw [if_pos he] at h2; cases h2
            · rw [if_neg he] at h2
              obtain ⟨Es, h3, rfl⟩ := Option.map_eq_some_iff.mp h2
              exact snd_bf (hR sc) hg.1 h1 (by simpa using he) h3 hg.2
    · cases h
  | ListComp elt gens scope pos =>
    simp only [trStep] at h
    split at h
    · rename_i tg iter ifs k
      simp only [Option.bind_eq_some_iff] at h
      obtain ⟨z, h1, h2⟩ := h
      obtain ⟨hc, h2⟩ := ite_some' h2
      simp only [Bool.and_eq_true, decide_eq_true_eq] at hc
      simp only [Option.bind_eq_some_iff] at h2
      obtain ⟨it, h3, c, h4, A, h5, h6⟩ := h2
      cases h6
      obtain ⟨t, own⟩ := z
      exact snd_comp hR h1 hc.1.1 hc.1.2 (by simpa using hc.2) h3 h4 h5
    · cases h
  | _ => cases h
theorem snd_tr : ∀ (n : Nat) (sc : Scope) (e : Expr) (E : E), tr T n sc e = some E → SndX T C sc e E
  | 0, _, _, _, h => by cases h
  | n + 1, sc, e, E, h => snd_step (snd_tr n) h
end
end Ev
set_option maxHeartbeats 4000000
namespace Ev
open PySem PySem.Spec PyProof.Rows L2

/-! ### which slots are read -/
mutual
def E.uses (i : Nat) : E → Bool
  | .var j => i == j
  | .cst _ => false
  | .bin _ a b => a.uses i || b.uses i
  | .neg a => a.uses i
  | .not a => a.uses i
  | .and a b => a.uses i || b.uses i
  | .or a b => a.uses i || b.uses i
  | .cmp _ a b => a.uses i || b.uses i
  | .chain _ _ a b c => a.uses i || (b.uses i || c.uses i)
  | .ite c a b => c.uses i || (a.uses i || b.uses i)
  | .tup es => usesL i es
  | .lst es => usesL i es
  | .ix a b => a.uses i || b.uses i
  | .sl a lo hi => a.uses i || (usesO i lo || usesO i hi)
  | .bf _ es => usesL i es
  | .isin a _ => a.uses i
  | .call _ es => usesL i es
  | .comp elt _ _ it c => it.uses i || (elt.uses i || usesO i c)
def It.uses (i : Nat) : It → Bool
  | .seq a => a.uses i
  | .rng es => usesL i es
  | .enm a => a.uses i
  | .zip a b => a.uses i || b.uses i
def usesO (i : Nat) : Option E → Bool
  | none => false
  | some e => e.uses i
def usesL (i : Nat) : List E → Bool
  | [] => false
  | e :: es => e.uses i || usesL i es
end
/-- two frames that agree where it is read -/
structure Agree (U : Nat → Bool) (ρ ρ' : EnvD) : Prop where
  len : ρ.length = ρ'.length
  get : ∀ i, U i = true → ρ[i]? = ρ'[i]?
theorem Agree.sub {U U' : Nat → Bool} {ρ ρ' : EnvD} (a : Agree U ρ ρ') (h : ∀ i, U' i = true → U i = true) : Agree U' ρ ρ' := ⟨a.len, fun i z => a.get i (h i z)⟩
theorem Agree.wipe {U : Nat → Bool} {ρ ρ' : EnvD} (a : Agree U ρ ρ') (vs : List Nat) : Agree U (wipe ρ vs) (wipe ρ' vs) :=
  ⟨by rw [wipe_length, wipe_length, a.len], fun i z => by rw [wipe_get, wipe_get, a.len, a.get i z]⟩
theorem Agree.set {U : Nat → Bool} {ρ ρ' : EnvD} (a : Agree U ρ ρ') (j : Nat) (x : Option D) : Agree U (ρ.set j x) (ρ'.set j x) :=
  ⟨by simp [a.len], fun i z => by
    by_cases e : j = i
    · subst e
      by_cases hl : j < ρ.length
      · rw [List.getElem?_set_self hl, List.getElem?_set_self (by rw [← a.len]; exact hl)]
      · rw [List.getElem?_eq_none (by simpa using hl), List.getElem?_eq_none (by simpa [← a.len] using hl)]
    · rw [List.getElem?_set_ne e, List.getElem?_set_ne e, a.get i z]⟩
theorem Agree.setAll {U : Nat → Bool} : ∀ (is : List Nat) (ds : List D) {ρ ρ' : EnvD}, Agree U ρ ρ' → Agree U (setAll ρ is ds) (setAll ρ' is ds)
  | [], ds, _, _, a => by simpa [Ev.setAll] using a
  | i :: is, [], _, _, a => by simpa [Ev.setAll] using a
  | i :: is, d :: ds, _, _, a => by simp only [Ev.setAll]; exact Agree.setAll is ds (a.set i _)
theorem Agree.bind {U : Nat → Bool} {t : Tg} {d : D} {ρ ρ' : EnvD} (a : Agree U ρ ρ') : (bindT t d ρ = none ∧ bindT t d ρ' = none) ∨ ∃ ρ1 ρ2, bindT t d ρ = some ρ1 ∧ bindT t d ρ' = some ρ2 ∧ Agree U ρ1 ρ2 := by
  cases t with
  | nm i => exact .inr ⟨_, _, rfl, rfl, a.set i _⟩
  | tup is =>
    cases d with
    | tup ds =>
      simp only [bindT]
      by_cases hl : is.length = ds.length
      · rw [if_pos hl, if_pos hl]
        exact .inr ⟨_, _, rfl, rfl, by rw [setAll_fold, setAll_fold]; exact a.setAll _ _⟩
      · rw [if_neg hl, if_neg hl]; exact .inl ⟨rfl, rfl⟩
    | _ => exact .inl ⟨rfl, rfl⟩
theorem or_l {a b : Bool} (h : a = true) : (a || b) = true := by rw [h]; rfl
theorem or_r {a b : Bool} (h : b = true) : (a || b) = true := by rw [h]; simp
theorem compL_congr {f g : D → Option (Option D)} (h : ∀ x, f x = g x) (xs : List D) : compL f xs = compL g xs := by
  have : f = g := funext h
  rw [this]
mutual
theorem evE_congr (C : Oracle) : ∀ (e : E) {ρ ρ' : EnvD}, Agree (fun i => e.uses i) ρ ρ' → evE C ρ e = evE C ρ' e
  | .var j, ρ, ρ', a => by simp only [evE]; rw [a.get j (by simp [E.uses])]
  | .cst _, _, _, _ => by simp only [evE]
  | .bin op x y, _, _, a => by
    simp only [evE]
    rw [evE_congr C x (a.sub fun i h => by simp only [E.uses]; exact or_l h), evE_congr C y (a.sub fun i h => by simp only [E.uses]; exact or_r h)]
  | .neg x, _, _, a => by simp only [evE]; rw [evE_congr C x (a.sub fun i h => by simp only [E.uses]; exact h)]
  | .not x, _, _, a => by simp only [evE]; rw [evE_congr C x (a.sub fun i h => by simp only [E.uses]; exact h)]
  | .and x y, _, _, a => by
    simp only [evE]
    rw [evE_congr C x (a.sub fun i h => by simp only [E.uses]; exact or_l h), evE_congr C y (a.sub fun i h => by simp only [E.uses]; exact or_r h)]
  | .or x y, _, _, a => by
    simp only [evE]
    rw [evE_congr C x (a.sub fun i h => by simp only [E.uses]; exact or_l h), evE_congr C y (a.sub fun i h => by simp only [E.uses]; exact or_r h)]
  | .cmp op x y, _, _, a => by
    simp only [evE]
    rw [evE_congr C x (a.sub fun i h => by simp only [E.uses]; exact or_l h), evE_congr C y (a.sub fun i h => by simp only [E.uses]; exact or_r h)]
  | .chain op op' x y z, _, _, a => by
    simp only [evE]
    rw [evE_congr C x (a.sub fun i h => by simp only [E.uses]; exact or_l h), evE_congr C y (a.sub fun i h => by simp only [E.uses]; exact or_r (or_l h)), evE_congr C z (a.sub fun i h => by simp only [E.uses]; exact or_r (or_r h))]
  | .ite x y z, _, _, a => by
    simp only [evE]
    rw [evE_congr C x (a.sub fun i h => by simp only [E.uses]; exact or_l h), evE_congr C y (a.sub fun i h => by simp only [E.uses]; exact or_r (or_l h)), evE_congr C z (a.sub fun i h => by simp only [E.uses]; exact or_r (or_r h))]
  | .tup es, _, _, a => by simp only [evE]; rw [evEs_congr C es (a.sub fun i h => by simp only [E.uses]; exact h)]
  | .lst es, _, _, a => by simp only [evE]; rw [evEs_congr C es (a.sub fun i h => by simp only [E.uses]; exact h)]
  | .ix x y, _, _, a => by
    simp only [evE]
    rw [evE_congr C x (a.sub fun i h => by simp only [E.uses]; exact or_l h), evE_congr C y (a.sub fun i h => by simp only [E.uses]; exact or_r h)]
  | .sl x lo hi, _, _, a => by
    simp only [evE]
    rw [evE_congr C x (a.sub fun i h => by simp only [E.uses]; exact or_l h), evO_congr C lo (a.sub fun i h => by simp only [E.uses]; exact or_r (or_l h)), evO_congr C hi (a.sub fun i h => by simp only [E.uses]; exact or_r (or_r h))]
  | .bf _ es, _, _, a => by simp only [evE]; rw [evEs_congr C es (a.sub fun i h => by simp only [E.uses]; exact h)]
  | .isin x _, _, _, a => by simp only [evE]; rw [evE_congr C x (a.sub fun i h => by simp only [E.uses]; exact h)]
  | .call _ es, _, _, a => by simp only [evE]; rw [evEs_congr C es (a.sub fun i h => by simp only [E.uses]; exact h)]
  | .comp elt vs tg it c, ρ, ρ', a => by
    simp only [evE]
    rw [evI_congr C it (a.sub fun i h => by simp only [E.uses]; exact or_l h)]
    congr 1
    funext xs
    rw [compL_congr fun x => ?_]
    rcases (a.wipe vs).bind (t := tg) (d := x) with ⟨h1, h2⟩ | ⟨ρ1, ρ2, h1, h2, a2⟩
    · rw [h1, h2]
    · rw [h1, h2]
      simp only [Option.bind_some]
      rw [evC_congr C c (a2.sub fun i h => by simp only [E.uses]; exact or_r (or_r h)), evE_congr C elt (a2.sub fun i h => by simp only [E.uses]; exact or_r (or_l h))]
theorem evI_congr (C : Oracle) : ∀ (it : It) {ρ ρ' : EnvD}, Agree (fun i => it.uses i) ρ ρ' → evI C ρ it = evI C ρ' it
  | .seq x, _, _, a => by simp only [evI]; rw [evE_congr C x (a.sub fun i h => by simp only [It.uses]; exact h)]
  | .rng es, _, _, a => by simp only [evI]; rw [evEs_congr C es (a.sub fun i h => by simp only [It.uses]; exact h)]
  | .enm x, _, _, a => by simp only [evI]; rw [evE_congr C x (a.sub fun i h => by simp only [It.uses]; exact h)]
  | .zip x y, _, _, a => by
    simp only [evI]
    rw [evE_congr C x (a.sub fun i h => by simp only [It.uses]; exact or_l h), evE_congr C y (a.sub fun i h => by simp only [It.uses]; exact or_r h)]
theorem evC_congr (C : Oracle) : ∀ (o : Option E) {ρ ρ' : EnvD}, Agree (fun i => usesO i o) ρ ρ' → evC C ρ o = evC C ρ' o
  | none, _, _, _ => by simp only [evC]
  | some e, _, _, a => by simp only [evC]; rw [evE_congr C e (a.sub fun i h => by simp only [usesO]; exact h)]
theorem evO_congr (C : Oracle) : ∀ (o : Option E) {ρ ρ' : EnvD}, Agree (fun i => usesO i o) ρ ρ' → evO C ρ o = evO C ρ' o
  | none, _, _, _ => by simp only [evO]
  | some e, _, _, a => by simp only [evO]; rw [evE_congr C e (a.sub fun i h => by simp only [usesO]; exact h)]
theorem evEs_congr (C : Oracle) : ∀ (es : List E) {ρ ρ' : EnvD}, Agree (fun i => usesL i es) ρ ρ' → evEs C ρ es = evEs C ρ' es
  | [], _, _, _ => by simp only [evEs]
  | e :: es, _, _, a => by
    simp only [evEs]
    rw [evE_congr C e (a.sub fun i h => by simp only [usesL]; exact or_l h), evEs_congr C es (a.sub fun i h => by simp only [usesL]; exact or_r h)]
end
/-- it reads no slot of M -/
def clean (M : List Nat) (e : E) : Bool := M.all fun i => !e.uses i
def cleanI (M : List Nat) (e : It) : Bool := M.all fun i => !e.uses i
theorem agree_wipe {U : Nat → Bool} {M : List Nat} {ρ : EnvD} (h : (M.all fun i => !U i) = true) : Agree U ρ (wipe ρ M) := by
  refine ⟨(wipe_length ρ M).symm, fun i z => ?_⟩
  rw [wipe_get, if_neg]
  rintro ⟨hi, _⟩
  have := List.all_eq_true.mp h i hi
  rw [z] at this
  cases this
theorem clean_ev {C : Oracle} {M : List Nat} {ρ : EnvD} {e : E} (h : clean M e = true) : evE C (wipe ρ M) e = evE C ρ e := (evE_congr C e (agree_wipe h)).symm
theorem cleanI_ev {C : Oracle} {M : List Nat} {ρ : EnvD} {e : It} (h : cleanI M e = true) : evI C (wipe ρ M) e = evI C ρ e := (evI_congr C e (agree_wipe h)).symm

/-! ### statements -/
inductive S where
  | asg (t : Tg) (e : E)
  | sub (i : Nat) (k e : E)
  | app (i : Nat) (e : E)
  | ret (e : E) | retN
  | ite (c : E) (a b : List S)
  | for_ (t : Tg) (it : It) (b : List S)
  | while_ (c : E) (b : List S)
  | brk | cnt | pass
instance : Inhabited S := ⟨.pass⟩
inductive Fl where
  | nx | bk | ct | rt (d : D)
def isLst : D → Bool
  | .lst _ => true
  | _ => false
def freeT (M : List Nat) (t : Tg) : Bool := t.slots.all fun i => !M.contains i
def bindOK (M : List Nat) (t : Tg) (e : E) (d : D) : Bool :=
  if freeT M t then clean M e || (d.imm || fr e d) else (d.imm || (match t with
    | .nm _ => fr e d && isLst d
    | _ => false))
mutual
def touch (i : Nat) : S → Bool
  | .asg t _ => t.slots.contains i
  | .sub j _ _ => i == j
  | .app j _ => i == j
  | .ret _ => false
  | .retN => false
  | .ite _ a b => touchs i a || touchs i b
  | .for_ t _ b => t.slots.contains i || touchs i b
  | .while_ _ b => touchs i b
  | .brk => false
  | .cnt => false
  | .pass => false
def touchs (i : Nat) : List S → Bool
  | [] => false
  | s :: r => touch i s || touchs i r
end
/-- the value that is walked stands still while the body runs -/
def partOK (C : Oracle) (M : List Nat) (ρ : EnvD) (t : Tg) (b : List S) (e : E) : Bool := match evE C ρ e with
  | some d => d.imm || fr e d || (match e with
    | .var i => M.contains i && !(t.slots.contains i || touchs i b)
    | _ => false)
  | none => false
def forOK (C : Oracle) (M : List Nat) (ρ : EnvD) (t : Tg) (it : It) (b : List S) (xs : List D) : Bool := (cleanI M it && freeT M t) || ((cleanI M it || it.parts.all (partOK C M ρ t b)) && D.imms xs)
def forD (t : Tg) (body : EnvD → Option (Fl × EnvD)) : List D → EnvD → Option (Fl × EnvD)
  | [], ρ => some (.nx, ρ)
  | x :: xs, ρ => (bindT t x ρ).bind fun ρ1 => (body ρ1).bind fun r => match r.1 with
    | .nx => forD t body xs r.2
    | .ct => forD t body xs r.2
    | .bk => some (.nx, r.2)
    | .rt d => some (.rt d, r.2)
def whileD (c : EnvD → Option Bool) (body : EnvD → Option (Fl × EnvD)) : Nat → EnvD → Option (Fl × EnvD)
  | 0, _ => none
  | n + 1, ρ => (c ρ).bind fun k => if k then (body ρ).bind fun r => (match r.1 with
      | .nx => whileD c body n r.2
      | .ct => whileD c body n r.2
      | .bk => some (.nx, r.2)
      | .rt d => some (.rt d, r.2)) else some (.nx, ρ)
def fuel : Nat := 1000000
mutual
def evS (C : Oracle) (M : List Nat) (ρ : EnvD) : S → Option (Fl × EnvD)
  | .asg t e => (evE C ρ e).bind fun d => if bindOK M t e d then (bindT t d ρ).bind fun ρ' => some (.nx, ρ') else none
  | .sub i k e => (evE C ρ e).bind fun d => (evE C ρ k).bind fun kd => (intOf kd).bind fun j => (ρ[i]?.bind id).bind fun l => (match l with
    | .lst ds => (ixN ds.length j).bind fun n => if M.contains i && (d.imm || fr e d) then some (.nx, ρ.set i (some (.lst (ds.set n d)))) else none
    | _ => none)
  | .app i e => (evE C ρ e).bind fun d => (ρ[i]?.bind id).bind fun l => (match l with
    | .lst ds => if M.contains i && (d.imm || fr e d) && decide (ds.length < sizeLine) then some (.nx, ρ.set i (some (.lst (ds ++ [d])))) else none
    | _ => none)
  | .ret e => (evE C ρ e).bind fun d => if d.imm || fr e d || (match e with | .var i => M.contains i | _ => false) then some (.rt d, ρ) else none
  | .retN => some (.rt .non, ρ)
  | .ite c a b => (evE C ρ c).bind fun d => (truthD d).bind fun k => if k then evSs C M ρ a else evSs C M ρ b
  | .for_ t it b => (evI C ρ it).bind fun xs => if forOK C M ρ t it b xs then forD t (fun ρ => evSs C M ρ b) xs ρ else none
  | .while_ c b => whileD (fun ρ => (evE C ρ c).bind truthD) (fun ρ => evSs C M ρ b) fuel ρ
  | .brk => some (.bk, ρ)
  | .cnt => some (.ct, ρ)
  | .pass => some (.nx, ρ)
def evSs (C : Oracle) (M : List Nat) (ρ : EnvD) : List S → Option (Fl × EnvD)
  | [] => some (.nx, ρ)
  | s :: r => (evS C M ρ s).bind fun x => match x.1 with
    | .nx => evSs C M x.2 r
    | _ => some x
end
end Ev
set_option maxHeartbeats 4000000
namespace Ev
open PySem PySem.Spec PyProof.Rows L2

/-- the address of a list that a slot of M owns -/
def Own (M : List Nat) (σ : L2.St) (ρ : EnvD) (a : Addr) : Prop := ∃ i ∈ M, ∃ ds, ρ[i]? = some (some (.lst ds)) ∧ σ[i]? = some (some (.ref a))
structure SS (K : PySem.W.Frag) (M : List Nat) (H0 : Hp) (Z : Addr → Prop) (σ : L2.St) (ρ : EnvD) (H : Hp) : Prop where
  ext : Ext H0 H
  zt : ∀ a, Z a → H a ≠ none ∧ ¬ Own M σ ρ a
  free : ∀ (i : Nat) (d : D), i ∉ M → ρ[i]? = some (some d) → ∃ v, σ[i]? = some (some v) ∧ Rep K H (fun a => ¬ Own M σ ρ a) v d
  own : ∀ (i : Nat) (d : D), i ∈ M → ρ[i]? = some (some d) → ∃ v, σ[i]? = some (some v) ∧ ((d.imm = true ∧ Rep K H Any v d) ∨
    ∃ a vs ds, v = .ref a ∧ d = .lst ds ∧ H a = some (.lst vs) ∧ H0 a = none ∧ Reps K H (fun b => ¬ Own M σ ρ b ∧ H0 b = none) vs ds)
  dis : ∀ (i j : Nat) (a : Addr) (ds es : List D), i ∈ M → j ∈ M → ρ[i]? = some (some (.lst ds)) → ρ[j]? = some (some (.lst es)) → σ[i]? = some (some (.ref a)) → σ[j]? = some (some (.ref a)) → i = j
section
variable {K : PySem.W.Frag} {M : List Nat} {H0 H H1 H' : Hp} {Z Z' : Addr → Prop} {σ σ' : L2.St} {ρ ρ' : EnvD} {v : V} {d : D}
theorem Ext.keep {H H' : Hp} {a : Addr} (e : Ext H H') (h : H a ≠ Option.none) : H' a ≠ Option.none := fun z => h (Ext.none e z)
theorem SS.step (s : SS K M H0 Z σ ρ H) (e : Ext H H') : SS K M H0 Z σ ρ H' where
  ext := s.ext.trans e
  zt := fun a z => ⟨e.keep (s.zt a z).1, (s.zt a z).2⟩
  free := fun i d hi hd => by
    obtain ⟨v, h1, h2⟩ := s.free i d hi hd
    exact ⟨v, h1, h2.ext e⟩
  own := fun i d hi hd => by
    obtain ⟨v, h1, h2⟩ := s.own i d hi hd
    refine ⟨v, h1, ?_⟩
    rcases h2 with ⟨h2, h3⟩ | ⟨a, vs, ds, rfl, rfl, h2, h3, h4⟩
    · exact .inl ⟨h2, h3.ext e⟩
    · exact .inr ⟨a, vs, ds, rfl, rfl, e.at_ _ _ h2 (fun _ z => by cases z), h3, h4.ext e⟩
  dis := s.dis
theorem SS.less (s : SS K M H0 Z σ ρ H) (h : ∀ a, Z' a → Z a) : SS K M H0 Z' σ ρ H := ⟨s.ext, fun a z => s.zt a (h a z), s.free, s.own, s.dis⟩
theorem SS.more (s : SS K M H0 Z σ ρ H) (h : ∀ a, Z' a → H a ≠ none ∧ ¬ Own M σ ρ a) : SS K M H0 (fun a => Z a ∨ Z' a) σ ρ H := ⟨s.ext, fun a z => z.elim (s.zt a) (h a), s.free, s.own, s.dis⟩
theorem Own.there (s : SS K M H0 Z σ ρ H) {a : Addr} (o : Own M σ ρ a) : ∃ vs, H a = some (.lst vs) := by
  obtain ⟨i, hi, ds, h1, h2⟩ := o
  obtain ⟨v, h3, h4⟩ := s.own i _ hi h1
  rw [h2] at h3
  cases h3
  rcases h4 with ⟨h4, _⟩ | ⟨b, vs, es, e1, e2, h4, _⟩
  · simp [D.imm] at h4
  · cases e1
    exact ⟨vs, h4⟩
/-- all slots, to be read -/
theorem SS.sr (s : SS K M H0 Z σ ρ H) : SR K H Any σ ρ := fun i d hd => by
  by_cases hi : i ∈ M
  · obtain ⟨v, h1, h2⟩ := s.own i d hi hd
    refine ⟨v, h1, ?_⟩
    rcases h2 with ⟨_, h3⟩ | ⟨a, vs, ds, rfl, rfl, h2, h3, h4⟩
    · exact h3
    · refine .lst trivial h2 (h4.mono fun b z => ⟨trivial, fun e => z.1 ?_⟩)
      subst e
      exact ⟨i, hi, ds, hd, h1⟩
  · obtain ⟨v, h1, h2⟩ := s.free i d hi hd
    exact ⟨v, h1, h2.any⟩
/-- the slots that are not of M -/
theorem SS.srw (s : SS K M H0 Z σ ρ H) : SR K H (fun a => ¬ Own M σ ρ a) σ (wipe ρ M) := fun i d hd => by
  rw [wipe_get] at hd
  by_cases hi : i ∈ M ∧ i < ρ.length
  · rw [if_pos hi] at hd; cases hd
  · rw [if_neg hi] at hd
    have hl : i < ρ.length := by
      by_cases z : i < ρ.length
      · exact z
      · rw [List.getElem?_eq_none (by omega)] at hd; cases hd
    exact s.free i d (fun z => hi ⟨z, hl⟩) hd
theorem get_set {α : Type} {ρ : List (Option α)} {i j : Nat} {x : Option α} {d : α} (h : (ρ.set i x)[j]? = some (some d)) : (j = i ∧ x = some d) ∨ (j ≠ i ∧ ρ[j]? = some (some d)) := by
  by_cases e : i = j
  · subst e
    by_cases hl : i < ρ.length
    · rw [List.getElem?_set_self hl] at h
      exact .inl ⟨rfl, Option.some.inj h⟩
    · rw [List.getElem?_eq_none (by simpa using hl)] at h; cases h
  · rw [List.getElem?_set_ne e] at h
    exact .inr ⟨fun z => e z.symm, h⟩
/-- a store to a slot that is not of M -/
theorem SS.setFree (s : SS K M H0 Z σ ρ H) {i : Nat} (hi : i ∉ M) (hl : i < σ.length) (r : Rep K H (fun a => ¬ Own M σ ρ a) v d) : SS K M H0 Z (σ.set i (some v)) (ρ.set i (some d)) H := by
  have ho : ∀ a, Own M (σ.set i (some v)) (ρ.set i (some d)) a ↔ Own M σ ρ a := fun a => by
    constructor
    · rintro ⟨j, hj, ds, h1, h2⟩
      have e : i ≠ j := fun z => hi (z ▸ hj)
      rw [List.getElem?_set_ne e] at h1 h2
      exact ⟨j, hj, ds, h1, h2⟩
    · rintro ⟨j, hj, ds, h1, h2⟩
      have e : i ≠ j := fun z => hi (z ▸ hj)
      exact ⟨j, hj, ds, by rw [List.getElem?_set_ne e]; exact h1, by rw [List.getElem?_set_ne e]; exact h2⟩
  refine ⟨s.ext, fun a z => ⟨(s.zt a z).1, fun q => (s.zt a z).2 ((ho a).mp q)⟩, fun j d' hj hd => ?_, fun j d' hj hd => ?_, fun j k a ds es hj hk h1 h2 h3 h4 => ?_⟩
  · rcases get_set hd with ⟨rfl, e⟩ | ⟨hne, hd⟩
    · cases e
      exact ⟨v, List.getElem?_set_self hl, r.mono fun a z q => z ((ho a).mp q)⟩
    · obtain ⟨u, h1, h2⟩ := s.free j d' hj hd
      exact ⟨u, by rw [List.getElem?_set_ne (fun z => hne z.symm)]; exact h1, h2.mono fun a z q => z ((ho a).mp q)⟩
  · have e : i ≠ j := fun z => hi (z ▸ hj)
    rw [List.getElem?_set_ne e] at hd ⊢
    obtain ⟨u, h1, h2⟩ := s.own j d' hj hd
    refine ⟨u, h1, ?_⟩
    rcases h2 with h2 | ⟨a, vs, ds, rfl, rfl, h2, h3, h4⟩
    · exact .inl h2
    · exact .inr ⟨a, vs, ds, rfl, rfl, h2, h3, h4.mono fun b z => ⟨fun q => z.1 ((ho b).mp q), z.2⟩⟩
  · have e : i ≠ j := fun z => hi (z ▸ hj)
    have e' : i ≠ k := fun z => hi (z ▸ hk)
    rw [List.getElem?_set_ne e] at h1 h3
    rw [List.getElem?_set_ne e'] at h2 h4
    exact s.dis j k a ds es hj hk h1 h2 h3 h4
/-- a store of something that cannot be changed -/
theorem SS.setImm (s : SS K M H0 Z σ ρ H) {i : Nat} (hl : i < σ.length) (r : Rep K H Any v d) (hd0 : d.imm = true) : SS K M H0 Z (σ.set i (some v)) (ρ.set i (some d)) H := by
  have ho : ∀ a, Own M (σ.set i (some v)) (ρ.set i (some d)) a → Own M σ ρ a := by
    rintro a ⟨j, hj, ds, h1, h2⟩
    rcases get_set h1 with ⟨rfl, e⟩ | ⟨hne, h1⟩
    · cases e; simp [D.imm] at hd0
    · rw [List.getElem?_set_ne (fun z => hne z.symm)] at h2
      exact ⟨j, hj, ds, h1, h2⟩
  have hnl : ∀ {j : Nat} {ds : List D}, (ρ.set i (some d))[j]? = some (some (.lst ds)) → j ≠ i ∧ ρ[j]? = some (some (.lst ds)) := fun {j ds} h => by
    rcases get_set h with ⟨rfl, e⟩ | h
    · cases e; simp [D.imm] at hd0
    · exact h
  refine ⟨s.ext, fun a z => ⟨(s.zt a z).1, fun q => (s.zt a z).2 (ho a q)⟩, fun j d' hj hd => ?_, fun j d' hj hd => ?_, fun j k a ds es hj hk h1 h2 h3 h4 => ?_⟩
  · rcases get_set hd with ⟨rfl, e⟩ | ⟨hne, hd⟩
    · cases e
      exact ⟨v, List.getElem?_set_self hl, r.imm (stay_refl (P := Any)) hd0⟩
    · obtain ⟨u, h1, h2⟩ := s.free j d' hj hd
      exact ⟨u, by rw [List.getElem?_set_ne (fun z => hne z.symm)]; exact h1, h2.mono fun a z q => z (ho a q)⟩
  · rcases get_set hd with ⟨rfl, e⟩ | ⟨hne, hd⟩
    · cases e
      exact ⟨v, List.getElem?_set_self hl, .inl ⟨hd0, r⟩⟩
    · rw [List.getElem?_set_ne (fun z => hne z.symm)]
      obtain ⟨u, h1, h2⟩ := s.own j d' hj hd
      refine ⟨u, h1, ?_⟩
      rcases h2 with h2 | ⟨a, vs, ds, rfl, rfl, h2, h3, h4⟩
      · exact .inl h2
      · exact .inr ⟨a, vs, ds, rfl, rfl, h2, h3, h4.mono fun b z => ⟨fun q => z.1 (ho b q), z.2⟩⟩
  · obtain ⟨n1, h1⟩ := hnl h1
    obtain ⟨n2, h2⟩ := hnl h2
    rw [List.getElem?_set_ne (fun z => n1 z.symm)] at h3
    rw [List.getElem?_set_ne (fun z => n2 z.symm)] at h4
    exact s.dis j k a ds es hj hk h1 h2 h3 h4
/-- a store of a new list to a slot of M: H is ahead of the list's making -/
theorem SS.setNew (s : SS K M H0 Z σ ρ H) (e : Ext H H') {i : Nat} {ds : List D} (hi : i ∈ M) (hl : i < σ.length) (r : Rep K H' (New H) v (.lst ds)) : SS K M H0 Z (σ.set i (some v)) (ρ.set i (some (.lst ds))) H' := by
  obtain ⟨a, vs, rfl, ha, hat, rs⟩ := r.lst_inv'
  have ha : H a = none := ha
  have s' := s.step e
  have ho : ∀ b, Own M (σ.set i (some (.ref a))) (ρ.set i (some (.lst ds))) b → Own M σ ρ b ∨ b = a := by
    rintro b ⟨j, hj, es, h1, h2⟩
    rcases get_set h1 with ⟨rfl, e⟩ | ⟨hne, h1⟩
    · rw [List.getElem?_set_self hl] at h2
      cases h2
      exact .inr rfl
    · rw [List.getElem?_set_ne (fun z => hne z.symm)] at h2
      exact .inl ⟨j, hj, es, h1, h2⟩
  have na : ∀ b, H b ≠ none → b ≠ a := fun b h z => h (z ▸ ha)
  have ownH : ∀ b, Own M σ ρ b → H b ≠ none := fun b o => by
    obtain ⟨vs, h⟩ := o.there s
    rw [h]; simp
  have avoid : ∀ b, (¬ Own M σ ρ b ∧ H b ≠ none) → ¬ Own M (σ.set i (some (.ref a))) (ρ.set i (some (.lst ds))) b := fun b z q => by
    rcases ho b q with h | h
    · exact z.1 h
    · exact na b z.2 h
  refine ⟨s'.ext, fun b z => ⟨(s'.zt b z).1, fun q => ?_⟩, fun j d' hj hd => ?_, fun j d' hj hd => ?_, fun j k b es fs hj hk h1 h2 h3 h4 => ?_⟩
  · exact avoid b ⟨(s.zt b z).2, (s.zt b z).1⟩ q
  · rcases get_set hd with ⟨rfl, _⟩ | ⟨hne, hd⟩
    · exact absurd hi hj
    · obtain ⟨u, h1, h2⟩ := s.free j d' hj hd
      exact ⟨u, by rw [List.getElem?_set_ne (fun z => hne z.symm)]; exact h1, (h2.there.ext e).mono avoid⟩
  · rcases get_set hd with ⟨rfl, q⟩ | ⟨hne, hd⟩
    · cases q
      refine ⟨.ref a, List.getElem?_set_self hl, .inr ⟨a, vs, ds, rfl, rfl, hat, s.ext.none ha, rs.mono fun b z => ⟨fun q => ?_, s.ext.none z.1⟩⟩⟩
      rcases ho b q with h | h
      · exact ownH b h z.1
      · exact z.2 h
    · rw [List.getElem?_set_ne (fun z => hne z.symm)]
      obtain ⟨u, h1, h2⟩ := s.own j d' hj hd
      refine ⟨u, h1, ?_⟩
      rcases h2 with ⟨h2, h3⟩ | ⟨b, ws, es, rfl, rfl, h2, h3, h4⟩
      · exact .inl ⟨h2, h3.ext e⟩
      · exact .inr ⟨b, ws, es, rfl, rfl, e.at_ _ _ h2 (fun _ z => by cases z), h3, (h4.there.ext e).mono fun c z => ⟨avoid c ⟨z.1.1, z.2⟩, z.1.2⟩⟩
  · have ex : ∀ {j : Nat} {es : List D}, j ∈ M → j ≠ i → ρ[j]? = some (some (.lst es)) → σ[j]? = some (some (.ref b)) → b ≠ a := fun {j es} hj hne h1 h3 => na b (ownH b ⟨j, hj, es, h1, h3⟩)
    rcases get_set h1 with ⟨rfl, q⟩ | ⟨n1, h1⟩
    · rcases get_set h2 with ⟨rfl, q2⟩ | ⟨n2, h2⟩
      · rfl
      · rw [List.getElem?_set_self hl] at h3
        cases h3
        rw [List.getElem?_set_ne (fun z => n2 z.symm)] at h4
        exact absurd rfl (ex hk n2 h2 h4)
    · rw [List.getElem?_set_ne (fun z => n1 z.symm)] at h3
      rcases get_set h2 with ⟨rfl, q2⟩ | ⟨n2, h2⟩
      · rw [List.getElem?_set_self hl] at h4
        cases h4
        exact absurd rfl (ex hj n1 (by assumption) h3)
      · rw [List.getElem?_set_ne (fun z => n2 z.symm)] at h4
        exact s.dis j k b es fs hj hk h1 h2 h3 h4
/-- the list that a slot of M owns is changed -/
theorem SS.change (s : SS K M H0 Z σ ρ H) {i : Nat} {a : Addr} {vs ws : List V} {ds es : List D} (hi : i ∈ M) (hρ : ρ[i]? = some (some (.lst ds))) (hσ : σ[i]? = some (some (.ref a))) (hat : H a = some (.lst vs))
    (hn : H0 a = none) (r : Reps K H (fun b => ¬ Own M σ ρ b ∧ H0 b = none) ws es) : SS K M H0 Z σ (ρ.set i (some (.lst es))) (upd H a (.lst ws)) ∧ Stay Z H (upd H a (.lst ws)) := by
  have hlen : i < ρ.length := (List.getElem?_eq_some_iff.mp hρ).1
  have oa : Own M σ ρ a := ⟨i, hi, ds, hρ, hσ⟩
  have ho : ∀ b, Own M σ (ρ.set i (some (.lst es))) b ↔ Own M σ ρ b := fun b => by
    constructor
    · rintro ⟨j, hj, fs, h1, h2⟩
      rcases get_set h1 with ⟨rfl, e⟩ | ⟨hne, h1⟩
      · exact ⟨j, hj, ds, hρ, h2⟩
      · exact ⟨j, hj, fs, h1, h2⟩
    · rintro ⟨j, hj, fs, h1, h2⟩
      by_cases e : j = i
      · subst e
        exact ⟨j, hj, es, List.getElem?_set_self hlen, h2⟩
      · exact ⟨j, hj, fs, by rw [List.getElem?_set_ne (fun z => e z.symm)]; exact h1, h2⟩
  have st : ∀ {P : Addr → Prop}, (∀ b, P b → ¬ Own M σ ρ b) → Stay P H (upd H a (.lst ws)) := fun h => stay_upd hat fun b p z => h b p (z ▸ oa)
  refine ⟨⟨ext_upd s.ext hn, fun b z => ⟨?_, fun q => (s.zt b z).2 ((ho b).mp q)⟩, fun j d' hj hd => ?_, fun j d' hj hd => ?_, fun j k b fs gs hj hk h1 h2 h3 h4 => ?_⟩, st fun b z => (s.zt b z).2⟩
  · have : b ≠ a := fun q => (s.zt b z).2 (q ▸ oa)
    rw [upd_ne this]
    exact (s.zt b z).1
  · have e : j ≠ i := fun z => hj (z ▸ hi)
    rw [List.getElem?_set_ne (fun z => e z.symm)] at hd
    obtain ⟨u, h1, h2⟩ := s.free j d' hj hd
    exact ⟨u, h1, h2.stay' (st fun b p => p) fun b z q => z ((ho b).mp q)⟩
  · rcases get_set hd with ⟨rfl, q⟩ | ⟨hne, hd⟩
    · cases q
      exact ⟨.ref a, hσ, .inr ⟨a, ws, es, rfl, rfl, upd_same, hn, r.stay' (st fun b p => p.1) fun b z => ⟨fun q => z.1 ((ho b).mp q), z.2⟩⟩⟩
    · obtain ⟨u, h1, h2⟩ := s.own j d' hj hd
      refine ⟨u, h1, ?_⟩
      rcases h2 with ⟨h2, h3⟩ | ⟨b, us, fs, rfl, rfl, h2, h3, h4⟩
      · exact .inl ⟨h2, h3.imm (st (P := fun b => ¬ Own M σ ρ b) fun b p => p) h2⟩
      · have hb : b ≠ a := fun q => hne (s.dis j i a fs ds hj hi hd hρ (q ▸ h1) hσ)
        exact .inr ⟨b, us, fs, rfl, rfl, by rw [upd_ne hb]; exact h2, h3, h4.stay' (st fun b p => p.1) fun b z => ⟨fun q => z.1 ((ho b).mp q), z.2⟩⟩
  · have lk : ∀ {j : Nat} {fs : List D}, (ρ.set i (some (.lst es)))[j]? = some (some (.lst fs)) → ∃ gs, ρ[j]? = some (some (.lst gs)) := fun {j fs} h => by
      rcases get_set h with ⟨rfl, q⟩ | ⟨_, h⟩
      · exact ⟨ds, hρ⟩
      · exact ⟨_, h⟩
    obtain ⟨f2, g1⟩ := lk h1
    obtain ⟨f3, g2⟩ := lk h2
    exact s.dis j k b f2 f3 hj hk g1 g2 h3 h4
end
end Ev
set_option maxHeartbeats 4000000
namespace Ev
open PySem PySem.Spec PyProof.Rows L2

/-! ### statements, from Python's trees -/
def isTupE : Expr → Bool
  | .Tuple _ _ _ => true
  | _ => false
def isListE : Expr → Bool
  | .List _ _ => true
  | _ => false
/-- the block of a comprehension whose value is stored straight into the name -/
def swapB (sc : Scope) (x : Str) (px : Pos) : Expr → Bool
  | .ListComp elt gs s pos => isLocal sc x && (px.line == pos.line) && !(s.names.any fun (n, k) => n == x && (k == .local || k == .cell))
  | _ => false
def isComp : Expr → Bool
  | .ListComp _ _ _ _ => true
  | .SetComp _ _ _ _ => true
  | .DictComp _ _ _ _ _ => true
  | _ => false
def ownB (sc : Scope) (own : List (Str × Nat)) : Bool := own.all fun p => locB sc p.1
def trS1 (T : TC) (R : Rc) (RS : List Stmt → Option (List S)) (sc : Scope) : Stmt → Option S
  | .Assign tgs e pos => (match tgs with
    | [.Subscript o k p2] => (match o with
      | .Name x p => if isSlice k || isComp e || isTupE e then none else (slotOf T.N sc x).bind fun i => (R sc k).bind fun k' => (R sc e).bind fun e' => some (.sub i k' e')
      | _ => none)
    | [tg] => if isTupE tg && isTupE e then none else (trTg T.N tg).bind fun (z : Tg × List (Str × Nat)) => if ownB sc z.2 then (R sc e).bind fun e' => some (.asg z.1 e') else none
    | _ => none)
  | .Expr e pos => (match e with
    | .Call (.Attribute (.Name x p) m apos) [a] [] cpos => if decide (m = "append") && !isStar a && (apos.endLine == cpos.line) then (slotOf T.N sc x).bind fun i => (R sc a).bind fun a' => some (.app i a') else none
    | .Constant (.str _) _ _ => some .pass
    | _ => none)
  | .Return o _ => (match o with
    | some e => (R sc e).map .ret
    | none => some .retN)
  | .If c a b _ => (R sc c).bind fun c' => (RS a).bind fun a' => (RS b).bind fun b' => some (.ite c' a' b')
  | .For tg it b els _ => (match els with
    | [] => (trTg T.N tg).bind fun (z : Tg × List (Str × Nat)) => if ownB sc z.2 then (trI T R sc it).bind fun it' => (RS b).bind fun b' => some (.for_ z.1 it' b') else none
    | _ => none)
  | .While c b els _ => (match els with
    | [] => (R sc c).bind fun c' => (RS b).bind fun b' => some (.while_ c' b')
    | _ => none)
  | .Break _ => some .brk
  | .Continue _ => some .cnt
  | .Pass _ => some .pass
  | _ => none
def trSs (T : TC) (R : Rc) (sc : Scope) : Nat → List Stmt → Option (List S)
  | 0, _ => none
  | n + 1, sts => mapO (trS1 T R (trSs T R sc n) sc) sts

/-! ### readings -/
structure Aft (K : PySem.W.Frag) (M : List Nat) (H0 : Hp) (Z : Addr → Prop) (σ : L2.St) (ρ : EnvD) (H : Hp) (tch : Nat → Bool) (ρ' : EnvD) (σ' : L2.St) (H' : Hp) : Prop where
  ss : SS K M H0 Z σ' ρ' H'
  st : Stay Z H H'
  un : ∀ i, tch i = false → σ'[i]? = σ[i]? ∧ ρ'[i]? = ρ[i]?
  ln : σ'.length = σ.length
def Fin (K : PySem.W.Frag) (M : List Nat) (H0 : Hp) (Z : Addr → Prop) (σ : L2.St) (ρ : EnvD) (H : Hp) (tch : Nat → Bool) (D : Ends) (fl : Fl) (ρ' : EnvD) : Prop := match fl with
  | .nx => ∀ σ' H', Aft K M H0 Z σ ρ H tch ρ' σ' H' → D.nx σ' H'
  | .bk => ∀ σ' H', Aft K M H0 Z σ ρ H tch ρ' σ' H' → D.bk σ' H'
  | .ct => ∀ σ' H', Aft K M H0 Z σ ρ H tch ρ' σ' H' → D.ct σ' H'
  | .rt d => ∀ v H', Ext H0 H' → Rep K H' (New H0) v d → D.rt v H'
def tS (K : PySem.W.Frag) (C : Oracle) (M : List Nat) (s : S) : TS := fun D σ H => ∃ ρ H0 Z fl ρ', SS K M H0 Z σ ρ H ∧ evS C M ρ s = some (fl, ρ') ∧ Fin K M H0 Z σ ρ H (fun i => touch i s) D fl ρ'
def tSs (K : PySem.W.Frag) (C : Oracle) (M : List Nat) (ss : List S) : TS := fun D σ H => ∃ ρ H0 Z fl ρ', SS K M H0 Z σ ρ H ∧ evSs C M ρ ss = some (fl, ρ') ∧ Fin K M H0 Z σ ρ H (fun i => touchs i ss) D fl ρ'
section
variable {K : PySem.W.Frag} {M : List Nat} {H0 H H1 H' : Hp} {Z Z' : Addr → Prop} {σ σ' σ1 : L2.St} {ρ ρ' ρ1 : EnvD} {v : V} {d : D} {tch tch' : Nat → Bool} {De : Ends} {C : Oracle}
theorem Stay.trans {P : Addr → Prop} {A B D : Hp} (a : Stay P A B) (b : Stay P B D) : Stay P A D := ⟨fun x xs h => b.tup x xs (a.tup x xs h), fun x o u h => b.frz x o u (a.frz x o u h), fun x xs p h => b.lst x xs p (a.lst x xs p h)⟩
theorem Aft.trans (a : Aft K M H0 Z σ ρ H tch ρ1 σ1 H1) (b : Aft K M H0 Z σ1 ρ1 H1 tch' ρ' σ' H') : Aft K M H0 Z σ ρ H (fun i => tch i || tch' i) ρ' σ' H' :=
  ⟨b.ss, a.st.trans b.st, fun i h => by
    simp only [Bool.or_eq_false_iff] at h
    obtain ⟨h1, h2⟩ := a.un i h.1
    obtain ⟨h3, h4⟩ := b.un i h.2
    exact ⟨h3.trans h1, h4.trans h2⟩, b.ln.trans a.ln⟩
theorem Aft.weak (a : Aft K M H0 Z σ ρ H tch ρ' σ' H') (h : ∀ i, tch' i = false → tch i = false) : Aft K M H0 Z σ ρ H tch' ρ' σ' H' := ⟨a.ss, a.st, fun i z => a.un i (h i z), a.ln⟩
/-- behind a part of the way -/
theorem Fin.after (a : Aft K M H0 Z σ ρ H tch ρ1 σ1 H1) {fl : Fl} (f : Fin K M H0 Z σ ρ H tch' De fl ρ') {t2 : Nat → Bool} (h1 : ∀ i, tch' i = false → tch i = false) (h2 : ∀ i, tch' i = false → t2 i = false) : Fin K M H0 Z σ1 ρ1 H1 t2 De fl ρ' := by
  have go : ∀ {σ' H'}, Aft K M H0 Z σ1 ρ1 H1 t2 ρ' σ' H' → Aft K M H0 Z σ ρ H tch' ρ' σ' H' := fun b => (a.trans b).weak fun i z => by rw [h1 i z, h2 i z]; rfl
  cases fl with
  | nx => exact fun σ' H' b => f σ' H' (go b)
  | bk => exact fun σ' H' b => f σ' H' (go b)
  | ct => exact fun σ' H' b => f σ' H' (go b)
  | rt d => exact f
theorem Aft.here (s : SS K M H0 Z σ ρ H) (e : Ext H H') : Aft K M H0 Z σ ρ H tch ρ σ H' := ⟨s.step e, e.stay Z, fun _ _ => ⟨rfl, rfl⟩, rfl⟩
/-- an expression whose value goes out of the frame -/
theorem out_rep {e : E} (s : SS K M H0 Z σ ρ H) (h : (d.imm || fr e d || (match e with | .var i => M.contains i | _ => false)) = true) (ev : evE C ρ e = some d) (x : Ext H H1) (r : Rep K H1 (PN Any H) v d) (f : fr e d = true → Rep K H1 (New H) v d) (w : ∀ i, e = .var i → σ[i]? = some (some v)) : Rep K H1 (New H0) v d := by
  simp only [Bool.or_eq_true] at h
  rcases h with (h | h) | h
  · exact r.imm (stay_refl (P := Any)) h
  · exact (f h).mono fun a z => s.ext.none z
  · cases e with
    | var i =>
      have hi : i ∈ M := by simpa using h
      have hd : ρ[i]? = some (some d) := by
        simp only [evE] at ev
        cases q : ρ[i]? with
        | none => rw [q] at ev; cases ev
        | some o => cases o with
          | none => rw [q] at ev; cases ev
          | some d' => rw [q] at ev; cases ev; rfl
      obtain ⟨u, h1, h2⟩ := s.own i d hi hd
      rw [w i rfl] at h1
      cases h1
      rcases h2 with ⟨h2, h3⟩ | ⟨a, vs, ds, rfl, rfl, h2, h3, h4⟩
      · exact r.imm (stay_refl (P := Any)) h2
      · refine Rep.ext (.lst h3 h2 (h4.mono fun b z => ⟨z.2, fun q => z.1 ?_⟩)) x
        subst q
        exact ⟨i, hi, ds, hd, w i rfl⟩
    | _ => cases h
/-! storing -/
theorem SS.setFrees : ∀ {is : List Nat} {vs : List V} {ds : List D} {σ : L2.St} {ρ : EnvD}, SS K M H0 Z σ ρ H → (∀ i ∈ is, i ∉ M) → (∀ i ∈ is, i < σ.length) → Reps K H (fun a => ¬ Own M σ ρ a) vs ds → SS K M H0 Z (setAll σ is vs) (setAll ρ is ds) H
  | [], _, _, _, _, s, _, _, _ => by simpa [setAll] using s
  | _ :: _, _, _, _, _, s, _, _, .nil => by simpa [setAll] using s
  | i :: is, _, _, σ, ρ, s, h1, h2, .cons (v := v) (d := d) r t => by
    simp only [setAll]
    have hi := h1 i List.mem_cons_self
    have hl := h2 i List.mem_cons_self
    refine SS.setFrees (s.setFree hi hl r) (fun j hj => h1 j (List.mem_cons_of_mem _ hj)) (fun j hj => by rw [List.length_set]; exact h2 j (List.mem_cons_of_mem _ hj)) (t.mono fun a z q => z ?_)
    obtain ⟨j, hj, es, g1, g2⟩ := q
    have e : i ≠ j := fun z => hi (z ▸ hj)
    rw [List.getElem?_set_ne e] at g1 g2
    exact ⟨j, hj, es, g1, g2⟩
theorem SS.setImms : ∀ {is : List Nat} {vs : List V} {ds : List D} {σ : L2.St} {ρ : EnvD}, SS K M H0 Z σ ρ H → (∀ i ∈ is, i < σ.length) → Reps K H Any vs ds → D.imms ds = true → SS K M H0 Z (setAll σ is vs) (setAll ρ is ds) H
  | [], _, _, _, _, s, _, _, _ => by simpa [setAll] using s
  | _ :: _, _, _, _, _, s, _, .nil, _ => by simpa [setAll] using s
  | i :: is, _, _, σ, ρ, s, h2, .cons r t, hd => by
    simp only [D.imms, Bool.and_eq_true] at hd
    simp only [setAll]
    exact SS.setImms (s.setImm (h2 i List.mem_cons_self) r hd.1) (fun j hj => by rw [List.length_set]; exact h2 j (List.mem_cons_of_mem _ hj)) t hd.2
theorem un_setAll {α : Type} {is : List Nat} {vs : List α} {σ : List (Option α)} {j : Nat} (h : is.contains j = false) : (setAll σ is vs)[j]? = σ[j]? := setAll_out is vs σ (by simpa using h)
/-- what is stored: free targets, not owned -/
theorem tg_free {t : Tg} {Q : L2.St → Hp → Prop} (s : SS K M H0 Z σ ρ H) (hf : freeT M t = true) (hl : ∀ i ∈ t.slots, i < σ.length) (r : Rep K H (fun a => ¬ Own M σ ρ a) v d) (hb : bindT t d ρ = some ρ')
    (q : ∀ σ', Aft K M H0 Z σ ρ H (fun i => t.slots.contains i) ρ' σ' H → Q σ' H) : gTg K t v σ H Q := by
  have hfm : ∀ i ∈ t.slots, i ∉ M := fun i hi z => by
    have := List.all_eq_true.mp hf i hi
    simp only [Bool.not_eq_true', List.contains_eq_mem, decide_eq_false_iff_not] at this
    exact this z
  cases t with
  | nm i =>
    cases hb
    exact q _ ⟨s.setFree (hfm i List.mem_cons_self) (hl i List.mem_cons_self) r, stay_refl, fun j hj => ⟨un_setAll (is := [i]) (vs := [v]) hj, un_setAll (is := [i]) (vs := [d]) hj⟩, List.length_set⟩
  | tup is =>
    cases d with
    | tup ds =>
      obtain ⟨hlen, rfl⟩ := ite_some hb
      obtain ⟨a, vs, rfl, ha, rs⟩ := r.tup_inv
      have hv := rs.length
      refine ⟨a, vs, rfl, ha, by omega, gNames_run is vs σ H (by omega) (q _ ?_)⟩
      rw [setAll_fold]
      exact ⟨SS.setFrees s hfm hl rs, stay_refl, fun j hj => ⟨un_setAll hj, un_setAll hj⟩, setAll_length _ _ _⟩
    | _ => cases hb
theorem tg_imm {t : Tg} {Q : L2.St → Hp → Prop} (s : SS K M H0 Z σ ρ H) (hl : ∀ i ∈ t.slots, i < σ.length) (r : Rep K H Any v d) (hd : d.imm = true) (hb : bindT t d ρ = some ρ')
    (q : ∀ σ', Aft K M H0 Z σ ρ H (fun i => t.slots.contains i) ρ' σ' H → Q σ' H) : gTg K t v σ H Q := by
  cases t with
  | nm i =>
    cases hb
    exact q _ ⟨s.setImm (hl i List.mem_cons_self) r hd, stay_refl, fun j hj => ⟨un_setAll (is := [i]) (vs := [v]) hj, un_setAll (is := [i]) (vs := [d]) hj⟩, List.length_set⟩
  | tup is =>
    cases d with
    | tup ds =>
      obtain ⟨hlen, rfl⟩ := ite_some hb
      obtain ⟨a, vs, rfl, ha, rs⟩ := r.tup_inv
      have hv := rs.length
      refine ⟨a, vs, rfl, ha, by omega, gNames_run is vs σ H (by omega) (q _ ?_)⟩
      rw [setAll_fold]
      exact ⟨SS.setImms s hl rs (by simpa [D.imm] using hd), stay_refl, fun j hj => ⟨un_setAll hj, un_setAll hj⟩, setAll_length _ _ _⟩
    | _ => cases hb
theorem not_own_new (s : SS K M H0 Z σ ρ H) {a : Addr} (h : H a = none) : ¬ Own M σ ρ a := fun o => by
  obtain ⟨vs, q⟩ := o.there s
  rw [h] at q; cases q
/-- t = e -/
theorem asg_core {t : Tg} {e : E} {Q : L2.St → Hp → Prop} (s : SS K M H0 Z σ ρ H) (ev : evE C ρ e = some d) (ok : bindOK M t e d = true) (hb : bindT t d ρ = some ρ') (hl : ∀ i ∈ t.slots, i < σ.length)
    (q : ∀ σ' H', Aft K M H0 Z σ ρ H (fun i => t.slots.contains i) ρ' σ' H' → Q σ' H') : tE K C e σ H (fun x H1 => gTg K t x σ H1 Q) := by
  unfold bindOK at ok
  have join : ∀ {H1 σ'}, Ext H H1 → Aft K M H0 Z σ ρ H1 (fun i => t.slots.contains i) ρ' σ' H1 → Aft K M H0 Z σ ρ H (fun i => t.slots.contains i) ρ' σ' H1 := fun x a => ((Aft.here (tch := fun _ => false) s x).trans a).weak fun i z => by simpa using z
  by_cases hf : freeT M t = true
  · rw [if_pos hf] at ok
    simp only [Bool.or_eq_true] at ok
    rcases ok with h | h
    · exact ⟨wipe ρ M, _, d, s.srw, (clean_ev h).trans ev, fun v H1 x r _ _ => tg_free (s.step x) hf hl (r.mono fun a z => z.elim id (not_own_new s)) hb fun σ' a => q σ' H1 (join x a)⟩
    · refine ⟨ρ, Any, d, s.sr, ev, fun v H1 x r f _ => tg_free (s.step x) hf hl ?_ hb fun σ' a => q σ' H1 (join x a)⟩
      rcases h with h | h
      · exact r.imm (stay_refl (P := Any)) h
      · exact (f h).mono fun a z => not_own_new s z
  · rw [if_neg hf] at ok
    simp only [Bool.or_eq_true] at ok
    refine ⟨ρ, Any, d, s.sr, ev, fun v H1 x r f _ => ?_⟩
    rcases ok with h | h
    · exact tg_imm (s.step x) hl r.any h hb fun σ' a => q σ' H1 (join x a)
    · cases t with
      | nm i =>
        simp only [Bool.and_eq_true] at h
        cases d with
        | lst ds =>
          cases hb
          have hi : i ∈ M := by
            have hf' : ¬ (([i] : List Nat).all fun i => !M.contains i) = true := hf
            simpa using hf'
          refine q _ H1 ⟨s.setNew x hi (hl i List.mem_cons_self) (f h.1), x.stay Z, fun j hj => ⟨un_setAll (is := [i]) (vs := [v]) hj, un_setAll (is := [i]) (vs := [D.lst ds]) hj⟩, List.length_set⟩
        | _ => simp [isLst] at h
      | tup is => cases h
end
end Ev
set_option maxHeartbeats 4000000
namespace Ev
open PySem PySem.Spec PyProof.Rows L2

structure GS (T : TC) (C : Oracle) (sc : Scope) (X : Cx) : Prop where
  g : GX T C sc X
  hp : PassesOwn (model X.prog X.w) X.A X.env X.xe
  fnt : ∀ x, X.fn x = true
def SndS (T : TC) (C : Oracle) (M : List Nat) (sc : Scope) (st : Stmt) (s : S) : Prop := ∀ X, GS T C sc X → PS X st (tS X.K C M s)
def SndSs (T : TC) (C : Oracle) (M : List Nat) (sc : Scope) (st : List Stmt) (s : List S) : Prop := ∀ X, GS T C sc X → PSs X st (tSs X.K C M s)
section
variable {T : TC} {C : Oracle} {M : List Nat} {sc : Scope} {X : Cx} {n : Nat}
theorem ps_weak {st : Stmt} {t t' : TS} (h : PS X st t) (w : ∀ pins s σ H D, Inv X pins σ H s → t' D σ H → t D σ H) : PS X st t' := ⟨fun pins s σ H D I q => h.run pins s σ H D I (w _ _ _ _ _ I q)⟩
theorem pss_weak {st : List Stmt} {t t' : TS} (h : PSs X st t) (w : ∀ pins s σ H D, Inv X pins σ H s → t' D σ H → t D σ H) : PSs X st t' := ⟨fun pins s σ H D I q => h.run pins s σ H D I (w _ _ _ _ _ I q)⟩
/-! blocks -/
theorem snd_nil : SndSs T C M sc [] [] := fun X G => pss_weak pss_nil fun pins s σ H D I q => by
  obtain ⟨ρ, H0, Z, fl, ρ', ss, ev, f⟩ := q
  simp only [evSs] at ev
  cases ev
  exact f σ H (Aft.here ss (Ext.refl H))
theorem snd_cons {st : Stmt} {r : List Stmt} {a : S} {b : List S} (h1 : SndS T C M sc st a) (h2 : SndSs T C M sc r b) : SndSs T C M sc (st :: r) (a :: b) := fun X G => pss_weak (pss_cons (h1 X G) (h2 X G)) fun pins s σ H D I q => by
  obtain ⟨ρ, H0, Z, fl, ρ', ss, ev, f⟩ := q
  simp only [evSs, Option.bind_eq_some_iff] at ev
  obtain ⟨⟨fl1, ρ1⟩, e1, e2⟩ := ev
  refine ⟨ρ, H0, Z, fl1, ρ1, ss, e1, ?_⟩
  have w1 : ∀ i, touchs i (a :: b) = false → touch i a = false := fun i h => by simp only [touchs, Bool.or_eq_false_iff] at h; exact h.1
  have w2 : ∀ i, touchs i (a :: b) = false → touchs i b = false := fun i h => by simp only [touchs, Bool.or_eq_false_iff] at h; exact h.2
  cases fl1 with
  | nx => exact fun σ1 H1 aft => ⟨ρ1, H0, Z, fl, ρ', aft.ss, e2, Fin.after aft f w1 w2⟩
  | bk => cases e2; exact fun σ1 H1 aft => f σ1 H1 (aft.weak w1)
  | ct => cases e2; exact fun σ1 H1 aft => f σ1 H1 (aft.weak w1)
  | rt d => cases e2; exact f
/-! the small ones -/
theorem snd_pass {pos : Pos} : SndS T C M sc (.Pass pos) .pass := fun X G => ps_weak ps_pass fun pins s σ H D I q => by
  obtain ⟨ρ, H0, Z, fl, ρ', ss, ev, f⟩ := q
  simp only [evS] at ev
  cases ev
  exact f σ H (Aft.here ss (Ext.refl H))
theorem snd_doc {x : Str} {k : Nat} {pos pos' : Pos} : SndS T C M sc (.Expr (.Constant (.str x) k pos) pos') .pass := fun X G => ps_weak ps_doc fun pins s σ H D I q => by
  obtain ⟨ρ, H0, Z, fl, ρ', ss, ev, f⟩ := q
  simp only [evS] at ev
  cases ev
  exact f σ H (Aft.here ss (Ext.refl H))
theorem snd_brk {pos : Pos} : SndS T C M sc (.Break pos) .brk := fun X G => ps_weak ps_break fun pins s σ H D I q => by
  obtain ⟨ρ, H0, Z, fl, ρ', ss, ev, f⟩ := q
  simp only [evS] at ev
  cases ev
  exact f σ H (Aft.here ss (Ext.refl H))
theorem snd_cnt {pos : Pos} : SndS T C M sc (.Continue pos) .cnt := fun X G => ps_weak ps_continue fun pins s σ H D I q => by
  obtain ⟨ρ, H0, Z, fl, ρ', ss, ev, f⟩ := q
  simp only [evS] at ev
  cases ev
  exact f σ H (Aft.here ss (Ext.refl H))
theorem snd_ret {e : Expr} {E : E} {pos : Pos} (h : SndX T C sc e E) : SndS T C M sc (.Return (some e) pos) (.ret E) := fun X G => ps_weak (ps_ret (h.v X G.g)) fun pins s σ H D I q => by
  obtain ⟨ρ, H0, Z, fl, ρ', ss, ev, f⟩ := q
  simp only [evS, Option.bind_eq_some_iff] at ev
  obtain ⟨d, e1, e2⟩ := ev
  obtain ⟨hc, e3⟩ := ite_some e2
  cases e3
  exact ⟨ρ, Any, d, ss.sr, e1, fun v H1 x r fr w => f v H1 (ss.ext.trans x) (out_rep ss hc e1 x r fr w)⟩
theorem snd_retN {pos : Pos} : SndS T C M sc (.Return none pos) .retN := fun X G => ps_weak ps_retN fun pins s σ H D I q => by
  obtain ⟨ρ, H0, Z, fl, ρ', ss, ev, f⟩ := q
  simp only [evS] at ev
  cases ev
  exact f .non H ss.ext .non
theorem snd_if {c : Expr} {a b : List Stmt} {E : E} {A B : List S} {pos : Pos} (hc : SndX T C sc c E) (ha : SndSs T C M sc a A) (hb : SndSs T C M sc b B) : SndS T C M sc (.If c a b pos) (.ite E A B) := fun X G => ps_weak (ps_if (hc.t X G.g) (ha X G) (hb X G)) fun pins s σ H D I q => by
  obtain ⟨ρ, H0, Z, fl, ρ', ss, ev, f⟩ := q
  simp only [evS, Option.bind_eq_some_iff] at ev
  obtain ⟨d, e1, k, e2, e3⟩ := ev
  refine ⟨ρ, Any, d, k, ss.sr, e1, e2, fun H1 x => ?_⟩
  have af : Aft X.K M H0 Z σ ρ H (fun _ => false) ρ σ H1 := Aft.here ss x
  cases k with
  | true => exact ⟨ρ, H0, Z, fl, ρ', af.ss, e3, Fin.after af f (fun _ _ => rfl) fun i h => by simp only [touch, Bool.or_eq_false_iff] at h; exact h.1⟩
  | false => exact ⟨ρ, H0, Z, fl, ρ', af.ss, e3, Fin.after af f (fun _ _ => rfl) fun i h => by simp only [touch, Bool.or_eq_false_iff] at h; exact h.2⟩
/-! t = e -/
theorem trTg_lt {N : List Str} {tg : Expr} {t : Tg} {own : List (Str × Nat)} (h : trTg N tg = some (t, own)) : ∀ p ∈ own, N[p.2]? = some p.1 := by
  have go : ∀ {es : List Expr} {ps : List (Str × Nat)}, mapO (trTg1 N) es = some ps → ∀ p ∈ ps, N[p.2]? = some p.1 := by
    intro es
    induction es with
    | nil => intro ps h; cases h; intro p hp; cases hp
    | cons e es ih =>
      intro ps h
      simp only [mapO, Option.bind_eq_some_iff] at h
      obtain ⟨q, h1, qs, h2, h3⟩ := h
      cases h3
      intro p hp
      rcases List.mem_cons.mp hp with rfl | hp
      · cases e with
        | Name x pos =>
          obtain ⟨i, hi, rfl⟩ := Option.map_eq_some_iff.mp h1
          exact ixOf_some hi
        | _ => cases h1
      · exact ih h2 p hp
  cases tg with
  | Name x pos =>
    obtain ⟨i, hi, e⟩ := Option.map_eq_some_iff.mp h
    cases e
    intro p hp
    cases List.mem_singleton.mp hp
    exact ixOf_some hi
  | Tuple es k pos =>
    obtain ⟨ps, hi, e⟩ := Option.map_eq_some_iff.mp h
    cases e
    exact go hi
  | _ => cases h
theorem own_ok (G : GS T C sc X) {tg : Expr} {t : Tg} {own : List (Str × Nat)} (h : trTg T.N tg = some (t, own)) (ho : ownB sc own = true) : OwnOk X own := fun p hp => by
  refine ⟨by rw [G.g.hN]; exact trTg_lt h p hp, ?_, .inl (G.fnt _)⟩
  rw [G.g.hsc]
  exact loc_of (List.all_eq_true.mp ho p hp)
theorem slots_lt (G : GS T C sc X) {tg : Expr} {t : Tg} {own : List (Str × Nat)} (h : trTg T.N tg = some (t, own)) {pins : List (Addr × Obj)} {s : Shared} {σ : L2.St} {H : Hp} (I : Inv X pins σ H s) : ∀ i ∈ t.slots, i < σ.length := fun i hi => by
  rw [trTg_slots h] at hi
  obtain ⟨p, hp, rfl⟩ := List.mem_map.mp hi
  rw [I.len, G.g.hN]
  exact (List.getElem?_eq_some_iff.mp (trTg_lt h p hp)).1
theorem asg_read {K : PySem.W.Frag} {t : Tg} {e : E} {D : Ends} {σ : L2.St} {H : Hp} (hl : ∀ i ∈ t.slots, i < σ.length) (q : tS K C M (.asg t e) D σ H) : tE K C e σ H (fun x H1 => gTg K t x σ H1 D.nx) := by
  obtain ⟨ρ, H0, Z, fl, ρ', ss, ev, f⟩ := q
  simp only [evS, Option.bind_eq_some_iff] at ev
  obtain ⟨d, e1, e2⟩ := ev
  obtain ⟨hc, e2⟩ := ite_some' e2
  simp only [Option.bind_eq_some_iff] at e2
  obtain ⟨ρ1, e3, e4⟩ := e2
  cases e4
  exact asg_core ss e1 hc e3 hl f
theorem tr_comp {elt : Expr} {gens : List Comprehension} {scope : Scope} {pos : Pos} {E : E} (h : tr T n sc (.ListComp elt gens scope pos) = some E) : ∃ m, n = m + 1 ∧ ∃ (tg iter : Expr) (ifs : List Expr) (k : Int) (t : Tg) (own : List (Str × Nat)) (it : It) (c : Option Ev.E) (A : Ev.E), gens = [⟨tg, iter, ifs, k⟩] ∧ trTg T.N tg = some (t, own) ∧ blkC T.N sc scope own = true ∧ k = 0 ∧
    own.all (fun p => locB (relS scope sc) p.1 && (isCell scope p.1 || isLocal (relS scope sc) p.1)) = true ∧ trI T (tr T m) sc iter = some it ∧ trIf (tr T m (relS scope sc)) ifs = some c ∧ tr T m (relS scope sc) elt = some A ∧ E = .comp A (own.map Prod.snd) t it c := by
  cases n with
  | zero => cases h
  | succ m =>
    refine ⟨m, rfl, ?_⟩
    have h : trStep T (tr T m) sc (.ListComp elt gens scope pos) = some E := h
    simp only [trStep] at h
    split at h
    · rename_i tg iter ifs k
      simp only [Option.bind_eq_some_iff] at h
      obtain ⟨z, h1, h2⟩ := h
      obtain ⟨hc, h2⟩ := ite_some' h2
      simp only [Bool.and_eq_true, decide_eq_true_eq] at hc
      simp only [Option.bind_eq_some_iff] at h2
      obtain ⟨it, h3, c, h4, A, h5, h6⟩ := h2
      cases h6
      obtain ⟨t, own⟩ := z
      exact ⟨_, _, _, _, t, own, it, c, A, rfl, h1, hc.1.1, hc.1.2, by simpa using hc.2, h3, h4, h5, rfl⟩
    · cases h
theorem snd_asgN {x : Str} {px pos : Pos} {e : Expr} {E : E} {i : Nat} (hi : ixOf T.N x = some i) (hx : locB sc x = true) (he : tr T n sc e = some E) : SndS T C M sc (.Assign [.Name x px] e pos) (.asg (.nm i) E) := fun X G => by
  have htg : trTg T.N (.Name x px) = some (.nm i, [(x, i)]) := by
    show (ixOf T.N x).map (fun i => (Tg.nm i, [(x, i)])) = _
    rw [hi]; rfl
  have hxi : X.N[i]? = some x := by rw [G.g.hN]; exact ixOf_some hi
  have hloc : Loc X.env.scope x := by rw [G.g.hsc]; exact loc_of hx
  have nd : X.N.Nodup := by rw [G.g.hN]; exact G.g.nd
  have plain : swapsWith e (some (.Name x px)) pos.line X.env = pure false → PS X (.Assign [.Name x px] e pos) (tS X.K C M (.asg (.nm i) E)) := fun hs =>
    ps_weak (ps_set nd hxi hloc ((snd_tr n sc e E he).v X G.g) hs (.inl (G.fnt x))) fun pins s σ H D I q => asg_read (slots_lt G htg I) q
  cases e with
  | ListComp elt gens scope p =>
    have hsw : swapsWith (.ListComp elt gens scope p) (some (.Name x px)) pos.line X.env = pure (X.env.blockKind == .function && X.env.kindOf x == some .local && px.line == p.line && !(scope.names.any fun (n, k) => n == x && (k == .local || k == .cell))) := rfl
    by_cases hb : (X.env.blockKind == .function && X.env.kindOf x == some .local && px.line == p.line && !(scope.names.any fun (n, k) => n == x && (k == .local || k == .cell))) = true
    · rw [hb] at hsw
      obtain ⟨m, rfl, tg, iter, ifs, k, t, own, it, c, A, rfl, h1, h2, h3, h4, h5, h6, h7, rfl⟩ := tr_comp he
      obtain ⟨g1, g2, g3, g4, g5, g6, g7⟩ := comp_parts (pos := p) (snd_tr m) h1 h2 h3 h4 h5 h6 h7 X G.g
      subst h3
      have hyl : X.env.scope.names.lookup x = some .local := by
        simp only [Bool.and_eq_true] at hb
        have := hb.1.1.2
        exact eq_of_beq this
      refine ps_weak (ps_setLc G.g.calm nd hxi hyl hsw g1 g2 g3 g4 g5 g6) fun pins s σ H D I q => ?_
      have q2 := asg_read (slots_lt G htg I) q
      exact comp_lc (fun j hj => by rw [I.len, G.g.hN]; exact g7 j hj) (trTg_slots h1) q2
    · have hb' : (X.env.blockKind == .function && X.env.kindOf x == some .local && px.line == p.line && !(scope.names.any fun (n, k) => n == x && (k == .local || k == .cell))) = false := Bool.eq_false_iff.mpr hb
      rw [hb'] at hsw
      exact plain hsw
  | SetComp _ _ _ _ => cases n <;> cases he
  | DictComp _ _ _ _ _ => cases n <;> cases he
  | _ => exact plain rfl
theorem snd_asgT {es : List Expr} {kt : Nat} {pt pos : Pos} {e : Expr} {E : E} {t : Tg} {own : List (Str × Nat)} (htg : trTg T.N (.Tuple es kt pt) = some (t, own)) (ho : ownB sc own = true) (hne : isTupE e = false) (he : SndX T C sc e E) :
    SndS T C M sc (.Assign [.Tuple es kt pt] e pos) (.asg t E) := fun X G => by
  have nd : X.N.Nodup := by rw [G.g.hN]; exact G.g.nd
  have pg := pg_tg G.g.calm nd (tg := .Tuple es kt pt) (by rw [G.g.hN]; exact htg) (own_ok G htg ho)
  have hs : swapsWithSole [.Tuple es kt pt] e pos.line X.env = pure false := by cases e <;> rfl
  have hw : swappedStores [.Tuple es kt pt] e X.env = pure none := by cases e <;> first | rfl | cases hne
  exact ps_weak (ps_asg (he.v X G.g) pg hs hw rfl) fun pins s σ H D I q => asg_read (slots_lt G htg I) q
theorem var_get {ρ : EnvD} {i : Nat} {d : D} (h : ρ[i]?.bind id = some d) : ρ[i]? = some (some d) := by
  cases q : ρ[i]? with
  | none => rw [q] at h; cases h
  | some o => cases o with
    | none => rw [q] at h; cases h
    | some d' => rw [q] at h; cases h; rfl
theorem fresh_rep {K : PySem.W.Frag} {H0 H H1 : Hp} {Z : Addr → Prop} {σ : L2.St} {ρ : EnvD} {v : V} {d : D} {e : Ev.E} (s : SS K M H0 Z σ ρ H) (h : (d.imm || fr e d) = true) (r : Rep K H1 (PN Any H) v d) (f : fr e d = true → Rep K H1 (New H) v d) : Rep K H1 (fun b => ¬ Own M σ ρ b ∧ H0 b = none) v d := by
  simp only [Bool.or_eq_true] at h
  rcases h with h | h
  · exact r.imm (stay_refl (P := Any)) h
  · exact (f h).mono fun a z => ⟨not_own_new s z, s.ext.none z⟩
/-- what a slot of M has, a list -/
theorem own_lst {K : PySem.W.Frag} {H0 H : Hp} {Z : Addr → Prop} {σ : L2.St} {ρ : EnvD} {i : Nat} {ds : List D} (s : SS K M H0 Z σ ρ H) (hi : i ∈ M) (hd : ρ[i]? = some (some (.lst ds))) : ∃ a vs, σ[i]? = some (some (.ref a)) ∧ H a = some (.lst vs) ∧ H0 a = none ∧ Reps K H (fun b => ¬ Own M σ ρ b ∧ H0 b = none) vs ds := by
  obtain ⟨v, h1, h2⟩ := s.own i _ hi hd
  rcases h2 with ⟨h2, _⟩ | ⟨a, vs, es, rfl, e, h2, h3, h4⟩
  · simp [D.imm] at h2
  · cases e
    exact ⟨a, vs, h1, h2, h3, h4⟩
theorem aft_change {K : PySem.W.Frag} {H0 H H1 : Hp} {Z : Addr → Prop} {σ : L2.St} {ρ : EnvD} {i : Nat} {a : Addr} {vs ws : List V} {ds es : List D} (s : SS K M H0 Z σ ρ H) (x : Ext H H1) (hi : i ∈ M) (hρ : ρ[i]? = some (some (.lst ds))) (hσ : σ[i]? = some (some (.ref a)))
    (hat : H1 a = some (.lst vs)) (hn : H0 a = none) (r : Reps K H1 (fun b => ¬ Own M σ ρ b ∧ H0 b = none) ws es) : Aft K M H0 Z σ ρ H (fun j => j == i) (ρ.set i (some (.lst es))) σ (upd H1 a (.lst ws)) := by
  obtain ⟨h1, h2⟩ := (s.step x).change hi hρ hσ hat hn r
  refine ⟨h1, (x.stay Z).trans h2, fun j hj => ⟨rfl, ?_⟩, rfl⟩
  have : j ≠ i := by simpa using hj
  exact List.getElem?_set_ne (fun z => this z.symm)
theorem snd_app {x : Str} {p apos cpos pos : Pos} {a : Expr} {A : Ev.E} {i : Nat} (hi : slotOf T.N sc x = some i) (ha : SndX T C sc a A) (hs : isStar a = false) (hl : (apos.endLine == cpos.line) = true) :
    SndS T C M sc (.Expr (.Call (.Attribute (.Name x p) "append" apos) [a] [] cpos) pos) (.app i A) := fun X G => by
  unfold slotOf at hi
  obtain ⟨hc, hi⟩ := ite_some' hi
  simp only [Bool.and_eq_true, Bool.not_eq_true'] at hc
  have pn : PE X (.Name x p) (tVar i) := pe_var (i := i) (by rw [G.g.hN]; exact ixOf_some hi) (by rw [G.g.hsc]; exact vis_of hc.1.1) hc.1.2 hc.2
  have he : PE X (.Call (.Attribute (.Name x p) "append" apos) [a] [] cpos) (tBM X.K "list" rAppend (tVar i) (tCons (tE X.K C A) tNil)) :=
    pe_bm PySem.F.plainAttrs_list PySem.F.slot_list_append PySem.F.type_list_append mt_append pn (pa_cons (ha.v X G.g) pa_nil (star_cons hs)) rfl (by rw [star_cons hs]; rfl) hl (star_cons hs) rfl
  refine ps_weak (ps_expr he rfl) fun pins s σ H D I q => ?_
  obtain ⟨ρ, H0, Z, fl, ρ', ss, ev, f⟩ := q
  simp only [evS, Option.bind_eq_some_iff] at ev
  obtain ⟨d, e1, l, e2, e3⟩ := ev
  have hd := var_get (by simpa [Option.bind_eq_some_iff] using e2)
  cases l with
  | lst ds =>
    obtain ⟨hc2, e4⟩ := ite_some e3
    cases e4
    simp only [Bool.and_eq_true, decide_eq_true_eq, List.contains_eq_mem] at hc2
    obtain ⟨⟨hm, hf⟩, hz⟩ := hc2
    obtain ⟨b, vs, h1, h2, h3, h4⟩ := own_lst ss hm hd
    refine ⟨.ref b, h1, Or.inl ⟨rfl, vs, SqL.of h2⟩, ρ, Any, d, ss.sr, e1, fun v H1 x1 r1 f1 _ => ?_⟩
    have hb : H1 b = some (.lst vs) := x1.at_ _ _ h2 (fun _ z => by cases z)
    refine ⟨b, vs, v, rfl, rfl, hb, by rw [h4.length]; exact hz, ?_⟩
    exact f σ _ (aft_change ss x1 hm hd h1 hb h3 ((h4.ext x1).append (.cons (fresh_rep ss hf r1 f1) .nil)))
  | _ => cases e3
theorem ixN_lt {n : Nat} {k : Int} {j : Nat} (h : ixN n k = some j) : j < n := (ixN_seq h).2.1
theorem snd_sub {x : Str} {p p2 pos : Pos} {k e : Expr} {Kk E : Ev.E} {i : Nat} (hi : slotOf T.N sc x = some i) (hk : SndX T C sc k Kk) (he : SndX T C sc e E) (h0 : isSlice k = false) (h1 : isComp e = false) (h2 : isTupE e = false) :
    SndS T C M sc (.Assign [.Subscript (.Name x p) k p2] e pos) (.sub i Kk E) := fun X G => by
  unfold slotOf at hi
  obtain ⟨hc, hi⟩ := ite_some' hi
  simp only [Bool.and_eq_true, Bool.not_eq_true'] at hc
  have pn : PE X (.Name x p) (tVar i) := pe_var (i := i) (by rw [G.g.hN]; exact ixOf_some hi) (by rw [G.g.hsc]; exact vis_of hc.1.1) hc.1.2 hc.2
  have pg : PG X (.Subscript (.Name x p) k p2) (gSub (tVar i) (tE X.K C Kk) rSetL) := pg_sub pn (hk.v X G.g) set_list (by intro v; cases k <;> first | rfl | cases h0)
  have hs : swapsWithSole [.Subscript (.Name x p) k p2] e pos.line X.env = pure false := by cases e <;> first | rfl | cases h1
  have hw : swappedStores [.Subscript (.Name x p) k p2] e X.env = pure none := by cases e <;> first | rfl | cases h2
  refine ps_weak (ps_asg (he.v X G.g) pg hs hw rfl) fun pins s σ H D I q => ?_
  obtain ⟨ρ, H0, Z, fl, ρ', ss, ev, f⟩ := q
  simp only [evS, Option.bind_eq_some_iff] at ev
  obtain ⟨d, e1, kd, e2, j, e3, l, e4, e5⟩ := ev
  have hd := var_get (by simpa [Option.bind_eq_some_iff] using e4)
  cases l with
  | lst ds =>
    simp only [Option.bind_eq_some_iff] at e5
    obtain ⟨m, e6, e7⟩ := e5
    obtain ⟨hc2, e8⟩ := ite_some e7
    cases e8
    simp only [Bool.and_eq_true, List.contains_eq_mem, decide_eq_true_eq] at hc2
    obtain ⟨hm, hf⟩ := hc2
    obtain ⟨b, vs, g1, g2, g3, g4⟩ := own_lst ss hm hd
    refine ⟨ρ, Any, d, ss.sr, e1, fun v H1 x1 r1 f1 _ => ⟨.ref b, g1, ρ, Any, kd, (ss.step x1).sr, e2, fun u H2 x2 r2 _ _ => ?_⟩⟩
    have hb : H2 b = some (.lst vs) := (x1.trans x2).at_ _ _ g2 (fun _ z => by cases z)
    have hu : u = .int j := by
      cases kd <;> first | cases e3 | skip
      exact r2.int_inv
    refine ⟨b, vs, j, m, rfl, hu, hb, by rw [g4.length]; exact e6, ?_⟩
    have rv : Rep X.K H2 (fun b => ¬ Own M σ ρ b ∧ H0 b = none) v d := (fresh_rep ss hf r1 f1).ext x2
    exact f σ _ (aft_change ss (x1.trans x2) hm hd g1 hb g3 (Reps.set rv m (g4.ext (x1.trans x2))))
  | _ => cases e5
end
end Ev
set_option maxHeartbeats 4000000
namespace Ev
open PySem PySem.Spec PyProof.Rows L2
section
variable {T : TC} {C : Oracle} {M : List Nat} {sc : Scope} {X : Cx} {n : Nat}
theorem Aft.less {K : PySem.W.Frag} {H0 H H' : Hp} {Z Z' : Addr → Prop} {σ σ' : L2.St} {ρ ρ' : EnvD} {tch : Nat → Bool} (a : Aft K M H0 Z' σ ρ H tch ρ' σ' H') (h : ∀ b, Z b → Z' b) : Aft K M H0 Z σ ρ H tch ρ' σ' H' := ⟨a.ss.less h, a.st.sub h, a.un, a.ln⟩
theorem for_read {K : PySem.W.Frag} {t : Tg} {it : It} {b : List S} {De : Ends} {σ : L2.St} {H : Hp} (hl : ∀ i ∈ t.slots, i < σ.length)
    (q : tS K C M (.for_ t it b) De σ H) : tFor (tI K C it) (gTg K t) (tSs K C M b) De σ H := by
  obtain ⟨ρ, H0, Z, fl, ρ', ss, ev, f⟩ := q
  simp only [evS, Option.bind_eq_some_iff] at ev
  obtain ⟨xs, e1, e2⟩ := ev
  obtain ⟨hok, e2⟩ := ite_some' e2
  -- the loop, once the sources are known to stand
  have core : ∀ (J : L2.It) (H1 : Hp) (src : List (V × D)) (Zs : Addr → Prop), Ext H H1 → (∀ P', Yld K P' J xs (Src K P' src)) → (∀ a, Zs a → H1 a ≠ none ∧ ¬ Own M σ ρ a) →
      (∀ p ∈ src, Rep K H1 Zs p.1 p.2 ∨ ∃ i, (t.slots.contains i || touchs i b) = false ∧ σ[i]? = some (some p.1) ∧ ρ[i]? = some (some p.2)) → (D.imms xs = true ∨ (freeT M t = true ∧ ∀ p ∈ src, Rep K H1 Zs p.1 p.2)) →
      ∃ W : Nat → Nat → L2.St → Hp → Prop, (∃ m, W 0 m σ H1) ∧ ∀ i m σ H, W i m σ H →
        (J.stop i H ∧ De.nx σ H) ∨ (J.go i H ∧ ∃ N : L2.St → Hp → Prop, (∀ σ' H', N σ' H' → ∃ m', m' < m ∧ W (i + 1) m' σ' H') ∧ ∀ x H', J.yld i H x H' → gTg K t x σ H' fun σ2 H2 => tSs K C M b { De with nx := N, ct := N, bk := De.nx } σ2 H2) := by
    intro J H1 src Zs x1 Y hZs hst himm
    let Z' : Addr → Prop := fun a => Z a ∨ Zs a
    let tch : Nat → Bool := fun i => t.slots.contains i || touchs i b
    have ss1 : SS K M H0 Z' σ ρ H1 := (ss.step x1).more hZs
    have finish : ∀ {σc ρc Hc}, Aft K M H0 Z' σ ρ H1 tch ρc σc Hc → Aft K M H0 Z σ ρ H (fun i => touch i (.for_ t it b)) ρc σc Hc := fun a =>
      ((Aft.here (tch := fun _ => false) ss x1).trans (a.less fun _ z => .inl z)).weak fun i z => by
        show (false || tch i) = false
        simp only [touch] at z
        exact z
    let W : Nat → L2.St → Hp → Prop := fun i σc Hc => ∃ ρc, forD t (fun ρ => evSs C M ρ b) (xs.drop i) ρc = some (fl, ρ') ∧ Aft K M H0 Z' σ ρ H1 tch ρc σc Hc
    refine ⟨fun i m σc Hc => m = xs.length - i ∧ i ≤ xs.length ∧ W i σc Hc, ⟨xs.length, by simp, Nat.zero_le _, ρ, by simpa using e2, Aft.here ss1 (Ext.refl _)⟩, ?_⟩
    rintro i m σc Hc ⟨rfl, hi, ρc, hfor, aft⟩
    have srcAny : Src K Any src Hc := fun p hp => by
      rcases hst p hp with h | ⟨j, h1, h2, h3⟩
      · exact (h.stay' (aft.st.sub fun a z => .inr z) fun a z => z).any
      · obtain ⟨u1, u2⟩ := aft.un j h1
        obtain ⟨v, g1, g2⟩ := aft.ss.sr j p.2 (by rw [u2]; exact h3)
        rw [u1, h2] at g1
        cases g1
        exact g2
    by_cases hlt : i < xs.length
    · refine .inr ⟨(Y Any).go i Hc srcAny hlt, W (i + 1), fun σ' H' w => ⟨xs.length - (i + 1), by omega, rfl, hlt, w⟩, fun x H' y => ?_⟩
      have item : ∃ d, xs[i]? = some d ∧ Ext Hc H' ∧ ((d.imm = true ∧ Rep K H' Any x d) ∨ (freeT M t = true ∧ Rep K H' (fun a => ¬ Own M σc ρc a) x d)) := by
        rcases himm with h | ⟨h, h2⟩
        · obtain ⟨xx, d, hd, rd⟩ := (Y Any).yld i Hc x H' srcAny hlt y
          exact ⟨d, hd, xx, .inl ⟨imm_of_mem h (List.mem_of_getElem? hd), rd.any⟩⟩
        · have sz : Src K Zs src Hc := fun p hp => (h2 p hp).stay' (aft.st.sub fun a z => .inr z) fun a z => z
          obtain ⟨xx, d, hd, rd⟩ := (Y Zs).yld i Hc x H' sz hlt y
          refine ⟨d, hd, xx, .inr ⟨h, rd.mono fun a z => ?_⟩⟩
          rcases z with z | z
          · exact (aft.ss.zt a (.inr z)).2
          · exact not_own_new aft.ss z
      obtain ⟨d, hd, xx, hx⟩ := item
      have hdrop : xs.drop i = d :: xs.drop (i + 1) := by
        obtain ⟨h1, h2⟩ := List.getElem?_eq_some_iff.mp hd
        rw [← h2, List.drop_eq_getElem_cons h1]
      rw [hdrop] at hfor
      simp only [forD, Option.bind_eq_some_iff] at hfor
      obtain ⟨ρ1, hb, ⟨flb, ρ2⟩, hbody, hrest⟩ := hfor
      have aftC : Aft K M H0 Z' σ ρ H1 tch ρc σc H' := (aft.trans (Aft.here (tch := fun _ => false) aft.ss xx)).weak fun i z => by
        show (tch i || false) = false
        rw [z]; rfl
      have next : ∀ σ2, Aft K M H0 Z' σc ρc H' (fun i => t.slots.contains i) ρ1 σ2 H' → tSs K C M b { De with nx := W (i + 1), ct := W (i + 1), bk := De.nx } σ2 H' := fun σ2 a2 => by
        have a3 : Aft K M H0 Z' σ ρ H1 tch ρ1 σ2 H' := (aftC.trans a2).weak fun i z => by
          have z' : (t.slots.contains i || touchs i b) = false := z
          simp only [Bool.or_eq_false_iff] at z'
          show (tch i || t.slots.contains i) = false
          rw [z, z'.1]; rfl
        have join : ∀ {σ3 H3}, Aft K M H0 Z' σ2 ρ1 H' (fun i => touchs i b) ρ2 σ3 H3 → Aft K M H0 Z' σ ρ H1 tch ρ2 σ3 H3 := fun a4 => (a3.trans a4).weak fun i z => by
          have z' : (t.slots.contains i || touchs i b) = false := z
          simp only [Bool.or_eq_false_iff] at z'
          show (tch i || touchs i b) = false
          rw [z, z'.2]; rfl
        refine ⟨ρ1, H0, Z', flb, ρ2, a2.ss, hbody, ?_⟩
        cases flb with
        | nx => exact fun σ3 H3 a4 => ⟨ρ2, hrest, join a4⟩
        | ct => exact fun σ3 H3 a4 => ⟨ρ2, hrest, join a4⟩
        | bk =>
          cases hrest
          exact fun σ3 H3 a4 => f σ3 H3 (finish (join a4))
        | rt d =>
          cases hrest
          exact f
      rcases hx with ⟨h1, h2⟩ | ⟨h1, h2⟩
      · exact tg_imm aftC.ss (fun i hi => by rw [aft.ln]; exact hl i hi) h2 h1 hb next
      · exact tg_free aftC.ss h1 (fun i hi => by rw [aft.ln]; exact hl i hi) h2 hb next
    · have e : i = xs.length := by omega
      subst e
      rw [List.drop_length] at hfor
      simp only [forD] at hfor
      cases hfor
      exact .inl ⟨(Y Any).stop _ Hc srcAny (Nat.le_refl _), f σc Hc (finish aft)⟩
  unfold forOK at hok
  by_cases hcl : cleanI M it = true
  · have himm : D.imms xs = true ∨ freeT M t = true := by
      simp only [hcl, Bool.true_and, Bool.true_or, Bool.or_eq_true] at hok
      exact hok.symm
    refine ⟨wipe ρ M, _, xs, ss.srw, (cleanI_ev hcl).trans e1, fun J H1 src x1 hsrc Y hz hp => ?_⟩
    have hs : ∀ p ∈ src, Rep K H1 (fun a => PN (fun a => ¬ Own M σ ρ a) H a ∧ H1 a ≠ none) p.1 p.2 := fun p hp => (hsrc p hp).there
    exact core J H1 src (fun a => PN (fun a => ¬ Own M σ ρ a) H a ∧ H1 a ≠ none) x1 Y (fun a z => ⟨z.2, z.1.elim id (not_own_new ss)⟩) (fun p hp => Or.inl (hs p hp)) (himm.imp id fun h => ⟨h, hs⟩)
  · have h2 : it.parts.all (partOK C M ρ t b) = true ∧ D.imms xs = true := by
      have : cleanI M it = false := by simpa using hcl
      simp only [this, Bool.false_and, Bool.false_or, Bool.and_eq_true] at hok
      exact hok
    refine ⟨ρ, Any, xs, ss.sr, e1, fun J H1 src x1 hsrc Y hz hp => ?_⟩
    refine core J H1 src (fun a => H a = none ∧ H1 a ≠ none) x1 Y (fun a z => ⟨z.2, not_own_new ss z.1⟩) (fun p hpm => ?_) (.inl h2.2)
    obtain ⟨e, he, hev, hfr, hw⟩ := hp p hpm
    have hpo := List.all_eq_true.mp h2.1 e he
    unfold partOK at hpo
    rw [hev] at hpo
    simp only [Bool.or_eq_true] at hpo
    rcases hpo with (h | h) | h
    · exact .inl ((hsrc p hpm).imm (stay_refl (P := Any)) h)
    · exact .inl (hfr h).there
    · cases e with
      | var i =>
        simp only [Bool.and_eq_true, Bool.not_eq_true'] at h
        refine .inr ⟨i, h.2, hw i rfl, var_get ?_⟩
        simpa [evE] using hev
      | _ => cases h
end
end Ev
set_option maxHeartbeats 4000000
namespace Ev
open PySem PySem.Spec PyProof.Rows L2
section
variable {T : TC} {C : Oracle} {M : List Nat} {sc : Scope} {X : Cx} {n : Nat}
theorem snd_for {tg iter : Expr} {b : List Stmt} {t : Tg} {own : List (Str × Nat)} {I : It} {B : List S} {pos : Pos} (htg : trTg T.N tg = some (t, own)) (ho : ownB sc own = true) (hi : SndI T C sc iter I) (hb : SndSs T C M sc b B) : SndS T C M sc (.For tg iter b [] pos) (.for_ t I B) := fun X G => by
  have nd : X.N.Nodup := by rw [G.g.hN]; exact G.g.nd
  have pg := pg_tg G.g.calm nd (by rw [G.g.hN]; exact htg) (own_ok G htg ho)
  exact ps_weak (ps_for G.hp G.g.calm (hi.run X tg G.g) pg (hb X G) (fun x => hi.nofold _ x)) fun pins s σ H D I q => for_read (slots_lt G htg I) q
theorem snd_while {c : Expr} {b : List Stmt} {E : E} {B : List S} {pos : Pos} (hc : SndX T C sc c E) (hb : SndSs T C M sc b B) : SndS T C M sc (.While c b [] pos) (.while_ E B) := fun X G =>
  ps_weak (ps_while G.hp (hc.t X G.g) (hb X G)) fun pins s σ H De I q => by
    obtain ⟨ρ, H0, Z, fl, ρ', ss, ev, f⟩ := q
    simp only [evS] at ev
    refine ⟨fun m σc Hc => ∃ ρc, whileD (fun ρ => (evE C ρ E).bind truthD) (fun ρ => evSs C M ρ B) m ρc = some (fl, ρ') ∧ Aft X.K M H0 Z σ ρ H (fun i => touchs i B) ρc σc Hc, ⟨fuel, ρ, ev, Aft.here ss (Ext.refl H)⟩, ?_⟩
    rintro m σc Hc ⟨ρc, hw, aft⟩
    cases m with
    | zero => cases hw
    | succ m =>
      simp only [whileD, Option.bind_eq_some_iff] at hw
      obtain ⟨k, ⟨d, e1, e2⟩, e3⟩ := hw
      refine ⟨ρc, Any, d, k, aft.ss.sr, e1, e2, fun H1 x => ?_⟩
      have a1 : Aft X.K M H0 Z σ ρ H (fun i => touchs i B) ρc σc H1 := (aft.trans (Aft.here (tch := fun _ => false) aft.ss x)).weak fun i z => by
        show (touchs i B || false) = false
        rw [z]; rfl
      cases k with
      | false =>
        simp only [Bool.false_eq_true, if_false] at e3 ⊢
        cases e3
        exact f σc H1 (a1.weak fun i z => by simpa [touch] using z)
      | true =>
        simp only [if_true] at e3 ⊢
        simp only [Option.bind_eq_some_iff] at e3
        obtain ⟨⟨flb, ρ2⟩, e4, e5⟩ := e3
        refine ⟨fun σ' H' => ∃ ρc, whileD (fun ρ => (evE C ρ E).bind truthD) (fun ρ => evSs C M ρ B) m ρc = some (fl, ρ') ∧ Aft X.K M H0 Z σ ρ H (fun i => touchs i B) ρc σ' H', fun σ' H' w => ⟨m, Nat.lt_succ_self m, w⟩, ?_⟩
        have join : ∀ {σ3 H3}, Aft X.K M H0 Z σc ρc H1 (fun i => touchs i B) ρ2 σ3 H3 → Aft X.K M H0 Z σ ρ H (fun i => touchs i B) ρ2 σ3 H3 := fun a4 => (a1.trans a4).weak fun i z => by
          show (touchs i B || touchs i B) = false
          rw [z]; rfl
        refine ⟨ρc, H0, Z, flb, ρ2, a1.ss, e4, ?_⟩
        cases flb with
        | nx => exact fun σ3 H3 a4 => ⟨ρ2, e5, join a4⟩
        | ct => exact fun σ3 H3 a4 => ⟨ρ2, e5, join a4⟩
        | bk =>
          cases e5
          exact fun σ3 H3 a4 => f σ3 H3 ((join a4).weak fun i z => by simpa [touch] using z)
        | rt d =>
          cases e5
          exact f
/-! ### THE STATEMENTS -/
theorem snd_S1 {RS : List Stmt → Option (List S)} (hRS : ∀ st s, RS st = some s → SndSs T C M sc st s) : ∀ {st : Stmt} {s : S}, trS1 T (tr T n) RS sc st = some s → SndS T C M sc st s := by
  intro st s h
  have hR := @snd_tr T C n
  cases st with
  | Assign tgs e pos =>
    simp only [trS1] at h
    split at h
    · rename_i o k p2
      split at h
      · rename_i x p
        by_cases hc : (isSlice k || isComp e || isTupE e) = true
        · rw [if_pos hc] at h; cases h
        · rw [if_neg hc] at h
          simp only [Bool.or_eq_true, not_or, Bool.not_eq_true] at hc
          simp only [Option.bind_eq_some_iff] at h
          obtain ⟨i, h1, k', h2, e', h3, h4⟩ := h
          cases h4
          exact snd_sub h1 (hR _ _ _ h2) (hR _ _ _ h3) hc.1.1 hc.1.2 hc.2
      · cases h
    · rename_i tg _
      by_cases hc : (isTupE tg && isTupE e) = true
      · rw [if_pos hc] at h; cases h
      · rw [if_neg hc] at h
        simp only [Option.bind_eq_some_iff] at h
        obtain ⟨⟨t, own⟩, h1, h2⟩ := h
        obtain ⟨ho, h2⟩ := ite_some' h2
        simp only [Option.bind_eq_some_iff] at h2
        obtain ⟨e', h3, h4⟩ := h2
        cases h4
        cases tg with
        | Name x px =>
          obtain ⟨i, hi, e0⟩ := Option.map_eq_some_iff.mp h1
          cases e0
          have hx : locB sc x = true := by simpa [ownB] using ho
          exact snd_asgN hi hx h3
        | Tuple es kt pt =>
          have hne : isTupE e = false := by
            simp only [Bool.and_eq_true, not_and, Bool.not_eq_true] at hc
            exact hc rfl
          exact snd_asgT h1 ho hne (hR _ _ _ h3)
        | _ => cases h1
    · cases h
  | Expr e pos =>
    simp only [trS1] at h
    split at h
    · rename_i x p m apos a cpos
      obtain ⟨hc, h⟩ := ite_some' h
      simp only [Bool.and_eq_true, decide_eq_true_eq, Bool.not_eq_true'] at hc
      simp only [Option.bind_eq_some_iff] at h
      obtain ⟨i, h1, a', h2, h3⟩ := h
      cases h3
      obtain ⟨⟨rfl, hs⟩, hl⟩ := hc
      exact snd_app h1 (hR _ _ _ h2) hs hl
    · cases h
      exact snd_doc
    · cases h
  | Return o pos =>
    cases o with
    | none => cases h; exact snd_retN
    | some e =>
      obtain ⟨E, h1, rfl⟩ := Option.map_eq_some_iff.mp h
      exact snd_ret (hR _ _ _ h1)
  | If c a b pos =>
    simp only [trS1, Option.bind_eq_some_iff] at h
    obtain ⟨c', h1, a', h2, b', h3, h4⟩ := h
    cases h4
    exact snd_if (hR _ _ _ h1) (hRS _ _ h2) (hRS _ _ h3)
  | For tg it b els pos =>
    cases els with
    | nil =>
      simp only [trS1, Option.bind_eq_some_iff] at h
      obtain ⟨⟨t, own⟩, h1, h2⟩ := h
      obtain ⟨ho, h2⟩ := ite_some' h2
      simp only [Option.bind_eq_some_iff] at h2
      obtain ⟨it', h3, b', h4, h5⟩ := h2
      cases h5
      exact snd_for h1 ho (snd_It (hR _) h3) (hRS _ _ h4)
    | cons _ _ => cases h
  | While c b els pos =>
    cases els with
    | nil =>
      simp only [trS1, Option.bind_eq_some_iff] at h
      obtain ⟨c', h1, b', h2, h3⟩ := h
      cases h3
      exact snd_while (hR _ _ _ h1) (hRS _ _ h2)
    | cons _ _ => cases h
  | Break pos => cases h; exact snd_brk
  | Continue pos => cases h; exact snd_cnt
  | Pass pos => cases h; exact snd_pass
  | _ => cases h
theorem snd_mapO {f : Stmt → Option S} (hf : ∀ st s, f st = some s → SndS T C M sc st s) : ∀ {sts : List Stmt} {ss : List S}, mapO f sts = some ss → SndSs T C M sc sts ss
  | [], ss, h => by cases h; exact snd_nil
  | st :: r, ss, h => by
    simp only [mapO, Option.bind_eq_some_iff] at h
    obtain ⟨a, h1, b, h2, h3⟩ := h
    cases h3
    exact snd_cons (hf _ _ h1) (snd_mapO hf h2)
theorem snd_Ss : ∀ (m : Nat) (sts : List Stmt) (ss : List S), trSs T (tr T n) sc m sts = some ss → SndSs T C M sc sts ss
  | 0, _, _, h => by cases h
  | m + 1, sts, ss, h => snd_mapO (fun st s h1 => snd_S1 (n := n) (snd_Ss m) h1) h
end

/-! ### defs -/
structure DefI where
  ps : List Str
  N : List Str
  M : List Nat
  body : List S
instance : Inhabited DefI := ⟨⟨[], [], [], []⟩⟩
def start0 (N : List Str) (ds : List D) : EnvD := ds.map some ++ List.replicate (N.length - ds.length) none
def okStart (M : List Nat) (ds : List D) : Bool := M.all fun i => match ds[i]? with
  | some d => d.imm
  | none => true
def retOf : Option (Fl × EnvD) → Option D
  | some (.rt d, _) => some d
  | some (.nx, _) => some .non
  | _ => none
def callDef (C : Oracle) (i : DefI) (ds : List D) : Option D := if ds.length = i.ps.length && okStart i.M ds then retOf (evSs C i.M (start0 i.N ds) i.body) else none
def callD (defs : List DefI) : Nat → Oracle
  | 0 => fun _ _ => none
  | k + 1 => fun f ds => (defs[f]?).bind fun i => callDef (callD defs k) i ds
/-- a def of the text, translated -/
structure DefOk (fns : List Str) (st : Stmt) (i : DefI) (x : Str) : Prop where
  scope : FnScope i.N i.ps (defScope st)
  tr : ∃ n m, trSs ⟨i.N, fns⟩ (tr ⟨i.N, fns⟩ n) (defScope st) m (defBody st) = some i.body
  binds : ∀ (kV doc pm : Value) (an : Option Addr) (cdv ct : Value) (us : List Value), us.length = i.ps.length → bindArgs (PySem.W.fnOf x x (defArgs st) (defBody st) (defScope st) .none kV doc pm an cdv ct) ⟨us, []⟩ = pure (i.ps.zip us)
theorem start_ss {K : PySem.W.Frag} {H : Hp} {N : List Str} {M : List Nat} {vs : List V} {ds : List D} (r : Reps K H Any vs ds) (h : okStart M ds = true) : SS K M H (fun _ => False) (L2.start N vs) (start0 N ds) H := by
  have get : ∀ {i : Nat} {d : D}, (start0 N ds)[i]? = some (some d) → ds[i]? = some d := fun {i d} h => by
    unfold start0 at h
    by_cases hi : i < ds.length
    · rw [List.getElem?_append_left (by simpa using hi), List.getElem?_map] at h
      cases e : ds[i]? with
      | none => rw [e] at h; cases h
      | some a => rw [e] at h; cases h; rfl
    · rw [List.getElem?_append_right (by simpa using hi), List.getElem?_replicate] at h
      split at h <;> cases h
  have getv : ∀ {i : Nat} {v : V}, vs[i]? = some v → (L2.start N vs)[i]? = some (some v) := fun {i v} h => by
    show (L2.start N vs)[i]? = _
    unfold L2.start
    obtain ⟨h1, h2⟩ := List.getElem?_eq_some_iff.mp h
    rw [List.getElem?_append_left (by simpa using h1), List.getElem?_map, h]; rfl
  have im : ∀ {i : Nat} {d : D}, i ∈ M → (start0 N ds)[i]? = some (some d) → d.imm = true := fun {i d} hi hd => by
    have := List.all_eq_true.mp h i hi
    rw [get hd] at this
    exact this
  have no : ∀ a, ¬ Own M (L2.start N vs) (start0 N ds) a := fun a ⟨i, hi, es, h1, _⟩ => by
    have := im hi h1
    simp [D.imm] at this
  refine ⟨Ext.refl H, fun _ z => z.elim, fun i d hi hd => ?_, fun i d hi hd => ?_, fun i j a es fs hi _ h1 _ _ _ => ?_⟩
  · obtain ⟨v, h1, h2⟩ := r.get (get hd)
    exact ⟨v, getv h1, h2.mono fun a _ => no a⟩
  · obtain ⟨v, h1, h2⟩ := r.get (get hd)
    exact ⟨v, getv h1, .inl ⟨im hi hd, h2⟩⟩
  · have := im hi h1
    simp [D.imm] at this
section
variable {P : Program} {w : World} {K : PySem.W.Frag} {mg : Str → Option Value} {base : Heap} {fns : List Str} {defs : List DefI}
/-- what the top has left of a def -/
structure Top (K : PySem.W.Frag) (mg : Str → Option Value) (fns : List Str) (defs : List DefI) : Prop where
  bl : ∀ x ∈ bltNames, mg x = none
  fn : ∀ (f : Nat) (x : Str) (i : DefI), fns[f]? = some x → defs[f]? = some i → ∃ (st : Stmt) (a : Addr) (fd : FuncData), DefOk fns st i x ∧ FunD K x x (defArgs st) (defBody st) (defScope st) [] [] a fd ∧ mg x = some (.ref a)
  len : fns.length = defs.length
theorem all_ok (tp : Top K mg fns defs) : ∀ (k f : Nat) (x : Str) (i : DefI) (st : Stmt) (a : Addr) (fd : FuncData), fns[f]? = some x → defs[f]? = some i → DefOk fns st i x → FunD K x x (defArgs st) (defBody st) (defScope st) [] [] a fd →
    FnOk P w K mg base CX0 k a fd i.ps (spD K (callD defs k) f)
  | 0, f, x, i, st, a, fd, h1, h2, o, F => by
    refine ⟨fun vs H Q E h => ?_, fun A outer s H args us vs Q E _ _ _ _ h => ?_⟩
    · obtain ⟨ds, r, _, e, _⟩ := h
      cases e
    · obtain ⟨ds, r, _, e, _⟩ := h
      cases e
  | k + 1, f, x, i, st, a, fd, h1, h2, o, F => by
    have unf : ∀ {ds : List D} {r : D}, callD defs (k + 1) f ds = some r → (ds.length = i.ps.length ∧ okStart i.M ds = true) ∧ retOf (evSs (callD defs k) i.M (start0 i.N ds) i.body) = some r := fun {ds r} e => by
      simp only [callD, h2, Option.bind_some, callDef] at e
      obtain ⟨hc, e⟩ := ite_some' e
      simp only [Bool.and_eq_true, decide_eq_true_eq] at hc
      exact ⟨hc, e⟩
    refine F.ok o.scope (fun vs H Q E ⟨ds, r, rs, e, _⟩ => by rw [rs.length]; exact (unf e).1.1) fun cdv A outer s H vs Q E hr hsp => ?_
    obtain ⟨ds, r, rs, e, q⟩ := hsp
    obtain ⟨⟨hl, hst⟩, hev⟩ := unf e
    obtain ⟨n, m, htr⟩ := o.tr
    have gx : GX ⟨i.N, fns⟩ (callD defs k) (defScope st) (cxOf CX0 P w K mg base i.N x (defScope st) a cdv A outer s H E).nox := by
      refine ⟨rfl, o.scope.nd, rfl, o.scope.kind, rfl, ?_, tp.bl, fun g y hy => ?_⟩
      · have := hr.un
        show (A.deeper (envOfC x (defScope st) s.heap.objs.size a cdv)).units + 100 < cLine
        omega
      · have hlt : g < defs.length := by
          rw [← tp.len]
          exact (List.getElem?_eq_some_iff.mp hy).1
        obtain ⟨st', a', fd', o', F', hm⟩ := tp.fn g y defs[g] hy (List.getElem?_eq_getElem hlt)
        exact ⟨k, a', fd', defs[g].ps, hm, F'.kp, hr, F'.bindsN o'.binds, all_ok tp k g y defs[g] st' a' fd' hy (List.getElem?_eq_getElem hlt) o' F'⟩
    have gs : GS ⟨i.N, fns⟩ (callD defs k) (defScope st) (cxOf CX0 P w K mg base i.N x (defScope st) a cdv A outer s H E).nox := ⟨gx, PassesOwn.never, fun _ => rfl⟩
    refine ⟨tSs K (callD defs k) i.M i.body, PSs.nox (snd_Ss m _ _ htr _ gs), ?_⟩
    cases hres : evSs (callD defs k) i.M (start0 i.N ds) i.body with
    | none => rw [hres] at hev; cases hev
    | some z =>
      obtain ⟨fl, ρ'⟩ := z
      rw [hres] at hev
      refine ⟨start0 i.N ds, H, fun _ => False, fl, ρ', start_ss rs hst, hres, ?_⟩
      cases fl with
      | nx =>
        cases hev
        exact fun σ' H' aft => q .non H' aft.ss.ext .non
      | rt d =>
        cases hev
        exact fun v H' x r => q v H' x r
      | bk => cases hev
      | ct => cases hev
theorem law_top (tp : Top K mg fns defs) {h0 : Heap} {fa : Addr} {f k : Nat} {i : DefI} (h1 : fns[f]? = some "law") (h2 : defs[f]? = some i) (hmg : mg "law" = some (.ref fa)) (h : ∀ ns : List Int, ns.length ≤ 63 → callD defs k f [.scr ns] = some (.bl true))
    (KX : K.In h0) (hps : i.ps = (["script"] : List Str)) : ∃ (K : PySem.W.Frag) (fd : FuncData) (sp : Sp), K.In h0 ∧ (∀ (s : Shared) (u : Value), BindsTo s fd ⟨[u], []⟩ [(("script" : Str), u)]) ∧
      (∀ (H : Hp) (a : Addr) (ns : List Int), ns.length ≤ 63 → Only H → SqL K H a (ns.map V.int) → sp [.ref a] H (fun v _ => v = .bl true) fun _ _ _ => False) ∧
      ∀ base : Heap, K.In base → base.Ns mainGlobals mg → FnOk P w K mg base CX0 k fa fd (["script"] : List Str) sp := by
  obtain ⟨st, a, fd, o, F, hm⟩ := tp.fn f "law" i h1 h2
  rw [hmg] at hm
  cases hm
  refine ⟨K, fd, spD K (callD defs k) f, KX, fun s u => ?_, fun H a ns hl hO hS => ?_, fun base _ _ => by rw [← hps]; exact all_ok tp k f "law" i st fa fd h1 h2 o F⟩
  · have := F.bindsA o.binds s [u] (by rw [hps]; rfl)
    rw [hps] at this
    exact this
  · refine ⟨[.scr ns], .bl true, .cons (.scr ?_) .nil, h ns hl, fun v H' _ r => r.bl_inv⟩
    rcases hS with (hS | hS) | hS
    · rcases hO a with z | ⟨o, xs, z⟩
      · rw [z] at hS; cases hS
      · rw [z] at hS; cases hS
    · exact .inl hS
    · exact .inr hS
end
end Ev
set_option maxHeartbeats 4000000
namespace Ev
open PySem PySem.Spec PyProof.Rows L2
/-! ### the evaluator, sealed: reckoned by its rules alone -/
noncomputable def sealIt {α : Type} (x : α) : {y : α // y = x} := Classical.choice ⟨⟨x, rfl⟩⟩
noncomputable def xE : Oracle → EnvD → E → Option D := (sealIt evE).1
noncomputable def xI : Oracle → EnvD → It → Option (List D) := (sealIt evI).1
noncomputable def xC : Oracle → EnvD → Option E → Option Bool := (sealIt evC).1
noncomputable def xO : Oracle → EnvD → Option E → Option (Option Int) := (sealIt evO).1
noncomputable def xEs : Oracle → EnvD → List E → Option (List D) := (sealIt evEs).1
noncomputable def xS : Oracle → List Nat → EnvD → S → Option (Fl × EnvD) := (sealIt evS).1
noncomputable def xSs : Oracle → List Nat → EnvD → List S → Option (Fl × EnvD) := (sealIt evSs).1
theorem xE_eq : @xE = @evE := (sealIt evE).2
theorem xI_eq : @xI = @evI := (sealIt evI).2
theorem xC_eq : @xC = @evC := (sealIt evC).2
theorem xO_eq : @xO = @evO := (sealIt evO).2
theorem xEs_eq : @xEs = @evEs := (sealIt evEs).2
theorem xS_eq : @xS = @evS := (sealIt evS).2
theorem xSs_eq : @xSs = @evSs := (sealIt evSs).2
/-! ### rules to reckon with -/
section
variable {C : Oracle} {ρ : EnvD} {M : List Nat}
@[simp] theorem evE_var {i : Nat} : xE C ρ (.var i) = ρ[i]?.bind id := by simp only [xE_eq, xI_eq, xC_eq, xO_eq, xEs_eq, evE]
@[simp] theorem evE_cst {d : D} : xE C ρ (.cst d) = some d := by simp only [xE_eq, xI_eq, xC_eq, xO_eq, xEs_eq, evE]
@[simp] theorem evE_bin {op a b} : xE C ρ (.bin op a b) = (xE C ρ a).bind fun x => (xE C ρ b).bind fun y => binD op x y := by simp only [xE_eq, xI_eq, xC_eq, xO_eq, xEs_eq, evE]
@[simp] theorem evE_neg {a} : xE C ρ (.neg a) = (xE C ρ a).bind negD := by simp only [xE_eq, xI_eq, xC_eq, xO_eq, xEs_eq, evE]
@[simp] theorem evE_not {a} : xE C ρ (.not a) = (xE C ρ a).bind fun x => (truthD x).bind fun b => some (.bl !b) := by simp only [xE_eq, xI_eq, xC_eq, xO_eq, xEs_eq, evE]
@[simp] theorem evE_and {a b} : xE C ρ (.and a b) = (xE C ρ a).bind fun x => (truthD x).bind fun k => if k then xE C ρ b else some x := by simp only [xE_eq, xI_eq, xC_eq, xO_eq, xEs_eq, evE]
@[simp] theorem evE_or {a b} : xE C ρ (.or a b) = (xE C ρ a).bind fun x => (truthD x).bind fun k => if k then some x else xE C ρ b := by simp only [xE_eq, xI_eq, xC_eq, xO_eq, xEs_eq, evE]
@[simp] theorem evE_cmp {op a b} : xE C ρ (.cmp op a b) = (xE C ρ a).bind fun x => (xE C ρ b).bind fun y => (cmpD op x y).bind fun k => some (.bl k) := by simp only [xE_eq, xI_eq, xC_eq, xO_eq, xEs_eq, evE]
@[simp] theorem evE_chain {op op' a b c} : xE C ρ (.chain op op' a b c) = (xE C ρ a).bind fun x => (xE C ρ b).bind fun y => (cmpD op x y).bind fun k =>
      if k then (xE C ρ c).bind fun z => (cmpD op' y z).bind fun k' => some (.bl k') else some (.bl false) := by simp only [xE_eq, xI_eq, xC_eq, xO_eq, xEs_eq, evE]
@[simp] theorem evE_ite {c a b} : xE C ρ (.ite c a b) = (xE C ρ c).bind fun x => (truthD x).bind fun k => if k then xE C ρ a else xE C ρ b := by simp only [xE_eq, xI_eq, xC_eq, xO_eq, xEs_eq, evE]
@[simp] theorem evE_tup {es} : xE C ρ (.tup es) = (xEs C ρ es).bind fun ds => if lineOk ds.length then some (.tup ds) else none := by simp only [xE_eq, xI_eq, xC_eq, xO_eq, xEs_eq, evE]
@[simp] theorem evE_lst {es} : xE C ρ (.lst es) = (xEs C ρ es).bind fun ds => if lineOk ds.length then some (.lst ds) else none := by simp only [xE_eq, xI_eq, xC_eq, xO_eq, xEs_eq, evE]
@[simp] theorem evE_ix {a b} : xE C ρ (.ix a b) = (xE C ρ a).bind fun x => (xE C ρ b).bind fun y => ixD x y := by simp only [xE_eq, xI_eq, xC_eq, xO_eq, xEs_eq, evE]
@[simp] theorem evE_sl {a lo hi} : xE C ρ (.sl a lo hi) = (xE C ρ a).bind fun x => (xO C ρ lo).bind fun l => (xO C ρ hi).bind fun h => slD x l h := by simp only [xE_eq, xI_eq, xC_eq, xO_eq, xEs_eq, evE]
@[simp] theorem evE_bf {f es} : xE C ρ (.bf f es) = (xEs C ρ es).bind fun ds => bfD f ds := by simp only [xE_eq, xI_eq, xC_eq, xO_eq, xEs_eq, evE]
@[simp] theorem evE_isin {a t} : xE C ρ (.isin a t) = (xE C ρ a).bind fun x => (isinD t x).bind fun k => some (.bl k) := by simp only [xE_eq, xI_eq, xC_eq, xO_eq, xEs_eq, evE]
@[simp] theorem evE_call {f es} : xE C ρ (.call f es) = (xEs C ρ es).bind fun ds => C f ds := by simp only [xE_eq, xI_eq, xC_eq, xO_eq, xEs_eq, evE]
theorem evE_comp {elt vs tg it c} : xE C ρ (.comp elt vs tg it c) = (xI C ρ it).bind fun xs => (compL (fun x => (bindT tg x (wipe ρ vs)).bind fun ρ' =>
      (xC C ρ' c).bind fun k => if k then (xE C ρ' elt).bind fun y => some (some y) else some none) xs).bind fun ys => some (.lst ys) := by simp only [xE_eq, xI_eq, xC_eq, xO_eq, xEs_eq, evE]
@[simp] theorem evI_seq {e} : xI C ρ (.seq e) = (xE C ρ e).bind itemsD := by simp only [xE_eq, xI_eq, xC_eq, xO_eq, xEs_eq, evI]
@[simp] theorem evI_rng {es} : xI C ρ (.rng es) = (xEs C ρ es).bind rangeD := by simp only [xE_eq, xI_eq, xC_eq, xO_eq, xEs_eq, evI]
@[simp] theorem evC_none : xC C ρ none = some true := by simp only [xC_eq, xE_eq, evC]
@[simp] theorem evC_some {e} : xC C ρ (some e) = (xE C ρ e).bind truthD := by simp only [xC_eq, xE_eq, evC]
@[simp] theorem evO_none : xO C ρ none = some none := by simp only [xO_eq, xE_eq, evO]
@[simp] theorem evO_some {e} : xO C ρ (some e) = (xE C ρ e).bind fun d => (intOf d).bind fun i => some (some i) := by simp only [xO_eq, xE_eq, evO]
@[simp] theorem evEs_nil : xEs C ρ [] = some [] := by simp only [xEs_eq, xE_eq, evEs]
@[simp] theorem evEs_cons {e es} : xEs C ρ (e :: es) = (xE C ρ e).bind fun d => (xEs C ρ es).bind fun ds => some (d :: ds) := by simp only [xEs_eq, xE_eq, evEs]
@[simp] theorem evSs_nil : xSs C M ρ [] = some (.nx, ρ) := by simp only [xSs_eq, xS_eq, evSs]
/-- what follows, if nothing was returned -/
noncomputable def andThen (C : Oracle) (M : List Nat) (r : List S) : Fl × EnvD → Option (Fl × EnvD)
  | (.nx, ρ) => xSs C M ρ r
  | x => some x
@[simp] theorem evSs_cons {s r} : xSs C M ρ (s :: r) = (xS C M ρ s).bind (andThen C M r) := by
  simp only [xSs_eq, xS_eq, evSs]
  congr 1
  funext x
  obtain ⟨f, ρ'⟩ := x
  cases f <;> simp only [andThen, xSs_eq]
@[simp] theorem andThen_nx {r} : andThen C M r (.nx, ρ) = xSs C M ρ r := Eq.trans rfl rfl
@[simp] theorem andThen_rt {r d} : andThen C M r (.rt d, ρ) = some (.rt d, ρ) := Eq.trans rfl rfl
@[simp] theorem andThen_bk {r} : andThen C M r (.bk, ρ) = some (.bk, ρ) := Eq.trans rfl rfl
@[simp] theorem andThen_ct {r} : andThen C M r (.ct, ρ) = some (.ct, ρ) := Eq.trans rfl rfl
@[simp] theorem evS_asg {t e} : xS C M ρ (.asg t e) = (xE C ρ e).bind fun d => if bindOK M t e d then (bindT t d ρ).bind fun ρ' => some (.nx, ρ') else none := by simp only [xS_eq, xSs_eq, xE_eq, xI_eq, evS]
@[simp] theorem evS_app {i e} : xS C M ρ (.app i e) = (xE C ρ e).bind fun d => (ρ[i]?.bind id).bind fun l => (match l with
    | .lst ds => if M.contains i && (d.imm || fr e d) && decide (ds.length < sizeLine) then some (.nx, ρ.set i (some (.lst (ds ++ [d])))) else none
    | _ => none) := by simp only [xS_eq, xSs_eq, xE_eq, xI_eq, evS] <;> rfl
@[simp] theorem evS_ret {e} : xS C M ρ (.ret e) = (xE C ρ e).bind fun d => if d.imm || fr e d || (match e with | .var i => M.contains i | _ => false) then some (.rt d, ρ) else none := by simp only [xS_eq, xSs_eq, xE_eq, xI_eq, evS] <;> rfl
@[simp] theorem evS_ite {c a b} : xS C M ρ (.ite c a b) = (xE C ρ c).bind fun d => (truthD d).bind fun k => if k then xSs C M ρ a else xSs C M ρ b := by simp only [xS_eq, xSs_eq, xE_eq, xI_eq, evS]
theorem evS_for {t it b} : xS C M ρ (.for_ t it b) = (xI C ρ it).bind fun xs => if forOK C M ρ t it b xs then forD t (fun ρ => xSs C M ρ b) xs ρ else none := by simp only [xS_eq, xSs_eq, xE_eq, xI_eq, evS]
@[simp] theorem evS_brk : xS C M ρ .brk = some (.bk, ρ) := by simp only [xS_eq, xSs_eq, xE_eq, xI_eq, evS]
@[simp] theorem evS_cnt : xS C M ρ .cnt = some (.ct, ρ) := by simp only [xS_eq, xSs_eq, xE_eq, xI_eq, evS]
@[simp] theorem evS_pass : xS C M ρ .pass = some (.nx, ρ) := by simp only [xS_eq, xSs_eq, xE_eq, xI_eq, evS]
@[simp] theorem evS_retN : xS C M ρ .retN = some (.rt .non, ρ) := by simp only [xS_eq, xSs_eq, xE_eq, xI_eq, evS]
end
/-! ints -/
theorem lineOk_small {n : Nat} (h : n ≤ 16777216) : lineOk n = true := by
  rw [lineOk_iff, sizeLine_eq]; exact h
@[simp] theorem binD_add : binD .Add = addD := Eq.trans rfl rfl
@[simp] theorem binD_sub : binD .Sub = subD := Eq.trans rfl rfl
@[simp] theorem binD_mul : binD .Mult = mulD := Eq.trans rfl rfl
@[simp] theorem binD_fdiv : binD .FloorDiv = fdivD := Eq.trans rfl rfl
@[simp] theorem binD_mod : binD .Mod = modD := Eq.trans rfl rfl
@[simp] theorem binD_pow : binD .Pow = powD := Eq.trans rfl rfl
@[simp] theorem add_ii {a b : Int} : addD (.int a) (.int b) = some (.int (a + b)) := Eq.trans rfl rfl
@[simp] theorem sub_ii {a b : Int} : subD (.int a) (.int b) = some (.int (a - b)) := Eq.trans rfl rfl
@[simp] theorem neg_i {a : Int} : negD (.int a) = some (.int (-a)) := Eq.trans rfl rfl
theorem mul_ii {a b : Int} (h : (small a || small b) = true) : mulD (.int a) (.int b) = some (.int (a * b)) := by
  simp only [mulD, if_pos h]
theorem small_of {a : Int} (h1 : -18446744073709551616 < a) (h2 : a < 18446744073709551616) : small a = true := by
  simp only [small, Bool.and_eq_true, decide_eq_true_eq]
  omega
theorem mul_l {a b : Int} (h1 : -18446744073709551616 < a) (h2 : a < 18446744073709551616) : mulD (.int a) (.int b) = some (.int (a * b)) := mul_ii (by rw [small_of h1 h2]; rfl)
theorem mul_r {a b : Int} (h1 : -18446744073709551616 < b) (h2 : b < 18446744073709551616) : mulD (.int a) (.int b) = some (.int (a * b)) := mul_ii (by rw [small_of h1 h2]; simp)
theorem fdiv_ii {a b : Int} (h1 : 0 < b) (h2 : b < 1073741824) : fdivD (.int a) (.int b) = some (.int (a / b)) := by simp [fdivD, h1, h2]
theorem mod_ii {a b : Int} (h1 : 0 < b) : modD (.int a) (.int b) = some (.int (a % b)) := by simp [modD, h1]
@[simp] theorem depth_int {a : Int} : (PyData.int a).depth = 0 := Eq.trans rfl rfl
@[simp] theorem eq_ii {a b : Int} : eqD (.int a) (.int b) = some (decide (a = b)) := by
  simp [eqD, D.wf, D.py, PyData.plain, PyData.depth, PyData.eqv]
  rfl
@[simp] theorem lt_ii {a b : Int} : ltD (.int a) (.int b) = some (decide (a < b)) := by
  simp [ltD, D.wf, D.py, PyData.plain, PyData.depth, PySem.W.alike, PySem.W.dataLt_int]
@[simp] theorem cmp_eq {x y} : cmpD .Eq x y = eqD x y := Eq.trans rfl rfl
@[simp] theorem cmp_ne {x y} : cmpD .NotEq x y = (eqD x y).map (!·) := Eq.trans rfl rfl
@[simp] theorem cmp_lt {x y} : cmpD .Lt x y = ltD x y := Eq.trans rfl rfl
@[simp] theorem cmp_ge {x y} : cmpD .GtE x y = (ltD x y).map (!·) := Eq.trans rfl rfl
@[simp] theorem cmp_gt_ii {a b : Int} : cmpD .Gt (.int a) (.int b) = some (decide (b < a)) := by simp [cmpD, D.py, PySem.W.alike]
@[simp] theorem cmp_le_ii {a b : Int} : cmpD .LtE (.int a) (.int b) = some (!decide (b < a)) := by simp [cmpD, D.py, PySem.W.alike]
@[simp] theorem cmp_is_n {x} : cmpD .Is x .non = some (isNon x) := Eq.trans rfl rfl
@[simp] theorem cmp_isnot_n {x} : cmpD .IsNot x .non = some (!isNon x) := Eq.trans rfl rfl
@[simp] theorem cmp_in {x y} : cmpD .In x y = memD x y := Eq.trans rfl rfl
@[simp] theorem cmp_notin {x y} : cmpD .NotIn x y = (memD x y).map (!·) := Eq.trans rfl rfl
@[simp] theorem isNon_non : isNon .non = true := Eq.trans rfl rfl
@[simp] theorem isNon_int {a} : isNon (.int a) = false := Eq.trans rfl rfl
@[simp] theorem isNon_bl {a} : isNon (.bl a) = false := Eq.trans rfl rfl
@[simp] theorem isNon_str {a} : isNon (.str a) = false := Eq.trans rfl rfl
@[simp] theorem isNon_tup {a} : isNon (.tup a) = false := Eq.trans rfl rfl
@[simp] theorem isNon_lst {a} : isNon (.lst a) = false := Eq.trans rfl rfl
@[simp] theorem truth_bl {b} : truthD (.bl b) = some b := Eq.trans rfl rfl
@[simp] theorem truth_int {i} : truthD (.int i) = some (i != 0) := Eq.trans rfl rfl
@[simp] theorem truth_tup {xs} : truthD (.tup xs) = some (!xs.isEmpty) := Eq.trans rfl rfl
@[simp] theorem truth_lst {xs} : truthD (.lst xs) = some (!xs.isEmpty) := Eq.trans rfl rfl
@[simp] theorem truth_non : truthD .non = some false := Eq.trans rfl rfl
@[simp] theorem intOf_int {i} : intOf (.int i) = some i := Eq.trans rfl rfl
@[simp] theorem items_lst {xs} : itemsD (.lst xs) = some xs := Eq.trans rfl rfl
@[simp] theorem items_tup {xs} : itemsD (.tup xs) = some xs := Eq.trans rfl rfl
@[simp] theorem imm_int {i} : (D.int i).imm = true := Eq.trans rfl rfl
@[simp] theorem imm_bl {i} : (D.bl i).imm = true := Eq.trans rfl rfl
@[simp] theorem imm_non : (D.non).imm = true := Eq.trans rfl rfl
@[simp] theorem imm_str {s} : (D.str s).imm = true := Eq.trans rfl rfl
@[simp] theorem imm_tup {xs} : (D.tup xs).imm = D.imms xs := Eq.trans rfl rfl
@[simp] theorem imm_lst {xs} : (D.lst xs).imm = false := Eq.trans rfl rfl
@[simp] theorem imms_nil : D.imms [] = true := Eq.trans rfl rfl
@[simp] theorem imms_cons {x xs} : D.imms (x :: xs) = (x.imm && D.imms xs) := Eq.trans rfl rfl
@[simp] theorem imms_map {α : Type} {f : α → D} (h : ∀ x, (f x).imm = true) : ∀ xs : List α, D.imms (xs.map f) = true
  | [] => rfl
  | x :: xs => by simp [h x, imms_map h xs]
@[simp] theorem imm1_lst {xs} : (D.lst xs).imm1 = D.imms xs := Eq.trans rfl rfl
@[simp] theorem imm1_tup {xs} : (D.tup xs).imm1 = D.imms xs := Eq.trans rfl rfl
@[simp] theorem imm1_int {i} : (D.int i).imm1 = true := Eq.trans rfl rfl
@[simp] theorem imm1_bl {i} : (D.bl i).imm1 = true := Eq.trans rfl rfl
@[simp] theorem bfD_1 {f x} : bfD f [x] = bf1 f x := Eq.trans rfl rfl
@[simp] theorem bfD_2 {f x y} : bfD f [x, y] = bf2 f x y := Eq.trans rfl rfl
@[simp] theorem bf_int_i {i} : bf1 .int (.int i) = some (.int i) := Eq.trans rfl rfl
@[simp] theorem bf_len {x} : bf1 .len x = lenD x := Eq.trans rfl rfl
@[simp] theorem len_tup {xs} : lenD (.tup xs) = some (.int xs.length) := Eq.trans rfl rfl
@[simp] theorem len_lst {xs} : lenD (.lst xs) = some (.int xs.length) := Eq.trans rfl rfl
@[simp] theorem len_scr {xs} : lenD (.scr xs) = some (.int xs.length) := Eq.trans rfl rfl
@[simp] theorem bf_abs_i {i} : bf1 .abs (.int i) = some (.int (if i < 0 then -i else i)) := Eq.trans rfl rfl
@[simp] theorem bf_tuple_l {xs} : bf1 .tuple (.lst xs) = some (.tup xs) := Eq.trans rfl rfl
@[simp] theorem bf_tuple_t {xs} : bf1 .tuple (.tup xs) = some (.tup xs) := Eq.trans rfl rfl
@[simp] theorem bf_list_l {xs} : bf1 .list (.lst xs) = some (.lst xs) := Eq.trans rfl rfl
@[simp] theorem bf_list_t {xs} : bf1 .list (.tup xs) = some (.lst xs) := Eq.trans rfl rfl
@[simp] theorem bf_min2 {i j} : bf2 .min (.int i) (.int j) = some (.int (if j < i then j else i)) := Eq.trans rfl rfl
@[simp] theorem bf_max2 {i j} : bf2 .max (.int i) (.int j) = some (.int (if j > i then j else i)) := Eq.trans rfl rfl
@[simp] theorem ix_tup {xs i} : ixD (.tup xs) (.int i) = atI xs i := Eq.trans rfl rfl
@[simp] theorem ix_lst {xs i} : ixD (.lst xs) (.int i) = atI xs i := Eq.trans rfl rfl
@[simp] theorem ix_scr {xs i} : ixD (.scr xs) (.int i) = (atI xs i).map .int := Eq.trans rfl rfl
theorem mapO_int (ns : List Int) : mapO intOf (ns.map .int) = some ns := by
  induction ns with
  | nil => rfl
  | cons n ns ih => simp [mapO, ih]
theorem mapO_bool (ns : List Bool) : mapO boolOf (ns.map .bl) = some ns := by
  induction ns with
  | nil => rfl
  | cons n ns ih => simp [mapO, ih, boolOf]
@[simp] theorem bf_sum {ns : List Int} : bf1 .sum (.lst (ns.map .int)) = some (.int ns.sum) := by
  show (mapO intOf _).bind _ = _
  rw [mapO_int]; rfl
@[simp] theorem bf_all {ns : List Bool} : bf1 .all (.lst (ns.map .bl)) = some (.bl (ns.all id)) := by
  show (mapO boolOf _).bind _ = _
  rw [mapO_bool]; rfl
theorem compL_map {α β : Type} {f : D → Option (Option D)} {e : α → D} {g : α → β} {e' : β → D} : ∀ (xs : List α), (∀ x ∈ xs, f (e x) = some (some (e' (g x)))) → compL f (xs.map e) = some ((xs.map g).map e')
  | [], _ => rfl
  | x :: xs, h => by
    have ih := compL_map (f := f) (e := e) (g := g) (e' := e') xs fun y hy => h y (List.mem_cons_of_mem _ hy)
    simp only [List.map_cons, compL, h x List.mem_cons_self, Option.bind_some, ih]
theorem compL_filter {α β : Type} {f : D → Option (Option D)} {e : α → D} {p : α → Bool} {g : α → β} {e' : β → D} : ∀ (xs : List α), (∀ x ∈ xs, f (e x) = some (if p x then some (e' (g x)) else none)) → compL f (xs.map e) = some (((xs.filter p).map g).map e')
  | [], _ => rfl
  | x :: xs, h => by
    have ih := compL_filter (f := f) (e := e) (p := p) (g := g) (e' := e') xs fun y hy => h y (List.mem_cons_of_mem _ hy)
    simp only [List.map_cons, compL, h x List.mem_cons_self, Option.bind_some, ih, List.filter_cons]
    cases p x <;> rfl
theorem range_1 {n : Int} (h1 : 0 ≤ n) (h2 : n ≤ 16777216) : rangeD [.int n] = some (intsFrom 0 n.toNat) := by
  simp only [rangeD]
  rw [if_pos]
  simp only [Bool.and_eq_true, decide_eq_true_eq]
  refine ⟨⟨by omega, by omega⟩, lineOk_small (by omega)⟩
theorem range_2 {a b : Int} (h1 : -1000000000000 ≤ a) (h2 : a ≤ 1000000000000) (h3 : -1000000000000 ≤ b) (h4 : b ≤ 1000000000000) (h5 : b - a ≤ 16777216) : rangeD [.int a, .int b] = some (intsFrom a (b - a).toNat) := by
  simp only [rangeD]
  rw [if_pos]
  simp only [Bool.and_eq_true, decide_eq_true_eq]
  refine ⟨⟨⟨⟨by omega, by omega⟩, by omega⟩, by omega⟩, lineOk_small (by omega)⟩
/-- the ints from a on -/
def iota (a : Int) (n : Nat) : List Int := (List.range n).map fun (k : Nat) => a + (k : Int)
theorem intsFrom_iota (a : Int) (n : Nat) : intsFrom a n = (iota a n).map .int := by
  unfold intsFrom iota
  rw [List.map_map]; rfl
theorem iota_mem {a x : Int} {n : Nat} : x ∈ iota a n ↔ a ≤ x ∧ x < a + n := by
  unfold iota
  simp only [List.mem_map, List.mem_range]
  constructor
  · rintro ⟨k, hk, rfl⟩; omega
  · rintro ⟨h1, h2⟩; exact ⟨(x - a).toNat, by omega, by omega⟩
theorem iota_succ (a : Int) (n : Nat) : iota a (n + 1) = iota a n ++ [a + n] := by
  unfold iota
  rw [List.range_succ, List.map_append]; rfl
theorem iota_cons (a : Int) (n : Nat) : iota a (n + 1) = a :: iota (a + 1) n := by
  unfold iota
  rw [List.range_succ_eq_map, List.map_cons, List.map_map]
  simp only [List.cons.injEq]
  refine ⟨by simp, List.map_congr_left fun k _ => ?_⟩
  simp only [Function.comp]
  omega
@[simp] theorem iota_length {a : Int} {n : Nat} : (iota a n).length = n := by simp [iota]
@[simp] theorem iota_zero {a : Int} : iota a 0 = [] := Eq.trans rfl rfl
/-! calls -/
theorem call_eq {defs : List DefI} {k f : Nat} {i : DefI} {ds : List D} (h : defs[f]? = some i) (hl : ds.length = i.ps.length) (hs : okStart i.M ds = true) : callD defs (k + 1) f ds = retOf (xSs (callD defs k) i.M (start0 i.N ds) i.body) := by
  simp only [xSs_eq, callD, h, Option.bind_some, callDef, hl, hs, decide_true, Bool.and_self, if_true]
@[simp] theorem retOf_rt {d ρ} : retOf (some (.rt d, ρ)) = some d := Eq.trans rfl rfl
@[simp] theorem retOf_nx {ρ} : retOf (some (.nx, ρ)) = some .non := Eq.trans rfl rfl
/-! loops -/
/-- a loop that may return: F tells what -/
theorem forD_find {α : Type} {t : Tg} {body : EnvD → Option (Fl × EnvD)} {e : α → D} {F : α → Option D} {Inv : EnvD → Prop} : ∀ (xs : List α) (ρ : EnvD), Inv ρ →
    (∀ x ∈ xs, ∀ ρ, Inv ρ → ∃ ρ1, bindT t (e x) ρ = some ρ1 ∧ ((∃ ρ2, body ρ1 = some (.nx, ρ2) ∧ Inv ρ2 ∧ F x = none) ∨ ∃ d ρ2, body ρ1 = some (.rt d, ρ2) ∧ F x = some d)) →
    (∃ d ρ', xs.findSome? F = some d ∧ forD t body (xs.map e) ρ = some (.rt d, ρ')) ∨ (∃ ρ', xs.findSome? F = none ∧ forD t body (xs.map e) ρ = some (.nx, ρ') ∧ Inv ρ')
  | [], ρ, h, _ => .inr ⟨ρ, rfl, rfl, h⟩
  | x :: xs, ρ, h, s => by
    obtain ⟨ρ1, h1, h2⟩ := s x List.mem_cons_self ρ h
    rcases h2 with ⟨ρ2, h2, h3, h4⟩ | ⟨d, ρ2, h2, h3⟩
    · rcases forD_find xs ρ2 h3 (fun y hy => s y (List.mem_cons_of_mem _ hy)) with ⟨d, ρ', h5, h6⟩ | ⟨ρ', h5, h6, h7⟩
      · refine .inl ⟨d, ρ', ?_, ?_⟩
        · simp [List.findSome?_cons, h4, h5]
        · simp only [List.map_cons, forD, h1, Option.bind_some, h2, h6]
      · refine .inr ⟨ρ', ?_, ?_, h7⟩
        · simp [List.findSome?_cons, h4, h5]
        · simp only [List.map_cons, forD, h1, Option.bind_some, h2, h6]
    · refine .inl ⟨d, ρ2, ?_, ?_⟩
      · simp [List.findSome?_cons, h3]
      · simp only [List.map_cons, forD, h1, Option.bind_some, h2]
/-- a loop that carries a state -/
theorem forD_fold {α σ : Type} {t : Tg} {body : EnvD → Option (Fl × EnvD)} {e : α → D} {f : σ → α → σ} {Inv : σ → EnvD → Prop} : ∀ (xs : List α) (s : σ) (ρ : EnvD), Inv s ρ →
    (∀ x ∈ xs, ∀ s ρ, Inv s ρ → ∃ ρ1 ρ2, bindT t (e x) ρ = some ρ1 ∧ body ρ1 = some (.nx, ρ2) ∧ Inv (f s x) ρ2) →
    ∃ ρ', forD t body (xs.map e) ρ = some (.nx, ρ') ∧ Inv (xs.foldl f s) ρ'
  | [], s, ρ, h, _ => ⟨ρ, rfl, h⟩
  | x :: xs, s, ρ, h, st => by
    obtain ⟨ρ1, ρ2, h1, h2, h3⟩ := st x List.mem_cons_self s ρ h
    obtain ⟨ρ', h4, h5⟩ := forD_fold xs (f s x) ρ2 h3 fun y hy => st y (List.mem_cons_of_mem _ hy)
    exact ⟨ρ', by simp only [List.map_cons, forD, h1, Option.bind_some, h2, h4], h5⟩
/-- a loop that keeps something -/
theorem forD_inv {α : Type} {t : Tg} {body : EnvD → Option (Fl × EnvD)} {e : α → D} {Inv : EnvD → Prop} (xs : List α) (ρ : EnvD) (h : Inv ρ)
    (s : ∀ x ∈ xs, ∀ ρ, Inv ρ → ∃ ρ1 ρ2, bindT t (e x) ρ = some ρ1 ∧ body ρ1 = some (.nx, ρ2) ∧ Inv ρ2) : ∃ ρ', forD t body (xs.map e) ρ = some (.nx, ρ') ∧ Inv ρ' :=
  forD_fold (σ := Unit) (f := fun _ _ => ()) (Inv := fun _ => Inv) xs () ρ h fun x hx _ ρ hi => s x hx ρ hi
@[simp] theorem ite_some_some {α : Type} {c : Prop} [Decidable c] {a b : α} : (if c then some a else some b) = some (if c then a else b) := by split <;> rfl
@[simp] theorem ite_int {c : Prop} [Decidable c] {a b : Int} : (if c then D.int a else D.int b) = D.int (if c then a else b) := by split <;> rfl
@[simp] theorem ite_bl {c : Prop} [Decidable c] {a b : Bool} : (if c then D.bl a else D.bl b) = D.bl (if c then a else b) := by split <;> rfl
theorem ev_for {C : Oracle} {ρ : EnvD} {M : List Nat} {t : Tg} {it : It} {b : List S} {xs : List D} (h1 : xI C ρ it = some xs) (h2 : forOK C M ρ t it b xs = true) : xS C M ρ (.for_ t it b) = forD t (fun ρ => xSs C M ρ b) xs ρ := by
  rw [evS_for, h1, Option.bind_some, if_pos h2]
theorem forOK_rng {C : Oracle} {ρ : EnvD} {M : List Nat} {t : Tg} {es : List E} {b : List S} {xs : List D} (h : D.imms xs = true) : forOK C M ρ t (.rng es) b xs = true := by
  simp [forOK, It.parts, h]
theorem forOK_imm {C : Oracle} {ρ : EnvD} {M : List Nat} {t : Tg} {e : E} {b : List S} {xs : List D} {d : D} (h : D.imms xs = true) (h1 : xE C ρ e = some d) (h2 : (d.imm || fr e d) = true) : forOK C M ρ t (.seq e) b xs = true := by
  rw [xE_eq] at h1
  simp only [forOK, It.parts, List.all_cons, List.all_nil, partOK, h1, h2, h]
  simp
theorem forOK_clean {C : Oracle} {ρ : EnvD} {M : List Nat} {t : Tg} {it : It} {b : List S} {xs : List D} (h : D.imms xs = true) (h1 : cleanI M it = true) : forOK C M ρ t it b xs = true := by
  simp [forOK, h, h1]
theorem ev_range {C : Oracle} {ρ : EnvD} {es : List E} {ds : List D} {xs : List D} (h1 : xEs C ρ es = some ds) (h2 : rangeD ds = some xs) : xI C ρ (.rng es) = some xs := by
  rw [evI_rng, h1]; exact h2
theorem ev_seq {C : Oracle} {ρ : EnvD} {e : E} {d : D} {xs : List D} (h1 : xE C ρ e = some d) (h2 : itemsD d = some xs) : xI C ρ (.seq e) = some xs := by
  rw [evI_seq, h1]; exact h2
/-- a comprehension without a test -/
theorem ev_comp {α β : Type} {C : Oracle} {ρ : EnvD} {elt : E} {vs : List Nat} {tg : Tg} {it : It} {xs : List α} {e : α → D} {g : α → β} {e' : β → D} (h1 : xI C ρ it = some (xs.map e)) (h2 : ∀ x ∈ xs, ∃ ρ', bindT tg (e x) (wipe ρ vs) = some ρ' ∧ xE C ρ' elt = some (e' (g x))) :
    xE C ρ (.comp elt vs tg it none) = some (.lst ((xs.map g).map e')) := by
  rw [evE_comp, h1, Option.bind_some, compL_map (g := g) (e' := e') xs fun x hx => ?_]
  · rfl
  · obtain ⟨ρ', h3, h4⟩ := h2 x hx
    simp [h3, h4]
/-- a comprehension with a test -/
theorem ev_compF {α β : Type} {C : Oracle} {ρ : EnvD} {elt c : E} {vs : List Nat} {tg : Tg} {it : It} {xs : List α} {e : α → D} {p : α → Bool} {g : α → β} {e' : β → D} (h1 : xI C ρ it = some (xs.map e)) (h2 : ∀ x ∈ xs, ∃ ρ' d, bindT tg (e x) (wipe ρ vs) = some ρ' ∧ xE C ρ' c = some d ∧ truthD d = some (p x) ∧ (p x = true → xE C ρ' elt = some (e' (g x)))) :
    xE C ρ (.comp elt vs tg it (some c)) = some (.lst (((xs.filter p).map g).map e')) := by
  rw [evE_comp, h1, Option.bind_some, compL_filter (p := p) (g := g) (e' := e') xs fun x hx => ?_]
  · rfl
  · obtain ⟨ρ', d, h3, h4, h5, h6⟩ := h2 x hx
    simp only [h3, Option.bind_some, evC_some, h4, h5]
    by_cases hp : p x = true
    · rw [if_pos hp, if_pos hp, h6 hp]; rfl
    · rw [if_neg hp, if_neg hp]
theorem imms_int (xs : List Int) : D.imms (xs.map .int) = true := imms_map (fun _ => rfl) xs
theorem atI_pos {α : Type} {xs : List α} {i : Int} (h : 0 ≤ i) (h2 : i < xs.length) : atI xs i = xs[i.toNat]? := by
  unfold atI ixN
  rw [if_pos h, if_pos h2]; rfl
theorem getE_range {α : Type} {xs : List α} {i : Nat} (h : i < xs.length) : ∃ x, xs[i]? = some x ∧ x ∈ xs := ⟨xs[i], List.getElem?_eq_getElem h, List.getElem_mem h⟩
theorem cutL_map {α : Type} {f : α → D} {xs : List α} {lo hi : Option Int} : cutL (xs.map f) lo hi = ((xs.drop (HT.sIx xs.length 0 lo)).take (HT.sIx xs.length xs.length hi - HT.sIx xs.length 0 lo)).map f := by
  unfold cutL
  rw [List.length_map, ← List.map_drop, ← List.map_take]
@[simp] theorem sl_lst {xs lo hi} : slD (.lst xs) lo hi = some (.lst (cutL xs lo hi)) := Eq.trans rfl rfl
@[simp] theorem sl_tup {xs lo hi} : slD (.tup xs) lo hi = some (.tup (cutL xs lo hi)) := Eq.trans rfl rfl

/-! ### the helpers of every law -/
def bCell : List S := [.ite (.cmp .Lt (.var 1) (.bf .len [(.var 0)])) [.ret (.ix (.var 0) (.var 1))] [], .ret (.bin .Add (.bin .Mult (.cst (.int 5)) (.var 1)) (.cst (.int 3)))]
def dCell : DefI := ⟨["script", "k"], ["script", "k"], [], bCell⟩
theorem cell_ok {defs : List DefI} {f k : Nat} (h : defs[f]? = some dCell) (hk : 1 ≤ k) (ns : List Int) (i : Int) (h0 : 0 ≤ i) (h1 : i < 1000000) : ∃ c, callD defs k f [.scr ns, .int i] = some (.int c) := by
  obtain ⟨k, rfl⟩ : ∃ m, k = m + 1 := ⟨k - 1, by omega⟩
  rw [call_eq h rfl rfl]
  have hm : mulD (.int 5) (.int i) = some (.int (5 * i)) := mul_l (by omega) (by omega)
  simp [dCell, bCell, start0]
  by_cases hl : i < ns.length
  · obtain ⟨x, hx, _⟩ := getE_range (xs := ns) (i := i.toNat) (by omega)
    simp [hl, atI_pos h0 hl, hx]
  · simp [hl, hm]
/-- the turn of _law_draws -/
def bDL : List S := [.ite (.and (.var 3) (.cmp .Gt (.var 2) (.cst (.int 0)))) [.app 5 (.bin .Mod (.bf .int [(.var 2)]) (.cst (.int 5040))), .asg (.nm 2) (.bin .FloorDiv (.var 2) (.cst (.int 5040)))] [.asg (.nm 7) (.bin .Mod (.bf .int [(.bin .Add (.bin .Add (.bin .Mult (.var 4) (.cst (.int 48271))) (.bin .Mult (.bin .Add (.var 6) (.cst (.int 1))) (.cst (.int 69621)))) (.cst (.int 11)))]) (.cst (.int 2147483647))), .asg (.nm 7) (.bin .Mod (.bf .int [(.bin .Add (.bin .Mult (.var 7) (.var 7)) (.bin .Mult (.cst (.int 40692)) (.bin .Add (.var 6) (.cst (.int 3)))))]) (.cst (.int 2147483399))), .app 5 (.bin .Mod (.bf .int [(.bin .FloorDiv (.var 7) (.cst (.int 64)))]) (.cst (.int 5040)))]]
def bDraws : List S := [.asg (.nm 2) (.bf .abs [(.bf .int [(.var 0)])]), .asg (.nm 3) (.cmp .GtE (.var 2) (.bin .Pow (.cst (.int 10)) (.cst (.int 18)))), .asg (.nm 4) (.var 2), .asg (.nm 5) (.lst []), .for_ (.nm 6) (.rng [(.var 1)]) bDL, .ret (.var 5)]
def dDraws : DefI := ⟨["cell", "count"], ["cell", "count", "rest", "digits", "seed", "draws", "k", "mixed"], [5], bDraws⟩
/-- draws: so many, each from 0 to 5039 -/
def Draws (n : Nat) (ds : List Int) : Prop := ds.length = n ∧ ∀ x ∈ ds, 0 ≤ x ∧ x < 5040
@[simp] theorem eq_bb {a b : Bool} : eqD (.bl a) (.bl b) = some (a == b) := by
  simp [eqD, D.wf, D.py, PyData.plain, PyData.depth, PyData.eqv]
theorem eq_ss {a : Str} : eqD (.str a) (.str a) = some true := by
  simp [eqD, D.wf, D.py, PyData.plain, PyData.depth, PyData.eqv]
@[simp] theorem isin_int {t i} : isinD t (.int i) = some (isinT t (.int i)) := Eq.trans rfl rfl
@[simp] theorem isin_bl {t i} : isinD t (.bl i) = some (isinT t (.bl i)) := Eq.trans rfl rfl
@[simp] theorem isin_str {t i} : isinD t (.str i) = some (isinT t (.str i)) := Eq.trans rfl rfl
@[simp] theorem isin_tup {t i} : isinD t (.tup i) = some (isinT t (.tup i)) := Eq.trans rfl rfl
@[simp] theorem isin_lst {t i} : isinD t (.lst i) = some (isinT t (.lst i)) := Eq.trans rfl rfl
@[simp] theorem isin_non {t} : isinD t .non = some (isinT t .non) := Eq.trans rfl rfl
def bIsInt : List S := [.ret (.and (.isin (.var 0) .int) (.not (.isin (.var 0) .bool)))]
def dIsInt : DefI := ⟨["value"], ["value"], [], bIsInt⟩
def bIs (g f : Nat) : List S := [.ite (.cmp .Is (.var 1) (.cst .non)) [.ret (.cmp .Is (.var 0) (.cst .non))] [], .ite (.isin (.var 1) .bool) [.ret (.and (.isin (.var 0) .bool) (.cmp .Eq (.var 0) (.var 1)))] [], .ite (.isin (.var 1) .int) [.ret (.and (.call g [(.var 0)]) (.cmp .Eq (.var 0) (.var 1)))] [], .ite (.isin (.var 1) .str) [.ret (.and (.isin (.var 0) .str) (.cmp .Eq (.var 0) (.var 1)))] [], .ite (.or (.not (.isin (.var 0) .tuple)) (.cmp .NotEq (.bf .len [(.var 0)]) (.bf .len [(.var 1)]))) [.ret (.cst (.bl false))] [], .ret (.bf .all [(.comp (.call f [(.ix (.var 0) (.var 2)), (.ix (.var 1) (.var 2))]) [2] (.nm 2) (.rng [(.bf .len [(.var 1)])]) none)])]
def dIs (g f : Nat) : DefI := ⟨["value", "due"], ["value", "due", "at"], [], bIs g f⟩
mutual
/-- told things: None, truth values, ints, texts, tuples of these, as deep as n -/
def told : Nat → D → Bool
  | _, .non => true
  | _, .bl _ => true
  | _, .int _ => true
  | _, .str _ => true
  | 0, .tup xs => false
  | n + 1, .tup xs => lineOk xs.length && tolds n xs
  | _, .lst _ => false
  | _, .scr _ => false
def tolds : Nat → List D → Bool
  | _, [] => true
  | n, x :: xs => told n x && tolds n xs
end
theorem tolds_mem {n : Nat} : ∀ {xs : List D}, tolds n xs = true → ∀ x ∈ xs, told n x = true
  | [], _, _, h => by cases h
  | y :: ys, h, x, hx => by
    simp only [tolds, Bool.and_eq_true] at h
    rcases List.mem_cons.mp hx with rfl | hx
    · exact h.1
    · exact tolds_mem h.2 x hx
theorem isint_ok {defs : List DefI} {g k : Nat} (h : defs[g]? = some dIsInt) (hk : 1 ≤ k) (i : Int) : callD defs k g [.int i] = some (.bl true) := by
  obtain ⟨k, rfl⟩ : ∃ m, k = m + 1 := ⟨k - 1, by omega⟩
  rw [call_eq h rfl rfl]
  simp [dIsInt, bIsInt, start0, isinT]
theorem is_ok {defs : List DefI} {f g : Nat} (h : defs[f]? = some (dIs g f)) (hg : defs[g]? = some dIsInt) : ∀ (n : Nat) (d : D) (k : Nat), told n d = true → n + 2 ≤ k → callD defs k f [d, d] = some (.bl true) := by
  intro n
  induction n with
  | zero =>
    intro d k ht hk
    obtain ⟨k, rfl⟩ : ∃ m, k = m + 1 := ⟨k - 1, by omega⟩
    rw [call_eq h rfl rfl]
    have hi := fun i => isint_ok hg (k := k) (by omega) i
    cases d with
    | tup xs => simp [told] at ht
    | lst xs => simp [told] at ht
    | scr xs => simp [told] at ht
    | str s => simp [dIs, bIs, start0, isinT, eq_ss]
    | _ => simp [dIs, bIs, start0, isinT, hi]
  | succ n ih =>
    intro d k ht hk
    obtain ⟨k, rfl⟩ : ∃ m, k = m + 1 := ⟨k - 1, by omega⟩
    rw [call_eq h rfl rfl]
    have hi := fun i => isint_ok hg (k := k) (by omega) i
    cases d with
    | lst xs => simp [told] at ht
    | scr xs => simp [told] at ht
    | str s => simp [dIs, bIs, start0, isinT, eq_ss]
    | tup xs =>
      simp only [told, Bool.and_eq_true] at ht
      have hl : xs.length ≤ 16777216 := by
        have := lineOk_iff.mp ht.1
        rw [sizeLine_eq] at this
        exact this
      have hc : xE (callD defs k) [some (.tup xs), some (.tup xs), none] (.comp (.call f [(.ix (.var 0) (.var 2)), (.ix (.var 1) (.var 2))]) [2] (.nm 2) (.rng [(.bf .len [(.var 1)])]) none) = some (.lst (((iota 0 xs.length).map fun _ => true).map .bl)) := by
        refine ev_comp (e := D.int) (ev_range (ds := [.int xs.length]) (by simp) (by rw [range_1 (by omega) (by omega), intsFrom_iota]; simp)) fun x hx => ⟨[some (.tup xs), some (.tup xs), some (.int x)], rfl, ?_⟩
        have hm := iota_mem.mp hx
        obtain ⟨y, hy, hym⟩ := getE_range (xs := xs) (i := x.toNat) (by omega)
        have ha : atI xs x = some y := by rw [atI_pos hm.1 (by omega)]; exact hy
        simp [ha, ih y k (tolds_mem ht.2 y hym) (by omega)]
      have hall : ((iota 0 xs.length).map fun _ => true).all id = true := by simp
      generalize (iota 0 xs.length).map (fun _ => true) = bs at hc hall
      simp [dIs, bIs, start0, isinT, hc, hall]
    | _ => simp [dIs, bIs, start0, isinT, hi]
end Ev
set_option maxHeartbeats 4000000
namespace Ev
open PySem PySem.Spec PyProof.Rows L2
theorem draws_ok {defs : List DefI} {f k : Nat} (h : defs[f]? = some dDraws) (hk : 1 ≤ k) (cell n : Int) (h0 : 0 ≤ n) (h1 : n ≤ 1000) : ∃ ds, Draws n.toNat ds ∧ callD defs k f [.int cell, .int n] = some (.lst (ds.map .int)) := by
  obtain ⟨k, rfl⟩ : ∃ m, k = m + 1 := ⟨k - 1, by omega⟩
  rw [call_eq h rfl rfl]
  generalize callD defs k = C
  have hp : powD (.int 10) (.int 18) = some (.int (1000000000000000000)) := by rfl
  -- the loop's body
  let Inv : Nat → EnvD → Prop := fun i ρ => ∃ (rest seed : Int) (dig : Bool) (ds : List Int) (j6 j7 : Option D), ρ = [some (.int cell), some (.int n), some (.int rest), some (.bl dig), some (.int seed), some (.lst (ds.map .int)), j6, j7] ∧ 0 ≤ rest ∧ Draws i ds ∧ i ≤ 1000
  have step : ∀ (body : List S), bDraws = [.asg (.nm 2) (.bf .abs [(.bf .int [(.var 0)])]), .asg (.nm 3) (.cmp .GtE (.var 2) (.bin .Pow (.cst (.int 10)) (.cst (.int 18)))), .asg (.nm 4) (.var 2), .asg (.nm 5) (.lst []), .for_ (.nm 6) (.rng [(.var 1)]) body, .ret (.var 5)] →
      ∀ (xs : List Int) (i : Nat) (ρ : EnvD), Inv i ρ → (∀ x ∈ xs, 0 ≤ x ∧ x < 1000) → i + xs.length ≤ 1000 → ∃ ρ', forD (.nm 6) (fun ρ => xSs C [5] ρ body) (xs.map .int) ρ = some (.nx, ρ') ∧ Inv (i + xs.length) ρ' := by
    intro body hb xs
    simp only [bDraws, List.cons.injEq, S.for_.injEq, true_and, and_true] at hb
    subst hb
    induction xs with
    | nil => exact fun i ρ hi _ _ => ⟨ρ, rfl, hi⟩
    | cons x xs ih =>
      intro i ρ hi hx hl
      obtain ⟨rest, seed, dig, ds, j6, j7, rfl, hr, hd, hi2⟩ := hi
      have hxx := hx x List.mem_cons_self
      have hlen : ds.length < sizeLine := by rw [sizeLine_eq]; have := hd.1; omega
      have hll : (ds.map D.int).length < sizeLine := by simpa using hlen
      have next : ∀ (rest' : Int) (v : Int) (j7' : Option D), 0 ≤ rest' → 0 ≤ v ∧ v < 5040 → xSs C [5] [some (.int cell), some (.int n), some (.int rest), some (.bl dig), some (.int seed), some (.lst (ds.map .int)), some (.int x), j7] bDL =
          some (.nx, [some (.int cell), some (.int n), some (.int rest'), some (.bl dig), some (.int seed), some (.lst ((ds ++ [v]).map .int)), some (.int x), j7']) →
          ∃ ρ', forD (.nm 6) (fun ρ => xSs C [5] ρ bDL) ((x :: xs).map .int) [some (.int cell), some (.int n), some (.int rest), some (.bl dig), some (.int seed), some (.lst (ds.map .int)), j6, j7] = some (.nx, ρ') ∧ Inv (i + (x :: xs).length) ρ' := fun rest' v j7' hr' hv he => by
        obtain ⟨ρ', h3, h4⟩ := ih (i + 1) [some (.int cell), some (.int n), some (.int rest'), some (.bl dig), some (.int seed), some (.lst ((ds ++ [v]).map .int)), some (.int x), j7'] ⟨rest', seed, dig, ds ++ [v], some (.int x), j7', rfl, hr', ⟨by simp [hd.1], fun y hy => by
          rcases List.mem_append.mp hy with hy | hy
          · exact hd.2 y hy
          · rw [List.mem_singleton.mp hy]; exact hv⟩, by simp at hl; omega⟩ (fun y hy => hx y (List.mem_cons_of_mem _ hy)) (by simp at hl ⊢; omega)
        refine ⟨ρ', ?_, ?_⟩
        · rw [List.map_cons]
          simp only [forD, bindT, Option.bind_some, List.set_cons_succ, List.set_cons_zero, he, h3]
        · rw [show i + (x :: xs).length = i + 1 + xs.length by simp; omega]
          exact h4
      by_cases hc : dig = true ∧ 0 < rest
      · refine next (rest / 5040) (rest % 5040) j7 (by omega) (by omega) ?_
        simp [bDL, hc.1, hc.2, mod_ii, fdiv_ii, hlen, fr, bindOK, freeT, Tg.slots, bindT]
      · have m1 : mulD (.int seed) (.int 48271) = some (.int (seed * 48271)) := mul_r (by omega) (by omega)
        have m2 : mulD (.int (x + 1)) (.int 69621) = some (.int ((x + 1) * 69621)) := mul_r (by omega) (by omega)
        generalize hA : (seed * 48271 + (x + 1) * 69621 + 11) % 2147483647 = A
        have hA0 : 0 ≤ A ∧ A < 2147483647 := by omega
        have m3 : mulD (.int A) (.int A) = some (.int (A * A)) := mul_r (by omega) (by omega)
        have m4 : mulD (.int 40692) (.int (x + 3)) = some (.int (40692 * (x + 3))) := mul_l (by omega) (by omega)
        generalize hB : (A * A + 40692 * (x + 3)) % 2147483399 = B
        have hB0 : 0 ≤ B ∧ B < 2147483399 := by omega
        refine next rest (B / 64 % 5040) (some (.int B)) hr (by omega) ?_
        have hcc : (if dig = true then decide (0 < rest) else false) = false := by
          cases dig with
          | true => simp at hc; simp [hc]
          | false => rfl
        cases dig with
        | false => simp [bDL, mod_ii, fdiv_ii, hlen, fr, bindOK, freeT, Tg.slots, bindT, m1, m2, m3, m4, hA, hB]
        | true =>
          have hr0 : ¬ 0 < rest := fun z => hc ⟨rfl, z⟩
          simp [bDL, hr0, mod_ii, fdiv_ii, hlen, fr, bindOK, freeT, Tg.slots, bindT, m1, m2, m3, m4, hA, hB]
  have hst := step _ rfl (iota 0 n.toNat) 0 [some (.int cell), some (.int n), some (.int (if cell < 0 then -cell else cell)), some (.bl (!decide ((if cell < 0 then -cell else cell) < 1000000000000000000))), some (.int (if cell < 0 then -cell else cell)), some (.lst []), none, none]
    ⟨_, _, _, [], _, _, rfl, by split <;> omega, ⟨rfl, fun x hx => by cases hx⟩, by omega⟩ (fun x hx => by have := iota_mem.mp hx; omega) (by simp; omega)
  obtain ⟨ρ', hf, rest, seed, dig, ds, j6, j7, rfl, _, hd, _⟩ := hst
  refine ⟨ds, by simpa using hd, ?_⟩
  have hfor := ev_for (C := C) (M := [5]) (t := .nm 6) (ρ := [some (.int cell), some (.int n), some (.int (if cell < 0 then -cell else cell)), some (.bl (!decide ((if cell < 0 then -cell else cell) < 1000000000000000000))), some (.int (if cell < 0 then -cell else cell)), some (.lst []), none, none])
    (ev_range (es := [(.var 1)]) (ds := [.int n]) (by simp) (by rw [range_1 h0 (by omega), intsFrom_iota])) (forOK_rng (imms_int _)) (b := bDL)
  rw [hf] at hfor
  simp [dDraws, bDraws, start0, bindOK, freeT, Tg.slots, clean, E.uses, usesL, bindT, hp, fr, isLst, lineOk]
  rw [hfor]
  simp
end Ev
set_option maxHeartbeats 4000000
namespace Ev
open PySem PySem.Spec PyProof.Rows L2
/-! minima -/
structure Uni {α : Type} (e : α → D) : Prop where
  al : ∀ x y, PySem.W.alike (e x).py (e y).py = true
  pl : ∀ x, (e x).py.plain = true
  dp : ∀ x, (e x).py.depth ≤ 60
  im : ∀ x, (e x).imm = true
  nn : ∀ x, isNon (e x) = false
theorem Uni.wfs {α : Type} {e : α → D} (u : Uni e) (xs : List α) : wfs (xs.map e) = true := by
  have h1 : PyData.plainAll (D.pys (xs.map e)) = true := by
    induction xs with
    | nil => rfl
    | cons x xs ih => simp [D.pys, PyData.plainAll, u.pl x, ih]
  have h2 : PyData.depthAll (D.pys (xs.map e)) ≤ 60 := by
    induction xs with
    | nil => exact Nat.zero_le _
    | cons x xs ih =>
      have := u.dp x
      simp [D.pys, PyData.plainAll] at h1
      simp only [List.map_cons, D.pys, PyData.depthAll]
      have := ih h1.2
      omega
  simp [Ev.wfs, h1, h2]
theorem Uni.alike {α : Type} {e : α → D} (u : Uni e) (xs : List α) : allAlike (xs.map e) = true := by
  simp only [allAlike, List.all_map, List.all_eq_true]
  intro x _
  simp only [Function.comp, List.all_map, List.all_eq_true]
  intro y _
  exact u.al x y
theorem Uni.any {α : Type} {e : α → D} (u : Uni e) (xs : List α) : (xs.map e).any isNon = false := by
  simp only [List.any_map, List.any_eq_false, Function.comp]
  intro y _; simp [u.nn y]
/-- the first of the least -/
def minBy {α : Type} (lt : α → α → Bool) : α → List α → α
  | m, [] => m
  | m, x :: xs => minBy lt (if lt x m then x else m) xs
theorem minL_map {α : Type} {e : α → D} {lt : α → α → Bool} (h : ∀ x y, PySem.W.dataLt (e x).py (e y).py = lt x y) : ∀ (xs : List α) (m : α), minL (e m) (xs.map e) = e (minBy lt m xs)
  | [], m => rfl
  | x :: xs, m => by
    rw [List.map_cons, minL, minBy, h x m]
    by_cases hc : lt x m = true
    · rw [if_pos hc, if_pos hc]; exact minL_map h xs x
    · rw [if_neg hc, if_neg hc]; exact minL_map h xs m
theorem maxL_map {α : Type} {e : α → D} {lt : α → α → Bool} (h : ∀ x y, PySem.W.dataLt (e x).py (e y).py = lt x y) : ∀ (xs : List α) (m : α), maxL (e m) (xs.map e) = e (minBy (fun x y => lt y x) m xs)
  | [], m => rfl
  | x :: xs, m => by
    rw [List.map_cons, maxL, minBy, h m x]
    by_cases hc : lt m x = true
    · rw [if_pos hc, if_pos hc]; exact maxL_map h xs x
    · rw [if_neg hc, if_neg hc]; exact maxL_map h xs m
theorem min_uni {α : Type} {e : α → D} {lt : α → α → Bool} (u : Uni e) (h : ∀ x y, PySem.W.dataLt (e x).py (e y).py = lt x y) (x : α) (xs : List α) : bf1 .min (.lst ((x :: xs).map e)) = some (e (minBy lt x xs)) := by
  have h1 := u.wfs (x :: xs)
  have h2 := u.alike (x :: xs)
  have h3 := u.any (x :: xs)
  have h4 : D.imms (List.map e (x :: xs)) = true := imms_map u.im _
  simp only [bf1, itemsD, Option.bind_some]
  simp only [List.map_cons] at h1 h2 h3 h4 ⊢
  simp only [h1, h2, h3, h4, Bool.and_self, Bool.not_false, if_true]
  rw [minL_map h]
theorem max_uni {α : Type} {e : α → D} {lt : α → α → Bool} (u : Uni e) (h : ∀ x y, PySem.W.dataLt (e x).py (e y).py = lt x y) (x : α) (xs : List α) : bf1 .max (.lst ((x :: xs).map e)) = some (e (minBy (fun x y => lt y x) x xs)) := by
  have h1 := u.wfs (x :: xs)
  have h2 := u.alike (x :: xs)
  have h3 := u.any (x :: xs)
  have h4 : D.imms (List.map e (x :: xs)) = true := imms_map u.im _
  simp only [bf1, itemsD, Option.bind_some]
  simp only [List.map_cons] at h1 h2 h3 h4 ⊢
  simp only [h1, h2, h3, h4, Bool.and_self, Bool.not_false, if_true]
  rw [maxL_map h]
theorem minBy_spec {α : Type} {lt : α → α → Bool} (as : ∀ a b, lt a b = true → lt b a = false) (tr : ∀ a b c, lt b a = false → lt c b = false → lt c a = false) (ir : ∀ a, lt a a = false) :
    ∀ (xs : List α) (m : α), minBy lt m xs ∈ m :: xs ∧ ∀ y ∈ m :: xs, lt y (minBy lt m xs) = false
  | [], m => ⟨List.mem_cons_self, fun y hy => by
      have := List.mem_singleton.mp hy
      subst this; exact ir _⟩
  | x :: xs, m => by
    have ih := minBy_spec as tr ir xs (if lt x m then x else m)
    rw [minBy]
    generalize hg : minBy lt (if lt x m then x else m) xs = r at ih ⊢
    by_cases hc : lt x m = true
    · rw [if_pos hc] at ih
      refine ⟨List.mem_cons_of_mem _ ih.1, fun y hy => ?_⟩
      rcases List.mem_cons.mp hy with rfl | hy
      · exact tr _ _ _ (ih.2 x List.mem_cons_self) (as _ _ hc)
      · exact ih.2 y hy
    · rw [if_neg hc] at ih
      have hc := Bool.eq_false_iff.mpr hc
      refine ⟨?_, fun y hy => ?_⟩
      · rcases List.mem_cons.mp ih.1 with h | h
        · rw [h]; exact List.mem_cons_self
        · exact List.mem_cons_of_mem _ (List.mem_cons_of_mem _ h)
      · rcases List.mem_cons.mp hy with rfl | hy
        · exact ih.2 _ List.mem_cons_self
        · rcases List.mem_cons.mp hy with rfl | hy
          · exact tr _ _ _ (ih.2 m List.mem_cons_self) hc
          · exact ih.2 y (List.mem_cons_of_mem _ hy)
def ltP (x y : Int × Int) : Bool := decide (x.1 < y.1 ∨ (x.1 = y.1 ∧ x.2 < y.2))
def eP (x : Int × Int) : D := .tup [.int x.1, .int x.2]
theorem depth_pair (a b : Int) : (PyData.tuple [.int a, .int b]).depth ≤ 60 := by
  simp [PyData.depth, PyData.depthAll]
theorem uniP : Uni eP := ⟨fun _ _ => rfl, fun _ => rfl, fun x => depth_pair x.1 x.2, fun _ => rfl, fun _ => rfl⟩
theorem ltP_ok (x y : Int × Int) : PySem.W.dataLt (eP x).py (eP y).py = ltP x y := PySem.W.dataLt_ii ..
theorem uniI : Uni D.int := ⟨fun _ _ => rfl, fun _ => rfl, fun x => by rw [D.py, depth_int]; omega, fun _ => rfl, fun _ => rfl⟩
theorem ltI_ok (x y : Int) : PySem.W.dataLt (D.int x).py (D.int y).py = decide (x < y) := PySem.W.dataLt_int ..
theorem minP_spec (x : Int × Int) (xs : List (Int × Int)) : minBy ltP x xs ∈ x :: xs ∧ ∀ y ∈ x :: xs, ltP y (minBy ltP x xs) = false :=
  minBy_spec (fun a b => by simp only [ltP, decide_eq_true_eq, decide_eq_false_iff_not]; omega) (fun a b c => by simp only [ltP, decide_eq_true_eq, decide_eq_false_iff_not]; omega) (fun a => by simp only [ltP, decide_eq_true_eq, decide_eq_false_iff_not]; omega) xs x
theorem minI_spec (x : Int) (xs : List Int) : minBy (fun a b => decide (a < b)) x xs ∈ x :: xs ∧ ∀ y ∈ x :: xs, minBy (fun a b => decide (a < b)) x xs ≤ y := by
  have := minBy_spec (lt := fun a b : Int => decide (a < b)) (fun a b => by simp only [decide_eq_true_eq, decide_eq_false_iff_not]; omega) (fun a b c => by simp only [decide_eq_true_eq, decide_eq_false_iff_not]; omega) (fun a => by simp only [decide_eq_true_eq, decide_eq_false_iff_not]; omega) xs x
  refine ⟨this.1, fun y hy => ?_⟩
  have := this.2 y hy
  simp only [decide_eq_false_iff_not] at this
  omega
theorem maxI_spec (x : Int) (xs : List Int) : minBy (fun a b => decide (b < a)) x xs ∈ x :: xs ∧ ∀ y ∈ x :: xs, y ≤ minBy (fun a b => decide (b < a)) x xs := by
  have := minBy_spec (lt := fun a b : Int => decide (b < a)) (fun a b => by simp only [decide_eq_true_eq, decide_eq_false_iff_not]; omega) (fun a b c => by simp only [decide_eq_true_eq, decide_eq_false_iff_not]; omega) (fun a => by simp only [decide_eq_true_eq, decide_eq_false_iff_not]; omega) xs x
  refine ⟨this.1, fun y hy => ?_⟩
  have := this.2 y hy
  simp only [decide_eq_false_iff_not] at this
  omega
/-! pieces of a walk -/
section
variable {C : Oracle} {ρ ρ' : EnvD} {M : List Nat}
theorem step {s : S} {r : List S} (h : xS C M ρ s = some (.nx, ρ')) : xSs C M ρ (s :: r) = xSs C M ρ' r := by rw [evSs_cons, h]; rfl
theorem step_asg {i : Nat} {e : E} {d : D} {r : List S} (h : xE C ρ e = some d) (hb : bindOK M (.nm i) e d = true) : xSs C M ρ (.asg (.nm i) e :: r) = xSs C M (ρ.set i (some d)) r := step (by simp [h, hb, bindT])
/-- an if that says no: nothing is returned -/
theorem step_no {c : E} {a : List S} {d : D} {r : List S} (h : xE C ρ c = some d) (hb : truthD d = some false) : xSs C M ρ (.ite c a [] :: r) = xSs C M ρ r := step (by simp [h, hb])
end
/-- one of these -/
theorem pick2 {a b : D} {i : Int} (h0 : 0 ≤ i) (h1 : i < 2) : atI [a, b] i = some (if i = 0 then a else b) := by
  rw [atI_pos h0 (by simp; omega)]
  rcases (by omega : i = 0 ∨ i = 1) with rfl | rfl <;> rfl
theorem pick3 {a b c : D} {i : Int} (h0 : 0 ≤ i) (h1 : i < 3) : atI [a, b, c] i = some (if i = 0 then a else if i = 1 then b else c) := by
  rw [atI_pos h0 (by simp; omega)]
  rcases (by omega : i = 0 ∨ i = 1 ∨ i = 2) with rfl | rfl | rfl <;> rfl
theorem pick4 {a b c d : D} {i : Int} (h0 : 0 ≤ i) (h1 : i < 4) : atI [a, b, c, d] i = some (if i = 0 then a else if i = 1 then b else if i = 2 then c else d) := by
  rw [atI_pos h0 (by simp; omega)]
  rcases (by omega : i = 0 ∨ i = 1 ∨ i = 2 ∨ i = 3) with rfl | rfl | rfl | rfl <;> rfl
theorem pick5 {a b c d e : D} {i : Int} (h0 : 0 ≤ i) (h1 : i < 5) : atI [a, b, c, d, e] i = some (if i = 0 then a else if i = 1 then b else if i = 2 then c else if i = 3 then d else e) := by
  rw [atI_pos h0 (by simp; omega)]
  rcases (by omega : i = 0 ∨ i = 1 ∨ i = 2 ∨ i = 3 ∨ i = 4) with rfl | rfl | rfl | rfl | rfl <;> rfl
theorem pick6 {a b c d e f : D} {i : Int} (h0 : 0 ≤ i) (h1 : i < 6) : atI [a, b, c, d, e, f] i = some (if i = 0 then a else if i = 1 then b else if i = 2 then c else if i = 3 then d else if i = 4 then e else f) := by
  rw [atI_pos h0 (by simp; omega)]
  rcases (by omega : i = 0 ∨ i = 1 ∨ i = 2 ∨ i = 3 ∨ i = 4 ∨ i = 5) with rfl | rfl | rfl | rfl | rfl | rfl <;> rfl
/-- a draw -/
theorem draw_at {n : Nat} {ds : List Int} (h : Draws n ds) {i : Int} (h0 : 0 ≤ i) (h1 : i < n) : ∃ x, atI (ds.map D.int) i = some (.int x) ∧ 0 ≤ x ∧ x < 5040 := by
  obtain ⟨x, hx, hm⟩ := getE_range (xs := ds) (i := i.toNat) (by have := h.1; omega)
  refine ⟨x, ?_, h.2 x hm⟩
  rw [atI_pos h0 (by simp [h.1]; omega), List.getElem?_map, hx]; rfl
theorem draws_cut {n : Nat} {ds : List Int} (h : Draws n ds) {lo hi : Nat} (h1 : lo ≤ hi) (h2 : hi ≤ n) {a b : Option Int} (ha : HT.sIx n 0 a = lo) (hb : HT.sIx n n b = hi) : ∃ es, cutL (ds.map D.int) a b = es.map .int ∧ Draws (hi - lo) es := by
  refine ⟨(ds.drop lo).take (hi - lo), ?_, ?_, fun x hx => h.2 x (List.mem_of_mem_drop (List.mem_of_mem_take hx))⟩
  · rw [cutL_map, h.1, ha, hb]
  · simp [h.1]; omega
theorem call_at {defs : List DefI} {k f : Nat} {i : DefI} {ds : List D} {ρ : EnvD} {b : List S} {d : D} (h : defs[f]? = some i) (hl : ds.length = i.ps.length) (hs : okStart i.M ds = true) (he : start0 i.N ds = ρ) (hb : i.body = b) (hk : 1 ≤ k) (hx : ∀ m, m + 1 = k → retOf (xSs (callD defs m) i.M ρ b) = some d) : callD defs k f ds = some d := by
  subst he hb
  obtain ⟨k, rfl⟩ : ∃ m, k = m + 1 := ⟨k - 1, by omega⟩
  rw [call_eq h hl hs]
  exact hx k rfl
section
variable {C : Oracle} {ρ ρ' : EnvD} {M : List Nat}
theorem for_rng1 {t : Tg} {es : List E} {b : List S} {n : Int} (h : xEs C ρ es = some [.int n]) (h0 : 0 ≤ n) (h1 : n ≤ 16777216) : xS C M ρ (.for_ t (.rng es) b) = forD t (fun ρ => xSs C M ρ b) ((iota 0 n.toNat).map .int) ρ := by
  rw [ev_for (ev_range h (range_1 h0 h1)) (by rw [intsFrom_iota]; exact forOK_rng (imms_int _)), intsFrom_iota]
theorem for_rng2 {t : Tg} {es : List E} {b : List S} {a c : Int} (h : xEs C ρ es = some [.int a, .int c]) (h1 : -1000000000000 ≤ a) (h2 : a ≤ 1000000000000) (h3 : -1000000000000 ≤ c) (h4 : c ≤ 1000000000000) (h5 : c - a ≤ 16777216) : xS C M ρ (.for_ t (.rng es) b) = forD t (fun ρ => xSs C M ρ b) ((iota a (c - a).toNat).map .int) ρ := by
  rw [ev_for (ev_range h (range_2 h1 h2 h3 h4 h5)) (by rw [intsFrom_iota]; exact forOK_rng (imms_int _)), intsFrom_iota]
theorem step_for {s : S} {r : List S} {P : EnvD → Prop} {d : D} (h : ∃ ρ', xS C M ρ s = some (.nx, ρ') ∧ P ρ') (hr : ∀ ρ', P ρ' → retOf (xSs C M ρ' r) = some d) : retOf (xSs C M ρ (s :: r)) = some d := by
  obtain ⟨ρ', h1, h2⟩ := h
  rw [step h1]
  exact hr ρ' h2
end
theorem add_tup {a b : List D} (h : a.length + b.length ≤ 16777216) : addD (.tup a) (.tup b) = some (.tup (a ++ b)) := by
  simp only [addD]
  rw [if_pos (lineOk_small h)]
theorem add_lst {a b : List D} (h : a.length + b.length ≤ 16777216) : addD (.lst a) (.lst b) = some (.lst (a ++ b)) := by
  simp only [addD]
  rw [if_pos (lineOk_small h)]
theorem ltP_no {x y : Int × Int} (h : ltP x y = false) : y.1 < x.1 ∨ (y.1 = x.1 ∧ y.2 ≤ x.2) := by
  have := of_decide_eq_false h
  omega
/-- a loop that gathers -/
theorem forD_app {α β : Type} {t : Tg} {body : EnvD → Option (Fl × EnvD)} {e : α → D} {g : α → β} {N : Nat} {Inv : List β → EnvD → Prop} : ∀ (xs : List α) (ys : List β) (ρ : EnvD), Inv ys ρ → ys.length + xs.length ≤ N →
    (∀ x ∈ xs, ∀ ys ρ, ys.length < N → Inv ys ρ → ∃ ρ1 ρ2, bindT t (e x) ρ = some ρ1 ∧ body ρ1 = some (.nx, ρ2) ∧ Inv (ys ++ [g x]) ρ2) →
    ∃ ρ', forD t body (xs.map e) ρ = some (.nx, ρ') ∧ Inv (ys ++ xs.map g) ρ'
  | [], ys, ρ, h, _, _ => ⟨ρ, rfl, by rw [List.map_nil, List.append_nil]; exact h⟩
  | x :: xs, ys, ρ, h, hl, st => by
    simp only [List.length_cons] at hl
    obtain ⟨ρ1, ρ2, h1, h2, h3⟩ := st x List.mem_cons_self ys ρ (by omega) h
    obtain ⟨ρ', h4, h5⟩ := forD_app xs (ys ++ [g x]) ρ2 h3 (by simp; omega) fun y hy => st y (List.mem_cons_of_mem _ hy)
    refine ⟨ρ', by simp only [List.map_cons, forD, h1, Option.bind_some, h2, h4], ?_⟩
    rw [List.map_cons, ← List.singleton_append, ← List.append_assoc]
    exact h5
theorem lt_size {n : Nat} (h : n < 16777216) : n < sizeLine := by rw [sizeLine_eq]; exact h
end Ev
set_option maxHeartbeats 0
namespace Ev
open PySem PySem.Spec PyProof.Rows L2
abbrev ROW := PySem.Challenge.rw_runwarden_k87_whole_waits_and_prices
def topS (i : Nat) : Stmt := ROW.prog.main.body.getD i (.Pass ⟨0, 0, 0, 0⟩)
def fns : List Str := ["price_of_gap", "best_of_gap", "price_at", "best_price", "told_gap", "is_sure", "best_wait", "_law_cell", "_law_draws", "_law_is_integer", "_law_is", "_law_price", "_law_best", "_law_gap", "law"]
/-! 0 price_of_gap: 0=b 1=wait 2=gap -/
def body0 : List S := [.ret (.ite (.cmp .LtE (.var 2) (.var 1)) (.var 2) (.bin .Add (.var 1) (.var 0)))]
def d0 : DefI := ⟨["b", "wait", "gap"], ["b", "wait", "gap"], [], body0⟩
theorem ok0 : DefOk fns (topS 1) d0 "price_of_gap" := ⟨⟨rfl, rfl, rfl, by decide +kernel, rfl, by decide +kernel, by decide +kernel⟩, ⟨40, 12, by kernel_rfl⟩, fun _ _ _ _ _ _ us hl => match us, hl with | [_, _, _], _ => rfl⟩
/-! 1 best_of_gap: 0=b 1=gap -/
def body1 : List S := [.ret (.bf .min [(.var 1), (.var 0)])]
def d1 : DefI := ⟨["b", "gap"], ["b", "gap"], [], body1⟩
theorem ok1 : DefOk fns (topS 2) d1 "best_of_gap" := ⟨⟨rfl, rfl, rfl, by decide +kernel, rfl, by decide +kernel, by decide +kernel⟩, ⟨40, 12, by kernel_rfl⟩, fun _ _ _ _ _ _ us hl => match us, hl with | [_, _], _ => rfl⟩
/-! 2 price_at: 0=b 1=wait 2=gaps 3=gap -/
def body2 : List S := [.ret (.bf .sum [(.comp (.call 0 [(.var 0), (.var 1), (.var 3)]) [3] (.nm 3) (.seq (.var 2)) none)])]
def d2 : DefI := ⟨["b", "wait", "gaps"], ["b", "wait", "gaps", "gap"], [], body2⟩
theorem ok2 : DefOk fns (topS 3) d2 "price_at" := ⟨⟨rfl, rfl, rfl, by decide +kernel, rfl, by decide +kernel, by decide +kernel⟩, ⟨40, 12, by kernel_rfl⟩, fun _ _ _ _ _ _ us hl => match us, hl with | [_, _, _], _ => rfl⟩
/-! 3 best_price: 0=b 1=gaps 2=gap -/
def body3 : List S := [.ret (.bf .sum [(.comp (.call 1 [(.var 0), (.var 2)]) [2] (.nm 2) (.seq (.var 1)) none)])]
def d3 : DefI := ⟨["b", "gaps"], ["b", "gaps", "gap"], [], body3⟩
theorem ok3 : DefOk fns (topS 4) d3 "best_price" := ⟨⟨rfl, rfl, rfl, by decide +kernel, rfl, by decide +kernel, by decide +kernel⟩, ⟨40, 12, by kernel_rfl⟩, fun _ _ _ _ _ _ us hl => match us, hl with | [_, _], _ => rfl⟩
/-! 4 told_gap: 0=b 1=wait 2=p 3=q 4=gap -/
def b4_1 : List S := [.ite (.cmp .Gt (.bin .Mult (.var 3) (.call 0 [(.var 0), (.var 1), (.var 4)])) (.bin .Mult (.var 2) (.call 1 [(.var 0), (.var 4)]))) [.ret (.var 4)] []]
def body4 : List S := [.for_ (.nm 4) (.rng [(.cst (.int 1)), (.bin .Add (.var 1) (.cst (.int 2)))]) b4_1, .ret (.cst .non)]
def d4 : DefI := ⟨["b", "wait", "p", "q"], ["b", "wait", "p", "q", "gap"], [], body4⟩
theorem ok4 : DefOk fns (topS 5) d4 "told_gap" := ⟨⟨rfl, rfl, rfl, by decide +kernel, rfl, by decide +kernel, by decide +kernel⟩, ⟨40, 12, by kernel_rfl⟩, fun _ _ _ _ _ _ us hl => match us, hl with | [_, _, _, _], _ => rfl⟩
/-! 5 is_sure: 0=b 1=wait 2=p 3=q -/
def body5 : List S := [.ret (.cmp .Is (.call 4 [(.var 0), (.var 1), (.var 2), (.var 3)]) (.cst .non))]
def d5 : DefI := ⟨["b", "wait", "p", "q"], ["b", "wait", "p", "q"], [], body5⟩
theorem ok5 : DefOk fns (topS 6) d5 "is_sure" := ⟨⟨rfl, rfl, rfl, by decide +kernel, rfl, by decide +kernel, by decide +kernel⟩, ⟨40, 12, by kernel_rfl⟩, fun _ _ _ _ _ _ us hl => match us, hl with | [_, _, _, _], _ => rfl⟩
/-! 6 best_wait: 0=b 1=gaps 2=wait -/
def body6 : List S := [.ret (.ix (.bf .min [(.comp (.tup [(.call 2 [(.var 0), (.var 2), (.var 1)]), (.var 2)]) [2] (.nm 2) (.seq (.bin .Add (.tup [(.cst (.int 0))]) (.var 1))) none)]) (.cst (.int 1)))]
def d6 : DefI := ⟨["b", "gaps"], ["b", "gaps", "wait"], [], body6⟩
theorem ok6 : DefOk fns (topS 7) d6 "best_wait" := ⟨⟨rfl, rfl, rfl, by decide +kernel, rfl, by decide +kernel, by decide +kernel⟩, ⟨40, 12, by kernel_rfl⟩, fun _ _ _ _ _ _ us hl => match us, hl with | [_, _], _ => rfl⟩
/-! 7 _law_cell: 0=script 1=k -/
def body7 : List S := [.ite (.cmp .Lt (.var 1) (.bf .len [(.var 0)])) [.ret (.ix (.var 0) (.var 1))] [], .ret (.bin .Add (.bin .Mult (.cst (.int 5)) (.var 1)) (.cst (.int 3)))]
def d7 : DefI := ⟨["script", "k"], ["script", "k"], [], body7⟩
theorem ok7 : DefOk fns (topS 9) d7 "_law_cell" := ⟨⟨rfl, rfl, rfl, by decide +kernel, rfl, by decide +kernel, by decide +kernel⟩, ⟨40, 12, by kernel_rfl⟩, fun _ _ _ _ _ _ us hl => match us, hl with | [_, _], _ => rfl⟩
/-! 8 _law_draws: 0=cell 1=count 2=rest 3=digits 4=seed 5=draws 6=k 7=mixed -/
def b8_1 : List S := [.ite (.and (.var 3) (.cmp .Gt (.var 2) (.cst (.int 0)))) [.app 5 (.bin .Mod (.bf .int [(.var 2)]) (.cst (.int 5040))), .asg (.nm 2) (.bin .FloorDiv (.var 2) (.cst (.int 5040)))] [.asg (.nm 7) (.bin .Mod (.bf .int [(.bin .Add (.bin .Add (.bin .Mult (.var 4) (.cst (.int 48271))) (.bin .Mult (.bin .Add (.var 6) (.cst (.int 1))) (.cst (.int 69621)))) (.cst (.int 11)))]) (.cst (.int 2147483647))), .asg (.nm 7) (.bin .Mod (.bf .int [(.bin .Add (.bin .Mult (.var 7) (.var 7)) (.bin .Mult (.cst (.int 40692)) (.bin .Add (.var 6) (.cst (.int 3)))))]) (.cst (.int 2147483399))), .app 5 (.bin .Mod (.bf .int [(.bin .FloorDiv (.var 7) (.cst (.int 64)))]) (.cst (.int 5040)))]]
def body8 : List S := [.asg (.nm 2) (.bf .abs [(.bf .int [(.var 0)])]), .asg (.nm 3) (.cmp .GtE (.var 2) (.bin .Pow (.cst (.int 10)) (.cst (.int 18)))), .asg (.nm 4) (.var 2), .asg (.nm 5) (.lst []), .for_ (.nm 6) (.rng [(.var 1)]) b8_1, .ret (.var 5)]
def d8 : DefI := ⟨["cell", "count"], ["cell", "count", "rest", "digits", "seed", "draws", "k", "mixed"], [5], body8⟩
theorem ok8 : DefOk fns (topS 10) d8 "_law_draws" := ⟨⟨rfl, rfl, rfl, by decide +kernel, rfl, by decide +kernel, by decide +kernel⟩, ⟨40, 12, by kernel_rfl⟩, fun _ _ _ _ _ _ us hl => match us, hl with | [_, _], _ => rfl⟩
/-! 9 _law_is_integer: 0=value -/
def body9 : List S := [.ret (.and (.isin (.var 0) .int) (.not (.isin (.var 0) .bool)))]
def d9 : DefI := ⟨["value"], ["value"], [], body9⟩
theorem ok9 : DefOk fns (topS 11) d9 "_law_is_integer" := ⟨⟨rfl, rfl, rfl, by decide +kernel, rfl, by decide +kernel, by decide +kernel⟩, ⟨40, 12, by kernel_rfl⟩, fun _ _ _ _ _ _ us hl => match us, hl with | [_], _ => rfl⟩
/-! 10 _law_is: 0=value 1=due 2=at -/
def body10 : List S := [.ite (.cmp .Is (.var 1) (.cst .non)) [.ret (.cmp .Is (.var 0) (.cst .non))] [], .ite (.isin (.var 1) .bool) [.ret (.and (.isin (.var 0) .bool) (.cmp .Eq (.var 0) (.var 1)))] [], .ite (.isin (.var 1) .int) [.ret (.and (.call 9 [(.var 0)]) (.cmp .Eq (.var 0) (.var 1)))] [], .ite (.isin (.var 1) .str) [.ret (.and (.isin (.var 0) .str) (.cmp .Eq (.var 0) (.var 1)))] [], .ite (.or (.not (.isin (.var 0) .tuple)) (.cmp .NotEq (.bf .len [(.var 0)]) (.bf .len [(.var 1)]))) [.ret (.cst (.bl false))] [], .ret (.bf .all [(.comp (.call 10 [(.ix (.var 0) (.var 2)), (.ix (.var 1) (.var 2))]) [2] (.nm 2) (.rng [(.bf .len [(.var 1)])]) none)])]
def d10 : DefI := ⟨["value", "due"], ["value", "due", "at"], [], body10⟩
theorem ok10 : DefOk fns (topS 12) d10 "_law_is" := ⟨⟨rfl, rfl, rfl, by decide +kernel, rfl, by decide +kernel, by decide +kernel⟩, ⟨40, 12, by kernel_rfl⟩, fun _ _ _ _ _ _ us hl => match us, hl with | [_, _], _ => rfl⟩
/-! 11 _law_price: 0=b 1=wait 2=gap -/
def body11 : List S := [.ret (.ite (.cmp .LtE (.var 2) (.var 1)) (.var 2) (.bin .Add (.var 1) (.var 0)))]
def d11 : DefI := ⟨["b", "wait", "gap"], ["b", "wait", "gap"], [], body11⟩
theorem ok11 : DefOk fns (topS 13) d11 "_law_price" := ⟨⟨rfl, rfl, rfl, by decide +kernel, rfl, by decide +kernel, by decide +kernel⟩, ⟨40, 12, by kernel_rfl⟩, fun _ _ _ _ _ _ us hl => match us, hl with | [_, _, _], _ => rfl⟩
/-! 12 _law_best: 0=b 1=gap -/
def body12 : List S := [.ret (.ite (.cmp .Lt (.var 1) (.var 0)) (.var 1) (.var 0))]
def d12 : DefI := ⟨["b", "gap"], ["b", "gap"], [], body12⟩
theorem ok12 : DefOk fns (topS 14) d12 "_law_best" := ⟨⟨rfl, rfl, rfl, by decide +kernel, rfl, by decide +kernel, by decide +kernel⟩, ⟨40, 12, by kernel_rfl⟩, fun _ _ _ _ _ _ us hl => match us, hl with | [_, _], _ => rfl⟩
/-! 13 _law_gap: 0=b 1=wait 2=p 3=q 4=gap -/
def b13_1 : List S := [.ite (.cmp .Gt (.bin .Mult (.var 3) (.call 11 [(.var 0), (.var 1), (.var 4)])) (.bin .Mult (.var 2) (.call 12 [(.var 0), (.var 4)]))) [.ret (.var 4)] []]
def body13 : List S := [.for_ (.nm 4) (.rng [(.cst (.int 1)), (.bin .Add (.bin .Add (.var 1) (.var 0)) (.cst (.int 5)))]) b13_1, .ret (.cst .non)]
def d13 : DefI := ⟨["b", "wait", "p", "q"], ["b", "wait", "p", "q", "gap"], [], body13⟩
theorem ok13 : DefOk fns (topS 15) d13 "_law_gap" := ⟨⟨rfl, rfl, rfl, by decide +kernel, rfl, by decide +kernel, by decide +kernel⟩, ⟨40, 12, by kernel_rfl⟩, fun _ _ _ _ _ _ us hl => match us, hl with | [_, _, _, _], _ => rfl⟩
/-! 14 law: 0=script 1=draws 2=k 3=part 4=b 5=wide 6=gaps 7=total 8=wait 9=least 10=turn 11=bent 12=price 13=worst 14=near 15=ratios 16=p 17=q 18=gap 19=low 20=draw -/
def b14_1 : List S := [.asg (.nm 18) (.call 13 [(.var 4), (.var 8), (.var 16), (.var 17)]), .ite (.or (.not (.call 10 [(.call 4 [(.var 4), (.var 8), (.var 16), (.var 17)]), (.var 18)])) (.not (.call 10 [(.call 5 [(.var 4), (.var 8), (.var 16), (.var 17)]), (.cmp .Is (.var 18) (.cst .non))]))) [.ret (.cst (.bl false))] [], .asg (.nm 19) (.cmp .Lt (.bin .Mult (.var 16) (.var 4)) (.bin .Mult (.var 17) (.bin .Sub (.bin .Mult (.cst (.int 2)) (.var 4)) (.cst (.int 1))))), .ite (.or (.and (.cmp .Is (.var 18) (.cst .non)) (.var 19)) (.and (.cmp .IsNot (.var 18) (.cst .non)) (.and (.not (.var 19)) (.cmp .Eq (.var 8) (.bin .Sub (.var 4) (.cst (.int 1))))))) [.ret (.cst (.bl false))] [], .ite (.cmp .NotEq (.cmp .Is (.var 18) (.cst .non)) (.cmp .LtE (.bin .Mult (.var 17) (.call 11 [(.var 4), (.var 8), (.bin .Add (.var 8) (.cst (.int 1)))])) (.bin .Mult (.var 16) (.call 12 [(.var 4), (.bin .Add (.var 8) (.cst (.int 1)))])))) [.ret (.cst (.bl false))] []]
def b14_2 : List S := [.asg (.nm 11) (.sl (.var 1) (some (.bin .Add (.cst (.int 12)) (.bin .Mult (.cst (.int 8)) (.var 10)))) (some (.bin .Add (.cst (.int 20)) (.bin .Mult (.cst (.int 8)) (.var 10))))), .asg (.nm 8) (.ix (.tup [(.bin .Sub (.var 4) (.cst (.int 1))), (.bf .min [(.cst (.int 60)), (.var 4)]), (.bin .Mod (.bf .int [(.ix (.var 11) (.cst (.int 0)))]) (.cst (.int 61))), (.bin .Mod (.bf .int [(.ix (.var 11) (.cst (.int 0)))]) (.var 4)), (.cst (.int 0)), (.ix (.bf .min [(.var 7)]) (.cst (.int 1)))]) (.var 10)), .asg (.nm 12) (.bf .sum [(.comp (.call 11 [(.var 4), (.var 8), (.var 18)]) [18] (.nm 18) (.seq (.var 6)) none)]), .ite (.or (.not (.call 10 [(.call 2 [(.var 4), (.var 8), (.var 6)]), (.var 12)])) (.cmp .Lt (.var 12) (.var 9))) [.ret (.cst (.bl false))] [], .asg (.nm 13) (.tup [(.bin .Add (.var 8) (.var 4)), (.bf .min [(.bin .Add (.var 8) (.cst (.int 1))), (.var 4)])]), .asg (.nm 14) (.tup [(.bin .Sub (.bin .Add (.ix (.var 13) (.cst (.int 0))) (.bin .Mod (.bf .int [(.ix (.var 11) (.cst (.int 1)))]) (.cst (.int 3)))) (.cst (.int 1))), (.ix (.var 13) (.cst (.int 1)))]), .asg (.nm 15) (.lst [(.tup [(.bin .Sub (.bin .Mult (.cst (.int 2)) (.var 4)) (.cst (.int 1))), (.var 4)]), (.tup [(.bf .max [(.cst (.int 1)), (.ix (.var 14) (.cst (.int 0)))]), (.ix (.var 14) (.cst (.int 1)))]), (.tup [(.bin .Add (.cst (.int 1)) (.bin .Mod (.bf .int [(.ix (.var 11) (.cst (.int 2)))]) (.cst (.int 1000)))), (.bin .Add (.cst (.int 1)) (.bin .Mod (.bf .int [(.ix (.var 11) (.cst (.int 3)))]) (.cst (.int 1000))))])]), .for_ (.tup [16, 17]) (.seq (.bin .Add (.var 15) (.lst [(.tup [(.bin .Add (.cst (.int 1)) (.bin .Mod (.bf .int [(.ix (.var 11) (.cst (.int 4)))]) (.cst (.int 9)))), (.bin .Add (.cst (.int 1)) (.bin .Mod (.bf .int [(.ix (.var 11) (.cst (.int 5)))]) (.cst (.int 4))))]), (.tup [(.bin .Sub (.bin .Mult (.cst (.int 8)) (.ix (.var 13) (.cst (.int 0)))) (.cst (.int 1))), (.bin .Mult (.cst (.int 8)) (.ix (.var 13) (.cst (.int 1))))])]))) b14_1]
def b14_3 : List S := [.app 7 (.tup [(.bf .sum [(.comp (.call 11 [(.var 4), (.var 8), (.var 18)]) [18] (.nm 18) (.seq (.var 6)) none)]), (.var 8)])]
def b14_4 : List S := [.asg (.nm 3) (.call 8 [(.call 7 [(.var 0), (.bin .Add (.cst (.int 1)) (.var 2))]), (.cst (.int 14))]), .asg (.nm 4) (.bin .Add (.cst (.int 1)) (.bin .Mod (.bf .int [(.ix (.var 1) (.var 2))]) (.ix (.tup [(.cst (.int 6)), (.cst (.int 60)), (.cst (.int 15))]) (.bin .Mod (.bf .int [(.ix (.var 1) (.bin .Add (.cst (.int 3)) (.var 2)))]) (.cst (.int 3)))))), .asg (.nm 5) (.ix (.tup [(.bin .Mult (.cst (.int 2)) (.var 4)), (.bin .Add (.var 4) (.cst (.int 3))), (.cst (.int 60))]) (.bin .Mod (.bf .int [(.ix (.var 1) (.bin .Add (.cst (.int 6)) (.var 2)))]) (.cst (.int 3)))), .asg (.nm 6) (.bf .tuple [(.comp (.bf .min [(.cst (.int 60)), (.bin .Add (.cst (.int 1)) (.bin .Mod (.bf .int [(.var 20)]) (.var 5)))]) [20] (.nm 20) (.seq (.sl (.var 3) none (some (.ix (.tup [(.cst (.int 6)), (.cst (.int 14)), (.cst (.int 2)), (.cst (.int 0)), (.cst (.int 1))]) (.bin .Mod (.bf .int [(.ix (.var 1) (.bin .Add (.cst (.int 9)) (.var 2)))]) (.cst (.int 5))))))) none)]), .asg (.nm 7) (.lst []), .for_ (.nm 8) (.rng [(.cst (.int 61))]) b14_3, .ite (.not (.call 10 [(.call 6 [(.var 4), (.var 6)]), (.ix (.bf .min [(.var 7)]) (.cst (.int 1)))])) [.ret (.cst (.bl false))] [], .asg (.nm 9) (.bf .sum [(.comp (.call 12 [(.var 4), (.var 18)]) [18] (.nm 18) (.seq (.var 6)) none)]), .ite (.not (.call 10 [(.call 3 [(.var 4), (.var 6)]), (.var 9)])) [.ret (.cst (.bl false))] [], .for_ (.nm 10) (.rng [(.cst (.int 6))]) b14_2]
def body14 : List S := [.asg (.nm 1) (.call 8 [(.call 7 [(.var 0), (.cst (.int 0))]), (.cst (.int 60))]), .for_ (.nm 2) (.rng [(.cst (.int 3))]) b14_4, .ret (.cst (.bl true))]
def d14 : DefI := ⟨["script"], ["script", "draws", "k", "part", "b", "wide", "gaps", "total", "wait", "least", "turn", "bent", "price", "worst", "near", "ratios", "p", "q", "gap", "low", "draw"], [7], body14⟩
theorem ok14 : DefOk fns (topS 16) d14 "law" := ⟨⟨rfl, rfl, rfl, by decide +kernel, rfl, by decide +kernel, by decide +kernel⟩, ⟨40, 12, by kernel_rfl⟩, fun _ _ _ _ _ _ us hl => match us, hl with | [_], _ => rfl⟩
def defs : List DefI := [d0, d1, d2, d3, d4, d5, d6, d7, d8, d9, d10, d11, d12, d13, d14]
def dDef (x : Str) (i : Nat) : He.DefD := ⟨(x, none), x, x, defArgs (topS i), defBody (topS i), defScope (topS i), [], []⟩
def fnL : List He.DefD := [dDef "price_of_gap" 1, dDef "best_of_gap" 2, dDef "price_at" 3, dDef "best_price" 4, dDef "told_gap" 5, dDef "is_sure" 6, dDef "best_wait" 7, dDef "_law_cell" 9, dDef "_law_draws" 10, dDef "_law_is_integer" 11, dDef "_law_is" 12, dDef "_law_price" 13, dDef "_law_best" 14, dDef "_law_gap" 15, dDef "law" 16]
def fa : List He.Fa := fns.map .glo ++ bltNames.map .free
abbrev R : PySem.W.OpenRow := PySem.W.OpenLaw.row ROW
abbrev hk : PySem.W.Hook := He.hookD 4 fa fnL
def ob (s : PySem.W.SharedT) : He.AlD := He.obsDG 4 fa fnL (HandSHeadRun.getT s)
theorem ob_eq (s : PySem.W.SharedT) : ob s = hk.obs s.abs := He.obsDG_eq (HandSHeadRun.getT_eq s)
def loose : List Str := (["price_of_gap", "best_of_gap", "price_at", "best_price", "told_gap", "is_sure", "best_wait", "_law_cell", "_law_draws", "_law_is_integer", "_law_is", "_law_price", "_law_best", "_law_gap"] : List Str)
theorem run (w : World) : HandSHeadRun.RunEq R (PySem.W.view R.prog [16]) hk ob 20000 loose w := by
  intro os
  kernel_rfl
theorem top_ok {K : PySem.W.Frag} {h : Heap} {mg : Str → Option Value} (X : K.In h) (G : h.Ns mainGlobals mg) (c : He.SaysD fa fnL K) : Top K mg fns defs := by
  have g : ∀ (j : Nat) (x : Str), fns[j]? = some x → fa[j]? = some (.glo x) := fun j x hx => by
    have hl := (List.getElem?_eq_some_iff.mp hx).1
    unfold fa
    rw [List.getElem?_append_left (by simpa using hl), List.getElem?_map, hx]; rfl
  refine ⟨fun x hx => ?_, fun f x i h1 h2 => ?_, rfl⟩
  · obtain ⟨j, hj, e⟩ := List.getElem_of_mem hx
    refine He.free_ok X G (c.fact (fns.length + j) (f := .free x) ?_)
    unfold fa
    rw [List.getElem?_append_right (by simp), List.getElem?_map]
    simp [List.getElem?_eq_getElem hj, e]
  · match f, h1, h2 with
    | 0, h1, h2 => cases h1; cases h2; obtain ⟨fd, F⟩ := c.def_ 0 (d := dDef "price_of_gap" 1) rfl; exact ⟨_, _, fd, ok0, F, He.glo_ok X G (c.fact 0 (f := .glo "price_of_gap") (g _ _ rfl))⟩
    | 1, h1, h2 => cases h1; cases h2; obtain ⟨fd, F⟩ := c.def_ 1 (d := dDef "best_of_gap" 2) rfl; exact ⟨_, _, fd, ok1, F, He.glo_ok X G (c.fact 1 (f := .glo "best_of_gap") (g _ _ rfl))⟩
    | 2, h1, h2 => cases h1; cases h2; obtain ⟨fd, F⟩ := c.def_ 2 (d := dDef "price_at" 3) rfl; exact ⟨_, _, fd, ok2, F, He.glo_ok X G (c.fact 2 (f := .glo "price_at") (g _ _ rfl))⟩
    | 3, h1, h2 => cases h1; cases h2; obtain ⟨fd, F⟩ := c.def_ 3 (d := dDef "best_price" 4) rfl; exact ⟨_, _, fd, ok3, F, He.glo_ok X G (c.fact 3 (f := .glo "best_price") (g _ _ rfl))⟩
    | 4, h1, h2 => cases h1; cases h2; obtain ⟨fd, F⟩ := c.def_ 4 (d := dDef "told_gap" 5) rfl; exact ⟨_, _, fd, ok4, F, He.glo_ok X G (c.fact 4 (f := .glo "told_gap") (g _ _ rfl))⟩
    | 5, h1, h2 => cases h1; cases h2; obtain ⟨fd, F⟩ := c.def_ 5 (d := dDef "is_sure" 6) rfl; exact ⟨_, _, fd, ok5, F, He.glo_ok X G (c.fact 5 (f := .glo "is_sure") (g _ _ rfl))⟩
    | 6, h1, h2 => cases h1; cases h2; obtain ⟨fd, F⟩ := c.def_ 6 (d := dDef "best_wait" 7) rfl; exact ⟨_, _, fd, ok6, F, He.glo_ok X G (c.fact 6 (f := .glo "best_wait") (g _ _ rfl))⟩
    | 7, h1, h2 => cases h1; cases h2; obtain ⟨fd, F⟩ := c.def_ 7 (d := dDef "_law_cell" 9) rfl; exact ⟨_, _, fd, ok7, F, He.glo_ok X G (c.fact 7 (f := .glo "_law_cell") (g _ _ rfl))⟩
    | 8, h1, h2 => cases h1; cases h2; obtain ⟨fd, F⟩ := c.def_ 8 (d := dDef "_law_draws" 10) rfl; exact ⟨_, _, fd, ok8, F, He.glo_ok X G (c.fact 8 (f := .glo "_law_draws") (g _ _ rfl))⟩
    | 9, h1, h2 => cases h1; cases h2; obtain ⟨fd, F⟩ := c.def_ 9 (d := dDef "_law_is_integer" 11) rfl; exact ⟨_, _, fd, ok9, F, He.glo_ok X G (c.fact 9 (f := .glo "_law_is_integer") (g _ _ rfl))⟩
    | 10, h1, h2 => cases h1; cases h2; obtain ⟨fd, F⟩ := c.def_ 10 (d := dDef "_law_is" 12) rfl; exact ⟨_, _, fd, ok10, F, He.glo_ok X G (c.fact 10 (f := .glo "_law_is") (g _ _ rfl))⟩
    | 11, h1, h2 => cases h1; cases h2; obtain ⟨fd, F⟩ := c.def_ 11 (d := dDef "_law_price" 13) rfl; exact ⟨_, _, fd, ok11, F, He.glo_ok X G (c.fact 11 (f := .glo "_law_price") (g _ _ rfl))⟩
    | 12, h1, h2 => cases h1; cases h2; obtain ⟨fd, F⟩ := c.def_ 12 (d := dDef "_law_best" 14) rfl; exact ⟨_, _, fd, ok12, F, He.glo_ok X G (c.fact 12 (f := .glo "_law_best") (g _ _ rfl))⟩
    | 13, h1, h2 => cases h1; cases h2; obtain ⟨fd, F⟩ := c.def_ 13 (d := dDef "_law_gap" 15) rfl; exact ⟨_, _, fd, ok13, F, He.glo_ok X G (c.fact 13 (f := .glo "_law_gap") (g _ _ rfl))⟩
    | 14, h1, h2 => cases h1; cases h2; obtain ⟨fd, F⟩ := c.def_ 14 (d := dDef "law" 16) rfl; exact ⟨_, _, fd, ok14, F, He.glo_ok X G (c.fact 14 (f := .glo "law") (g _ _ rfl))⟩
    | n + 15, h1, h2 => cases h1
/-- the law, by the evaluator -/
def lawF : Nat := 14
theorem finish (k : Nat) (hr : Room k callerA) (hlaw : ∀ ns : List Int, ns.length ≤ 63 → callD defs k lawF [.scr ns] = some (.bl true)) : ROW.Holds := by
  open PySem.W PySem.Calls in
  w_on; o_law
  refine HandSHeadRun.head_any (r := OpenLaw.row ROW) (q := view (OpenLaw.row ROW).prog [16]) (H := hk) (ob := ob) (M := 20000) (loose := loose) (d := HandSHeadRun.topDef (OpenLaw.row ROW).prog 16) (kwd := []) ob_eq
    (by kernel_rfl) (fun s => by kernel_rfl) run (by kernel_rfl) (by kernel_rfl) (by kernel_rfl) (by rfl) (by first | assumption | decide +kernel) (by decide +kernel) ⟨rfl, rfl, rfl, rfl, rfl, by decide +kernel⟩ ?hw ?hc
  case hw => w_witness2
  case hc =>
    refine L2.walk_ofE (l := ROW) (n := 63) (k := k) (x := "script") (CX := L2.CX0) rfl (by decide) (by kernel_rfl) hr ?F (fun _ _ _ _ z => z)
    intro w mg fa0 h Y G hmg0
    obtain ⟨K, KX, c⟩ := Y
    have hmg : mg ("law" : PySem.Str) = some (.ref fa0) := by
      have e : (HandSHeadRun.topDef (OpenLaw.row ROW).prog 16).name = ("law" : PySem.Str) := by kernel_rfl
      rw [← e]
      exact hmg0
    have tp := top_ok KX G c
    exact law_top tp (f := lawF) (i := d14) rfl rfl hmg hlaw KX rfl
end Ev
set_option maxHeartbeats 4000000
namespace Ev
open PySem PySem.Spec PyProof.Rows L2
/-! the plain law -/
def price (b w g : Int) : Int := if g ≤ w then g else w + b
def best (b g : Int) : Int := if b < g then b else g
theorem sum_le {α : Type} {f g : α → Int} : ∀ (xs : List α), (∀ x ∈ xs, f x ≤ g x) → (xs.map f).sum ≤ (xs.map g).sum
  | [], _ => Int.le_refl _
  | x :: xs, h => by
    have := sum_le xs fun y hy => h y (List.mem_cons_of_mem _ hy)
    have := h x List.mem_cons_self
    simp only [List.map_cons, List.sum_cons]
    omega
theorem best_le (b w g : Int) (hw : 0 ≤ w) (hb : 1 ≤ b) (hg : 0 ≤ g) : best b g ≤ price b w g := by
  unfold best price; split <;> split <;> omega
def cost (b : Int) (gs : List Int) (w : Int) : Int := (gs.map (price b w)).sum
theorem cost_best (b w : Int) (gs : List Int) (hw : 0 ≤ w) (hb : 1 ≤ b) (hg : ∀ g ∈ gs, 0 ≤ g) : (gs.map (best b)).sum ≤ cost b gs w :=
  sum_le gs fun g h => best_le b w g hw hb (hg g h)
/-- the member below -/
theorem below (w : Int) (hw : 0 ≤ w) : ∀ gs : List Int, ∃ v ∈ (0 :: gs), v ≤ w ∧ ∀ g ∈ gs, g ≤ w → g ≤ v
  | [] => ⟨0, List.mem_cons_self, hw, fun g h => by cases h⟩
  | x :: gs => by
    obtain ⟨v, hv, h1, h2⟩ := below w hw gs
    by_cases hx : x ≤ w ∧ v < x
    · refine ⟨x, List.mem_cons_of_mem _ List.mem_cons_self, hx.1, fun g hg hgw => ?_⟩
      rcases List.mem_cons.mp hg with rfl | hg
      · omega
      · have := h2 g hg hgw; omega
    · refine ⟨v, ?_, h1, fun g hg hgw => ?_⟩
      · rcases List.mem_cons.mp hv with rfl | hv
        · exact List.mem_cons_self
        · exact List.mem_cons_of_mem _ (List.mem_cons_of_mem _ hv)
      · rcases List.mem_cons.mp hg with rfl | hg
        · omega
        · exact h2 g hg hgw
theorem dominated (b w : Int) (gs : List Int) (hw : 0 ≤ w) : ∃ v ∈ (0 :: gs), v ≤ w ∧ cost b gs v ≤ cost b gs w := by
  obtain ⟨v, hv, h1, h2⟩ := below w hw gs
  refine ⟨v, hv, h1, sum_le gs fun g hg => ?_⟩
  unfold price
  by_cases hgw : g ≤ w
  · rw [if_pos (h2 g hg hgw), if_pos hgw]; omega
  · rw [if_neg (by omega), if_neg hgw]; omega
def cw (b : Int) (gs : List Int) (w : Int) : Int × Int := (cost b gs w, w)
/-- (i) -/
theorem best_wait_eq (b : Int) (gs : List Int) (hg : ∀ g ∈ gs, 0 ≤ g ∧ g ≤ 60) : minBy ltP (cw b gs 0) (gs.map (cw b gs)) = minBy ltP (cw b gs 0) ((iota 1 60).map (cw b gs)) := by
  have h1 := minP_spec (cw b gs 0) (gs.map (cw b gs))
  have h2 := minP_spec (cw b gs 0) ((iota 1 60).map (cw b gs))
  generalize minBy ltP (cw b gs 0) (gs.map (cw b gs)) = m1 at h1
  generalize minBy ltP (cw b gs 0) ((iota 1 60).map (cw b gs)) = m2 at h2
  rw [← List.map_cons] at h1 h2
  obtain ⟨w1, hw1, e1⟩ := List.mem_map.mp h1.1
  obtain ⟨w2, hw2, e2⟩ := List.mem_map.mp h2.1
  have k1 : ∀ w ∈ (0 :: gs), 0 ≤ w ∧ w ≤ 60 := fun w hw => by
    rcases List.mem_cons.mp hw with rfl | hw
    · omega
    · exact hg w hw
  have k2 : ∀ w : Int, 0 ≤ w → w ≤ 60 → w ∈ (0 :: iota 1 60) := fun w ha hb => by
    rcases (by omega : w = 0 ∨ 1 ≤ w) with rfl | h
    · exact List.mem_cons_self
    · exact List.mem_cons_of_mem _ (iota_mem.mpr ⟨h, by omega⟩)
  have k3 : ∀ w ∈ (0 :: iota 1 60), 0 ≤ w ∧ w ≤ 60 := fun w hw => by
    rcases List.mem_cons.mp hw with rfl | hw
    · omega
    · have := iota_mem.mp hw; omega
  obtain ⟨v, hv, hv1, hv2⟩ := dominated b w2 gs (k3 w2 hw2).1
  have a1 := h2.2 (cw b gs w1) (List.mem_map.mpr ⟨w1, k2 w1 (k1 w1 hw1).1 (k1 w1 hw1).2, rfl⟩)
  have a2 := h1.2 (cw b gs v) (List.mem_map.mpr ⟨v, hv, rfl⟩)
  subst e1 e2
  have a1 := of_decide_eq_false a1
  have a2 := of_decide_eq_false a2
  simp only [cw] at a1 a2
  have : w1 = w2 := by omega
  rw [this]
/-- the first gap that is too dear -/
def toldGap (b w p q : Int) (n : Nat) : Option Int := (iota 1 n).find? fun g => decide (p * best b g < q * price b w g)
theorem find_iota {P : Int → Bool} (a : Int) (n : Nat) (x : Int) (h : (iota a n).find? P = some x) : P x = true ∧ a ≤ x ∧ x < a + n ∧ ∀ y, a ≤ y → y < x → P y = false := by
  induction n generalizing a with
  | zero => simp at h
  | succ n ih =>
    rw [iota_cons, List.find?_cons] at h
    cases hp : P a with
    | true =>
      rw [hp] at h
      cases h
      exact ⟨hp, by omega, by omega, fun y h1 h2 => by omega⟩
    | false =>
      rw [hp] at h
      obtain ⟨h1, h2, h3, h4⟩ := ih (a + 1) h
      refine ⟨h1, by omega, by omega, fun y h5 h6 => ?_⟩
      by_cases hy : y = a
      · rw [hy]; exact hp
      · exact h4 y (by omega) h6
theorem find_iota_none {P : Int → Bool} (a : Int) (n : Nat) : (iota a n).find? P = none ↔ ∀ y, a ≤ y → y < a + n → P y = false := by
  rw [List.find?_eq_none]
  constructor
  · intro h y h1 h2
    exact Bool.eq_false_iff.mpr (h y (iota_mem.mpr ⟨h1, h2⟩))
  · intro h y hy
    have := iota_mem.mp hy
    rw [h y this.1 this.2]; simp
theorem find_iota_some {P : Int → Bool} (a : Int) (n : Nat) (x : Int) (h1 : P x = true) (h2 : a ≤ x) (h3 : x < a + n) (h4 : ∀ y, a ≤ y → y < x → P y = false) : (iota a n).find? P = some x := by
  cases h : (iota a n).find? P with
  | none => rw [(find_iota_none a n).mp h x h2 h3] at h1; cases h1
  | some z =>
    obtain ⟨k1, k2, k3, k4⟩ := find_iota a n z h
    rcases (by omega : x = z ∨ x < z ∨ z < x) with e | e | e
    · rw [e]
    · rw [k4 x h2 e] at h1; cases h1
    · rw [h4 z k2 e] at k1; cases k1
/-- the price is dear at g -/
def dear (b w p q g : Int) : Bool := decide (p * best b g < q * price b w g)
/-- dear beyond the wait: dear just beyond -/
theorem dear_far {b w p q g : Int} (hp : 0 ≤ p) (hg : w < g) (hw : 0 ≤ w) (h : dear b w p q g = true) : dear b w p q (w + 1) = true := by
  simp only [dear, decide_eq_true_eq] at h ⊢
  have h1 : price b w (w + 1) = price b w g := by unfold price; rw [if_neg (by omega), if_neg (by omega)]
  have h2 : best b (w + 1) ≤ best b g := by unfold best; split <;> split <;> omega
  have h3 : p * best b (w + 1) ≤ p * best b g := Int.mul_le_mul_of_nonneg_left h2 hp
  rw [h1]; omega
/-- (iii) -/
theorem told_eq (b w p q : Int) (hb : 1 ≤ b) (hw : 0 ≤ w) (hp : 0 ≤ p) : toldGap b w p q (w + 1).toNat = toldGap b w p q (w + b + 4).toNat := by
  show (iota 1 (w + 1).toNat).find? (dear b w p q) = (iota 1 (w + b + 4).toNat).find? (dear b w p q)
  cases h : (iota 1 (w + 1).toNat).find? (dear b w p q) with
  | none =>
    have h := (find_iota_none _ _).mp h
    refine ((find_iota_none _ _).mpr fun y h1 h2 => ?_).symm
    by_cases hy : y ≤ w + 1
    · exact h y h1 (by omega)
    · cases hd : dear b w p q y with
      | false => rfl
      | true =>
        have := dear_far hp (by omega) hw hd
        have h3 := h (w + 1) (by omega) (by omega)
        rw [h3] at this; cases this
  | some x =>
    obtain ⟨k1, k2, k3, k4⟩ := find_iota _ _ _ h
    exact (find_iota_some _ _ _ k1 k2 (by omega) k4).symm
/-- none is dear just when none is dear just beyond the wait (q ≤ p or not) -/
theorem none_iff (b w p q : Int) (hb : 1 ≤ b) (hw : 0 ≤ w) (hp : 0 ≤ p) (hq : 0 ≤ q) : (toldGap b w p q (w + b + 4).toNat = none) ↔ dear b w p q (w + 1) = false := by
  have hh : (toldGap b w p q (w + b + 4).toNat = none) ↔ ∀ y, 1 ≤ y → y < 1 + ((w + b + 4).toNat : Int) → dear b w p q y = false := find_iota_none 1 _
  rw [hh]
  constructor
  · intro h; exact h (w + 1) (by omega) (by omega)
  · intro h y h1 h2
    cases hd : dear b w p q y with
    | false => rfl
    | true =>
      by_cases hy : w < y
      · rw [dear_far hp hy hw hd] at h; cases h
      · -- y ≤ w: p * best y < q * y
        simp only [dear, decide_eq_true_eq, decide_eq_false_iff_not] at hd h
        have e1 : price b w y = y := by unfold price; rw [if_pos (by omega)]
        have e2 : price b w (w + 1) = w + b := by unfold price; rw [if_neg (by omega)]
        rw [e1] at hd
        rw [e2] at h
        exfalso
        have h := Int.not_lt.mp h
        by_cases hyb : b < y
        · have e3 : best b y = b := by unfold best; rw [if_pos hyb]
          have e4 : best b (w + 1) = b := by unfold best; rw [if_pos (by omega)]
          rw [e3] at hd; rw [e4] at h
          have : q * y ≤ q * (w + b) := Int.mul_le_mul_of_nonneg_left (by omega) hq
          omega
        · have e3 : best b y = y := by unfold best; rw [if_neg hyb]
          rw [e3] at hd
          have hpq : p < q := by
            rcases Int.lt_or_le p q with h | h
            · exact h
            · have := Int.mul_le_mul_of_nonneg_right h (show (0:Int) ≤ y by omega); omega
          have h5 : best b (w + 1) ≤ w + 1 := by unfold best; split <;> omega
          have h6 : p * best b (w + 1) ≤ p * (w + 1) := Int.mul_le_mul_of_nonneg_left h5 hp
          have h7 : p * (w + 1) < q * (w + 1) := Int.mul_lt_mul_of_pos_right hpq (by omega)
          have h8 : q * (w + 1) ≤ q * (w + b) := Int.mul_le_mul_of_nonneg_left (by omega) hq
          omega
/-- (iv) -/
theorem low_none (b w p q : Int) (hb : 1 ≤ b) (hw : 0 ≤ w) (hp : 0 ≤ p) (hq : 0 ≤ q) (h : dear b w p q (w + 1) = false) : q * (2 * b - 1) ≤ p * b := by
  simp only [dear, decide_eq_false_iff_not] at h
  have h := Int.not_lt.mp h
  have e2 : price b w (w + 1) = w + b := by unfold price; rw [if_neg (by omega)]
  rw [e2] at h
  by_cases hwb : b < w + 1
  · have e4 : best b (w + 1) = b := by unfold best; rw [if_pos hwb]
    rw [e4] at h
    have : q * (2 * b - 1) ≤ q * (w + b) := Int.mul_le_mul_of_nonneg_left (by omega) hq
    omega
  · have e4 : best b (w + 1) = w + 1 := by unfold best; rw [if_neg hwb]
    rw [e4] at h
    -- q (w+b) ≤ p (w+1), w + 1 ≤ b
    have hqp : q ≤ p := by
      rcases Int.lt_or_le p q with h1 | h1
      · have := Int.mul_lt_mul_of_pos_right h1 (show (0:Int) < w + 1 by omega)
        have := Int.mul_le_mul_of_nonneg_left (show w + 1 ≤ w + b by omega) hq
        omega
      · exact h1
    have h9 := Int.mul_le_mul_of_nonneg_right hqp (show (0:Int) ≤ b - (w + 1) by omega)
    have a1 : q * (w + b) = q * w + q * b := Int.mul_add ..
    have a2 : p * (w + 1) = p * w + p := by rw [Int.mul_add]; omega
    have a3 : q * (2 * b - 1) = 2 * (q * b) - q := by rw [Int.mul_sub, ← Int.mul_assoc, Int.mul_comm q 2, Int.mul_assoc]; omega
    have a4 : q * (b - (w + 1)) = q * b - q * w - q := by rw [Int.mul_sub, Int.mul_add]; omega
    have a5 : p * (b - (w + 1)) = p * b - p * w - p := by rw [Int.mul_sub, Int.mul_add]; omega
    omega
theorem low_some (b p q : Int) (hb : 1 ≤ b) (h : dear b (b - 1) p q (b - 1 + 1) = true) : p * b < q * (2 * b - 1) := by
  simp only [dear, decide_eq_true_eq] at h
  have e2 : price b (b - 1) (b - 1 + 1) = 2 * b - 1 := by unfold price; rw [if_neg (by omega)]; omega
  have e4 : best b (b - 1 + 1) = b := by unfold best; rw [if_neg (by omega)]; omega
  rw [e2, e4] at h
  exact h
end Ev
set_option maxHeartbeats 4000000
namespace Ev
open PySem PySem.Spec PyProof.Rows L2
def oI : Option Int → D
  | some x => .int x
  | none => .non
@[simp] theorem isNon_oI {o : Option Int} : isNon (oI o) = o.isNone := by cases o <;> rfl
@[simp] theorem imm_oI {o : Option Int} : (oI o).imm = true := by cases o <;> rfl
theorem told_oI {n : Nat} {o : Option Int} : told n (oI o) = true := by cases o <;> cases n <;> rfl
section
variable {k : Nat}
theorem s0 (hk : 1 ≤ k) (b w g : Int) : callD defs k 0 [.int b, .int w, .int g] = some (.int (price b w g)) := by
  refine call_at (i := d0) rfl rfl rfl rfl rfl hk fun m hm => ?_
  simp [d0, body0, start0, price]
theorem s11 (hk : 1 ≤ k) (b w g : Int) : callD defs k 11 [.int b, .int w, .int g] = some (.int (price b w g)) := by
  refine call_at (i := d11) rfl rfl rfl rfl rfl hk fun m hm => ?_
  simp [d11, body11, start0, price]
theorem s1 (hk : 1 ≤ k) (b g : Int) : callD defs k 1 [.int b, .int g] = some (.int (best b g)) := by
  refine call_at (i := d1) rfl rfl rfl rfl rfl hk fun m hm => ?_
  simp [d1, body1, start0, best]
theorem s12 (hk : 1 ≤ k) (b g : Int) : callD defs k 12 [.int b, .int g] = some (.int (best b g)) := by
  refine call_at (i := d12) rfl rfl rfl rfl rfl hk fun m hm => ?_
  simp [d12, body12, start0, best]
  split <;> split <;> first | rfl | omega
theorem s2 (hk : 2 ≤ k) (b w : Int) (gs : List Int) : callD defs k 2 [.int b, .int w, .tup (gs.map .int)] = some (.int (cost b gs w)) := by
  refine call_at (i := d2) rfl rfl rfl rfl rfl (by omega) fun m hm => ?_
  simp [d2, body2, start0]
  rw [ev_comp (xs := gs) (e := .int) (g := price b w) (e' := .int)]
  · simp [-List.map_map, cost]
  · simp
  · exact fun x _ => ⟨_, rfl, by simp [wipe, s0 (k := m) (by omega)]⟩
theorem s3 (hk : 2 ≤ k) (b : Int) (gs : List Int) : callD defs k 3 [.int b, .tup (gs.map .int)] = some (.int (gs.map (best b)).sum) := by
  refine call_at (i := d3) rfl rfl rfl rfl rfl (by omega) fun m hm => ?_
  simp [d3, body3, start0]
  rw [ev_comp (xs := gs) (e := .int) (g := best b) (e' := .int)]
  · simp [-List.map_map, cost]
  · simp
  · exact fun x _ => ⟨_, rfl, by simp [wipe, s1 (k := m) (by omega)]⟩
theorem findSome_if (P : Int → Bool) : ∀ xs : List Int, xs.findSome? (fun g => if P g = true then some (D.int g) else none) = (xs.find? P).map .int
  | [] => rfl
  | x :: xs => by
    rw [List.findSome?_cons, List.find?_cons]
    cases P x with
    | true => rfl
    | false => exact findSome_if P xs
/-- a loop that returns the first of some kind, or None after -/
theorem find_loop {C : Oracle} {M : List Nat} {ρ : EnvD} {i : Nat} {b : List S} {xs : List Int} {P : Int → Bool} {Inv : EnvD → Prop} (h : Inv ρ) (hs : ∀ g ∈ xs, ∀ ρ, Inv ρ → ∃ ρ2, xSs C M (ρ.set i (some (.int g))) b = some (if P g then .rt (.int g) else .nx, ρ2) ∧ (P g = false → Inv ρ2)) :
    retOf ((forD (.nm i) (fun ρ => xSs C M ρ b) (xs.map .int) ρ).bind (andThen C M [.ret (.cst .non)])) = some (oI (xs.find? P)) := by
  have hf := forD_find (t := .nm i) (e := D.int) (body := fun ρ => xSs C M ρ b) (F := fun g => if P g = true then some (.int g) else none) (Inv := Inv) xs ρ h (fun g hg ρ hi => by
    obtain ⟨ρ2, h1, h2⟩ := hs g hg ρ hi
    refine ⟨_, rfl, ?_⟩
    cases hp : P g with
    | true =>
      rw [hp] at h1
      exact .inr ⟨_, ρ2, h1, rfl⟩
    | false =>
      rw [hp] at h1
      exact .inl ⟨ρ2, h1, h2 hp, rfl⟩)
  rw [findSome_if] at hf
  rcases hf with ⟨d, ρ', h1, h2⟩ | ⟨ρ', h1, h2, h3⟩
  · rw [h2]
    cases ho : xs.find? P with
    | none => rw [ho] at h1; cases h1
    | some z => rw [ho] at h1; cases h1; rfl
  · rw [h2]
    cases ho : xs.find? P with
    | none => simp [oI]
    | some z => rw [ho] at h1; cases h1
theorem s4 (hk : 2 ≤ k) (b w p q : Int) (hw : 0 ≤ w) (hw2 : w ≤ 60) (hp : 0 ≤ p) (hp2 : p < 1000000) (hq : 0 ≤ q) (hq2 : q < 1000000) : callD defs k 4 [.int b, .int w, .int p, .int q] = some (oI (toldGap b w p q (w + 1).toNat)) := by
  refine call_at (i := d4) (ρ := [some (.int b), some (.int w), some (.int p), some (.int q), none]) (b := body4) rfl rfl rfl rfl rfl (by omega) fun m hm => ?_
  show retOf (xSs (callD defs m) [] _ body4) = _
  unfold body4
  rw [evSs_cons, for_rng2 (a := 1) (c := w + 2) (by simp) (by omega) (by omega) (by omega) (by omega) (by omega)]
  rw [find_loop (Inv := fun ρ => ∃ x, ρ = [some (.int b), some (.int w), some (.int p), some (.int q), x]) (P := dear b w p q) ⟨none, rfl⟩]
  · rw [show (w + 2 - 1).toNat = (w + 1).toNat by omega]; rfl
  · rintro g hg _ ⟨x, rfl⟩
    refine ⟨[some (.int b), some (.int w), some (.int p), some (.int q), some (.int g)], ?_, fun _ => ⟨_, rfl⟩⟩
    have m1 : ∀ z, mulD (.int q) (.int z) = some (.int (q * z)) := fun z => mul_l (by omega) (by omega)
    have m2 : ∀ z, mulD (.int p) (.int z) = some (.int (p * z)) := fun z => mul_l (by omega) (by omega)
    by_cases hd : p * best b g < q * price b w g
    · simp [b4_1, m1, m2, s0 (k := m) (by omega), s1 (k := m) (by omega), hd, dear]
    · simp [b4_1, m1, m2, s0 (k := m) (by omega), s1 (k := m) (by omega), hd, dear]
theorem s13 (hk : 2 ≤ k) (b w p q : Int) (hb : 1 ≤ b) (hb2 : b ≤ 60) (hw : 0 ≤ w) (hw2 : w ≤ 60) (hp : 0 ≤ p) (hp2 : p < 1000000) (hq : 0 ≤ q) (hq2 : q < 1000000) : callD defs k 13 [.int b, .int w, .int p, .int q] = some (oI (toldGap b w p q (w + b + 4).toNat)) := by
  refine call_at (i := d13) (ρ := [some (.int b), some (.int w), some (.int p), some (.int q), none]) (b := body13) rfl rfl rfl rfl rfl (by omega) fun m hm => ?_
  show retOf (xSs (callD defs m) [] _ body13) = _
  unfold body13
  rw [evSs_cons, for_rng2 (a := 1) (c := w + b + 5) (by simp) (by omega) (by omega) (by omega) (by omega) (by omega)]
  rw [find_loop (Inv := fun ρ => ∃ x, ρ = [some (.int b), some (.int w), some (.int p), some (.int q), x]) (P := dear b w p q) ⟨none, rfl⟩]
  · rw [show (w + b + 5 - 1).toNat = (w + b + 4).toNat by omega]; rfl
  · rintro g hg _ ⟨x, rfl⟩
    refine ⟨[some (.int b), some (.int w), some (.int p), some (.int q), some (.int g)], ?_, fun _ => ⟨_, rfl⟩⟩
    have m1 : ∀ z, mulD (.int q) (.int z) = some (.int (q * z)) := fun z => mul_l (by omega) (by omega)
    have m2 : ∀ z, mulD (.int p) (.int z) = some (.int (p * z)) := fun z => mul_l (by omega) (by omega)
    by_cases hd : p * best b g < q * price b w g
    · simp [b13_1, m1, m2, s11 (k := m) (by omega), s12 (k := m) (by omega), hd, dear]
    · simp [b13_1, m1, m2, s11 (k := m) (by omega), s12 (k := m) (by omega), hd, dear]
theorem s5 (hk : 3 ≤ k) (b w p q : Int) (hw : 0 ≤ w) (hw2 : w ≤ 60) (hp : 0 ≤ p) (hp2 : p < 1000000) (hq : 0 ≤ q) (hq2 : q < 1000000) : callD defs k 5 [.int b, .int w, .int p, .int q] = some (.bl (toldGap b w p q (w + 1).toNat).isNone) := by
  refine call_at (i := d5) rfl rfl rfl rfl rfl (by omega) fun m hm => ?_
  simp [d5, body5, start0, s4 (k := m) (by omega) b w p q hw hw2 hp hp2 hq hq2]
theorem s6 (hk : 3 ≤ k) (b : Int) (gs : List Int) (hl : gs.length ≤ 14) : callD defs k 6 [.int b, .tup (gs.map .int)] = some (.int (minBy ltP (cw b gs 0) (gs.map (cw b gs))).2) := by
  refine call_at (i := d6) rfl rfl rfl rfl rfl (by omega) fun m hm => ?_
  simp [d6, body6, start0]
  rw [ev_comp (xs := 0 :: gs) (e := .int) (g := cw b gs) (e' := eP)]
  · rw [List.map_cons]
    simp only [Option.bind_some, bfD_1]
    rw [min_uni uniP ltP_ok]
    generalize minBy ltP (cw b gs 0) (gs.map (cw b gs)) = z
    simp [eP, atI_pos]
  · simp [lineOk_small]
    rw [add_tup (by simp; omega)]; rfl
  · exact fun x _ => ⟨_, rfl, by simp [wipe, s2 (k := m) (by omega), lineOk_small, eP, cw]⟩
end
end Ev
set_option maxHeartbeats 4000000
namespace Ev
open PySem PySem.Spec PyProof.Rows L2
section
variable {m : Nat}
theorem is_I (hm : 2 ≤ m) (i : Int) : callD defs m 10 [.int i, .int i] = some (.bl true) := is_ok (g := 9) rfl rfl 0 _ _ rfl hm
theorem is_B (hm : 2 ≤ m) (i : Bool) : callD defs m 10 [.bl i, .bl i] = some (.bl true) := is_ok (g := 9) rfl rfl 0 _ _ rfl hm
theorem is_O (hm : 2 ≤ m) (i : Option Int) : callD defs m 10 [oI i, oI i] = some (.bl true) := is_ok (g := 9) rfl rfl 0 _ _ told_oI hm

theorem inner (hm : 4 ≤ m) (ns ds : List Int) (b w p q : Int) (hb : 1 ≤ b) (hb2 : b ≤ 60) (hw : 0 ≤ w) (hw2 : w ≤ 60) (hp : 0 ≤ p) (hp2 : p < 1000000) (hq : 0 ≤ q) (hq2 : q < 1000000)
    (x2 x3 x5 x6 x7 x9 x10 x11 x12 x13 x14 x15 x18 x19 x20 : Option D) : ∃ y18 y19, xSs (callD defs m) [7] [some (.scr ns), some (.lst (ds.map .int)), x2, x3, some (.int b), x5, x6, x7, some (.int w), x9, x10, x11, x12, x13, x14, x15, some (.int p), some (.int q), x18, x19, x20] b14_1 = some (.nx, [some (.scr ns), some (.lst (ds.map .int)), x2, x3, some (.int b), x5, x6, x7, some (.int w), x9, x10, x11, x12, x13, x14, x15, some (.int p), some (.int q), y18, y19, x20]) := by
  have h1 := s13 (k := m) (by omega) b w p q hb hb2 hw hw2 hp hp2 hq hq2
  have h2 := s4 (k := m) (by omega) b w p q hw hw2 hp hp2 hq hq2
  have h3 := s5 (k := m) (by omega) b w p q hw hw2 hp hp2 hq hq2
  rw [told_eq b w p q hb hw hp] at h2 h3
  have h4 := none_iff b w p q hb hw hp hq
  have h5 := low_none b w p q hb hw hp hq
  have h6 : w = b - 1 → dear b w p q (w + 1) = true → p * b < q * (2 * b - 1) := fun e h => by subst e; exact low_some b p q hb h
  have m1 : ∀ z, mulD (.int q) (.int z) = some (.int (q * z)) := fun z => mul_l (by omega) (by omega)
  have m2 : ∀ z, mulD (.int p) (.int z) = some (.int (p * z)) := fun z => mul_l (by omega) (by omega)
  have m3 : mulD (.int 2) (.int b) = some (.int (2 * b)) := mul_l (by omega) (by omega)
  generalize toldGap b w p q (w + b + 4).toNat = o at h1 h2 h3 h4
  cases o with
  | none =>
    have hd := h4.mp rfl
    have hl := h5 hd
    have hd := of_decide_eq_false hd
    have hl : ¬ p * b < q * (2 * b - 1) := by omega
    refine ⟨some (oI none), some (.bl (decide (p * b < q * (2 * b - 1)))), ?_⟩
    simp [b14_1, h1, h2, h3, is_I (m := m) (by omega), is_B (m := m) (by omega), is_O (m := m) (by omega), m1, m2, m3, bindOK, freeT, Tg.slots, bindT, hl, hd, s11 (k := m) (by omega), s12 (k := m) (by omega)]
  | some g =>
    have hd : dear b w p q (w + 1) = true := by
      cases h : dear b w p q (w + 1) with
      | true => rfl
      | false => cases h4.mpr h
    have hl : w = b - 1 → p * b < q * (2 * b - 1) := fun e => h6 e hd
    have hd : p * best b (w + 1) < q * price b w (w + 1) := of_decide_eq_true hd
    refine ⟨some (oI (some g)), some (.bl (decide (p * b < q * (2 * b - 1)))), ?_⟩
    by_cases hl2 : p * b < q * (2 * b - 1)
    · simp [b14_1, h1, h2, h3, is_I (m := m) (by omega), is_B (m := m) (by omega), is_O (m := m) (by omega), m1, m2, m3, bindOK, freeT, Tg.slots, bindT, hl2, hd, s11 (k := m) (by omega), s12 (k := m) (by omega)]
    · have hw3 : w ≠ b - 1 := fun e => hl2 (hl e)
      simp [b14_1, h1, h2, h3, is_I (m := m) (by omega), is_B (m := m) (by omega), is_O (m := m) (by omega), m1, m2, m3, bindOK, freeT, Tg.slots, bindT, hl2, hd, s11 (k := m) (by omega), s12 (k := m) (by omega), hw3]

theorem turn (hm : 4 ≤ m) (ns ds gs : List Int) (ts : List (Int × Int)) (mn : Int × Int) (b t : Int) (hd : Draws 60 ds) (hb : 1 ≤ b) (hb2 : b ≤ 60) (hg : ∀ g ∈ gs, 0 ≤ g ∧ g ≤ 60) (ht : 0 ≤ t) (ht2 : t < 6)
    (hmn : bf1 .min (.lst (ts.map eP)) = some (eP mn)) (hmn1 : 0 ≤ mn.2) (hmn2 : mn.2 ≤ 60) (x2 x3 x5 x8 x11 x12 x13 x14 x15 x16 x17 x18 x19 x20 : Option D) : ∃ y8 y11 y12 y13 y14 y15 y16 y17 y18 y19, xSs (callD defs m) [7] [some (.scr ns), some (.lst (ds.map .int)), x2, x3, some (.int b), x5, some (.tup (gs.map .int)), some (.lst (ts.map eP)), x8, some (.int (gs.map (best b)).sum), some (.int t), x11, x12, x13, x14, x15, x16, x17, x18, x19, x20] b14_2 = some (.nx, [some (.scr ns), some (.lst (ds.map .int)), x2, x3, some (.int b), x5, some (.tup (gs.map .int)), some (.lst (ts.map eP)), y8, some (.int (gs.map (best b)).sum), some (.int t), y11, y12, y13, y14, y15, y16, y17, y18, y19, x20]) := by
  obtain ⟨es, hes, hdes⟩ := draws_cut hd (lo := 12 + 8 * t.toNat) (hi := 20 + 8 * t.toNat) (a := some (12 + 8 * t)) (b := some (20 + 8 * t)) (by omega) (by omega) (by unfold HT.sIx; simp only []; split <;> omega) (by unfold HT.sIx; simp only []; split <;> omega)
  rw [show 20 + 8 * t.toNat - (12 + 8 * t.toNat) = 8 by omega] at hdes
  obtain ⟨v0, h0, h0a, h0b⟩ := draw_at hdes (i := 0) (by omega) (by omega)
  obtain ⟨v1, h1, h1a, h1b⟩ := draw_at hdes (i := 1) (by omega) (by omega)
  obtain ⟨v2, h2, h2a, h2b⟩ := draw_at hdes (i := 2) (by omega) (by omega)
  obtain ⟨v3, h3, h3a, h3b⟩ := draw_at hdes (i := 3) (by omega) (by omega)
  obtain ⟨v4, h4, h4a, h4b⟩ := draw_at hdes (i := 4) (by omega) (by omega)
  obtain ⟨v5, h5, h5a, h5b⟩ := draw_at hdes (i := 5) (by omega) (by omega)
  have m8 : mulD (.int 8) (.int t) = some (.int (8 * t)) := mul_l (by omega) (by omega)
  obtain ⟨w, hw, hw1, hw2⟩ : ∃ w : Int, (if t = 0 then D.int (b - 1) else if t = 1 then .int (if b < 60 then b else 60) else if t = 2 then .int (v0 % 61) else if t = 3 then .int (v0 % b) else if t = 4 then .int 0 else .int mn.2) = .int w ∧ 0 ≤ w ∧ w ≤ 60 := by
    have hv := Int.emod_nonneg v0 (show b ≠ 0 by omega)
    have hv2 := Int.emod_lt_of_pos v0 (show 0 < b by omega)
    repeat' split
    all_goals exact ⟨_, rfl, by omega, by omega⟩
  have mb : ∀ z, mulD (.int 2) (.int z) = some (.int (2 * z)) := fun z => mul_l (by omega) (by omega)
  have mb8 : ∀ z, mulD (.int 8) (.int z) = some (.int (8 * z)) := fun z => mul_l (by omega) (by omega)
  have hcost := cost_best b w gs hw1 hb (fun g h => (hg g h).1)
  unfold b14_2
  rw [step_asg (d := .lst (es.map .int))]
  rotate_left
  · simp [m8, hes]
  · simp [bindOK, freeT, Tg.slots, clean, E.uses, usesL, usesO, fr, imms_int]
  rw [step_asg (d := .int w)]
  rotate_left
  · simp [h0, mod_ii, hmn, eP, atI_pos, pick6 ht ht2, hw, lineOk_small, show (0:Int) < b by omega, -ite_int]
  · simp [bindOK, freeT, Tg.slots, clean, E.uses, usesL, usesO, fr, imms_int]
  rw [step_asg (d := .int (cost b gs w))]
  rotate_left
  · simp
    rw [ev_comp (xs := gs) (e := .int) (g := price b w) (e' := .int)]
    · simp [-List.map_map, cost]
    · simp
    · exact fun x _ => ⟨_, rfl, by simp [wipe, s11 (k := m) (by omega)]⟩
  · simp [bindOK, freeT, Tg.slots, clean, E.uses, usesL, usesO, fr, imms_int]
  rw [step_no (d := .bl false)]
  rotate_left
  · simp [s2 (k := m) (by omega), is_I (m := m) (by omega)]
    omega
  · simp
  obtain ⟨u1, hu1, hu1a, hu1b⟩ : ∃ u : Int, (if b < w + 1 then b else w + 1) = u ∧ 1 ≤ u ∧ u ≤ 60 := ⟨_, rfl, by split <;> omega, by split <;> omega⟩
  rw [step_asg (d := .tup [.int (w + b), .int u1])]
  rotate_left
  · simp [lineOk_small, hu1]
  · simp [bindOK, freeT, Tg.slots, clean, E.uses, usesL, usesO, fr, imms_int]
  rw [step_asg (d := .tup [.int (w + b + v1 % 3 - 1), .int u1])]
  rotate_left
  · simp [lineOk_small, h1, mod_ii, atI_pos]
  · simp [bindOK, freeT, Tg.slots, clean, E.uses, usesL, usesO, fr, imms_int]
  rw [step_asg (d := .lst ([(2 * b - 1, b), (if w + b + v1 % 3 - 1 > 1 then w + b + v1 % 3 - 1 else 1, u1), (1 + v2 % 1000, 1 + v3 % 1000)].map eP))]
  rotate_left
  · simp [lineOk_small, h2, h3, mod_ii, atI_pos, mb, eP]
  · simp [bindOK, freeT, Tg.slots, clean, E.uses, usesL, usesO, fr, imms_int, eP]
  simp only [List.set_cons_succ, List.set_cons_zero]
  generalize hu2 : (if w + b + v1 % 3 - 1 > 1 then w + b + v1 % 3 - 1 else 1) = u2
  have hu2a : 1 ≤ u2 ∧ u2 ≤ 200 := by subst hu2; split <;> omega
  have hfor := forD_inv (t := .tup [16, 17]) (body := fun ρ => xSs (callD defs m) [7] ρ b14_1) (e := eP) (Inv := fun ρ => ∃ y16 y17 y18 y19, ρ = [some (.scr ns), some (.lst (ds.map .int)), x2, x3, some (.int b), x5, some (.tup (gs.map .int)), some (.lst (ts.map eP)), some (.int w), some (.int (gs.map (best b)).sum), some (.int t), some (.lst (es.map .int)), some (.int (cost b gs w)), some (.tup [.int (w + b), .int u1]), some (.tup [.int (w + b + v1 % 3 - 1), .int u1]), some (.lst ([(2 * b - 1, b), (u2, u1), (1 + v2 % 1000, 1 + v3 % 1000)].map eP)), y16, y17, y18, y19, x20]) [(2 * b - 1, b), (u2, u1), (1 + v2 % 1000, 1 + v3 % 1000), (1 + v4 % 9, 1 + v5 % 4), (8 * (w + b) - 1, 8 * u1)] _ ⟨x16, x17, x18, x19, rfl⟩ (fun x hx ρ hi => by
    obtain ⟨y16, y17, y18, y19, rfl⟩ := hi
    obtain ⟨p, q⟩ := x
    have hpq : 0 ≤ p ∧ p < 1000000 ∧ 0 ≤ q ∧ q < 1000000 := by
      simp only [List.mem_cons, Prod.mk.injEq, List.not_mem_nil, or_false] at hx
      rcases hx with hx | hx | hx | hx | hx <;> (obtain ⟨rfl, rfl⟩ := hx; omega)
    obtain ⟨z18, z19, hz⟩ := inner hm ns ds b w p q hb hb2 hw1 hw2 hpq.1 hpq.2.1 hpq.2.2.1 hpq.2.2.2 x2 x3 x5 (some (.tup (gs.map .int))) (some (.lst (ts.map eP))) (some (.int (gs.map (best b)).sum)) (some (.int t)) (some (.lst (es.map .int))) (some (.int (cost b gs w))) (some (.tup [.int (w + b), .int u1])) (some (.tup [.int (w + b + v1 % 3 - 1), .int u1])) (some (.lst ([(2 * b - 1, b), (u2, u1), (1 + v2 % 1000, 1 + v3 % 1000)].map eP))) y18 y19 x20
    exact ⟨_, _, rfl, hz, _, _, _, _, rfl⟩)
  obtain ⟨ρ', hf, y16, y17, y18, y19, rfl⟩ := hfor
  rw [evSs_cons, ev_for (xs := [(2 * b - 1, b), (u2, u1), (1 + v2 % 1000, 1 + v3 % 1000), (1 + v4 % 9, 1 + v5 % 4), (8 * (w + b) - 1, 8 * u1)].map eP)]
  · rw [hf]
    refine ⟨some (.int w), some (.lst (es.map .int)), some (.int (cost b gs w)), some (.tup [.int (w + b), .int u1]), some (.tup [.int (w + b + v1 % 3 - 1), .int u1]), some (.lst ([(2 * b - 1, b), (u2, u1), (1 + v2 % 1000, 1 + v3 % 1000)].map eP)), y16, y17, y18, y19, ?_⟩
    simp
  · refine ev_seq (d := .lst ([(2 * b - 1, b), (u2, u1), (1 + v2 % 1000, 1 + v3 % 1000), (1 + v4 % 9, 1 + v5 % 4), (8 * (w + b) - 1, 8 * u1)].map eP)) ?_ (by simp)
    simp [lineOk_small, h4, h5, mod_ii, atI_pos, mb8, eP, add_lst]
  · exact forOK_clean (imms_map (fun _ => rfl) _) (by rfl)

theorem round (hm : 4 ≤ m) (ns ds : List Int) (hd : Draws 60 ds) (k : Int) (hk0 : 0 ≤ k) (hk2 : k < 3) (x3 x4 x5 x6 x7 x8 x9 x10 x11 x12 x13 x14 x15 x16 x17 x18 x19 x20 : Option D) : ∃ y3 y4 y5 y6 y7 y8 y9 y10 y11 y12 y13 y14 y15 y16 y17 y18 y19 y20, xSs (callD defs m) [7] [some (.scr ns), some (.lst (ds.map .int)), some (.int k), x3, x4, x5, x6, x7, x8, x9, x10, x11, x12, x13, x14, x15, x16, x17, x18, x19, x20] b14_4 = some (.nx, [some (.scr ns), some (.lst (ds.map .int)), some (.int k), y3, y4, y5, y6, y7, y8, y9, y10, y11, y12, y13, y14, y15, y16, y17, y18, y19, y20]) := by
  obtain ⟨c, hc⟩ := cell_ok (defs := defs) (f := 7) (k := m) rfl (by omega) ns (1 + k) (by omega) (by omega)
  obtain ⟨ps, hps, hp⟩ := draws_ok (defs := defs) (f := 8) (k := m) rfl (by omega) c 14 (by omega) (by omega)
  obtain ⟨v0, h0, h0a, h0b⟩ := draw_at hd (i := k) (by omega) (by omega)
  obtain ⟨v3, h3, h3a, h3b⟩ := draw_at hd (i := 3 + k) (by omega) (by omega)
  obtain ⟨v6, h6, h6a, h6b⟩ := draw_at hd (i := 6 + k) (by omega) (by omega)
  obtain ⟨v9, h9, h9a, h9b⟩ := draw_at hd (i := 9 + k) (by omega) (by omega)
  have hps : Draws 14 ps := hps
  obtain ⟨u, hu, hu1, hu2⟩ : ∃ u : Int, (if v3 % 3 = 0 then D.int 6 else if v3 % 3 = 1 then .int 60 else .int 15) = .int u ∧ 1 ≤ u ∧ u ≤ 60 := by
    repeat' split
    all_goals exact ⟨_, rfl, by omega, by omega⟩
  have q1 := Int.emod_nonneg v0 (show u ≠ 0 by omega)
  have q2 := Int.emod_lt_of_pos v0 (show 0 < u by omega)
  generalize hb : 1 + v0 % u = b
  have hb1 : 1 ≤ b := by omega
  have hb2 : b ≤ 60 := by omega
  obtain ⟨wide, hw, hw1⟩ : ∃ u : Int, (if v6 % 3 = 0 then D.int (2 * b) else if v6 % 3 = 1 then .int (b + 3) else .int 60) = .int u ∧ 1 ≤ u := by
    repeat' split
    all_goals exact ⟨_, rfl, by omega⟩
  obtain ⟨l, hl, hl1, hl2⟩ : ∃ u : Int, (if v9 % 5 = 0 then D.int 6 else if v9 % 5 = 1 then .int 14 else if v9 % 5 = 2 then .int 2 else if v9 % 5 = 3 then .int 0 else .int 1) = .int u ∧ 0 ≤ u ∧ u ≤ 14 := by
    repeat' split
    all_goals exact ⟨_, rfl, by omega, by omega⟩
  have mb : ∀ z, mulD (.int 2) (.int z) = some (.int (2 * z)) := fun z => mul_l (by omega) (by omega)
  obtain ⟨qs, hqs, hq⟩ := draws_cut hps (lo := 0) (hi := l.toNat) (a := none) (b := some l) (by omega) (by omega) rfl (by unfold HT.sIx; simp only []; split <;> omega)
  -- the gaps
  generalize hgs : qs.map (fun draw => if 1 + draw % wide < 60 then 1 + draw % wide else 60) = gs
  have hg : ∀ g ∈ gs, 0 ≤ g ∧ g ≤ 60 := fun g h => by
    subst hgs
    obtain ⟨x, hx, rfl⟩ := List.mem_map.mp h
    have := Int.emod_nonneg x (show wide ≠ 0 by omega)
    split <;> omega
  have hgl : gs.length ≤ 14 := by
    subst hgs; rw [List.length_map, hq.1]; omega
  unfold b14_4
  rw [step_asg (d := .lst (ps.map .int))]
  rotate_left
  · simp [hc, hp]
  · rfl
  rw [step_asg (d := .int b)]
  rotate_left
  · have : (0:Int) < u := by omega
    simp [h0, h3, mod_ii, pick3, hu, lineOk_small, -ite_int, this, hb, Int.emod_nonneg, Int.emod_lt_of_pos]
  · rfl
  rw [step_asg (d := .int wide)]
  rotate_left
  · simp [h6, mod_ii, pick3, hw, lineOk_small, -ite_int, mb, Int.emod_nonneg, Int.emod_lt_of_pos]
  · rfl
  rw [step_asg (d := .tup (gs.map .int))]
  rotate_left
  · simp
    rw [ev_comp (xs := qs) (e := .int) (g := fun draw => if 1 + draw % wide < 60 then 1 + draw % wide else 60) (e' := .int)]
    · rw [hgs]; simp
    · simp [h9, mod_ii, pick5, hl, lineOk_small, -ite_int, Int.emod_nonneg, Int.emod_lt_of_pos, hqs]
    · exact fun x _ => ⟨_, rfl, by simp [wipe, mod_ii, show (0:Int) < wide by omega]⟩
  · simp [bindOK, freeT, Tg.slots, clean, E.uses, usesL, usesO, fr, imms_int]
  rw [step_asg (d := .lst [])]
  rotate_left
  · simp [lineOk_small]
  · rfl
  simp only [List.set_cons_succ, List.set_cons_zero]
  -- the list of prices
  have hfor := forD_app (N := 61) (t := .nm 8) (body := fun ρ => xSs (callD defs m) [7] ρ b14_3) (e := D.int) (g := cw b gs) (Inv := fun ts ρ => ∃ y8, ρ = [some (.scr ns), some (.lst (ds.map .int)), some (.int k), some (.lst (ps.map .int)), some (.int b), some (.int wide), some (.tup (gs.map .int)), some (.lst (ts.map eP)), y8, x9, x10, x11, x12, x13, x14, x15, x16, x17, x18, x19, x20]) (iota 0 61) [] [some (.scr ns), some (.lst (ds.map .int)), some (.int k), some (.lst (ps.map .int)), some (.int b), some (.int wide), some (.tup (gs.map .int)), some (.lst []), x8, x9, x10, x11, x12, x13, x14, x15, x16, x17, x18, x19, x20] ⟨x8, rfl⟩ (by simp) (fun x hx ts ρ hl hi => by
    obtain ⟨y8, rfl⟩ := hi
    refine ⟨_, [some (.scr ns), some (.lst (ds.map .int)), some (.int k), some (.lst (ps.map .int)), some (.int b), some (.int wide), some (.tup (gs.map .int)), some (.lst ((ts ++ [cw b gs x]).map eP)), some (.int x), x9, x10, x11, x12, x13, x14, x15, x16, x17, x18, x19, x20], rfl, ?_, ⟨_, rfl⟩⟩
    unfold b14_3
    simp
    rw [ev_comp (xs := gs) (e := .int) (g := price b x) (e' := .int)]
    · simp [-List.map_map, cost, cw, eP, lineOk_small, lt_size, show ts.length < 16777216 by omega]
    · simp
    · exact fun x _ => ⟨_, rfl, by simp [wipe, s11 (k := m) (by omega)]⟩)
  obtain ⟨ρ', hf, y8, rfl⟩ := hfor
  rw [step (ρ' := [some (.scr ns), some (.lst (ds.map .int)), some (.int k), some (.lst (ps.map .int)), some (.int b), some (.int wide), some (.tup (gs.map .int)), some (.lst (([] ++ (iota 0 61).map (cw b gs)).map eP)), y8, x9, x10, x11, x12, x13, x14, x15, x16, x17, x18, x19, x20])]
  rotate_left
  · rw [for_rng1 (n := 61) (by simp) (by omega) (by omega)]; exact hf
  have hcw : [] ++ (iota 0 61).map (cw b gs) = cw b gs 0 :: (iota 1 60).map (cw b gs) := by
    rw [show (61 : Nat) = 60 + 1 from rfl, iota_cons]; rfl
  rw [hcw]
  have hmin := min_uni uniP ltP_ok (cw b gs 0) ((iota 1 60).map (cw b gs))
  have hbw := best_wait_eq b gs hg
  have hs6 := s6 (k := m) (by omega) b gs hgl
  rw [hbw] at hs6
  have hms := minP_spec (cw b gs 0) ((iota 1 60).map (cw b gs))
  generalize minBy ltP (cw b gs 0) ((iota 1 60).map (cw b gs)) = mn at hmin hs6 hms
  have hmn : 0 ≤ mn.2 ∧ mn.2 ≤ 60 := by
    rcases List.mem_cons.mp hms.1 with h | h
    · rw [h]; exact ⟨by show (0:Int) ≤ 0; omega, by show (0:Int) ≤ 60; omega⟩
    · obtain ⟨x, hx, rfl⟩ := List.mem_map.mp h
      have := iota_mem.mp hx
      exact ⟨by show 0 ≤ x; omega, by show x ≤ 60; omega⟩
  generalize cw b gs 0 :: (iota 1 60).map (cw b gs) = ts at hmin
  rw [step_no (d := .bl false)]
  rotate_left
  · simp [hs6, hmin, eP, atI_pos, is_I (m := m) (by omega)]
  · simp
  rw [step_asg (d := .int (gs.map (best b)).sum)]
  rotate_left
  · simp
    rw [ev_comp (xs := gs) (e := .int) (g := best b) (e' := .int)]
    · simp [-List.map_map]
    · simp
    · exact fun x _ => ⟨_, rfl, by simp [wipe, s12 (k := m) (by omega)]⟩
  · rfl
  rw [step_no (d := .bl false)]
  rotate_left
  · simp [s3 (k := m) (by omega), is_I (m := m) (by omega)]
  · simp
  simp only [List.set_cons_succ, List.set_cons_zero]
  have hfor := forD_inv (t := .nm 10) (body := fun ρ => xSs (callD defs m) [7] ρ b14_2) (e := D.int) (Inv := fun ρ => ∃ y8 y10 y11 y12 y13 y14 y15 y16 y17 y18 y19, ρ = [some (.scr ns), some (.lst (ds.map .int)), some (.int k), some (.lst (ps.map .int)), some (.int b), some (.int wide), some (.tup (gs.map .int)), some (.lst (ts.map eP)), y8, some (.int (gs.map (best b)).sum), y10, y11, y12, y13, y14, y15, y16, y17, y18, y19, x20]) (iota 0 6) [some (.scr ns), some (.lst (ds.map .int)), some (.int k), some (.lst (ps.map .int)), some (.int b), some (.int wide), some (.tup (gs.map .int)), some (.lst (ts.map eP)), y8, some (.int (gs.map (best b)).sum), x10, x11, x12, x13, x14, x15, x16, x17, x18, x19, x20] ⟨y8, x10, x11, x12, x13, x14, x15, x16, x17, x18, x19, rfl⟩ (fun t ht ρ hi => by
    obtain ⟨y8, y10, y11, y12, y13, y14, y15, y16, y17, y18, y19, rfl⟩ := hi
    have htt := iota_mem.mp ht
    obtain ⟨z8, z11, z12, z13, z14, z15, z16, z17, z18, z19, hz⟩ := turn hm ns ds gs ts mn b t hd hb1 hb2 hg htt.1 (by omega) hmin hmn.1 hmn.2 (some (.int k)) (some (.lst (ps.map .int))) (some (.int wide)) y8 y11 y12 y13 y14 y15 y16 y17 y18 y19 x20
    exact ⟨_, _, rfl, hz, _, _, _, _, _, _, _, _, _, _, _, rfl⟩)
  obtain ⟨ρ', hf, y8, y10, y11, y12, y13, y14, y15, y16, y17, y18, y19, rfl⟩ := hfor
  rw [step (ρ' := [some (.scr ns), some (.lst (ds.map .int)), some (.int k), some (.lst (ps.map .int)), some (.int b), some (.int wide), some (.tup (gs.map .int)), some (.lst (ts.map eP)), y8, some (.int (gs.map (best b)).sum), y10, y11, y12, y13, y14, y15, y16, y17, y18, y19, x20])]
  rotate_left
  · rw [for_rng1 (n := 6) (by simp) (by omega) (by omega)]; exact hf
  rw [evSs_nil]
  exact ⟨_, _, _, _, _, _, _, _, _, _, _, _, _, _, _, _, _, _, rfl⟩

theorem law_ok (hm : 6 ≤ m) (ns : List Int) : callD defs m 14 [.scr ns] = some (.bl true) := by
  refine call_at (i := d14) (ρ := [some (.scr ns), none, none, none, none, none, none, none, none, none, none, none, none, none, none, none, none, none, none, none, none]) (b := body14) rfl rfl rfl rfl rfl (by omega) fun m hm' => ?_
  show retOf (xSs (callD defs m) [7] _ body14) = _
  have hm : 5 ≤ m := by omega
  obtain ⟨c, hc⟩ := cell_ok (defs := defs) (f := 7) (k := m) rfl (by omega) ns 0 (by omega) (by omega)
  obtain ⟨ds, hd, hds⟩ := draws_ok (defs := defs) (f := 8) (k := m) rfl (by omega) c 60 (by omega) (by omega)
  have hd : Draws 60 ds := hd
  unfold body14
  rw [step_asg (d := .lst (ds.map .int))]
  rotate_left
  · simp [hc, hds]
  · rfl
  simp only [List.set_cons_succ, List.set_cons_zero]
  have hfor := forD_inv (t := .nm 2) (body := fun ρ => xSs (callD defs m) [7] ρ b14_4) (e := D.int) (Inv := fun ρ => ∃ y2 y3 y4 y5 y6 y7 y8 y9 y10 y11 y12 y13 y14 y15 y16 y17 y18 y19 y20, ρ = [some (.scr ns), some (.lst (ds.map .int)), y2, y3, y4, y5, y6, y7, y8, y9, y10, y11, y12, y13, y14, y15, y16, y17, y18, y19, y20]) (iota 0 3) [some (.scr ns), some (.lst (ds.map .int)), none, none, none, none, none, none, none, none, none, none, none, none, none, none, none, none, none, none, none] ⟨none, none, none, none, none, none, none, none, none, none, none, none, none, none, none, none, none, none, none, rfl⟩ (fun t ht ρ hi => by
    obtain ⟨y2, y3, y4, y5, y6, y7, y8, y9, y10, y11, y12, y13, y14, y15, y16, y17, y18, y19, y20, rfl⟩ := hi
    have htt := iota_mem.mp ht
    obtain ⟨z3, z4, z5, z6, z7, z8, z9, z10, z11, z12, z13, z14, z15, z16, z17, z18, z19, z20, hz⟩ := round (m := m) (by omega) ns ds hd t htt.1 (by omega) y3 y4 y5 y6 y7 y8 y9 y10 y11 y12 y13 y14 y15 y16 y17 y18 y19 y20
    exact ⟨_, _, rfl, hz, _, _, _, _, _, _, _, _, _, _, _, _, _, _, _, _, _, _, _, rfl⟩)
  obtain ⟨ρ', hf, y2, y3, y4, y5, y6, y7, y8, y9, y10, y11, y12, y13, y14, y15, y16, y17, y18, y19, y20, rfl⟩ := hfor
  rw [step (ρ' := [some (.scr ns), some (.lst (ds.map .int)), y2, y3, y4, y5, y6, y7, y8, y9, y10, y11, y12, y13, y14, y15, y16, y17, y18, y19, y20])]
  rotate_left
  · rw [for_rng1 (n := 3) (by simp) (by omega) (by omega)]; exact hf
  simp

end
end Ev
set_option maxHeartbeats 4000000
namespace Ev
open PySem PySem.Spec PyProof.Rows L2
theorem last : ROW.Holds := finish 6 (⟨rfl, by decide, by decide⟩) (fun ns _ => law_ok (by omega) ns)
end Ev

set_option maxHeartbeats 0
theorem PySem.Challenge.cw_runwarden_k87_whole_waits_and_prices_holds : PySem.Challenge.rw_runwarden_k87_whole_waits_and_prices.Holds := by
  exact Ev.last
