import PyProof.Rows.All
import Wide.All
import OpenK.AllK
import Wide.FinOn
import HandS.ForMost
import HandS.ForExc
import HandS.Wide
import HandS.WideBits
import HandS.Codes
import HandS.TupAny
import HandS.IsInst
import HandS.Style
import KE.SortData
import HandS.Deep
import HandS.TupMul
import HandS.ExcOwn
import HandS.Star
import HandS.Zip
import HandS.Set
import HandS.SetFor
import HandS.Strs
import KE.KExcSuper
import HandS.ExcField
import HandS.Ends
import HandS.HeadEnd
import HandS.HeadHook1
import HandS.HeadHook2
import PyProof.StrLawsIn
import KE.KStateDown
import Lean
import HandS.Head0
import HandS.Head1
import HandS.Head2
import PySem.Challenge.RW_helpsless_k01_whole_things_and_lots
set_option Elab.async false
set_option linter.all false
/-! Ev1: deep data, the core language, its evaluator. -/
namespace Ev
open PySem
/-- deep data -/
inductive D where
  | non | bl (b : Bool) | int (i : Int) | str (x : Str)
  | tup (xs : List D) | lst (xs : List D) | dct (kvs : List (D × D))
  | ins (c : Str) (fs : List (Str × D))
  | mm | scr (ns : List Int)
mutual
def D.py : D → PyData
  | .non => .none
  | .bl b => .bool b
  | .int i => .int i
  | .str x => .str x
  | .tup xs => .tuple (D.pys xs)
  | .lst xs => .list (D.pys xs)
  | .dct kvs => .dict (D.pykv kvs)
  | .ins _ _ => .none
  | .mm => .none
  | .scr _ => .none
def D.pys : List D → List PyData
  | [] => []
  | x :: xs => D.py x :: D.pys xs
def D.pykv : List (D × D) → List (PyData × PyData)
  | [] => []
  | (k, v) :: r => (D.py k, D.py v) :: D.pykv r
end
mutual
/-- data without dicts, instances, the machine -/
def D.plain : D → Bool
  | .non => true
  | .bl _ => true
  | .int _ => true
  | .str x => PyData.strOk x
  | .tup xs => D.plains xs
  | .lst xs => D.plains xs
  | .dct _ => false
  | .ins _ _ => false
  | .mm => false
  | .scr _ => false
def D.plains : List D → Bool
  | [] => true
  | x :: xs => D.plain x && D.plains xs
end
mutual
/-- data that repr shows: dicts are empty -/
def D.shw : D → Bool
  | .non => true
  | .bl _ => true
  | .int _ => true
  | .str _ => true
  | .tup xs => D.shws xs
  | .lst xs => D.shws xs
  | .dct kvs => kvs.isEmpty
  | .ins _ _ => false
  | .mm => false
  | .scr _ => false
def D.shws : List D → Bool
  | [] => true
  | x :: xs => D.shw x && D.shws xs
end
/-- data of which == is known -/
def D.eqok (d : D) : Bool := d.plain && decide (d.py.depth ≤ 64)
/-- the law's machine of draws -/
structure MSt where
  cells : List Int
  left : List Int
  at_ : Int
inductive Out (α : Type) where
  | ok (a : α) (m : Option MSt)
  | exc (c : Str) (v : D) (m : Option MSt)
  | bad
abbrev M (α : Type) := Option MSt → Out α
namespace M
def ret {α : Type} (a : α) : M α := fun m => .ok a m
def bind {α β : Type} (x : M α) (f : α → M β) : M β := fun m => match x m with
  | .ok a m' => f a m'
  | .exc c v m' => .exc c v m'
  | .bad => .bad
def lift {α : Type} (o : Option α) : M α := fun m => match o with
  | some a => .ok a m
  | none => .bad
def bad {α : Type} : M α := fun _ => .bad
def map {α β : Type} (f : α → β) (x : M α) : M β := bind x fun a => ret (f a)
/-- what raises is no claim -/
def calm {α : Type} (x : M α) : M α := fun m => match x m with
  | .ok a m' => .ok a m'
  | _ => .bad
end M
/-! ### operations on data -/
inductive BOp where
  | add | sub | mul | fdiv | mod | pow | band | bor | shl | eq | ne | lt | le | gt | ge | is_ | isnt | in_ | notin
  deriving DecidableEq
inductive UOp where
  | not | neg | inv
  deriving DecidableEq
def asInt : D → Option Int
  | .int i => some i
  | .bl b => some (if b then 1 else 0)
  | _ => none
/-- the size that everything stays below -/
def LIM : Nat := 100000
theorem LIM_le : LIM ≤ sizeLine := by rw [sizeLine_eq]; decide
def fitL {α : Type} (xs : List α) (d : D) : Option D := if xs.length ≤ LIM then some d else none
def mulOk (i j : Int) : Bool := decide (i.natAbs.log2 + j.natAbs.log2 < 1000000) || decide (i.natAbs.log2 < 60) || decide (j.natAbs.log2 < 60)
def catS (x y : Str) : Str := x ++ y
def addD : D → D → Option D
  | .int i, .int j => some (.int (i + j))
  | .str x, .str y => if x.length + y.length ≤ LIM then some (.str (x ++ y)) else none
  | .lst xs, .lst ys => if (xs ++ ys).length ≤ LIM then some (.lst (xs ++ ys)) else none
  | .tup xs, .tup ys => if (xs ++ ys).length ≤ LIM then some (.tup (xs ++ ys)) else none
  | _, _ => none
def subD : D → D → Option D
  | .int i, .int j => some (.int (i - j))
  | .bl a, .bl b => some (.int ((if a then 1 else 0) - (if b then 1 else 0)))
  | _, _ => none
def repL (xs : List D) (k : Int) : List D := (List.replicate k.toNat xs).flatten
def mulD : D → D → Option D
  | .int i, .int j => if mulOk i j then some (.int (i * j)) else none
  | .str x, .int k => if 0 ≤ k ∧ k ≤ 1000 ∧ x.length ≤ 100 then some (.str (Txt.mul x k)) else none
  | .lst xs, .int k => if 0 ≤ k ∧ k ≤ 1000 ∧ xs.length ≤ 100 then some (.lst (repL xs k)) else none
  | .tup xs, .int k => if 2 ≤ k ∧ k ≤ 1000 ∧ xs.length ≤ 100 ∧ xs ≠ [] then some (.tup (repL xs k)) else if 0 ≤ k ∧ k ≤ 1000 ∧ xs = [] then some (.tup []) else none
  | _, _ => none
def fdivD : D → D → Option D
  | .int i, .int j => if 0 < j ∧ j.natAbs.log2 < 9000 then some (.int (i / j)) else none
  | _, _ => none
def modD : D → D → Option D
  | .int i, .int j => if 0 < j then some (.int (i % j)) else none
  | _, _ => none
def powD : D → D → Option D
  | .int i, .int j => if 0 ≤ j ∧ j ≤ 1000 ∧ i.natAbs ≤ 1000 then some (.int (i ^ j.toNat)) else none
  | _, _ => none
def cmpD (f : Int → Int → Bool) (g : List Nat → List Nat → Bool) : D → D → Option D
  | .int i, .int j => some (.bl (f i j))
  | .str x, .str y => some (.bl (g x.cps.toList y.cps.toList))
  | _, _ => none
def ltS (x y : List Nat) : Bool := decide (x < y)
def eqB (x y : D) : Option Bool := if x.eqok && y.eqok then some (PyData.eqv x.py y.py) else none
/-- x == y where y is () or []: nothing is asked of what stands in x -/
def emptyB (x y : D) : Option Bool := match x, y with
  | .tup xs, .tup [] => some xs.isEmpty
  | .lst xs, .lst [] => some xs.isEmpty
  | _, _ => none
def eqE (x y : D) : Option Bool := match eqB x y with
  | some b => some b
  | none => emptyB x y
def isNon : D → Bool
  | .non => true
  | _ => false
def isNB (x y : D) : Option Bool := match y with
  | .non => some (isNon x)
  | _ => none
/-- x in y -/
def inB (x y : D) : Option Bool := match y with
  | .lst ys => if x.eqok && (D.lst ys).eqok then some (ys.any fun z => PyData.eqv z.py x.py) else none
  | .tup ys => if x.eqok && (D.lst ys).eqok then some (ys.any fun z => PyData.eqv z.py x.py) else none
  | .str z => match x with
    | .str w => some (!(Builtin.Str.occurrences z w 0 z.length 1).isEmpty)
    | _ => none
  | _ => none
def yesD (o : Option Bool) : Option D := o.map D.bl
def noD (o : Option Bool) : Option D := o.map fun b => D.bl (!b)
def binD : BOp → D → D → Option D
  | .add, x, y => addD x y
  | .sub, x, y => subD x y
  | .mul, x, y => mulD x y
  | .fdiv, x, y => fdivD x y
  | .mod, x, y => modD x y
  | .pow, x, y => powD x y
  | .band, _, _ => none
  | .bor, _, _ => none
  | .shl, _, _ => none
  | .eq, x, y => yesD (eqE x y)
  | .ne, x, y => noD (eqE x y)
  | .lt, x, y => cmpD (fun i j => decide (i < j)) ltS x y
  | .le, x, y => cmpD (fun i j => decide (i ≤ j)) (fun i j => !ltS j i) x y
  | .gt, x, y => cmpD (fun i j => decide (j < i)) (fun i j => ltS j i) x y
  | .ge, x, y => cmpD (fun i j => decide (j ≤ i)) (fun i j => !ltS i j) x y
  | .is_, x, y => yesD (isNB x y)
  | .isnt, x, y => noD (isNB x y)
  | .in_, x, y => yesD (inB x y)
  | .notin, x, y => noD (inB x y)
def unD : UOp → D → Option D
  | .not, .bl b => some (.bl (!b))
  | .neg, .int i => some (.int (-i))
  | _, _ => none
/-- xs[i] -/
def ixD : D → D → Option D
  | .lst xs, .int i => L2.atI xs i
  | .tup xs, .int i => L2.atI xs i
  | .str z, .int i => if z.length ≤ LIM then (L2.atI z.cps.toList i).map fun c => .str ⟨#[c]⟩ else none
  | _, _ => none
def cutL {α : Type} (xs : List α) (lo hi : Option Int) : List α := (xs.drop (HT.sIx xs.length 0 lo)).take (HT.sIx xs.length xs.length hi - HT.sIx xs.length 0 lo)
def slD : D → Option Int → Option Int → Option D
  | .lst xs, lo, hi => some (.lst (cutL xs lo hi))
  | .tup xs, lo, hi => some (.tup (cutL xs lo hi))
  | .str z, lo, hi => if z.length ≤ LIM then some (.str (L2.cutS z lo hi)) else none
  | _, _, _ => none
def revD : D → Option D
  | .lst xs => some (.lst xs.reverse)
  | .tup xs => some (.tup xs.reverse)
  | _ => none
/-- what a loop walks -/
def seqD : D → Option (List D)
  | .lst xs => some xs
  | .tup xs => some xs
  | .scr ns => some (ns.map D.int)
  | .str z => if z.length ≤ LIM then some (z.cps.toList.map fun c => .str ⟨#[c]⟩) else none
  | _ => none
def asBools : List D → Option (List Bool)
  | [] => some []
  | .bl b :: r => (asBools r).map (b :: ·)
  | _ => none
def asInts : List D → Option (List Int)
  | [] => some []
  | .int i :: r => (asInts r).map (i :: ·)
  | _ => none
def asStrs : List D → Option (List Str)
  | [] => some []
  | .str i :: r => (asStrs r).map (i :: ·)
  | _ => none
/-! ### built-ins -/
inductive Bi where
  | len | all | any | sum | sorted | tuple | list | min2 | max2 | maxl | abs | int | str | repr | lenset | sortedset | edict
  | isin (ts : List String)
  deriving DecidableEq
/-- the built-in type of data, or its own class's name -/
def tyOf : D → Option String
  | .non => some "NoneType"
  | .bl _ => some "bool"
  | .int _ => some "int"
  | .str _ => some "str"
  | .tup _ => some "tuple"
  | .lst _ => some "list"
  | .dct _ => some "dict"
  | .ins _ _ => none
  | .mm => none
  | .scr _ => none
def isTy (t u : String) : Bool := t == u || (t == "bool" && u == "int")
def tyNames : List String := ["int", "bool", "str", "tuple", "list", "dict"]
def sortLe (a b : D) : Bool := !PySem.W.dataLt b.py a.py
def nonEmptyTup : D → Bool
  | .tup (_ :: _) => true
  | _ => false
def isTupD : D → Bool
  | .tup _ => true
  | _ => false
def headEmpty : List D → Bool
  | .tup [] :: _ => true
  | _ => false
/-- data that sorted takes: place by place of one kind -/
def sortOk (xs : List D) : Bool := xs.all D.plain && decide (xs.length ≤ LIM) && xs.all (fun a => decide (a.py.depth ≤ 64)) && xs.all (fun a => xs.all fun b => PySem.W.alike a.py b.py) &&
  (xs.all nonEmptyTup || xs.all (fun a => !isTupD a && !isNon a) || (headEmpty xs && xs.all isTupD))
def sortedD (xs : List D) : Option D := if sortOk xs then some (.lst (xs.mergeSort sortLe)) else none
def dedupS : List Str → List Str
  | [] => []
  | x :: r => if x ∈ r then dedupS r else x :: dedupS r
def biD : Bi → List D → Option D
  | .len, [.str z] => if z.length ≤ LIM then some (.int z.length) else none
  | .len, [.tup xs] => some (.int xs.length)
  | .len, [.lst xs] => some (.int xs.length)
  | .len, [.scr ns] => some (.int ns.length)
  | .all, [.lst xs] => (asBools xs).map fun bs => .bl (bs.all id)
  | .any, [.lst xs] => (asBools xs).map fun bs => .bl (bs.any id)
  | .sum, [.lst xs] => (asInts xs).map fun ns => .int ns.sum
  | .sorted, [.lst xs] => sortedD xs
  | .tuple, [.lst xs] => some (.tup xs)
  | .tuple, [.tup xs] => some (.tup xs)
  | .list, [.lst xs] => some (.lst xs)
  | .list, [.tup xs] => some (.lst xs)
  | .list, [.scr ns] => some (.lst (ns.map D.int))
  | .min2, [.int i, .int j] => some (.int (if j < i then j else i))
  | .max2, [.int i, .int j] => some (.int (if j > i then j else i))
  | .abs, [.int i] => some (.int (if i < 0 then -i else i))
  | .int, [.int i] => some (.int i)
  | .edict, [] => some (.dct [])
  | .repr, [d] => if d.shw && decide (d.py.depth ≤ 64) && d.py.showable && decide (d.py.shown.length ≤ LIM) then some (.str d.py.shown) else none
  | .sortedset, [.tup xs] => (asStrs xs).bind fun ss => if ss.length < 64 then some (.lst (((dedupS ss).map D.str).mergeSort sortLe)) else none
  | .isin ts, [d] => if ts.all (fun t => tyNames.contains t) then (tyOf d).map fun t => .bl (ts.any (isTy t)) else none
  | _, _ => none
/-! ### the core language -/
inductive Tg where
  | v (i : Nat) | t (ts : List Tg)
mutual
inductive Ex where
  | c (d : D)
  | v (i : Nat)
  | bin (o : BOp) (a b : Ex)
  | un (o : UOp) (a : Ex)
  | chain (o p : BOp) (a b e : Ex)
  | and (a b : Ex)
  | or (a b : Ex)
  | ite (t a b : Ex)
  | tup (es : List Ex)
  | lst (es : List Ex)
  | star (e : Ex)
  | call (f : Str) (es : List Ex)
  | bi (f : Bi) (es : List Ex)
  | own (f : Str) (o : Ex) (es : List Ex)
  | fld (o : Ex) (f : Str)
  | ix (a b : Ex)
  | sl (a : Ex) (lo hi : Option Ex)
  | rev (a : Ex)
  | cmp (elt : Ex) (tg : Tg) (it : It) (ifs : Option Ex)
inductive It where
  | seq (e : Ex)
  | rng (a : Ex)
  | rng2 (a b : Ex)
  | zip (a b : Ex)
  | enm (a : Ex) (k : Int)
end
inductive Slot where
  | no | sh (d : D) | ol (ds : List D) | xc (c : Str) (v : D)
abbrev Env := List Slot
mutual
/-- the slots that a target stores -/
def Tg.slots : Tg → List Nat
  | .v i => [i]
  | .t ts => Tg.slotss ts
def Tg.slotss : List Tg → List Nat
  | [] => []
  | u :: r => Tg.slots u ++ Tg.slotss r
end
mutual
def bindT : Tg → D → Env → Option Env
  | .v i, d, env => some (env.set i (.sh d))
  | .t ts, d, env => match d with
    | .tup xs => bindTs ts xs env
    | _ => none
def bindTs : List Tg → List D → Env → Option Env
  | [], [], env => some env
  | u :: r, x :: xs, env => (bindT u x env).bind (bindTs r xs)
  | _, _, _ => none
end
def wipeE (env : Env) : List Nat → Env
  | [] => env
  | v :: vs => (wipeE env vs).set v .no
def rangeD (lo hi : Int) : List D := (List.range (hi - lo).toNat).map fun (k : Nat) => .int (lo + k)
def rangeOk (lo hi : Int) : Bool := decide (-100000 ≤ lo ∧ lo ≤ 100000 ∧ -100000 ≤ hi ∧ hi ≤ 100000)
def rngO (lo hi : D) : Option (List D) := match lo, hi with
  | .int l, .int n => if rangeOk l n then some (rangeD l n) else none
  | _, _ => none
def zipD (xs ys : List D) : List D := (xs.zip ys).map fun p => .tup [p.1, p.2]
def enmD (k : Int) (xs : List D) : List D := (List.range xs.length).zip xs |>.map fun p => .tup [.int (k + (p.1 : Nat)), p.2]
def zipO : D → D → Option (List D)
  | .lst xs, .lst ys => some (zipD xs ys)
  | .tup xs, .tup ys => some (zipD xs ys)
  | _, _ => none
def enmO (k : Int) : D → Option (List D)
  | .lst xs => if k = 0 then some (enmD k xs) else none
  | _ => none
/-- the items of a comprehension, one after another; what raises is no claim -/
def mapC (f : D → M (Option D)) : List D → M (List D)
  | [] => M.ret []
  | x :: r => M.bind (M.calm (f x)) fun y => M.bind (mapC f r) fun ys => M.ret (match y with
    | some d => d :: ys
    | none => ys)
def asB : D → Option Bool
  | .bl b => some b
  | _ => none
abbrev FT := Str → List D → M D
/-- an operator; of an own class's instance by its method -/
def binM (F : FT) (o : BOp) (x y : D) : M D := match binD o x y with
  | some d => M.ret d
  | none => M.bad
mutual
def ev (F : FT) : Ex → Env → M D
  | .c d, _ => M.ret d
  | .v i, env => match env[i]? with
    | some (.sh d) => M.ret d
    | _ => M.bad
  | .bin o a b, env => M.bind (ev F a env) fun x => M.bind (ev F b env) fun y => binM F o x y
  | .un o a, env => M.bind (ev F a env) fun x => M.lift (unD o x)
  | .chain o p a b e, env => M.bind (ev F a env) fun x => M.bind (ev F b env) fun y => M.bind (M.lift ((binD o x y).bind asB)) fun t =>
      if t = true then M.bind (ev F e env) fun z => M.lift (binD p y z) else M.ret (.bl false)
  | .and a b, env => M.bind (ev F a env) fun x => M.bind (M.lift (asB x)) fun t => if t = true then ev F b env else M.ret (.bl false)
  | .or a b, env => M.bind (ev F a env) fun x => M.bind (M.lift (asB x)) fun t => if t = true then M.ret (.bl true) else ev F b env
  | .ite t a b, env => M.bind (ev F t env) fun x => M.bind (M.lift (asB x)) fun c => if c = true then ev F a env else ev F b env
  | .tup es, env => M.bind (evs F es env) fun xs => if xs.length ≤ LIM then M.ret (.tup xs) else M.bad
  | .lst es, env => M.bind (evs F es env) fun xs => if xs.length ≤ LIM then M.ret (.lst xs) else M.bad
  | .star _, _ => M.bad
  | .call f es, env => M.bind (evs F es env) fun xs => F f xs
  | .bi f es, env => M.bind (evs F es env) fun xs => M.lift (biD f xs)
  | .own _ _ _, _ => M.bad
  | .fld o f, env => M.bind (ev F o env) fun x => match x with
    | .ins _ fs => M.lift (fs.lookup f)
    | _ => M.bad
  | .ix a b, env => M.bind (ev F a env) fun x => M.bind (ev F b env) fun y => M.lift (ixD x y)
  | .sl a lo hi, env => M.bind (ev F a env) fun x => M.bind (evO F lo env) fun l => M.bind (evO F hi env) fun h => M.lift (slD x l h)
  | .rev a, env => M.bind (ev F a env) fun x => M.lift (revD x)
  | .cmp elt tg it ifs, env => M.bind (evI F it env) fun xs => if xs.length ≤ LIM then M.bind (mapC (fun x => match bindT tg x (wipeE env tg.slots) with
      | some env2 => M.bind (evT F ifs env2) fun t => if t = true then M.map some (ev F elt env2) else M.ret none
      | none => M.bad) xs) fun ys => M.ret (.lst ys) else M.bad
/-- a list of expressions, starred ones laid in -/
def evs (F : FT) : List Ex → Env → M (List D)
  | [], _ => M.ret []
  | .star e :: es, env => M.bind (ev F e env) fun x => match x with
    | .lst xs => M.bind (evs F es env) fun ys => M.ret (xs ++ ys)
    | .tup xs => M.bind (evs F es env) fun ys => M.ret (xs ++ ys)
    | _ => M.bad
  | e :: es, env => M.bind (ev F e env) fun x => M.bind (evs F es env) fun ys => M.ret (x :: ys)
def evO (F : FT) : Option Ex → Env → M (Option Int)
  | none, _ => M.ret none
  | some e, env => M.bind (ev F e env) fun x => match x with
    | .int i => M.ret (some i)
    | _ => M.bad
def evT (F : FT) : Option Ex → Env → M Bool
  | none, _ => M.ret true
  | some e, env => M.bind (ev F e env) fun x => M.lift (asB x)
def evI (F : FT) : It → Env → M (List D)
  | .rng a, env => M.bind (ev F a env) fun x => M.lift (rngO (.int 0) x)
  | .rng2 a b, env => M.bind (ev F a env) fun x => M.bind (ev F b env) fun y => M.lift (rngO x y)
  | .zip a b, env => M.bind (ev F a env) fun x => M.bind (ev F b env) fun y => M.lift (zipO x y)
  | .enm a k, env => M.bind (ev F a env) fun x => M.lift (enmO k x)
  | .seq e, env => M.bind (ev F e env) fun x => M.lift (seqD x)
end
end Ev
set_option Elab.async false
set_option linter.all false
/-! Ev2: how data lies in the abstract heap. -/
namespace Ev
open PySem L2 Classical
/-- all that is tracked stays as it is -/
def Ext (H H' : Hp) : Prop := ∀ a o, H a = some o → H' a = some o
theorem Ext.refl (H : Hp) : Ext H H := fun _ _ h => h
theorem Ext.trans {H H1 H2 : Hp} (a : Ext H H1) (b : Ext H1 H2) : Ext H H2 := fun x o h => b x o (a x o h)
theorem Ext.new {H : Hp} {p : Addr} {o : HO} (h : H p = none) : Ext H (upd H p o) := fun a u e => by
  rw [upd_ne (ne_of_none e h)]
  exact e
theorem Ext.rd {H H' : Hp} {a : Addr} {u : HO} (e : Ext H H') (h : Rd H a u) : Rd H' a u := by
  rcases h with h | ⟨o, h⟩
  · exact Or.inl (e _ _ h)
  · exact Or.inr ⟨o, e _ _ h⟩
theorem Ext.lst {K : PySem.W.Frag} {H H' : Hp} {a : Addr} {xs : List V} (e : Ext H H') (h : SqL K H a xs) : SqL K H' a xs := h.imp e.rd id
theorem Ext.tup {K : PySem.W.Frag} {H H' : Hp} {a : Addr} {xs : List V} (e : Ext H H') (h : SqT K H a xs) : SqT K H' a xs := h.imp e.rd id
structure RC where
  K : PySem.W.Frag
  cl : Str → Option Addr
mutual
def Rep (C : RC) (md : Option Addr) (H : Hp) : D → V → Prop
  | .non, v => v = .non
  | .bl b, v => v = .bl b
  | .int i, v => v = .int i
  | .str x, v => v = .str x
  | .tup ds, v => ∃ a vs, v = .ref a ∧ SqT C.K H a vs ∧ Reps C md H ds vs
  | .lst ds, v => ∃ a vs, v = .ref a ∧ H a = some (.lst vs) ∧ Reps C md H ds vs
  | .dct kvs, v => kvs = [] ∧ ∃ a, v = .ref a ∧ H a = some (.dK [])
  | .ins c fs, v => ∃ a A dx vfs, v = .ref a ∧ C.cl c = some A ∧ H a = some (.ins A dx vfs) ∧ Repf C md H fs vfs
  | .mm, v => ∃ a, md = some a ∧ v = .ref a
  | .scr ns, v => ∃ a, v = .ref a ∧ SqL C.K H a (ns.map V.int)
def Reps (C : RC) (md : Option Addr) (H : Hp) : List D → List V → Prop
  | [], vs => vs = []
  | d :: ds, vs => ∃ v r, vs = v :: r ∧ Rep C md H d v ∧ Reps C md H ds r
def Repf (C : RC) (md : Option Addr) (H : Hp) : List (Str × D) → List (Str × V) → Prop
  | [], vs => vs = []
  | (f, d) :: ds, vs => ∃ v r, vs = (f, v) :: r ∧ Rep C md H d v ∧ Repf C md H ds r
end
section mono
variable {C : RC} {md md' : Option Addr} {H H' : Hp}
mutual
theorem Rep.mono (hm : ∀ a, md = some a → md' = some a) (e : Ext H H') : ∀ (d : D) (v : V), Rep C md H d v → Rep C md' H' d v
  | .non, _, h => by simpa [Rep] using h
  | .bl _, _, h => by simpa [Rep] using h
  | .int _, _, h => by simpa [Rep] using h
  | .str _, _, h => by simpa [Rep] using h
  | .tup ds, v, h => by
    simp only [Rep] at h ⊢
    obtain ⟨a, vs, e1, hs, hr⟩ := h
    exact ⟨a, vs, e1, e.tup hs, Reps.mono hm e ds vs hr⟩
  | .lst ds, v, h => by
    simp only [Rep] at h ⊢
    obtain ⟨a, vs, e1, hs, hr⟩ := h
    exact ⟨a, vs, e1, e _ _ hs, Reps.mono hm e ds vs hr⟩
  | .dct kvs, v, h => by
    simp only [Rep] at h ⊢
    obtain ⟨e0, a, e1, hs⟩ := h
    exact ⟨e0, a, e1, e _ _ hs⟩
  | .ins c fs, v, h => by
    simp only [Rep] at h ⊢
    obtain ⟨a, A, dx, vfs, e1, hc, hs, hr⟩ := h
    exact ⟨a, A, dx, vfs, e1, hc, e _ _ hs, Repf.mono hm e fs vfs hr⟩
  | .mm, v, h => by
    simp only [Rep] at h ⊢
    obtain ⟨a, e1, e2⟩ := h
    exact ⟨a, hm a e1, e2⟩
  | .scr ns, v, h => by
    simp only [Rep] at h ⊢
    obtain ⟨a, e1, e2⟩ := h
    exact ⟨a, e1, e.lst e2⟩
theorem Reps.mono (hm : ∀ a, md = some a → md' = some a) (e : Ext H H') : ∀ (ds : List D) (vs : List V), Reps C md H ds vs → Reps C md' H' ds vs
  | [], _, h => by simpa [Reps] using h
  | d :: ds, vs, h => by
    simp only [Reps] at h ⊢
    obtain ⟨v, r, e1, h1, h2⟩ := h
    exact ⟨v, r, e1, Rep.mono hm e d v h1, Reps.mono hm e ds r h2⟩
theorem Repf.mono (hm : ∀ a, md = some a → md' = some a) (e : Ext H H') : ∀ (ds : List (Str × D)) (vs : List (Str × V)), Repf C md H ds vs → Repf C md' H' ds vs
  | [], _, h => by simpa [Repf] using h
  | (f, d) :: ds, vs, h => by
    simp only [Repf] at h ⊢
    obtain ⟨v, r, e1, h1, h2⟩ := h
    exact ⟨v, r, e1, Rep.mono hm e d v h1, Repf.mono hm e ds r h2⟩
end
end mono
section lists
variable {C : RC} {md : Option Addr} {H : Hp}
theorem Reps.length : ∀ {ds : List D} {vs : List V}, Reps C md H ds vs → vs.length = ds.length
  | [], _, h => by simp only [Reps] at h; subst h; rfl
  | d :: ds, vs, h => by
    simp only [Reps] at h
    obtain ⟨v, r, e1, _, h2⟩ := h
    subst e1
    simp [Reps.length h2]
theorem Reps.nil : Reps C md H [] [] := by simp [Reps]
theorem Reps.cons {d : D} {ds : List D} {v : V} {vs : List V} (h : Rep C md H d v) (hs : Reps C md H ds vs) : Reps C md H (d :: ds) (v :: vs) := by
  simp only [Reps]; exact ⟨v, vs, rfl, h, hs⟩
theorem Reps.append : ∀ {ds es : List D} {vs ws : List V}, Reps C md H ds vs → Reps C md H es ws → Reps C md H (ds ++ es) (vs ++ ws)
  | [], _, _, _, h, k => by simp only [Reps] at h; subst h; exact k
  | d :: ds, es, vs, ws, h, k => by
    simp only [Reps] at h
    obtain ⟨v, r, e1, h1, h2⟩ := h
    subst e1
    exact Reps.cons h1 (Reps.append h2 k)
theorem Reps.get : ∀ {ds : List D} {vs : List V} {i : Nat} {d : D}, Reps C md H ds vs → ds[i]? = some d → ∃ v, vs[i]? = some v ∧ Rep C md H d v
  | [], _, _, _, _, e => by simp at e
  | d :: ds, vs, i, x, h, e => by
    simp only [Reps] at h
    obtain ⟨v, r, e1, h1, h2⟩ := h
    subst e1
    cases i with
    | zero => simp at e; subst e; exact ⟨v, rfl, h1⟩
    | succ i => simp at e; simpa using Reps.get h2 e
theorem Reps.getV : ∀ {ds : List D} {vs : List V} {i : Nat} {v : V}, Reps C md H ds vs → vs[i]? = some v → ∃ d, ds[i]? = some d ∧ Rep C md H d v
  | [], _, _, _, h, e => by simp only [Reps] at h; subst h; simp at e
  | d :: ds, vs, i, x, h, e => by
    simp only [Reps] at h
    obtain ⟨v, r, e1, h1, h2⟩ := h
    subst e1
    cases i with
    | zero => simp at e; subst e; exact ⟨d, rfl, h1⟩
    | succ i => simp at e; simpa using Reps.getV h2 e
theorem Reps.take : ∀ {ds : List D} {vs : List V} (n : Nat), Reps C md H ds vs → Reps C md H (ds.take n) (vs.take n)
  | _, _, 0, _ => by simp [Reps]
  | [], _, n + 1, h => by simp only [Reps] at h; subst h; simp [Reps]
  | d :: ds, vs, n + 1, h => by
    simp only [Reps] at h
    obtain ⟨v, r, e1, h1, h2⟩ := h
    subst e1
    exact Reps.cons h1 (Reps.take n h2)
theorem Reps.drop : ∀ {ds : List D} {vs : List V} (n : Nat), Reps C md H ds vs → Reps C md H (ds.drop n) (vs.drop n)
  | _, _, 0, h => h
  | [], _, n + 1, h => by simp only [Reps] at h; subst h; simp [Reps]
  | d :: ds, vs, n + 1, h => by
    simp only [Reps] at h
    obtain ⟨v, r, e1, h1, h2⟩ := h
    subst e1
    exact Reps.drop n h2
theorem Reps.reverse : ∀ {ds : List D} {vs : List V}, Reps C md H ds vs → Reps C md H ds.reverse vs.reverse
  | [], _, h => by simp only [Reps] at h; subst h; exact Reps.nil
  | d :: ds, vs, h => by
    simp only [Reps] at h
    obtain ⟨v, r, e1, h1, h2⟩ := h
    subst e1
    rw [List.reverse_cons, List.reverse_cons]
    exact Reps.append (Reps.reverse h2) (Reps.cons h1 Reps.nil)
theorem Reps.set : ∀ {ds : List D} {vs : List V} (i : Nat) {d : D} {v : V}, Reps C md H ds vs → Rep C md H d v → Reps C md H (ds.set i d) (vs.set i v)
  | [], _, _, _, _, h, _ => by simp only [Reps] at h; subst h; exact Reps.nil
  | d :: ds, vs, i, x, y, h, k => by
    simp only [Reps] at h
    obtain ⟨v, r, e1, h1, h2⟩ := h
    subst e1
    cases i with
    | zero => exact Reps.cons k h2
    | succ i => exact Reps.cons h1 (Reps.set i h2 k)
theorem Reps.flatten : ∀ {n : Nat} {ds : List D} {vs : List V}, Reps C md H ds vs → Reps C md H (List.replicate n ds).flatten (List.replicate n vs).flatten
  | 0, _, _, _ => by simp [Reps]
  | n + 1, ds, vs, h => by
    rw [List.replicate_succ, List.replicate_succ, List.flatten_cons, List.flatten_cons]
    exact Reps.append h (Reps.flatten h)
/-- strs, ints, bools lie as they are -/
theorem Reps.strs : ∀ {ds : List D} {vs : List V} {xs : List Str}, Reps C md H ds vs → asStrs ds = some xs → vs = xs.map V.str ∧ ds = xs.map D.str
  | [], vs, xs, h, e => by
    simp only [Reps] at h; subst h
    simp only [asStrs, Option.some.injEq] at e; subst e; exact ⟨rfl, rfl⟩
  | d :: ds, vs, xs, h, e => by
    simp only [Reps] at h
    obtain ⟨v, r, e1, h1, h2⟩ := h
    subst e1
    cases d <;> simp only [asStrs, reduceCtorEq] at e
    cases q : asStrs ds with
    | none => rw [q] at e; cases e
    | some ys =>
      rw [q] at e
      simp only [Option.map_some, Option.some.injEq] at e
      subst e
      simp only [Rep] at h1
      subst h1
      obtain ⟨e1, e2⟩ := Reps.strs h2 q
      subst e1; subst e2; exact ⟨rfl, rfl⟩
theorem Reps.ints : ∀ {ds : List D} {vs : List V} {xs : List Int}, Reps C md H ds vs → asInts ds = some xs → vs = xs.map V.int
  | [], vs, xs, h, e => by
    simp only [Reps] at h; subst h
    simp only [asInts, Option.some.injEq] at e; subst e; rfl
  | d :: ds, vs, xs, h, e => by
    simp only [Reps] at h
    obtain ⟨v, r, e1, h1, h2⟩ := h
    subst e1
    cases d <;> simp only [asInts, reduceCtorEq] at e
    cases q : asInts ds with
    | none => rw [q] at e; cases e
    | some ys =>
      rw [q] at e
      simp only [Option.map_some, Option.some.injEq] at e
      subst e
      simp only [Rep] at h1
      subst h1
      rw [Reps.ints h2 q]; rfl
theorem Reps.bools : ∀ {ds : List D} {vs : List V} {xs : List Bool}, Reps C md H ds vs → asBools ds = some xs → vs = xs.map V.bl
  | [], vs, xs, h, e => by
    simp only [Reps] at h; subst h
    simp only [asBools, Option.some.injEq] at e; subst e; rfl
  | d :: ds, vs, xs, h, e => by
    simp only [Reps] at h
    obtain ⟨v, r, e1, h1, h2⟩ := h
    subst e1
    cases d <;> simp only [asBools, reduceCtorEq] at e
    cases q : asBools ds with
    | none => rw [q] at e; cases e
    | some ys =>
      rw [q] at e
      simp only [Option.map_some, Option.some.injEq] at e
      subst e
      simp only [Rep] at h1
      subst h1
      rw [Reps.bools h2 q]; rfl
theorem Reps.of_strs : ∀ (xs : List Str), Reps C md H (xs.map D.str) (xs.map V.str)
  | [] => Reps.nil
  | x :: r => Reps.cons (by simp [Rep]) (Reps.of_strs r)
theorem Reps.of_ints : ∀ (xs : List Int), Reps C md H (xs.map D.int) (xs.map V.int)
  | [] => Reps.nil
  | x :: r => Reps.cons (by simp [Rep]) (Reps.of_ints r)
theorem Repf.lookup : ∀ {fs : List (Str × D)} {vs : List (Str × V)} {f : Str} {d : D}, Repf C md H fs vs → fs.lookup f = some d → ∃ v, vs.lookup f = some v ∧ Rep C md H d v
  | [], _, _, _, _, e => by simp at e
  | (g, x) :: fs, vs, f, d, h, e => by
    simp only [Repf] at h
    obtain ⟨v, r, e1, h1, h2⟩ := h
    subst e1
    rw [List.lookup_cons] at e ⊢
    cases q : f == g with
    | true => rw [q] at e; simp only [Option.some.injEq] at e; subst e; exact ⟨v, rfl, h1⟩
    | false => rw [q] at e; exact Repf.lookup h2 e
end lists
/-! ### plain data: the layer's Dp -/
section plain
variable {C : RC} {md : Option Addr} {H : Hp}
mutual
theorem Rep.dp : ∀ (d : D) (v : V), d.plain = true → Rep C md H d v → Dp C.K H v d.py
  | .non, v, _, h => by simp only [Rep] at h; subst h; exact .non
  | .bl b, v, _, h => by simp only [Rep] at h; subst h; exact .bl b
  | .int i, v, _, h => by simp only [Rep] at h; subst h; exact .int i
  | .str x, v, _, h => by simp only [Rep] at h; subst h; exact .str x
  | .tup ds, v, p, h => by
    simp only [Rep] at h
    obtain ⟨a, vs, e1, hs, hr⟩ := h
    subst e1
    exact .tup hs (Reps.dp ds vs (by simpa [D.plain] using p) hr)
  | .lst ds, v, p, h => by
    simp only [Rep] at h
    obtain ⟨a, vs, e1, hs, hr⟩ := h
    subst e1
    exact .lst (Or.inl (Or.inl hs)) (Reps.dp ds vs (by simpa [D.plain] using p) hr)
  | .dct _, _, p, _ => by simp [D.plain] at p
  | .ins _ _, _, p, _ => by simp [D.plain] at p
  | .mm, _, p, _ => by simp [D.plain] at p
  | .scr _, _, p, _ => by simp [D.plain] at p
theorem Reps.dp : ∀ (ds : List D) (vs : List V), D.plains ds = true → Reps C md H ds vs → DpAll C.K H vs (D.pys ds)
  | [], vs, _, h => by simp only [Reps] at h; subst h; exact .nil
  | d :: ds, vs, p, h => by
    simp only [Reps] at h
    obtain ⟨v, r, e1, h1, h2⟩ := h
    subst e1
    simp only [D.plains, Bool.and_eq_true] at p
    exact .cons (Rep.dp d v p.1 h1) (Reps.dp ds r p.2 h2)
end
theorem pys_map : ∀ (ds : List D), D.pys ds = ds.map D.py
  | [] => rfl
  | d :: ds => by simp [D.pys, pys_map ds]
theorem plain_canLay : ∀ (d : D), d.plain = true → d.py.canLay0 = true := by
  intro d
  exact D.rec (motive_1 := fun d => d.plain = true → d.py.canLay0 = true) (motive_2 := fun ds => D.plains ds = true → PyData.canLayAll0 (D.pys ds) = true) (motive_3 := fun _ => True) (motive_4 := fun _ => True) (motive_5 := fun _ => True) (motive_6 := fun _ => True)
    (fun _ => rfl) (fun _ _ => rfl) (fun _ _ => rfl) (fun x h => by simpa [D.plain, D.py, PyData.canLay0] using h) (fun xs ih p => by simpa [D.py, PyData.canLay0] using ih (by simpa [D.plain] using p)) (fun xs ih p => by simpa [D.py, PyData.canLay0] using ih (by simpa [D.plain] using p))
    (fun _ _ p => by simp [D.plain] at p) (fun _ _ _ p => by simp [D.plain] at p) (fun p => by simp [D.plain] at p) (fun _ p => by simp [D.plain] at p)
    (fun _ => rfl) (fun x xs h1 h2 p => by
      simp only [D.plains, Bool.and_eq_true] at p
      simp only [D.pys, PyData.canLayAll0, Bool.and_eq_true]
      exact ⟨h1 p.1, h2 p.2⟩) trivial (fun _ _ _ _ => trivial) trivial (fun _ _ _ _ => trivial) (fun _ _ _ _ => trivial) (fun _ _ _ => trivial) d
theorem eqok_shaped {d : D} (h : d.eqok = true) : SeqAt.shaped d.py = true := by
  unfold D.eqok at h
  simp only [Bool.and_eq_true, decide_eq_true_eq] at h
  unfold SeqAt.shaped
  simp only [Bool.and_eq_true, decide_eq_true_eq]
  exact ⟨plain_canLay d h.1, h.2⟩
theorem eqok_plain {d : D} (h : d.eqok = true) : d.plain = true := by
  unfold D.eqok at h
  simp only [Bool.and_eq_true] at h
  exact h.1
end plain
/-! ### the machine, the frame, the ground -/
def kCells : Key := Sum.inr ("cells" : Str)
def kLeft : Key := Sum.inr ("left" : Str)
def kAt : Key := Sum.inr ("at" : Str)
def mDict (c l : Addr) (t : Int) : HO := .dK [(kCells, .ref c), (kLeft, .ref l), (kAt, .int t)]
def MAt (H : Hp) (d : Addr) (m : MSt) : Prop := ∃ c l, H d = some (mDict c l m.at_) ∧ H c = some (.lst (m.cells.map V.int)) ∧ H l = some (.lst (m.left.map V.int)) ∧ c ≠ l
/-- sys.modules stands, tracked as anything: nothing new is laid there -/
def One (H : Hp) : Prop := ∃ o, H sysModules = some (.frz o (.ext fun _ => True))
def MRel0 (md : Option Addr) (H : Hp) : Option MSt → Prop
  | none => md = none
  | some m => ∃ d, md = some d ∧ MAt H d m
structure MRel (md : Option Addr) (H : Hp) (m : Option MSt) : Prop where
  one : One H
  at_ : MRel0 md H m
/-- the machine's own objects -/
def MS (md : Option Addr) (H : Hp) (a : Addr) : Prop := ∃ d, md = some d ∧ (a = d ∨ ∃ c l t, H d = some (mDict c l t) ∧ (a = c ∨ a = l))
/-- all that is tracked stays as it is but for the machine -/
structure Fr (md : Option Addr) (H : Hp) (md' : Option Addr) (H' : Hp) : Prop where
  same : ∀ d, md = some d → md' = some d
  keep : ∀ a o, H a = some o → ¬ MS md H a → H' a = some o ∧ ¬ MS md' H' a
theorem Fr.trans {md md1 md2 : Option Addr} {H H1 H2 : Hp} (a : Fr md H md1 H1) (b : Fr md1 H1 md2 H2) : Fr md H md2 H2 :=
  ⟨fun d e => b.same d (a.same d e), fun x o h n => b.keep x o (a.keep x o h n).1 (a.keep x o h n).2⟩
theorem Fr.refl (md : Option Addr) (H : Hp) : Fr md H md H := ⟨fun _ e => e, fun _ _ h n => ⟨h, n⟩⟩
section
variable {C : RC} {md md' : Option Addr} {H H' : Hp} {m m' : Option MSt} {av : Addr → Prop}
theorem MRel.ext (h : MRel md H m) (e : Ext H H') : MRel md H' m := ⟨h.one.imp fun _ z => e _ _ z, by
  have h := h.at_
  cases m with
  | none => exact h
  | some m =>
    obtain ⟨d, e1, c, l, h1, h2, h3, h4⟩ := h
    exact ⟨d, e1, c, l, e _ _ h1, e _ _ h2, e _ _ h3, h4⟩⟩
theorem MS.tracked (h : MRel md H m) {a : Addr} (s : MS md H a) : H a ≠ none := by
  obtain ⟨d, e, s⟩ := s
  have h := h.at_
  cases m with
  | none => rw [show md = none from h] at e; cases e
  | some m =>
    obtain ⟨d', e1, c, l, h1, h2, h3, h4⟩ := h
    rw [e1] at e; cases e
    rcases s with s | ⟨c', l', t, s, z⟩
    · rw [s, h1]; simp
    · rw [h1] at s
      have s' := Option.some.inj s
      unfold mDict at s'
      simp only [HO.dK.injEq, List.cons.injEq, Prod.mk.injEq, V.ref.injEq, true_and, and_true] at s'
      rcases z with z | z
      · rw [z, ← s'.1, h2]; simp
      · rw [z, ← s'.2.1, h3]; simp
theorem MS.ext (h : MRel md H m) (e : Ext H H') {a : Addr} (s : MS md H' a) : MS md H a := by
  obtain ⟨d, e0, s⟩ := s
  have h := h.at_
  cases m with
  | none => rw [show md = none from h] at e0; cases e0
  | some m =>
    obtain ⟨d', e1, c, l, h1, _⟩ := h
    rw [e1] at e0; cases e0
    rcases s with s | ⟨c', l', t, s, z⟩
    · exact ⟨d, e1, .inl s⟩
    · have q := e _ _ h1
      rw [s] at q
      refine ⟨d, e1, .inr ⟨c', l', t, ?_, z⟩⟩
      rw [h1, q]
theorem Fr.of_ext (h : MRel md H m) (e : Ext H H') : Fr md H md H' := ⟨fun _ z => z, fun a o q n => ⟨e _ _ q, fun s => n (MS.ext h e s)⟩⟩
/-- what data that is kept may lean on: not the addresses of av, not the machine -/
noncomputable def Hb (md : Option Addr) (av : Addr → Prop) (H : Hp) : Hp := fun a => if av a ∨ MS md H a then none else H a
theorem Hb.le (md : Option Addr) (av : Addr → Prop) (H : Hp) : Ext (Hb md av H) H := fun a o e => by
  unfold Hb at e
  split at e
  · cases e
  · exact e
theorem Hb.get {a : Addr} {o : HO} (h : H a = some o) (n1 : ¬ av a) (n2 : ¬ MS md H a) : Hb md av H a = some o := by
  unfold Hb
  rw [if_neg (fun z => z.elim n1 n2)]
  exact h
theorem Hb.of {a : Addr} {o : HO} (h : Hb md av H a = some o) : H a = some o ∧ ¬ av a ∧ ¬ MS md H a := by
  unfold Hb at h
  split at h
  · cases h
  · rename_i n
    exact ⟨h, fun z => n (.inl z), fun z => n (.inr z)⟩
theorem Hb.fr (f : Fr md H md' H') : Ext (Hb md av H) (Hb md' av H') := fun a o e => by
  obtain ⟨h, n1, n2⟩ := Hb.of e
  obtain ⟨h', n'⟩ := f.keep a o h n2
  exact Hb.get h' n1 n'
theorem Hb.ext (h : MRel md H m) (e : Ext H H') : Ext (Hb md av H) (Hb md av H') := Hb.fr (Fr.of_ext h e)
theorem Hb.sub {av' : Addr → Prop} (h : ∀ a, av' a → av a) : Ext (Hb md av H) (Hb md av' H) := fun a o e => by
  obtain ⟨h1, n1, n2⟩ := Hb.of e
  exact Hb.get h1 (fun z => n1 (h a z)) n2
/-- a new object lies in the ground -/
theorem Hb.new {p : Addr} {o : HO} (h : MRel md H m) (ha : ∀ a, av a → H a ≠ none) (hp : H p = none) : Hb md av (upd H p o) p = some o :=
  Hb.get upd_same (fun z => ha p z hp) fun z => MS.tracked h (MS.ext h (Ext.new hp) z) hp
/-! ### the slots -/
structure RE (C : RC) (md : Option Addr) (av : Addr → Prop) (H : Hp) (m : Option MSt) (σ : L2.St) (env : Env) : Prop where
  mr : MRel md H m
  avt : ∀ a, av a → H a ≠ none ∧ ¬ MS md H a
  len : σ.length = env.length
  sh : ∀ (i : Nat) d, env[i]? = some (.sh d) → ∃ v, σ[i]? = some (some v) ∧ Rep C md (Hb md av H) d v
  ol : ∀ (i : Nat) ds, env[i]? = some (.ol ds) → ∃ a vs, σ[i]? = some (some (.ref a)) ∧ av a ∧ H a = some (.lst vs) ∧ Reps C md (Hb md av H) ds vs
  ne : ∀ (i j : Nat) ds es a, env[i]? = some (.ol ds) → env[j]? = some (.ol es) → σ[i]? = some (some (.ref a)) → σ[j]? = some (some (.ref a)) → i = j
theorem RE.step {σ : L2.St} {env : Env} (r : RE C md av H m σ env) (f : Fr md H md' H') (hm : MRel md' H' m') : RE C md' av H' m' σ env where
  mr := hm
  avt := fun a z => by
    obtain ⟨t, n⟩ := r.avt a z
    cases q : H a with
    | none => exact absurd q t
    | some o =>
      obtain ⟨q', n'⟩ := f.keep a o q n
      exact ⟨by rw [q']; simp, n'⟩
  len := r.len
  sh := fun i d e => by
    obtain ⟨v, h1, h2⟩ := r.sh i d e
    exact ⟨v, h1, Rep.mono f.same (Hb.fr f) d v h2⟩
  ol := fun i ds e => by
    obtain ⟨a, vs, h1, h2, h3, h4⟩ := r.ol i ds e
    exact ⟨a, vs, h1, h2, (f.keep a _ h3 (r.avt a h2).2).1, Reps.mono f.same (Hb.fr f) ds vs h4⟩
  ne := r.ne
theorem RE.ext {σ : L2.St} {env : Env} (r : RE C md av H m σ env) (e : Ext H H') : RE C md av H' m σ env := r.step (Fr.of_ext r.mr e) (r.mr.ext e)
theorem RE.avn {σ : L2.St} {env : Env} (r : RE C md av H m σ env) : ∀ a, av a → H a ≠ none := fun a z => (r.avt a z).1
end
end Ev
set_option Elab.async false
set_option linter.all false
set_option maxRecDepth 100000
set_option maxHeartbeats 1000000
/-! Ev3: operators by data. -/
namespace Ev
open PySem L2 PyProof.Rows Classical
/-- the ground is right -/
structure GR (md : Option Addr) (av : Addr → Prop) (H : Hp) (m : Option MSt) : Prop where
  mr : MRel md H m
  avt : ∀ a, av a → H a ≠ none
/-- data z comes, and all that is tracked stays -/
def Pz (C : RC) (md : Option Addr) (av : Addr → Prop) (H : Hp) (z : D) (Q : VK) : Prop := ∀ v H', Ext H H' → Rep C md (Hb md av H') z v → Q v H'
section
variable {C : RC} {md : Option Addr} {av : Addr → Prop} {H : Hp} {m : Option MSt} {Q : VK}
theorem Pz.here {z : D} {v : V} (p : Pz C md av H z Q) (h : Rep C md (Hb md av H) z v) : Q v H := p v H (Ext.refl H) h
theorem Pz.tup {ds : List D} {vs : List V} (g : GR md av H m) (p : Pz C md av H (.tup ds) Q) (h : Reps C md (Hb md av H) ds vs) : ∀ q, H q = none → Q (.ref q) (upd H q (.tup vs)) := fun q hq =>
  p _ _ (Ext.new hq) (by
    simp only [Rep]
    exact ⟨q, vs, rfl, Or.inl (Or.inl (Hb.new g.mr g.avt hq)), Reps.mono (fun _ e => e) (Hb.ext g.mr (Ext.new hq)) ds vs h⟩)
theorem Pz.lst {ds : List D} {vs : List V} (g : GR md av H m) (p : Pz C md av H (.lst ds) Q) (h : Reps C md (Hb md av H) ds vs) : ∀ q, H q = none → Q (.ref q) (upd H q (.lst vs)) := fun q hq =>
  p _ _ (Ext.new hq) (by
    simp only [Rep]
    exact ⟨q, vs, rfl, Hb.new g.mr g.avt hq, Reps.mono (fun _ e => e) (Hb.ext g.mr (Ext.new hq)) ds vs h⟩)
end
def rBin (C : RC) (o : BOp) : R2 := fun x y H Q => ∃ (md : Option Addr) (av : Addr → Prop) (m : Option MSt) (d e z : D),
  GR md av H m ∧ Rep C md (Hb md av H) d x ∧ Rep C md (Hb md av H) e y ∧ binD o d e = some z ∧ Pz C md av H z Q
def opSem : BOp → Value → Value → Sem Value
  | .add => binaryOp .Add
  | .sub => binaryOp .Sub
  | .mul => binaryOp .Mult
  | .fdiv => binaryOp .FloorDiv
  | .mod => binaryOp .Mod
  | .pow => binaryOp .Pow
  | .band => binaryOp .BitAnd
  | .bor => binaryOp .BitOr
  | .shl => binaryOp .LShift
  | .eq => compareOp .Eq
  | .ne => compareOp .NotEq
  | .lt => compareOp .Lt
  | .le => compareOp .LtE
  | .gt => compareOp .Gt
  | .ge => compareOp .GtE
  | .is_ => compareOp .Is
  | .isnt => compareOp .IsNot
  | .in_ => compareOp .In
  | .notin => compareOp .NotIn
theorem _root_.L2.OpR.imp {X : Cx} {f : Value → Value → Sem Value} {r r' : R2} (h : OpR X f r) (i : ∀ x y H Q, r' x y H Q → r x y H Q) : OpR X f r' := fun pins s σ H x y v u Q I rx ry q => h pins s σ H x y v u Q I rx ry (i _ _ _ _ q)
/-- by cases of what is asked: one rule a case -/
theorem _root_.L2.OpR.cases {X : Cx} {f : Value → Value → Sem Value} {r' : R2} (i : ∀ x y H Q, r' x y H Q → ∃ r, OpR X f r ∧ r x y H Q) : OpR X f r' := fun pins s σ H x y v u Q I rx ry q => by
  obtain ⟨r, h, q⟩ := i _ _ _ _ q
  exact h pins s σ H x y v u Q I rx ry q
section
variable {X : Cx} {C : RC}
theorem lim_sz {n : Nat} (h : n ≤ LIM) : n ≤ sizeLine := Nat.le_trans h LIM_le
theorem op_addD (hK : C.K = X.K) : OpR X (binaryOp .Add) (rBin C .add) := OpR.cases fun x y H Q h => by
  obtain ⟨md, av, m, d, e, z, g, rx, ry, hz, p⟩ := h
  simp only [binD] at hz
  cases d <;> cases e <;> simp only [addD, reduceCtorEq] at hz
  · simp only [Rep] at rx ry
    cases hz
    exact ⟨_, op_add, _, _, rx, ry, p.here (by simp [Rep])⟩
  · simp only [Rep] at rx ry
    split at hz
    · rename_i hl
      cases hz
      exact ⟨_, op_add_str, _, _, rx, ry, lim_sz hl, p.here (by simp [Rep])⟩
    · cases hz
  · rename_i xs ys
    simp only [Rep] at rx ry
    obtain ⟨a, vs, rfl, ha, hr⟩ := rx
    obtain ⟨b, ws, rfl, hb, hs⟩ := ry
    rw [hK] at ha hb
    split at hz
    · rename_i hl
      cases hz
      have l1 := hr.length
      have l2 := hs.length
      rw [List.length_append] at hl
      refine ⟨_, op_catA, a, b, vs, ws, rfl, rfl, (Hb.le _ _ _).tup ha, (Hb.le _ _ _).tup hb, lim_sz (by omega), fun e => ?_, fun n e => ?_, fun _ _ => Pz.tup g p (hr.append hs)⟩
      · have e0 : xs = [] := List.eq_nil_of_length_eq_zero (by rw [← l1, e]; rfl)
        subst e0
        exact p.here (by simp only [Rep]; rw [hK]; exact ⟨b, ws, rfl, hb, hs⟩)
      · have e0 : ys = [] := List.eq_nil_of_length_eq_zero (by rw [← l2, e]; rfl)
        subst e0
        exact p.here (by simp only [Rep]; rw [hK]; exact ⟨a, vs, rfl, ha, by simpa using hr⟩)
    · cases hz
  · rename_i xs ys
    simp only [Rep] at rx ry
    obtain ⟨a, vs, rfl, ha, hr⟩ := rx
    obtain ⟨b, ws, rfl, hb, hs⟩ := ry
    split at hz
    · rename_i hl
      cases hz
      have l1 := hr.length
      have l2 := hs.length
      rw [List.length_append] at hl
      exact ⟨_, op_cat, a, b, vs, ws, rfl, rfl, Hb.le _ _ _ _ _ ha, Hb.le _ _ _ _ _ hb, lim_sz (by omega), Pz.lst g p (hr.append hs)⟩
    · cases hz
def rSubB : R2 := fun x y H Q => ∃ a b : Bool, x = .bl a ∧ y = .bl b ∧ Q (.int ((if a then 1 else 0) - (if b then 1 else 0))) H
theorem op_mulAny : OpR X (binaryOp .Mult) (rI IntMulOk fun i j => .int (i * j)) := opI fun _ _ _ _ _ _ _ hc q => mul_int q hc
/-- () * k: the same object -/
theorem tup_mul0 (l : Addr) (n : Nat) (dd : Option Addr) (sl : Array (Option Value)) (k : Int) (u : Tok) (c0 : (decide (k < -(2 ^ 63)) || decide (k ≥ 2 ^ 63)) = false) :
    Meets (Builtin.«tuple.__mul__» ⟨[.ref l, .int k u], []⟩) (fun _ R s => s.heap.get? l = some { cls := .type "tuple", dict := dd, data := .seq #[] n, slots := sl } ∧ R (.ok (.ret (Value.ref l))) s) :=
  .of_wp fun prog w A R s h => by
    obtain ⟨hp, g, d, tk, os⟩ := s
    obtain ⟨hl, h⟩ := h
    have f1 := AutoSeq1.idx_int
    wp_walk using wpAny_loadPart' hl
    refine wpAny_ite_false (decide_eq_false (by rw [c0]; exact Bool.false_ne_true)) ?_
    wp_walk using wpAny_loadPart' hl
    exact ⟨_, rfl, h⟩
theorem op_rep0 : OpR X (binaryOp .Mult) (fun x y H Q => ∃ l k, x = .ref l ∧ y = .int k ∧ SqT X.K H l [] ∧ 0 ≤ k ∧ k ≤ 1000 ∧ Q (.ref l) H) := by
  intro pins s σ H x y v u Q I rx ry h
  obtain ⟨l, k, rfl, rfl, hT, h1, h2, q⟩ := h
  cases rx
  obtain ⟨t, rfl⟩ := ry
  obtain ⟨its, r, ⟨⟨cls, dd, data, sl⟩, ho, hc, n, hd⟩, hs⟩ := I.tuple hT
  cases r
  simp only at hc hd
  subst hc hd
  have c0 : (decide (k < -(2 ^ 63)) || decide (k ≥ 2 ^ 63)) = false := by rw [decide_eq_false (by omega), decide_eq_false (by omega)]; rfl
  exact wpAny_binaryOp_repeat_ref (T := "tuple") (U := "int") (by decide) ⟨_, ho, rfl⟩ (fun s' => typeIs_int s' k t) noFill_tuple_mul F.fills_int_mul F.slot_int_rmul repeat_tuple F.slot_int_index.lookup
    (call_meets F.slot_int_rmul (typeIs_int s k t) F.entry_int_rmul (F.args_int_rmul_2 _ _) (int_rmul_tuple k t l #[] n dd sl)
      ⟨ho, rfl, ⟨_, ho, rfl⟩, call_meets F.slot_tuple_mul ⟨_, ho, rfl⟩ F.entry_tuple_mul (F.args_tuple_mul_2 _ _) (tup_mul0 l n dd sl k t c0) ⟨ho, ⟨.ref l, H, I, rfl, q⟩⟩⟩)
theorem op_mulD (hK : C.K = X.K) : OpR X (binaryOp .Mult) (rBin C .mul) := OpR.cases fun x y H Q h => by
  obtain ⟨md, av, m, d, e, z, g, rx, ry, hz, p⟩ := h
  simp only [binD] at hz
  cases d <;> cases e <;> simp only [mulD, reduceCtorEq] at hz
  · simp only [Rep] at rx ry
    split at hz
    · rename_i hl
      cases hz
      refine ⟨_, op_mulAny, _, _, rx, ry, ?_, p.here (by simp [Rep])⟩
      unfold mulOk at hl
      simp only [Bool.or_eq_true, decide_eq_true_eq] at hl
      have b : ∀ x : Int, Builtin.Int.intBits x ≤ x.natAbs.log2 + 1 := fun x => by
        unfold Builtin.Int.intBits
        split <;> omega
      rcases hl with (hl | hl) | hl
      · exact CMulW.ok hl
      · exact .of_left (Nat.le_trans (b _) (by omega))
      · exact .of_right (Nat.le_trans (b _) (by omega))
    · cases hz
  · simp only [Rep] at rx ry
    split at hz
    · rename_i hl
      cases hz
      rename_i w k
      refine ⟨fun x y H Q => ∃ w k, x = .str w ∧ y = .int k ∧ MulOk w k ∧ Q (.str (Txt.mul w k)) H, ?_, w, k, rx, ry, mulOk_of 100 1000 hl.2.2 (by omega) (by omega) (by decide) (by decide), p.here (by simp [Rep])⟩
      intro pins s σ H x y v u Q I rx ry q
      obtain ⟨w, k, rfl, rfl, hm, q⟩ := q
      obtain ⟨t, rfl⟩ := rx
      obtain ⟨t', rfl⟩ := ry
      exact SB.mul hm fun t2 k2 => ⟨.str _, H, I.tok _, ⟨_, rfl⟩, q⟩
    · cases hz
  · rename_i xs k
    simp only [Rep] at rx ry
    obtain ⟨a, vs, rfl, ha, hr⟩ := rx
    rw [hK] at ha
    split at hz
    · rename_i hl
      cases hz
      have l1 := hr.length
      refine ⟨_, op_repT, a, k, vs, rfl, ry, (Hb.le _ _ _).tup ha, fun e => hl.2.2.2 (List.eq_nil_of_length_eq_zero (by rw [← l1, e]; rfl)), hl.1, hl.2.1, by omega, Pz.tup g p (by exact Reps.flatten hr)⟩
    · split at hz
      · rename_i hl
        cases hz
        obtain rfl := hl.2.2
        simp only [Reps] at hr
        subst hr
        exact ⟨_, op_rep0, a, k, rfl, ry, (Hb.le _ _ _).tup ha, hl.1, hl.2.1, p.here (by simp only [Rep]; exact ⟨a, [], rfl, by rw [hK]; exact ha, by simp [Reps]⟩)⟩
      · cases hz
  · rename_i xs k
    simp only [Rep] at rx ry
    obtain ⟨a, vs, rfl, ha, hr⟩ := rx
    split at hz
    · rename_i hl
      cases hz
      have l1 := hr.length
      refine ⟨_, op_rep, a, k, vs, rfl, ry, Hb.le _ _ _ _ _ ha, by omega, by omega, ?_, Pz.lst g p (by exact Reps.flatten hr)⟩
      have h1 : vs.length * k.toNat ≤ 100 * 1000 := Nat.mul_le_mul (by omega) (by omega)
      exact lim_sz (by unfold LIM; omega)
    · cases hz
theorem eq_dp {md : Option Addr} {av : Addr → Prop} {H : Hp} {d : D} {x : V} (hK : C.K = X.K) (h : d.eqok = true) (r : Rep C md (Hb md av H) d x) : Dp X.K H x d.py := by
  rw [← hK]
  exact Rep.dp d x (eqok_plain h) (Rep.mono (md' := md) (fun _ e => e) (Hb.le _ _ _) d x r)
/-- where nothing is asked of what stands in x -/
def rEmpty (K : PySem.W.Frag) (f : Bool → Bool) : R2 := fun x y H Q => ∃ a b vs, x = .ref a ∧ y = .ref b ∧ ((SqT K H a vs ∧ SqT K H b []) ∨ (SqL K H a vs ∧ SqL K H b [])) ∧ Q (.bl (f vs.isEmpty)) H
theorem size_zero {vs : List V} {its : List Value} (r : Vals vs its) : (its.toArray.size == (#[] : Array Value).size) = vs.isEmpty := by
  have e := r.length
  cases vs <;> cases its <;> simp_all
theorem op_eqT0 (hu : X.A.units < cLine) : OpR X (compareOp .Eq) (rEmpty X.K id) := by
  intro pins s σ H x y v u Q I rx ry h
  obtain ⟨a, b, vs, rfl, rfl, hc, q⟩ := h
  cases rx
  cases ry
  rcases hc with ⟨ha, hb⟩ | ⟨ha, hb⟩
  · obtain ⟨its, r, pl, _⟩ := I.tuple ha
    obtain ⟨its2, r2, pl2, _⟩ := I.tuple hb
    cases r2
    refine SeqAt.eq_tupleAt (e := fun _ => true) pl pl2 hu (fun j h1 h2 => absurd h2 (by simp)) ⟨.bl vs.isEmpty, H, I, ?_, q⟩
    show Value.bool _ = Value.bool _
    rw [← size_zero r]
    simp
  · obtain ⟨its, r, pl, _⟩ := I.list ha
    obtain ⟨its2, r2, pl2, _⟩ := I.list hb
    cases r2
    have e := size_zero r
    cases hv : vs.isEmpty with
    | true =>
      rw [hv] at e q
      exact SeqAt.eq_listAt (e := fun _ => true) pl.isList pl2.isList (by simpa using e) hu (fun j h1 h2 => absurd h2 (by simp)) ⟨.bl true, H, I, by show Value.bool _ = Value.bool _; simp, q⟩
    | false =>
      rw [hv] at e q
      exact SeqAt.eq_list_lengthsAt pl.isList pl2.isList (by rw [bne, e]; rfl) hu ⟨.bl false, H, I, rfl, q⟩
theorem op_neT0 (hu : X.A.units < cLine) : OpR X (compareOp .NotEq) (rEmpty X.K (!·)) := by
  intro pins s σ H x y v u Q I rx ry h
  obtain ⟨a, b, vs, rfl, rfl, hc, q⟩ := h
  cases rx
  cases ry
  rcases hc with ⟨ha, hb⟩ | ⟨ha, hb⟩
  · obtain ⟨its, r, pl, _⟩ := I.tuple ha
    obtain ⟨its2, r2, pl2, _⟩ := I.tuple hb
    cases r2
    refine SeqAt.RcNeAt.tuples (e := fun _ => true) pl pl2 hu (fun j h1 h2 => absurd h2 (by simp)) X.prog X.w _ _ ⟨.bl (!vs.isEmpty), H, I, ?_, q⟩
    show Value.bool _ = Value.bool _
    rw [← size_zero r]
    simp
  · obtain ⟨its, r, pl, _⟩ := I.list ha
    obtain ⟨its2, r2, pl2, _⟩ := I.list hb
    cases r2
    have e := size_zero r
    cases hv : vs.isEmpty with
    | true =>
      rw [hv] at e q
      exact SeqAt.RcNeAt.lists (e := fun _ => true) pl.isList pl2.isList (by simpa using e) hu (fun j h1 h2 => absurd h2 (by simp)) X.prog X.w _ _ ⟨.bl false, H, I, by show Value.bool _ = Value.bool _; simp, q⟩
    | false =>
      rw [hv] at e q
      exact SeqAt.RcNeAt.lists_lengths pl.isList pl2.isList (by rw [bne, e]; rfl) hu X.prog X.w _ _ ⟨.bl true, H, I, rfl, q⟩
theorem empty_r {md : Option Addr} {av : Addr → Prop} {H : Hp} {d e : D} {x y : V} {b : Bool} {f : Bool → Bool} {Q : VK} (hK : C.K = X.K) (rx : Rep C md (Hb md av H) d x) (ry : Rep C md (Hb md av H) e y) (h : emptyB d e = some b) (q : Q (.bl (f b)) H) : rEmpty X.K f x y H Q := by
  unfold emptyB at h
  split at h
  · rename_i xs
    cases h
    simp only [Rep] at rx ry
    obtain ⟨a, vs, rfl, ha, hr⟩ := rx
    obtain ⟨b, ws, rfl, hb, hs⟩ := ry
    simp only [Reps] at hs
    subst hs
    rw [hK] at ha hb
    have e1 : vs.isEmpty = xs.isEmpty := by
      have := hr.length
      cases vs <;> cases xs <;> simp_all
    exact ⟨a, b, vs, rfl, rfl, .inl ⟨(Hb.le _ _ _).tup ha, (Hb.le _ _ _).tup hb⟩, by rw [e1]; exact q⟩
  · rename_i xs
    cases h
    simp only [Rep] at rx ry
    obtain ⟨a, vs, rfl, ha, hr⟩ := rx
    obtain ⟨b, ws, rfl, hb, hs⟩ := ry
    simp only [Reps] at hs
    subst hs
    have e1 : vs.isEmpty = xs.isEmpty := by
      have := hr.length
      cases vs <;> cases xs <;> simp_all
    exact ⟨a, b, vs, rfl, rfl, .inr ⟨.inl (.inl (Hb.le _ _ _ _ _ ha)), .inl (.inl (Hb.le _ _ _ _ _ hb))⟩, by rw [e1]; exact q⟩
  · cases h
theorem op_eqDD (hK : C.K = X.K) (hu : X.A.units + 65 < cLine) : OpR X (compareOp .Eq) (rBin C .eq) := OpR.cases fun x y H Q h => by
  obtain ⟨md, av, m, d, e, z, g, rx, ry, hz, p⟩ := h
  simp only [binD, eqE, yesD] at hz
  by_cases hl : (d.eqok && e.eqok) = true
  · simp only [eqB, hl, if_true, Option.map_some, Option.some.injEq] at hz
    subst hz
    rw [Bool.and_eq_true] at hl
    exact ⟨_, op_eqD (by omega), _, _, eq_dp hK hl.1 rx, eq_dp hK hl.2 ry, eqok_shaped hl.1, eqok_shaped hl.2, p.here (by simp [Rep])⟩
  · simp only [eqB, hl, if_false, Bool.false_eq_true] at hz
    cases hb : emptyB d e with
    | none => rw [hb] at hz; cases hz
    | some b =>
      rw [hb] at hz
      cases hz
      exact ⟨_, op_eqT0 (by omega), empty_r (f := id) hK rx ry hb (p.here (by simp [Rep]))⟩
theorem op_neDD (hK : C.K = X.K) (hu : X.A.units + 65 < cLine) : OpR X (compareOp .NotEq) (rBin C .ne) := OpR.cases fun x y H Q h => by
  obtain ⟨md, av, m, d, e, z, g, rx, ry, hz, p⟩ := h
  simp only [binD, eqE, noD] at hz
  by_cases hl : (d.eqok && e.eqok) = true
  · simp only [eqB, hl, if_true, Option.map_some, Option.some.injEq] at hz
    subst hz
    rw [Bool.and_eq_true] at hl
    exact ⟨_, op_neD (by omega), _, _, eq_dp hK hl.1 rx, eq_dp hK hl.2 ry, eqok_shaped hl.1, eqok_shaped hl.2, p.here (by simp [Rep])⟩
  · simp only [eqB, hl, if_false, Bool.false_eq_true] at hz
    cases hb : emptyB d e with
    | none => rw [hb] at hz; cases hz
    | some b =>
      rw [hb] at hz
      cases hz
      exact ⟨_, op_neT0 (by omega), empty_r (f := (!·)) hK rx ry hb (p.here (by simp [Rep]))⟩
theorem anyD (ys : List D) (d : PyData) : (D.pys ys).any (fun z => PyData.eqv z d) = ys.any fun z => PyData.eqv z.py d := by
  rw [pys_map, List.any_map]; rfl
/-- x in y, x not in y -/
theorem op_inGen (hK : C.K = X.K) (hu : X.A.units + 65 < cLine) (neg : Bool) : OpR X (compareOp (if neg then .NotIn else .In)) (rBin C (if neg then .notin else .in_)) := OpR.cases fun x y H Q h => by
  obtain ⟨md, av, m, d, e, z, g, rx, ry, hz, p⟩ := h
  obtain ⟨b, hb, hz⟩ : ∃ b, inB d e = some b ∧ z = .bl (if neg then !b else b) := by
    cases neg
    · simp only [Bool.false_eq_true, if_false, binD, yesD] at hz
      cases q : inB d e with
      | none => rw [q] at hz; cases hz
      | some b => rw [q] at hz; cases hz; exact ⟨b, rfl, rfl⟩
    · simp only [if_true, binD, noD] at hz
      cases q : inB d e with
      | none => rw [q] at hz; cases hz
      | some b => rw [q] at hz; cases hz; exact ⟨b, rfl, rfl⟩
  subst hz
  cases e <;> simp only [inB, reduceCtorEq] at hb
  · -- a text in a text
    cases d <;> simp only [reduceCtorEq, Option.some.injEq] at hb
    subst hb
    simp only [Rep] at rx ry
    cases neg
    · exact ⟨_, op_in_str, _, _, rx, ry, p.here (by simp [Rep])⟩
    · exact ⟨_, op_notin_str, _, _, rx, ry, p.here (by simp [Rep])⟩
  · rename_i ys
    split at hb
    · rename_i hl
      rw [Bool.and_eq_true] at hl
      simp only [Option.some.injEq] at hb
      have sh2 : SeqAt.shaped (.tuple (D.pys ys)) = true := eqok_shaped (d := .lst ys) hl.2
      have q2 := Rep.dp (.tup ys) y (by simpa [D.plain] using eqok_plain hl.2) (Rep.mono (md' := md) (fun _ e => e) (Hb.le _ _ _) _ y ry)
      rw [hK] at q2
      refine ⟨fun x y H Q => Dp X.K H x d.py ∧ Dp X.K H y (.tuple (D.pys ys)) ∧ Q (.bl (if neg then !b else b)) H, ?_, eq_dp hK hl.1 rx, q2, p.here (by simp [Rep])⟩
      intro pins s σ H x y v u Q I rx ry q
      obtain ⟨k1, k2, q⟩ := q
      obtain ⟨as, r1⟩ := Dp.reads I d.py x v k1 rx
      obtain ⟨bs, r2⟩ := Dp.reads I (.tuple (D.pys ys)) y u k2 ry
      have hr := room_in_shaped (A := X.A) (xs := D.pys ys) (eqok_shaped hl.1) hu
      cases neg
      · exact SeqAt.in_tuple_reads r2 r1 (SeqAt.canLay_of_shaped sh2) (SeqAt.canLay_of_shaped (eqok_shaped hl.1)) hr ⟨.bl _, H, I, rfl, by rw [anyD, hb]; exact q⟩
      · exact SeqAt.notIn_tuple_reads r2 r1 (SeqAt.canLay_of_shaped sh2) (SeqAt.canLay_of_shaped (eqok_shaped hl.1)) hr ⟨.bl _, H, I, rfl, by rw [anyD, hb]; exact q⟩
    · cases hb
  · rename_i ys
    split at hb
    · rename_i hl
      rw [Bool.and_eq_true] at hl
      simp only [Option.some.injEq] at hb
      have sh2 : SeqAt.shaped (.list (D.pys ys)) = true := eqok_shaped (d := .lst ys) hl.2
      have q2 : Dp X.K H y (.list (D.pys ys)) := eq_dp hK hl.2 ry
      cases neg
      · exact ⟨_, op_inD hu, _, _, eq_dp hK hl.1 rx, q2, eqok_shaped hl.1, sh2, by rw [anyD, hb]; exact p.here (by simp [Rep])⟩
      · exact ⟨_, op_notInD hu, _, _, eq_dp hK hl.1 rx, q2, eqok_shaped hl.1, sh2, by rw [anyD, hb]; exact p.here (by simp [Rep])⟩
    · cases hb
theorem op_subD : OpR X (binaryOp .Sub) (rBin C .sub) := OpR.cases fun x y H Q h => by
  obtain ⟨md, av, m, d, e, z, g, rx, ry, hz, p⟩ := h
  simp only [binD] at hz
  cases d <;> cases e <;> simp only [subD, reduceCtorEq] at hz
  · simp only [Rep] at rx ry
    cases hz
    rename_i a b
    refine ⟨rSubB, ?_, a, b, rx, ry, p.here (by simp [Rep])⟩
    intro pins s σ H x y v u Q I rx ry q
    obtain ⟨a, b, rfl, rfl, q⟩ := q
    cases rx
    cases ry
    exact sub_bool ⟨.int _, H, I.tok _, ⟨_, rfl⟩, q⟩
  · simp only [Rep] at rx ry
    cases hz
    exact ⟨_, op_sub, _, _, rx, ry, p.here (by simp [Rep])⟩
theorem op_fdivD : OpR X (binaryOp .FloorDiv) (rBin C .fdiv) := OpR.imp op_fdivW fun x y H Q h => by
  obtain ⟨md, av, m, d, e, z, g, rx, ry, hz, p⟩ := h
  simp only [binD] at hz
  cases d <;> cases e <;> simp only [fdivD, reduceCtorEq] at hz
  simp only [Rep] at rx ry
  split at hz
  · rename_i hl
    cases hz
    exact ⟨_, _, rx, ry, hl, p.here (by simp [Rep])⟩
  · cases hz
theorem op_modD : OpR X (binaryOp .Mod) (rBin C .mod) := OpR.imp op_mod fun x y H Q h => by
  obtain ⟨md, av, m, d, e, z, g, rx, ry, hz, p⟩ := h
  simp only [binD] at hz
  cases d <;> cases e <;> simp only [modD, reduceCtorEq] at hz
  simp only [Rep] at rx ry
  split at hz
  · rename_i hl
    cases hz
    exact ⟨_, _, rx, ry, hl, p.here (by simp [Rep])⟩
  · cases hz
theorem op_powD : OpR X (binaryOp .Pow) (rBin C .pow) := OpR.imp op_pow fun x y H Q h => by
  obtain ⟨md, av, m, d, e, z, g, rx, ry, hz, p⟩ := h
  simp only [binD] at hz
  cases d <;> cases e <;> simp only [powD, reduceCtorEq] at hz
  simp only [Rep] at rx ry
  split at hz
  · rename_i hl
    cases hz
    exact ⟨_, _, rx, ry, ⟨hl.1, by omega, by omega⟩, p.here (by simp [Rep])⟩
  · cases hz
theorem op_cmpD {op : CmpOp} {o : BOp} {f : Int → Int → Bool} {g : List Nat → List Nat → Bool} (ho : ∀ x y, binD o x y = cmpD f g x y) (hi : OpR X (compareOp op) (rI0 fun i j => .bl (f i j)))
    (hs : OpR X (compareOp op) (fun x y H Q => ∃ i j : Str, x = .str i ∧ y = .str j ∧ Q (.bl (g i.cps.toList j.cps.toList)) H)) : OpR X (compareOp op) (rBin C o) := OpR.cases fun x y H Q h => by
  obtain ⟨md, av, m, d, e, z, gr, rx, ry, hz, p⟩ := h
  rw [ho] at hz
  cases d <;> cases e <;> simp only [cmpD, reduceCtorEq] at hz
  · simp only [Rep] at rx ry
    cases hz
    exact ⟨_, hi, _, _, rx, ry, p.here (by simp [Rep])⟩
  · simp only [Rep] at rx ry
    cases hz
    exact ⟨_, hs, _, _, rx, ry, p.here (by simp [Rep])⟩
theorem non_dec {C : RC} {md : Option Addr} {H : Hp} {d : D} {x : V} (h : Rep C md H d x) : decide (x = .non) = isNon d := by
  cases d <;> simp only [Rep] at h <;> unfold isNon
  · subst h; simp
  · subst h; simp
  · subst h; simp
  · subst h; simp
  · obtain ⟨_, _, rfl, _⟩ := h; simp
  · obtain ⟨_, _, rfl, _⟩ := h; simp
  · obtain ⟨_, _, rfl, _⟩ := h; simp
  · obtain ⟨_, _, _, _, rfl, _⟩ := h; simp
  · obtain ⟨_, _, rfl⟩ := h; simp
  · obtain ⟨_, rfl, _⟩ := h; simp
theorem op_isD : OpR X (compareOp .Is) (rBin C .is_) := OpR.imp op_isN fun x y H Q h => by
  obtain ⟨md, av, m, d, e, z, g, rx, ry, hz, p⟩ := h
  simp only [binD, isNB, yesD] at hz
  split at hz
  · cases hz
    exact ⟨by simpa [Rep] using ry, by rw [non_dec rx]; exact p.here (by simp [Rep])⟩
  · cases hz
theorem op_isntD : OpR X (compareOp .IsNot) (rBin C .isnt) := OpR.imp op_notN fun x y H Q h => by
  obtain ⟨md, av, m, d, e, z, g, rx, ry, hz, p⟩ := h
  simp only [binD, isNB, noD] at hz
  split at hz
  · cases hz
    exact ⟨by simpa [Rep] using ry, by rw [non_dec rx]; exact p.here (by simp [Rep])⟩
  · cases hz
theorem op_void {f : Value → Value → Sem Value} {o : BOp} (ho : ∀ x y, binD o x y = none) : OpR X f (rBin C o) := OpR.cases fun x y H Q h => by
  obtain ⟨md, av, m, d, e, z, g, rx, ry, hz, p⟩ := h
  rw [ho] at hz
  cases hz
/-- every operator, by data -/
theorem op_all (hK : C.K = X.K) (hu : X.A.units + 65 < cLine) : ∀ o : BOp, OpR X (opSem o) (rBin C o)
  | .add => op_addD hK
  | .sub => op_subD
  | .mul => op_mulD hK
  | .fdiv => op_fdivD
  | .mod => op_modD
  | .pow => op_powD
  | .band => op_void fun _ _ => rfl
  | .bor => op_void fun _ _ => rfl
  | .shl => op_void fun _ _ => rfl
  | .eq => op_eqDD hK hu
  | .ne => op_neDD hK hu
  | .lt => op_cmpD (g := fun i j => ltS i j) (fun _ _ => rfl) op_lt op_lt_str
  | .le => op_cmpD (g := fun i j => !ltS j i) (fun _ _ => rfl) op_le op_le_str
  | .gt => op_cmpD (g := fun i j => ltS j i) (fun _ _ => rfl) op_gt op_gt_str
  | .ge => op_cmpD (g := fun i j => !ltS i j) (fun _ _ => rfl) op_ge op_ge_str
  | .is_ => op_isD
  | .isnt => op_isntD
  | .in_ => op_inGen hK hu false
  | .notin => op_inGen hK hu true
/-! ### one-place operators, subscripts, slices -/
def rUn1 (C : RC) (o : UOp) : V → Hp → VK → Prop := fun x H Q => ∃ (md : Option Addr) (av : Addr → Prop) (m : Option MSt) (d z : D), GR md av H m ∧ Rep C md (Hb md av H) d x ∧ unD o d = some z ∧ Pz C md av H z Q
theorem un_neg1 : UnR X (unaryOp .USub) (rUn1 C .neg) := fun pins s σ H x v Q I rx h => by
  obtain ⟨md, av, m, d, z, g, rd, hz, p⟩ := h
  cases d <;> simp only [unD, reduceCtorEq] at hz
  cases hz
  simp only [Rep] at rd
  exact un_neg pins s σ H x v Q I rx ⟨_, rd, p.here (by simp [Rep])⟩
theorem atI_reps {md : Option Addr} {H : Hp} {ds : List D} {vs : List V} {i : Int} {z : D} (h : Reps C md H ds vs) (e : atI ds i = some z) : ∃ v, atI vs i = some v ∧ Rep C md H z v := by
  unfold atI at e ⊢
  rw [h.length]
  cases q : ixN ds.length i with
  | none => rw [q] at e; cases e
  | some j =>
    rw [q] at e
    exact h.get e
theorem cut_reps {md : Option Addr} {H : Hp} {ds : List D} {vs : List V} (lo hi : Option Int) (h : Reps C md H ds vs) : Reps C md H (cutL ds lo hi) (cutV vs lo hi) := by
  unfold cutL cutV
  rw [h.length]
  exact (h.drop _).take _
def rIxA (C : RC) : R2 := fun x y H Q => ∃ (md : Option Addr) (av : Addr → Prop) (m : Option MSt) (d e z : D), GR md av H m ∧ Rep C md (Hb md av H) d x ∧ Rep C md (Hb md av H) e y ∧ ixD d e = some z ∧ Pz C md av H z Q
theorem ix_all (hK : C.K = X.K) : IxR X (rIxA C) := fun value slice pins s σ H x y v u Q I rx ry h hs => by
  obtain ⟨md, av, m, d, e, z, g, rd, re, hz, p⟩ := h
  cases d <;> cases e <;> simp only [ixD, reduceCtorEq] at hz
  · simp only [Rep] at rd re
    split at hz
    · rename_i hl
      cases q : atI (Str.cps _).toList _ with
      | none => rw [q] at hz; cases hz
      | some c =>
        rw [q] at hz
        cases hz
        exact ix_str value slice pins s σ H x y v u Q I rx ry ⟨_, _, c, rd, re, lim_sz hl, q, p.here (by simp [Rep])⟩ hs
    · cases hz
  · simp only [Rep] at rd re
    obtain ⟨a, vs, e1, ha, hr⟩ := rd
    obtain ⟨w, e2, hw⟩ := atI_reps hr hz
    rw [hK] at ha
    exact ix_tup value slice pins s σ H x y v u Q I rx ry ⟨a, vs, _, w, e1, re, (Hb.le _ _ _).tup ha, e2, p.here hw⟩ hs
  · simp only [Rep] at rd re
    obtain ⟨a, vs, e1, ha, hr⟩ := rd
    obtain ⟨w, e2, hw⟩ := atI_reps hr hz
    exact ix_list value slice pins s σ H x y v u Q I rx ry ⟨a, vs, _, w, e1, re, Or.inl (Or.inl (Hb.le _ _ _ _ _ ha)), e2, p.here hw⟩ hs
def rSlAll (C : RC) : V → Option Int → Option Int → Hp → VK → Prop := fun x lo hi H Q => ∃ (md : Option Addr) (av : Addr → Prop) (m : Option MSt) (d z : D), GR md av H m ∧ Rep C md (Hb md av H) d x ∧ slD d lo hi = some z ∧ Pz C md av H z Q
theorem sl_all (hK : C.K = X.K) : SlR X (rSlAll C) := fun pins s σ H x v vl vu lo hi sl Q I rx hs pl pu h => by
  obtain ⟨md, av, m, d, z, g, rd, hz, p⟩ := h
  cases d <;> simp only [slD, reduceCtorEq] at hz
  · simp only [Rep] at rd
    split at hz
    · rename_i hl
      cases hz
      exact sl_str pins s σ H x v vl vu lo hi sl Q I rx hs pl pu ⟨_, rd, lim_sz hl, p.here (by simp [Rep])⟩
    · cases hz
  · rename_i ds
    cases hz
    simp only [Rep] at rd
    obtain ⟨a, vs, e1, ha, hr⟩ := rd
    rw [hK] at ha
    have hl := hr.length
    refine sl_tupA pins s σ H x v vl vu lo hi sl Q I rx hs pl pu ⟨a, vs, e1, (Hb.le _ _ _).tup ha, fun q => ?_, fun _ => Pz.tup g p (cut_reps lo hi hr)⟩
    refine p.here ?_
    have e0 : cutL ds lo hi = ds := by
      unfold cutL
      rw [hl] at q
      rw [q.1, q.2]
      simp
    rw [e0]
    simp only [Rep]
    rw [hK]
    exact ⟨a, vs, rfl, ha, hr⟩
  · cases hz
    simp only [Rep] at rd
    obtain ⟨a, vs, e1, ha, hr⟩ := rd
    exact sl_list pins s σ H x v vl vu lo hi sl Q I rx hs pl pu ⟨a, vs, e1, Or.inl (Or.inl (Hb.le _ _ _ _ _ ha)), Pz.lst g p (cut_reps lo hi hr)⟩
end
end Ev
set_option Elab.async false
set_option linter.all false
set_option maxRecDepth 100000
set_option maxHeartbeats 1000000
/-! Ev4: what is asked of an outcome; readings by the evaluator. -/
namespace Ev
open PySem L2 PyProof.Rows Classical
/-- the field of an exception class -/
def fieldOf (c : Str) : Str :=
  if c = "BadThings" ∨ c = "BadLot" ∨ c = "BadNumber" then "value"
  else if c = "BadTable" ∨ c = "BadClaim" ∨ c = "BadPaper" ∨ c = "BadDays" then "place"
  else if c = "BadFacts" then "number" else if c = "BadText" then "line" else if c = "Quarrel" then "weights" else "most"
/-- an exception of the class c with the data d: its own dict at dd -/
def XcAt (C : RC) (md : Option Addr) (av : Addr → Prop) (H : Hp) (c : Str) (d : D) (dd : Addr) : Prop := ∃ v, H dd = some (.xd [(fieldOf c, v)]) ∧ Rep C md (Hb md av H) d v
section
variable {α β γ δ : Type}
/-- what is asked of an outcome at (md, H), in terms of β, which R ties to the outcome's value -/
def outG (C : RC) (W : WX) (av : Addr → Prop) (R : Option Addr → Hp → α → β → Prop) (md : Option Addr) (H : Hp) (σ : L2.St) (o : Out α) (Q : β → Hp → Prop) : Prop := match o with
  | .ok a m' => ∀ md' b H', Fr md H md' H' → MRel md' H' m' → R md' H' a b → Q b H'
  | .exc c d m' => ∀ md' dd H' A, Fr md H md' H' → MRel md' H' m' → XcAt C md' av H' c d dd → C.cl c = some A → W (.ref A) (some dd) σ H'
  | .bad => False
variable {C : RC} {W : WX} {av : Addr → Prop} {R : Option Addr → Hp → α → β → Prop} {R' : Option Addr → Hp → γ → δ → Prop} {md md1 : Option Addr} {H H1 : Hp} {σ : L2.St} {m : Option MSt} {Q : δ → Hp → Prop}
theorem outG.later {o : Out γ} (f : Fr md H md1 H1) (h : outG C W av R' md H σ o Q) : outG C W av R' md1 H1 σ o Q := by
  cases o with
  | ok a m' => exact fun md' b H' f' r q => h md' b H' (f.trans f') r q
  | exc c d m' => exact fun md' dd H' A f' r q e => h md' dd H' A (f.trans f') r q e
  | bad => exact h
theorem outG.bind {x : M α} {f : α → M γ} (h : outG C W av R' md H σ (M.bind x f m) Q) :
    outG C W av R md H σ (x m) fun b H1 => ∃ a md1 m1, Fr md H md1 H1 ∧ MRel md1 H1 m1 ∧ R md1 H1 a b ∧ outG C W av R' md1 H1 σ (f a m1) Q := by
  unfold M.bind at h
  cases e : x m with
  | ok a m1 =>
    rw [e] at h
    exact fun md' b H' f' r q => ⟨a, md', m1, f', r, q, outG.later f' h⟩
  | exc c d m1 =>
    rw [e] at h
    exact h
  | bad =>
    rw [e] at h
    exact h
theorem outG.ret {a : γ} (h : outG C W av R' md H σ (M.ret a m) Q) (hm : MRel md H m) {b : δ} (hr : R' md H a b) : Q b H := h md b H (Fr.refl md H) hm hr
theorem outG.mono {o : Out γ} {Q' : δ → Hp → Prop} (h : outG C W av R' md H σ o Q) (i : ∀ b H', Q b H' → Q' b H') : outG C W av R' md H σ o Q' := by
  cases o with
  | ok a m' => exact fun md' b H' f r q => i _ _ (h md' b H' f r q)
  | exc c d m' => exact h
  | bad => exact h
end
/-- data and a value of it; lists of them; what is the same -/
def RD (C : RC) (av : Addr → Prop) : Option Addr → Hp → D → V → Prop := fun md H d v => Rep C md (Hb md av H) d v
def RDs (C : RC) (av : Addr → Prop) : Option Addr → Hp → List D → List V → Prop := fun md H d v => Reps C md (Hb md av H) d v
def RQ {α : Type} : Option Addr → Hp → α → α → Prop := fun _ _ a b => a = b
def tE (C : RC) (F : FT) (W : WX) (e : Ex) : TE := fun σ H Q => ∃ md av m env, RE C md av H m σ env ∧ outG C W av (RD C av) md H σ (ev F e env m) Q
def tEs (C : RC) (F : FT) (W : WX) (es : List Ex) : TA := fun σ H Q => ∃ md av m env, RE C md av H m σ env ∧ outG C W av (RDs C av) md H σ (evs F es env m) Q
def tT (C : RC) (F : FT) (W : WX) (e : Ex) : TT := fun σ H Q => ∃ md av m env, RE C md av H m σ env ∧ outG C W av RQ md H σ (M.bind (ev F e env) (fun x => M.lift (asB x)) m) Q
def tOI (C : RC) (F : FT) (W : WX) (e : Option Ex) : TO := fun σ H Q => ∃ md av m env, RE C md av H m σ env ∧ outG C W av RQ md H σ (evO F e env m) Q
theorem _root_.L2.PE.imp {X : Cx} {e : Expr} {t t' : TE} (h : PE X e t) (i : ∀ σ H Q, t' σ H Q → t σ H Q) : PE X e t' := ⟨fun pins s σ H Q I q => h.run pins s σ H Q I (i σ H Q q)⟩
theorem _root_.L2.PT.imp {X : Cx} {e : Expr} {t t' : TT} (h : PT X e t) (i : ∀ σ H Q, t' σ H Q → t σ H Q) : PT X e t' := ⟨fun pins s σ H Q I q => h.run pins s σ H Q I (i σ H Q q)⟩
theorem _root_.L2.PW.imp {X : Cx} {e : Expr} {t t' : TT} (h : PW X e t) (i : ∀ σ H Q, t' σ H Q → t σ H Q) : PW X e t' := ⟨fun wh pins s σ H Q I q => h.run wh pins s σ H Q I (i σ H Q q)⟩
theorem _root_.L2.PA.imp {X : Cx} {e : List Expr} {t t' : TA} (h : PA X e t) (i : ∀ σ H Q, t' σ H Q → t σ H Q) : PA X e t' := ⟨fun pos pins s σ H Q I q => h.run pos pins s σ H Q I (i σ H Q q)⟩
theorem _root_.L2.PO.imp {X : Cx} {e : Option Expr} {t t' : TO} (h : PO X e t) (i : ∀ σ H Q, t' σ H Q → t σ H Q) : PO X e t' := ⟨fun pins s σ H Q I q => h.run pins s σ H Q I (i σ H Q q)⟩
section
variable {X : Cx} {C : RC} {F : FT} {W : WX} {pos : Pos}
theorem RE.gr {md : Option Addr} {av : Addr → Prop} {H : Hp} {m : Option MSt} {σ : L2.St} {env : Env} (r : RE C md av H m σ env) : GR md av H m := ⟨r.mr, r.avn⟩
/-- data that is told, in place -/
theorem outG.here {md : Option Addr} {av : Addr → Prop} {H : Hp} {m : Option MSt} {σ : L2.St} {env : Env} {d : D} {v : V} {Q : VK} (r : RE C md av H m σ env) (h : outG C W av (RD C av) md H σ (M.ret d m) Q) (hv : Rep C md (Hb md av H) d v) : Q v H := h.ret r.mr hv
theorem outG.pz {md : Option Addr} {av : Addr → Prop} {H : Hp} {m : Option MSt} {σ : L2.St} {d : D} {Q : VK} (hm : MRel md H m) (h : outG C W av (RD C av) md H σ (M.ret d m) Q) : Pz C md av H d Q := fun v H' e r => h md v H' (Fr.of_ext hm e) (hm.ext e) r
theorem outG.lift {md : Option Addr} {av : Addr → Prop} {H : Hp} {m : Option MSt} {σ : L2.St} {o : Option D} {Q : VK} (hm : MRel md H m) (h : outG C W av (RD C av) md H σ (M.lift o m) Q) : ∃ z, o = some z ∧ Pz C md av H z Q := by
  cases o with
  | none => exact h.elim
  | some z => exact ⟨z, rfl, outG.pz hm h⟩
/-! ### constants, names, operators -/
theorem s_c {e : Expr} {d : D} {v : V} (h : PE X e (tC v)) (hr : ∀ md H, Rep C md H d v) : PE X e (tE C F W (.c d)) := h.imp fun σ H Q q => by
  obtain ⟨md, av, m, env, r, q⟩ := q
  simp only [ev] at q
  exact q.here r (hr _ _)
theorem s_v {i : Nat} {e : Expr} (h : PE X e (tVar i)) : PE X e (tE C F W (.v i)) := h.imp fun σ H Q q => by
  obtain ⟨md, av, m, env, r, q⟩ := q
  simp only [ev] at q
  cases e : env[i]? with
  | none => rw [e] at q; exact q.elim
  | some sl =>
    rw [e] at q
    cases sl with
    | sh d =>
      obtain ⟨v, h1, h2⟩ := r.sh i d e
      exact ⟨v, h1, q.here r h2⟩
    | no => exact q.elim
    | ol _ => exact q.elim
    | xc _ _ => exact q.elim
theorem s_op {o : BOp} {a b : Ex} {e : Expr} (h : PE X e (tOp (rBin C o) (tE C F W a) (tE C F W b))) : PE X e (tE C F W (.bin o a b)) := h.imp fun σ H Q q => by
  obtain ⟨md, av, m, env, r, q⟩ := q
  simp only [ev] at q
  refine ⟨md, av, m, env, r, (outG.bind (R := RD C av) q).mono fun x H1 ⟨d, md1, m1, f1, r1, hx, q⟩ => ?_⟩
  refine ⟨md1, av, m1, env, r.step f1 r1, (outG.bind (R := RD C av) q).mono fun y H2 ⟨e, md2, m2, f2, r2, hy, q⟩ => ?_⟩
  unfold binM at q
  cases hz : binD o d e with
  | none => rw [hz] at q; exact q.elim
  | some z =>
    rw [hz] at q
    exact ⟨md2, av, m2, d, e, z, (r.step (f1.trans f2) r2).gr, Rep.mono f2.same (Hb.fr f2) d x hx, hy, hz, outG.pz r2 q⟩
theorem s_un {o : UOp} {a : Ex} {e : Expr} (h : PE X e (tUn (rUn1 C o) (tE C F W a))) : PE X e (tE C F W (.un o a)) := h.imp fun σ H Q q => by
  obtain ⟨md, av, m, env, r, q⟩ := q
  simp only [ev] at q
  refine ⟨md, av, m, env, r, (outG.bind (R := RD C av) q).mono fun x H1 ⟨d, md1, m1, f1, r1, hx, q⟩ => ?_⟩
  obtain ⟨z, hz, p⟩ := q.lift r1
  exact ⟨md1, av, m1, d, z, (r.step f1 r1).gr, hx, hz, p⟩
/-- a bool that is known -/
theorem asB_lift {md : Option Addr} {av : Addr → Prop} {H : Hp} {m : Option MSt} {σ : L2.St} {d : D} {γ δ : Type} {R' : Option Addr → Hp → γ → δ → Prop} {f : Bool → M γ} {Q : δ → Hp → Prop} (h : outG C W av R' md H σ (M.bind (M.lift (asB d)) f m) Q) :
    ∃ b, d = .bl b ∧ outG C W av R' md H σ (f b m) Q := by
  cases d <;> first
    | (rename_i b; exact ⟨b, rfl, h⟩)
    | exact h.elim
theorem s_not {a : Ex} {e : Expr} (h : PE X e (tNotV (tE C F W a))) : PE X e (tE C F W (.un .not a)) := h.imp fun σ H Q q => by
  obtain ⟨md, av, m, env, r, q⟩ := q
  simp only [ev] at q
  refine ⟨md, av, m, env, r, (outG.bind (R := RD C av) q).mono fun x H1 ⟨d, md1, m1, f1, r1, hx, q⟩ => ?_⟩
  obtain ⟨z, hz, p⟩ := q.lift r1
  cases d <;> simp only [unD, reduceCtorEq] at hz
  cases hz
  simp only [RD, Rep] at hx
  exact ⟨_, hx, p.here (by simp [Rep])⟩
theorem s_and {a b : Ex} {e : Expr} (h : PE X e (tAndV (tE C F W a) (tE C F W b))) : PE X e (tE C F W (.and a b)) := h.imp fun σ H Q q => by
  obtain ⟨md, av, m, env, r, q⟩ := q
  simp only [ev] at q
  refine ⟨md, av, m, env, r, (outG.bind (R := RD C av) q).mono fun x H1 ⟨d, md1, m1, f1, r1, hx, q⟩ => ?_⟩
  obtain ⟨t, rfl, q⟩ := asB_lift q
  simp only [RD, Rep] at hx
  refine ⟨t, hx, ?_⟩
  cases t with
  | true => exact ⟨md1, av, m1, env, r.step f1 r1, q⟩
  | false => exact (outG.pz r1 q).here (by simp [Rep])
theorem s_or {a b : Ex} {e : Expr} (h : PE X e (tOrV (tE C F W a) (tE C F W b))) : PE X e (tE C F W (.or a b)) := h.imp fun σ H Q q => by
  obtain ⟨md, av, m, env, r, q⟩ := q
  simp only [ev] at q
  refine ⟨md, av, m, env, r, (outG.bind (R := RD C av) q).mono fun x H1 ⟨d, md1, m1, f1, r1, hx, q⟩ => ?_⟩
  obtain ⟨t, rfl, q⟩ := asB_lift q
  simp only [RD, Rep] at hx
  refine ⟨t, hx, ?_⟩
  cases t with
  | true => exact (outG.pz r1 q).here (by simp [Rep])
  | false => exact ⟨md1, av, m1, env, r.step f1 r1, q⟩
theorem s_ite {t a b : Ex} {e : Expr} (h : PE X e (tIf (tT C F W t) (tE C F W a) (tE C F W b))) : PE X e (tE C F W (.ite t a b)) := h.imp fun σ H Q q => by
  obtain ⟨md, av, m, env, r, q⟩ := q
  simp only [ev] at q
  have q : outG C W av (RD C av) md H σ (M.bind (M.bind (ev F t env) fun x => M.lift (asB x)) (fun c => if c = true then ev F a env else ev F b env) m) Q := by
    have e1 : M.bind (M.bind (ev F t env) fun x => M.lift (asB x)) (fun c => if c = true then ev F a env else ev F b env) m = M.bind (ev F t env) (fun x => M.bind (M.lift (asB x)) fun c => if c = true then ev F a env else ev F b env) m := by
      unfold M.bind; cases ev F t env m <;> rfl
    rw [e1]; exact q
  refine ⟨md, av, m, env, r, (outG.bind (R := RQ) q).mono fun c H1 ⟨c', md1, m1, f1, r1, hc, q⟩ => ?_⟩
  cases hc
  cases c with
  | true => exact ⟨md1, av, m1, env, r.step f1 r1, q⟩
  | false => exact ⟨md1, av, m1, env, r.step f1 r1, q⟩
/-! ### tests -/
theorem val_imp {a : Ex} {σ : L2.St} {H : Hp} {Q : Bool → Hp → Prop} (q : tT C F W a σ H Q) : tE C F W a σ H fun x H1 => ∃ c, x = .bl c ∧ Q c H1 := by
  obtain ⟨md, av, m, env, r, q⟩ := q
  refine ⟨md, av, m, env, r, (outG.bind (R := RD C av) q).mono fun x H1 ⟨d, md1, m1, f1, r1, hx, q⟩ => ?_⟩
  cases d <;> first
    | (rename_i b
       simp only [RD, Rep] at hx
       exact ⟨b, hx, outG.ret (a := b) q r1 rfl⟩)
    | exact q.elim
theorem st_val {e : Expr} {a : Ex} (h : PT X e (tB (tE C F W a))) : PT X e (tT C F W a) := h.imp fun σ H Q q => val_imp q
theorem st_and {e : Expr} {a b : Ex} (h : PW X e (tAnd (tT C F W a) (tT C F W b))) : PW X e (tT C F W (.and a b)) := h.imp fun σ H Q q => by
  obtain ⟨md, av, m, env, r, q⟩ := q
  simp only [ev] at q
  have q : outG C W av RQ md H σ (M.bind (M.bind (ev F a env) fun x => M.lift (asB x)) (fun t => if t = true then (M.bind (ev F b env) fun x => M.lift (asB x)) else M.ret false) m) Q := by
    have e1 : M.bind (M.bind (ev F a env) fun x => M.lift (asB x)) (fun t => if t = true then (M.bind (ev F b env) fun x => M.lift (asB x)) else M.ret false) m = M.bind (M.bind (ev F a env) fun x => M.bind (M.lift (asB x)) fun t => if t = true then ev F b env else M.ret (.bl false)) (fun x => M.lift (asB x)) m := by
      unfold M.bind
      cases ev F a env m with
      | ok d m1 => cases d <;> first | rfl | (rename_i t; cases t <;> rfl)
      | exc _ _ _ => rfl
      | bad => rfl
    rw [e1]; exact q
  refine ⟨md, av, m, env, r, (outG.bind (R := RQ) q).mono fun c H1 ⟨c', md1, m1, f1, r1, hc, q⟩ => ?_⟩
  cases hc
  cases c with
  | true => exact ⟨md1, av, m1, env, r.step f1 r1, q⟩
  | false => exact outG.ret (a := false) q r1 rfl
theorem st_or {e : Expr} {a b : Ex} (h : PW X e (tOr (tT C F W a) (tT C F W b))) : PW X e (tT C F W (.or a b)) := h.imp fun σ H Q q => by
  obtain ⟨md, av, m, env, r, q⟩ := q
  simp only [ev] at q
  have q : outG C W av RQ md H σ (M.bind (M.bind (ev F a env) fun x => M.lift (asB x)) (fun t => if t = true then M.ret true else (M.bind (ev F b env) fun x => M.lift (asB x))) m) Q := by
    have e1 : M.bind (M.bind (ev F a env) fun x => M.lift (asB x)) (fun t => if t = true then M.ret true else (M.bind (ev F b env) fun x => M.lift (asB x))) m = M.bind (M.bind (ev F a env) fun x => M.bind (M.lift (asB x)) fun t => if t = true then M.ret (.bl true) else ev F b env) (fun x => M.lift (asB x)) m := by
      unfold M.bind
      cases ev F a env m with
      | ok d m1 => cases d <;> first | rfl | (rename_i t; cases t <;> rfl)
      | exc _ _ _ => rfl
      | bad => rfl
    rw [e1]; exact q
  refine ⟨md, av, m, env, r, (outG.bind (R := RQ) q).mono fun c H1 ⟨c', md1, m1, f1, r1, hc, q⟩ => ?_⟩
  cases hc
  cases c with
  | true => exact outG.ret (a := true) q r1 rfl
  | false => exact ⟨md1, av, m1, env, r.step f1 r1, q⟩
theorem st_not {e : Expr} {a : Ex} (h : PT X e (tNot (tT C F W a))) : PT X e (tT C F W (.un .not a)) := h.imp fun σ H Q q => by
  obtain ⟨md, av, m, env, r, q⟩ := q
  simp only [ev] at q
  refine ⟨md, av, m, env, r, ?_⟩
  have e1 : M.bind (M.bind (ev F a env) fun x => M.lift (unD .not x)) (fun x => M.lift (asB x)) m = M.bind (M.bind (ev F a env) fun x => M.lift (asB x)) (fun b => M.ret (!b)) m := by
    unfold M.bind
    cases ev F a env m with
    | ok d m1 => cases d <;> rfl
    | exc _ _ _ => rfl
    | bad => rfl
  rw [e1] at q
  refine (outG.bind (R := RQ) q).mono fun c H1 ⟨c', md1, m1, f1, r1, hc, q⟩ => ?_
  cases hc
  exact outG.ret (a := !c) q r1 rfl
theorem st_op {e : Expr} {o : BOp} {a b : Ex} (h : PT X e (tTest (tOp (rBin C o) (tE C F W a) (tE C F W b)))) : PT X e (tT C F W (.bin o a b)) := h.imp fun σ H Q q => by
  obtain ⟨md, av, m, env, r, q⟩ := q
  simp only [ev] at q
  have e1 : M.bind (M.bind (ev F a env) fun x => M.bind (ev F b env) fun y => binM F o x y) (fun x => M.lift (asB x)) m = M.bind (ev F a env) (fun x => M.bind (ev F b env) fun y => M.bind (binM F o x y) fun x => M.lift (asB x)) m := by
    unfold M.bind
    cases ev F a env m with
    | ok d m1 => dsimp only; cases ev F b env m1 <;> rfl
    | exc _ _ _ => rfl
    | bad => rfl
  rw [e1] at q
  refine ⟨md, av, m, env, r, (outG.bind (R := RD C av) q).mono fun x H1 ⟨d, md1, m1, f1, r1, hx, q⟩ => ?_⟩
  refine ⟨md1, av, m1, env, r.step f1 r1, (outG.bind (R := RD C av) q).mono fun y H2 ⟨e, md2, m2, f2, r2, hy, q⟩ => ?_⟩
  unfold binM at q
  cases hz : binD o d e with
  | none => rw [hz] at q; exact q.elim
  | some z =>
    rw [hz] at q
    refine ⟨md2, av, m2, d, e, z, (r.step (f1.trans f2) r2).gr, Rep.mono f2.same (Hb.fr f2) d x hx, hy, hz, fun v H' e rv => ?_⟩
    cases z <;> first
      | (rename_i t
         simp only [Rep] at rv
         exact ⟨t, rv, q md2 t H' (Fr.of_ext r2 e) (r2.ext e) rfl⟩)
      | exact q.elim
end
end Ev
set_option Elab.async false
set_option linter.all false
set_option maxRecDepth 100000
set_option maxHeartbeats 1000000
/-! Ev5: displays, chains, subscripts, targets, what is walked, comprehensions. -/
namespace Ev
open PySem L2 PyProof.Rows Classical
section
variable {X : Cx} {C : RC} {F : FT} {W : WX} {pos : Pos}
/-! ### lists of expressions -/
theorem sa_nil : PA X [] (tEs C F W []) := pa_nil.imp fun σ H Q q => by
  obtain ⟨md, av, m, env, r, q⟩ := q
  simp only [evs] at q
  exact q.ret r.mr (by simp [RDs, Reps])
def Ex.isStar : Ex → Bool
  | .star _ => true
  | _ => false
theorem evs_cons {e : Ex} {es : List Ex} {env : Env} (h : e.isStar = false) : evs F (e :: es) env = M.bind (ev F e env) fun x => M.bind (evs F es env) fun ys => M.ret (x :: ys) := by
  cases e <;> first | rfl | (simp [Ex.isStar] at h)
theorem sa_cons {e : Expr} {es : List Expr} {a : Ex} {as : List Ex} (h : PA X (e :: es) (tCons (tE C F W a) (tEs C F W as))) (hn : a.isStar = false) : PA X (e :: es) (tEs C F W (a :: as)) := h.imp fun σ H Q q => by
  obtain ⟨md, av, m, env, r, q⟩ := q
  rw [evs_cons hn] at q
  refine ⟨md, av, m, env, r, (outG.bind (R := RD C av) q).mono fun x H1 ⟨d, md1, m1, f1, r1, hx, q⟩ => ?_⟩
  refine ⟨md1, av, m1, env, r.step f1 r1, (outG.bind (R := RDs C av) q).mono fun xs H2 ⟨ds, md2, m2, f2, r2, hy, q⟩ => ?_⟩
  exact q.ret r2 (Reps.cons (Rep.mono f2.same (Hb.fr f2) d x hx) hy)
theorem sa_star {e : Expr} {es : List Expr} {a : Ex} {as : List Ex} (hK : C.K = X.K) (h : PA X (e :: es) (StX.tStar X.K (tE C F W a) (tEs C F W as))) : PA X (e :: es) (tEs C F W (.star a :: as)) := h.imp fun σ H Q q => by
  obtain ⟨md, av, m, env, r, q⟩ := q
  simp only [evs] at q
  refine ⟨md, av, m, env, r, (outG.bind (R := RD C av) q).mono fun x H1 ⟨d, md1, m1, f1, r1, hx, q⟩ => ?_⟩
  have r' := r.step f1 r1
  have go : ∀ ds vs, Reps C md1 (Hb md1 av H1) ds vs → outG C W av (RDs C av) md1 H1 σ (M.bind (evs F as env) (fun ys => M.ret (ds ++ ys)) m1) Q → tEs C F W as σ H1 fun ys H2 => Q (vs ++ ys) H2 := fun ds vs hr q =>
    ⟨md1, av, m1, env, r', (outG.bind (R := RDs C av) q).mono fun ys H2 ⟨es, md2, m2, f2, r2, hy, q⟩ => q.ret r2 ((Reps.mono f2.same (Hb.fr f2) ds vs hr).append hy)⟩
  cases d <;> first
    | exact q.elim
    | skip
  · simp only [RD, Rep] at hx
    obtain ⟨b, vs, rfl, hs, hr⟩ := hx
    rw [hK] at hs
    exact ⟨b, vs, rfl, .inl ((Hb.le _ _ _).tup hs), go _ _ hr q⟩
  · simp only [RD, Rep] at hx
    obtain ⟨b, vs, rfl, hs, hr⟩ := hx
    exact ⟨b, vs, rfl, .inr (Or.inl (Or.inl (Hb.le _ _ _ _ _ hs))), go _ _ hr q⟩
theorem s_tup {e : Expr} {as : List Ex} (h : PE X e (tTup (tEs C F W as))) : PE X e (tE C F W (.tup as)) := h.imp fun σ H Q q => by
  obtain ⟨md, av, m, env, r, q⟩ := q
  simp only [ev] at q
  refine ⟨md, av, m, env, r, (outG.bind (R := RDs C av) q).mono fun xs H1 ⟨ds, md1, m1, f1, r1, hx, q⟩ => ?_⟩
  by_cases hl : ds.length ≤ LIM
  · rw [if_pos hl] at q
    exact ⟨by rw [Reps.length hx]; exact lim_sz hl, Pz.tup (r.step f1 r1).gr (outG.pz r1 q) hx⟩
  · rw [if_neg hl] at q
    exact q.elim
theorem s_lst {e : Expr} {as : List Ex} (h : PE X e (tLst (tEs C F W as))) : PE X e (tE C F W (.lst as)) := h.imp fun σ H Q q => by
  obtain ⟨md, av, m, env, r, q⟩ := q
  simp only [ev] at q
  refine ⟨md, av, m, env, r, (outG.bind (R := RDs C av) q).mono fun xs H1 ⟨ds, md1, m1, f1, r1, hx, q⟩ => ?_⟩
  by_cases hl : ds.length ≤ LIM
  · rw [if_pos hl] at q
    exact ⟨by rw [Reps.length hx]; exact lim_sz hl, Pz.lst (r.step f1 r1).gr (outG.pz r1 q) hx⟩
  · rw [if_neg hl] at q
    exact q.elim
theorem chain_imp {o p : BOp} {a b c : Ex} {σ : L2.St} {H : Hp} {Q : VK} (q : tE C F W (.chain o p a b c) σ H Q) : tChain (rBin C o) (rBin C p) (tE C F W a) (tE C F W b) (tE C F W c) σ H Q := by
  obtain ⟨md, av, m, env, r, q⟩ := q
  simp only [ev] at q
  refine ⟨md, av, m, env, r, (outG.bind (R := RD C av) q).mono fun x H1 ⟨d, md1, m1, f1, r1, hx, q⟩ => ?_⟩
  refine ⟨md1, av, m1, env, r.step f1 r1, (outG.bind (R := RD C av) q).mono fun y H2 ⟨e, md2, m2, f2, r2, hy, q⟩ => ?_⟩
  cases hz : binD o d e with
  | none => rw [hz] at q; exact q.elim
  | some z =>
    rw [hz] at q
    cases z <;> first
      | exact q.elim
      | skip
    rename_i t
    have re2 := r.step (f1.trans f2) r2
    refine ⟨md2, av, m2, d, e, _, re2.gr, Rep.mono f2.same (Hb.fr f2) d x hx, hy, hz, fun v H3 e3 rv => ?_⟩
    simp only [Rep] at rv
    refine ⟨t, rv, ?_⟩
    have f3 := Fr.of_ext r2 e3
    have r3 := r2.ext e3
    have q : outG C W av (RD C av) md2 H3 σ ((if t = true then M.bind (ev F c env) fun z => M.lift (binD p e z) else M.ret (.bl false)) m2) Q := outG.later f3 q
    cases t with
    | false =>
      exact (outG.pz r3 q).here (by simp [Rep])
    | true =>
      refine ⟨md2, av, m2, env, re2.step f3 r3, (outG.bind (R := RD C av) q).mono fun w H4 ⟨g, md4, m4, f4, r4, hw, q⟩ => ?_⟩
      obtain ⟨u, hu, p4⟩ := q.lift r4
      exact ⟨md4, av, m4, e, g, u, (re2.step (f3.trans f4) r4).gr, Rep.mono (f3.trans f4).same (Hb.fr (f3.trans f4)) e y hy, hw, hu, p4⟩
theorem s_chain {o p : BOp} {a b c : Ex} {e : Expr} (h : PE X e (tChain (rBin C o) (rBin C p) (tE C F W a) (tE C F W b) (tE C F W c))) : PE X e (tE C F W (.chain o p a b c)) := h.imp fun σ H Q q => chain_imp q
theorem s_ix {a b : Ex} {e : Expr} (h : PE X e (tOp (rIxA C) (tE C F W a) (tE C F W b))) : PE X e (tE C F W (.ix a b)) := h.imp fun σ H Q q => by
  obtain ⟨md, av, m, env, r, q⟩ := q
  simp only [ev] at q
  refine ⟨md, av, m, env, r, (outG.bind (R := RD C av) q).mono fun x H1 ⟨d, md1, m1, f1, r1, hx, q⟩ => ?_⟩
  refine ⟨md1, av, m1, env, r.step f1 r1, (outG.bind (R := RD C av) q).mono fun y H2 ⟨e, md2, m2, f2, r2, hy, q⟩ => ?_⟩
  obtain ⟨z, hz, p⟩ := q.lift r2
  exact ⟨md2, av, m2, d, e, z, (r.step (f1.trans f2) r2).gr, Rep.mono f2.same (Hb.fr f2) d x hx, hy, hz, p⟩
theorem so_none : PO X none (tOI C F W none) := po_none.imp fun σ H Q q => by
  obtain ⟨md, av, m, env, r, q⟩ := q
  simp only [evO] at q
  exact q.ret r.mr rfl
theorem so_some {a : Ex} {e : Expr} (h : PO X (some e) (tPart (tE C F W a))) : PO X (some e) (tOI C F W (some a)) := h.imp fun σ H Q q => by
  obtain ⟨md, av, m, env, r, q⟩ := q
  simp only [evO] at q
  refine ⟨md, av, m, env, r, (outG.bind (R := RD C av) q).mono fun x H1 ⟨d, md1, m1, f1, r1, hx, q⟩ => ?_⟩
  cases d <;> first
    | exact q.elim
    | skip
  simp only [RD, Rep] at hx
  exact ⟨_, hx, q.ret r1 rfl⟩
theorem s_sl {a : Ex} {lo hi : Option Ex} {e : Expr} (h : PE X e (tSl (rSlAll C) (tE C F W a) (tOI C F W lo) (tOI C F W hi))) : PE X e (tE C F W (.sl a lo hi)) := h.imp fun σ H Q q => by
  obtain ⟨md, av, m, env, r, q⟩ := q
  simp only [ev] at q
  refine ⟨md, av, m, env, r, (outG.bind (R := RD C av) q).mono fun x H1 ⟨d, md1, m1, f1, r1, hx, q⟩ => ?_⟩
  refine ⟨md1, av, m1, env, r.step f1 r1, (outG.bind (R := RQ) q).mono fun l H2 ⟨l', md2, m2, f2, r2, hl, q⟩ => ?_⟩
  cases hl
  refine ⟨md2, av, m2, env, r.step (f1.trans f2) r2, (outG.bind (R := RQ) q).mono fun u H3 ⟨u', md3, m3, f3, r3, hu, q⟩ => ?_⟩
  cases hu
  obtain ⟨z, hz, p⟩ := q.lift r3
  exact ⟨md3, av, m3, d, z, (r.step ((f1.trans f2).trans f3) r3).gr, Rep.mono (f2.trans f3).same (Hb.fr (f2.trans f3)) d x hx, hz, p⟩
end
/-! ### targets -/
section
variable {X : Cx} {C : RC}
mutual
def gTg (K : PySem.W.Frag) : Tg → TG
  | .v i => gName i
  | .t ts => gTup K ts.length (gTgs K ts)
def gTgs (K : PySem.W.Frag) : List Tg → TGs
  | [] => gNil
  | u :: r => gCons (gTg K u) (gTgs K r)
end
theorem RE.put {md : Option Addr} {av : Addr → Prop} {H : Hp} {m : Option MSt} {σ : L2.St} {env : Env} {i : Nat} {d : D} {v : V} (r : RE C md av H m σ env) (h : Rep C md (Hb md av H) d v) : RE C md av H m (σ.set i (some v)) (env.set i (.sh d)) where
  mr := r.mr
  avt := r.avt
  len := by rw [List.length_set, List.length_set]; exact r.len
  sh := fun j d' e => by
    by_cases hj : i = j
    · subst hj
      by_cases hi : i < env.length
      · rw [List.getElem?_set_self hi] at e
        cases e
        exact ⟨v, List.getElem?_set_self (by rw [r.len]; exact hi), h⟩
      · rw [List.getElem?_eq_none (by rw [List.length_set]; omega)] at e; cases e
    · rw [List.getElem?_set_ne hj] at e ⊢
      exact r.sh j d' e
  ol := fun j ds e => by
    by_cases hj : i = j
    · subst hj
      by_cases hi : i < env.length
      · rw [List.getElem?_set_self hi] at e; cases e
      · rw [List.getElem?_eq_none (by rw [List.length_set]; omega)] at e; cases e
    · rw [List.getElem?_set_ne hj] at e ⊢
      exact r.ol j ds e
  ne := fun j k ds es a e1 e2 s1 s2 => by
    have nj : i ≠ j := fun z => by
      subst z
      by_cases hi : i < env.length
      · rw [List.getElem?_set_self hi] at e1; cases e1
      · rw [List.getElem?_eq_none (by rw [List.length_set]; omega)] at e1; cases e1
    have nk : i ≠ k := fun z => by
      subst z
      by_cases hi : i < env.length
      · rw [List.getElem?_set_self hi] at e2; cases e2
      · rw [List.getElem?_eq_none (by rw [List.length_set]; omega)] at e2; cases e2
    rw [List.getElem?_set_ne nj] at e1 s1
    rw [List.getElem?_set_ne nk] at e2 s2
    exact r.ne j k ds es a e1 e2 s1 s2
theorem wipe_set {σ : L2.St} {i : Nat} {x : Option V} : ∀ {vs : List Nat}, i ∈ vs → wipe (σ.set i x) vs = wipe σ vs
  | v :: vs, h => by
    unfold wipe
    by_cases hv : i ∈ vs
    · rw [wipe_set hv]
    · have e : v = i := by
        rcases List.mem_cons.mp h with h | h
        · exact h.symm
        · exact absurd h hv
      subst e
      have : ∀ (τ : L2.St) (ws : List Nat), v ∉ ws → (wipe (τ.set v x) ws) = (wipe τ ws).set v x := by
        intro τ ws
        induction ws with
        | nil => intro _; rfl
        | cons w ws ih =>
          intro hw
          unfold wipe
          rw [ih (fun z => hw (List.mem_cons_of_mem _ z)), List.set_comm _ _ (fun z => hw (by rw [z]; exact List.mem_cons_self))]
      rw [this σ vs hv, List.set_set]
mutual
theorem bind_ok {md : Option Addr} {av : Addr → Prop} {H : Hp} {m : Option MSt} (hK : C.K = X.K) : ∀ (tg : Tg) (d : D) (v : V) (σ : L2.St) (env env' : Env) (vs : List Nat) (Q : L2.St → Hp → Prop), RE C md av H m σ env → Rep C md (Hb md av H) d v → bindT tg d env = some env' → (∀ i ∈ tg.slots, i ∈ vs) →
    (∀ σ', RE C md av H m σ' env' → wipe σ' vs = wipe σ vs → Q σ' H) → gTg X.K tg v σ H Q
  | .v i, d, v, σ, env, env', vs, Q, r, h, e, hs, q => by
    simp only [bindT, Option.some.injEq] at e
    subst e
    exact q _ (r.put h) (wipe_set (hs i (by simp [Tg.slots])))
  | .t ts, d, v, σ, env, env', vs, Q, r, h, e, hs, q => by
    cases d <;> simp only [bindT, reduceCtorEq] at e
    simp only [Rep] at h
    obtain ⟨a, xs, rfl, hx, hr⟩ := h
    rw [hK] at hx
    refine ⟨a, xs, rfl, (Hb.le _ _ _).tup hx, ?_, binds_ok hK ts _ xs σ env env' vs Q r hr e (by simpa [Tg.slots] using hs) q⟩
    rw [hr.length]
    exact (bindTs_len e).symm
theorem binds_ok {md : Option Addr} {av : Addr → Prop} {H : Hp} {m : Option MSt} (hK : C.K = X.K) : ∀ (ts : List Tg) (ds : List D) (xs : List V) (σ : L2.St) (env env' : Env) (vs : List Nat) (Q : L2.St → Hp → Prop), RE C md av H m σ env → Reps C md (Hb md av H) ds xs → bindTs ts ds env = some env' → (∀ i ∈ Tg.slotss ts, i ∈ vs) →
    (∀ σ', RE C md av H m σ' env' → wipe σ' vs = wipe σ vs → Q σ' H) → gTgs X.K ts xs σ H Q
  | [], ds, xs, σ, env, env', vs, Q, r, h, e, hs, q => by
    cases ds <;> simp only [bindTs, reduceCtorEq, Option.some.injEq] at e
    subst e
    simp only [Reps] at h
    exact ⟨h, q σ r rfl⟩
  | u :: ts, ds, xs, σ, env, env', vs, Q, r, h, e, hs, q => by
    cases ds <;> simp only [bindTs, reduceCtorEq] at e
    rename_i d ds
    simp only [Reps] at h
    obtain ⟨v, rest, rfl, h1, h2⟩ := h
    cases e1 : bindT u d env with
    | none => rw [e1] at e; cases e
    | some env1 =>
      rw [e1] at e
      refine ⟨v, rest, rfl, bind_ok hK u d v σ env env1 vs _ r h1 e1 (fun i hi => hs i (by simp [Tg.slotss, hi])) fun σ1 r1 w1 => ?_⟩
      exact binds_ok hK ts ds rest σ1 env1 env' vs Q r1 h2 e (fun i hi => hs i (by simp [Tg.slotss, hi])) fun σ' r' w' => q σ' r' (w'.trans w1)
theorem bindTs_len {ts : List Tg} {ds : List D} {env env' : Env} (e : bindTs ts ds env = some env') : ts.length = ds.length := by
  induction ts generalizing ds env with
  | nil => cases ds <;> simp only [bindTs, reduceCtorEq] at e; rfl
  | cons u ts ih =>
    cases ds <;> simp only [bindTs, reduceCtorEq] at e
    rename_i d ds
    cases e1 : bindT u d env with
    | none => rw [e1] at e; cases e
    | some env1 => rw [e1] at e; simp [ih e]
end
end
end Ev
set_option Elab.async false
set_option linter.all false
set_option maxRecDepth 100000
set_option maxHeartbeats 1000000
/-! Ev6: what is walked; comprehensions. -/
namespace Ev
open PySem L2 PyProof.Rows Classical
/-- the ground at (md, av, H1) still stands -/
structure Gx (md : Option Addr) (av : Addr → Prop) (H1 : Hp) (md' : Option Addr) (av' : Addr → Prop) (H : Hp) : Prop where
  same : ∀ d, md = some d → md' = some d
  ext : Ext (Hb md av H1) (Hb md' av' H)
/-- the iterator J gives the items, wherever what stood at (md, H1) stands -/
structure ItOk (C : RC) (av : Addr → Prop) (md : Option Addr) (H1 : Hp) (items : List D) (J : L2.It) : Prop where
  go : ∀ md' av' H (i : Nat), Gx md av H1 md' av' H → i < items.length → J.go i H
  stop : ∀ md' av' H (i : Nat), Gx md av H1 md' av' H → items.length ≤ i → J.stop i H
  yld : ∀ md' m' (av' : Addr → Prop) H (i : Nat) x H' d, Gx md av H1 md' av' H → MRel md' H m' → (∀ a, av' a → H a ≠ none) → J.yld i H x H' → items[i]? = some d → Ext H H' ∧ Rep C md' (Hb md' av' H') d x
section
variable {X : Cx} {C : RC} {F : FT} {W : WX} {pos : Pos} {av av' : Addr → Prop} {md md' : Option Addr} {H H1 H' : Hp} {m m' : Option MSt}
theorem Hb.fr2 (f : Fr md H1 md' H) (hv : ∀ a, H1 a ≠ none → av' a → av a) : Ext (Hb md av H1) (Hb md' av' H) := fun a o e => by
  obtain ⟨h, n1, n2⟩ := Hb.of e
  obtain ⟨h', n'⟩ := f.keep a o h n2
  exact Hb.get h' (fun z => n1 (hv a (by rw [h]; simp) z)) n'
theorem Gx.lst {a : Addr} {vs : List V} (f : Gx md av H1 md' av' H) (h : Hb md av H1 a = some (.lst vs)) : H a = some (.lst vs) := Hb.le _ _ _ _ _ (f.ext _ _ h)
theorem Gx.tup {K : PySem.W.Frag} {a : Addr} {vs : List V} (f : Gx md av H1 md' av' H) (h : SqT K (Hb md av H1) a vs) : SqT K H a vs := (Hb.le _ _ _).tup (f.ext.tup h)
theorem ito_list {a : Addr} {ds : List D} {vs : List V} {K : PySem.W.Frag} (hH : Hb md av H1 a = some (.lst vs)) (hr : Reps C md (Hb md av H1) ds vs) : ItOk C av md H1 ds (Itl K a) where
  go := fun md' av' H i f hi => by
    obtain ⟨v, hv, _⟩ := hr.get (List.getElem?_eq_getElem hi)
    exact ⟨vs, v, Or.inl (Or.inl (f.lst hH)), hv⟩
  stop := fun md' av' H i f hi => ⟨vs, Or.inl (Or.inl (f.lst hH)), by rw [hr.length]; exact hi⟩
  yld := fun md' m' av' H i x H' d f hm ha hy hd => by
    obtain ⟨rfl, hx⟩ := hy
    obtain ⟨v, hv', hrep⟩ := hr.get hd
    have e := hx vs (Or.inl (Or.inl (f.lst hH)))
    rw [hv'] at e
    cases e
    exact ⟨Ext.refl _, Rep.mono f.same f.ext d _ hrep⟩
theorem Gx.sql {K : PySem.W.Frag} {a : Addr} {vs : List V} (f : Gx md av H1 md' av' H) (h : SqL K (Hb md av H1) a vs) : SqL K H a vs := (Hb.le _ _ _).lst (f.ext.lst h)
theorem ito_scr {a : Addr} {ns : List Int} {K : PySem.W.Frag} (hH : SqL K (Hb md av H1) a (ns.map V.int)) : ItOk C av md H1 (ns.map D.int) (Itl K a) where
  go := fun md' av' H i f hi => by
    have hi : i < (ns.map V.int).length := by simpa using hi
    exact ⟨_, _, f.sql hH, List.getElem?_eq_getElem hi⟩
  stop := fun md' av' H i f hi => ⟨_, f.sql hH, by simpa using hi⟩
  yld := fun md' m' av' H i x H' d f hm ha hy hd => by
    obtain ⟨rfl, hx⟩ := hy
    have e := hx _ (f.sql hH)
    rw [List.getElem?_map] at e hd
    cases q : ns[i]? with
    | none => rw [q] at e; cases e
    | some n =>
      rw [q] at e hd
      cases e
      cases hd
      exact ⟨Ext.refl _, by simp [Rep]⟩
theorem ito_tup {a : Addr} {ds : List D} {vs : List V} {K : PySem.W.Frag} (hH : SqT K (Hb md av H1) a vs) (hr : Reps C md (Hb md av H1) ds vs) : ItOk C av md H1 ds (Itt K a) where
  go := fun md' av' H i f hi => by
    obtain ⟨v, hv, _⟩ := hr.get (List.getElem?_eq_getElem hi)
    exact ⟨vs, v, f.tup hH, hv⟩
  stop := fun md' av' H i f hi => ⟨vs, f.tup hH, by rw [hr.length]; exact hi⟩
  yld := fun md' m' av' H i x H' d f hm ha hy hd => by
    obtain ⟨rfl, hx⟩ := hy
    obtain ⟨v, hv', hrep⟩ := hr.get hd
    have e := hx vs (f.tup hH)
    rw [hv'] at e
    cases e
    exact ⟨Ext.refl _, Rep.mono f.same f.ext d _ hrep⟩
theorem ito_str {z : Str} : ItOk C av md H1 (z.cps.toList.map fun c => .str ⟨#[c]⟩) (Its z) where
  go := fun md' av' H i f hi => by show i < z.cps.size; simpa using hi
  stop := fun md' av' H i f hi => by show z.cps.size ≤ i; simpa using hi
  yld := fun md' m' av' H i x H' d f hm ha hy hd => by
    obtain ⟨rfl, c, hc, rfl⟩ := hy
    rw [List.getElem?_map, Array.getElem?_toList, hc] at hd
    cases hd
    exact ⟨Ext.refl _, by simp [Rep]⟩
theorem ito_rng {lo hi : Int} : ItOk C av md H1 (rangeD lo hi) (Itr lo (hi - lo).toNat) where
  go := fun md' av' H i f hi => by show i < _; unfold rangeD at hi; simpa using hi
  stop := fun md' av' H i f hi => by show _ ≤ i; unfold rangeD at hi; simpa using hi
  yld := fun md' m' av' H i x H' d f hm ha hy hd => by
    obtain ⟨rfl, rfl⟩ := hy
    unfold rangeD at hd
    rw [List.getElem?_map] at hd
    cases e : (List.range (hi - lo).toNat)[i]? with
    | none => rw [e] at hd; cases hd
    | some k =>
      rw [e] at hd
      cases hd
      obtain ⟨h1, h2⟩ := List.getElem?_eq_some_iff.mp e
      rw [List.getElem_range] at h2
      subst h2
      exact ⟨Ext.refl _, by simp [Rep]⟩
theorem zip_get {xs ys : List D} {i : Nat} {d : D} (h : (zipD xs ys)[i]? = some d) : ∃ x y, xs[i]? = some x ∧ ys[i]? = some y ∧ d = .tup [x, y] := by
  unfold zipD at h
  rw [List.getElem?_map] at h
  cases e : (xs.zip ys)[i]? with
  | none => rw [e] at h; cases h
  | some p =>
    rw [e] at h
    cases h
    obtain ⟨h1, h2⟩ := List.getElem?_zip_eq_some.mp e
    exact ⟨p.1, p.2, h1, h2, rfl⟩
theorem zip_len (xs ys : List D) : (zipD xs ys).length = min xs.length ys.length := by unfold zipD; rw [List.length_map, List.length_zip]
theorem pair_rep {T : Addr} {x y : V} {dx dy : D} (hm : MRel md H m) (ha : ∀ a, av a → H a ≠ none) (hT : H T = none) (hx : Rep C md (Hb md av H) dx x) (hy : Rep C md (Hb md av H) dy y) : Rep C md (Hb md av (upd H T (.tup [x, y]))) (.tup [dx, dy]) (.ref T) := by
  simp only [Rep]
  refine ⟨T, [x, y], rfl, Or.inl (Or.inl (Hb.new hm ha hT)), ?_⟩
  exact Reps.mono (fun _ e => e) (Hb.ext hm (Ext.new hT)) _ _ (Reps.cons hx (Reps.cons hy Reps.nil))
theorem ito_zipL {a b : Addr} {ds es : List D} {vs ws : List V} {K : PySem.W.Frag} (hH : Hb md av H1 a = some (.lst vs)) (hr : Reps C md (Hb md av H1) ds vs) (hH2 : Hb md av H1 b = some (.lst ws)) (hr2 : Reps C md (Hb md av H1) es ws) : ItOk C av md H1 (zipD ds es) (Itz K a b) where
  go := fun md' av' H i f hi => by
    rw [zip_len] at hi
    obtain ⟨v, hv, _⟩ := hr.get (List.getElem?_eq_getElem (show i < ds.length by omega))
    obtain ⟨w, hw, _⟩ := hr2.get (List.getElem?_eq_getElem (show i < es.length by omega))
    exact ⟨vs, ws, v, w, Or.inl (Or.inl (f.lst hH)), Or.inl (Or.inl (f.lst hH2)), hv, hw⟩
  stop := fun md' av' H i f hi => by
    rw [zip_len] at hi
    have l1 := hr.length
    have l2 := hr2.length
    exact ⟨vs, ws, Or.inl (Or.inl (f.lst hH)), Or.inl (Or.inl (f.lst hH2)), by omega⟩
  yld := fun md' m' av' H i x H' d f hm ha hy hd => by
    obtain ⟨T, x1, y1, rfl, hT, rfl, h1, h2⟩ := hy
    obtain ⟨dx, dy, e1, e2, rfl⟩ := zip_get hd
    obtain ⟨v, hv', hrep⟩ := hr.get e1
    obtain ⟨w, hw', hrep2⟩ := hr2.get e2
    have q1 := h1 vs (Or.inl (Or.inl (f.lst hH)))
    have q2 := h2 ws (Or.inl (Or.inl (f.lst hH2)))
    rw [hv'] at q1
    rw [hw'] at q2
    cases q1
    cases q2
    exact ⟨Ext.new hT, pair_rep hm ha hT (Rep.mono f.same f.ext dx _ hrep) (Rep.mono f.same f.ext dy _ hrep2)⟩
theorem ito_zipT {a b : Addr} {ds es : List D} {vs ws : List V} {K : PySem.W.Frag} (hH : SqT K (Hb md av H1) a vs) (hr : Reps C md (Hb md av H1) ds vs) (hH2 : SqT K (Hb md av H1) b ws) (hr2 : Reps C md (Hb md av H1) es ws) : ItOk C av md H1 (zipD ds es) (RZ.ItzT K a b) where
  go := fun md' av' H i f hi => by
    rw [zip_len] at hi
    obtain ⟨v, hv, _⟩ := hr.get (List.getElem?_eq_getElem (show i < ds.length by omega))
    obtain ⟨w, hw, _⟩ := hr2.get (List.getElem?_eq_getElem (show i < es.length by omega))
    exact ⟨vs, ws, v, w, f.tup hH, f.tup hH2, hv, hw⟩
  stop := fun md' av' H i f hi => by
    rw [zip_len] at hi
    have l1 := hr.length
    have l2 := hr2.length
    exact ⟨vs, ws, f.tup hH, f.tup hH2, by omega⟩
  yld := fun md' m' av' H i x H' d f hm ha hy hd => by
    obtain ⟨T, x1, y1, rfl, hT, rfl, h1, h2⟩ := hy
    obtain ⟨dx, dy, e1, e2, rfl⟩ := zip_get hd
    obtain ⟨v, hv', hrep⟩ := hr.get e1
    obtain ⟨w, hw', hrep2⟩ := hr2.get e2
    have q1 := h1 vs (f.tup hH)
    have q2 := h2 ws (f.tup hH2)
    rw [hv'] at q1
    rw [hw'] at q2
    cases q1
    cases q2
    exact ⟨Ext.new hT, pair_rep hm ha hT (Rep.mono f.same f.ext dx _ hrep) (Rep.mono f.same f.ext dy _ hrep2)⟩
/-- an iterable's reading -/
def tI (C : RC) (F : FT) (W : WX) (it : Ev.It) : TI := fun σ H R => ∃ md av m env, RE C md av H m σ env ∧ outG C W av (ItOk C av) md H σ (evI F it env m) R
theorem _root_.L2.PI.imp {X : Cx} {tg e : Expr} {t t' : TI} (h : PI X tg e t) (i : ∀ σ H R, t' σ H R → t σ H R) : PI X tg e t' := ⟨fun pins s σ H R I q => h.run pins s σ H R I (i σ H R q)⟩
/-- a list, a tuple or a text -/
def iAny (K : PySem.W.Frag) (te : TE) : TI := fun σ H R => te σ H fun x H1 => (∃ a vs, x = .ref a ∧ SqL K H1 a vs ∧ R (Itl K a) H1) ∨ (∃ a vs, x = .ref a ∧ SqT K H1 a vs ∧ R (Itt K a) H1) ∨ ∃ z, x = .str z ∧ R (Its z) H1
theorem pi_any {tg e : Expr} {te : TE} (he : PE X e te) : PI X tg e (iAny X.K te) := ⟨fun pins s σ H R I h => by
  refine thn (he.run pins s σ H _ I h) fun v s1 ⟨x, H1, I1, r1, q⟩ => ?_
  rcases q with ⟨a, vs, rfl, ha, q⟩ | ⟨a, vs, rfl, ha, q⟩ | ⟨z, rfl, q⟩
  · obtain rfl : v = Value.ref a := r1
    obtain ⟨its, rv, p, hz⟩ := I1.list ha
    exact wpAny_pyIter_list p.isList (pi_one (tk := s1.toks) I1 _ (turn_list a _) ⟨_, Heap.get?_push_size _ rfl, rfl, rfl⟩ q)
  · obtain rfl : v = Value.ref a := r1
    obtain ⟨its, rv, p, hz⟩ := I1.tuple ha
    exact wpAny_pyIter_tuple (show s1.heap.IsTuple a its.toArray from p) (pi_one (tk := s1.toks) I1 _ (turn_tuple a _) ⟨_, Heap.get?_push_size _ rfl, rfl, rfl⟩ q)
  · obtain ⟨t, rfl⟩ := r1
    cases hc : z.cps.all (· < 128)
    · exact wpAny_pyIter_wide hc (pi_one (tk := s1.toks) I1 _ (turn_str _ z t "str_iterator" (.inr rfl)) ⟨_, Heap.get?_push_size _ rfl, rfl, rfl⟩ q)
    · exact wpAny_pyIter_ascii hc (pi_one (tk := s1.toks) I1 _ (turn_str _ z t "str_ascii_iterator" (.inl rfl)) ⟨_, Heap.get?_push_size _ rfl, rfl, rfl⟩ q)⟩
theorem outG.liftG {α β : Type} {R : Option Addr → Hp → α → β → Prop} {σ : L2.St} {o : Option α} {Q : β → Hp → Prop} (hm : MRel md H m) (h : outG C W av R md H σ (M.lift o m) Q) : ∃ z, o = some z ∧ ∀ b, R md H z b → Q b H := by
  cases o with
  | none => exact h.elim
  | some z => exact ⟨z, rfl, fun b hb => h md b H (Fr.refl _ _) hm hb⟩
theorem si_seq {tg e : Expr} {a : Ex} (hK : C.K = X.K) (he : PE X e (tE C F W a)) : PI X tg e (tI C F W (.seq a)) := (pi_any he).imp fun σ H R q => by
  obtain ⟨md, av, m, env, r, q⟩ := q
  simp only [evI] at q
  refine ⟨md, av, m, env, r, (outG.bind (R := RD C av) q).mono fun x H1 ⟨d, md1, m1, f1, r1, hx, q⟩ => ?_⟩
  obtain ⟨items, hi, q'⟩ := q.liftG r1
  clear q
  cases d <;> simp only [seqD, reduceCtorEq] at hi
  · split at hi
    · cases hi
      simp only [RD, Rep] at hx
      exact .inr (.inr ⟨_, hx, q' _ ito_str⟩)
    · cases hi
  · cases hi
    simp only [RD, Rep] at hx
    obtain ⟨b, vs, rfl, hs, hr⟩ := hx
    rw [hK] at hs
    exact .inr (.inl ⟨b, vs, rfl, (Hb.le _ _ _).tup hs, q' (Itt X.K b) (ito_tup hs hr)⟩)
  · cases hi
    simp only [RD, Rep] at hx
    obtain ⟨b, vs, rfl, hs, hr⟩ := hx
    exact .inl ⟨b, vs, rfl, Or.inl (Or.inl (Hb.le _ _ _ _ _ hs)), q' (Itl X.K b) (ito_list hs hr)⟩
  · cases hi
    simp only [RD, Rep] at hx
    obtain ⟨b, rfl, hs⟩ := hx
    rw [hK] at hs
    exact .inl ⟨b, _, rfl, (Hb.le _ _ _).lst hs, q' (Itl X.K b) (ito_scr hs)⟩
theorem si_rng {tg e : Expr} {a : Ex} (h : PI X tg e (iRng1 (tEs C F W [a]))) (hn : a.isStar = false) : PI X tg e (tI C F W (.rng a)) := h.imp fun σ H R q => by
  obtain ⟨md, av, m, env, r, q⟩ := q
  simp only [evI] at q
  have e1 : M.bind (ev F a env) (fun x => M.lift (rngO (.int 0) x)) m = M.bind (evs F [a] env) (fun xs => match xs with | [x] => M.lift (rngO (.int 0) x) | _ => M.bad) m := by
    rw [evs_cons hn]; simp only [evs]; unfold M.bind M.ret; cases ev F a env m <;> rfl
  rw [e1] at q
  refine ⟨md, av, m, env, r, (outG.bind (R := RDs C av) q).mono fun xs H1 ⟨ds, md1, m1, f1, r1, hx, q⟩ => ?_⟩
  match ds, hx, q with
  | [], _, q => exact q.elim
  | _ :: _ :: _, _, q => exact q.elim
  | [d], hx, q =>
    obtain ⟨items, hi, q⟩ := outG.liftG r1 q
    cases d <;> simp only [rngO, reduceCtorEq] at hi
    rename_i n
    split at hi
    · rename_i hok
      cases hi
      unfold rangeOk at hok
      have hok := of_decide_eq_true hok
      simp only [RDs, Reps, Rep] at hx
      obtain ⟨v, rest, rfl, rfl, rfl⟩ := hx
      have e2 : n.toNat = (n - 0).toNat := by omega
      refine ⟨n, rfl, by omega, by omega, ?_⟩
      rw [e2]
      exact q _ ito_rng
    · cases hi
theorem si_rng2 {tg e : Expr} {a b : Ex} (h : PI X tg e (iRng2 (tEs C F W [a, b]))) (hn : a.isStar = false) (hn2 : b.isStar = false) : PI X tg e (tI C F W (.rng2 a b)) := h.imp fun σ H R q => by
  obtain ⟨md, av, m, env, r, q⟩ := q
  simp only [evI] at q
  have e1 : M.bind (ev F a env) (fun x => M.bind (ev F b env) fun y => M.lift (rngO x y)) m = M.bind (evs F [a, b] env) (fun xs => match xs with | [x, y] => M.lift (rngO x y) | _ => M.bad) m := by
    rw [evs_cons hn, evs_cons hn2]; simp only [evs]; unfold M.bind M.ret
    cases ev F a env m with
    | ok x m1 => dsimp only; cases ev F b env m1 <;> rfl
    | exc _ _ _ => rfl
    | bad => rfl
  rw [e1] at q
  refine ⟨md, av, m, env, r, (outG.bind (R := RDs C av) q).mono fun xs H1 ⟨ds, md1, m1, f1, r1, hx, q⟩ => ?_⟩
  match ds, hx, q with
  | [], _, q => exact q.elim
  | [_], _, q => exact q.elim
  | _ :: _ :: _ :: _, _, q => exact q.elim
  | [d, e], hx, q =>
    obtain ⟨items, hi, q⟩ := outG.liftG r1 q
    cases d <;> cases e <;> simp only [rngO, reduceCtorEq] at hi
    split at hi
    · rename_i hok
      cases hi
      unfold rangeOk at hok
      have hok := of_decide_eq_true hok
      simp only [RDs, Reps, Rep] at hx
      obtain ⟨v, rest, rfl, rfl, w, rest2, rfl, rfl, rfl⟩ := hx
      exact ⟨_, _, rfl, by omega, q _ ito_rng⟩
    · cases hi
theorem si_zip {tg e : Expr} {a b : Ex} (hK : C.K = X.K) (h : PI X tg e (RZ.iZipA X.K (tEs C F W [a, b]))) (hn : a.isStar = false) (hn2 : b.isStar = false) : PI X tg e (tI C F W (.zip a b)) := h.imp fun σ H R q => by
  obtain ⟨md, av, m, env, r, q⟩ := q
  simp only [evI] at q
  have e1 : M.bind (ev F a env) (fun x => M.bind (ev F b env) fun y => M.lift (zipO x y)) m = M.bind (evs F [a, b] env) (fun xs => match xs with | [x, y] => M.lift (zipO x y) | _ => M.bad) m := by
    rw [evs_cons hn, evs_cons hn2]; simp only [evs]; unfold M.bind M.ret
    cases ev F a env m with
    | ok x m1 => dsimp only; cases ev F b env m1 <;> rfl
    | exc _ _ _ => rfl
    | bad => rfl
  rw [e1] at q
  refine ⟨md, av, m, env, r, (outG.bind (R := RDs C av) q).mono fun xs H1 ⟨ds, md1, m1, f1, r1, hx, q⟩ => ?_⟩
  match ds, hx, q with
  | [], _, q => exact q.elim
  | [_], _, q => exact q.elim
  | _ :: _ :: _ :: _, _, q => exact q.elim
  | [d, e], hx, q =>
    obtain ⟨items, hi, q⟩ := outG.liftG r1 q
    cases d <;> cases e <;> simp only [zipO, reduceCtorEq] at hi
    · cases hi
      simp only [RDs, Reps, Rep] at hx
      obtain ⟨v, rest, rfl, ⟨a1, vs, rfl, h1, hr1⟩, w, rest2, rfl, ⟨b1, ws, rfl, h2, hr2⟩, rfl⟩ := hx
      rw [hK] at h1 h2
      exact ⟨a1, b1, vs, ws, rfl, .inr ⟨(Hb.le _ _ _).tup h1, (Hb.le _ _ _).tup h2, q _ (ito_zipT h1 hr1 h2 hr2)⟩⟩
    · cases hi
      simp only [RDs, Reps, Rep] at hx
      obtain ⟨v, rest, rfl, ⟨a1, vs, rfl, h1, hr1⟩, w, rest2, rfl, ⟨b1, ws, rfl, h2, hr2⟩, rfl⟩ := hx
      exact ⟨a1, b1, vs, ws, rfl, .inl ⟨Or.inl (Or.inl (Hb.le _ _ _ _ _ h1)), Or.inl (Or.inl (Hb.le _ _ _ _ _ h2)), q _ (ito_zipL h1 hr1 h2 hr2)⟩⟩
end
end Ev
set_option Elab.async false
set_option linter.all false
set_option maxRecDepth 100000
set_option maxHeartbeats 1000000
/-! Ev7: list comprehensions. -/
namespace Ev
open PySem L2 PyProof.Rows Classical
section
variable {X : Cx} {C : RC} {F : FT} {W : WX} {pos : Pos} {av av' : Addr → Prop} {md md' : Option Addr} {H H1 H' : Hp} {m m' : Option MSt} {σ : L2.St} {env : Env} {Dl : Addr} {o : HO}
theorem MS.upd_of (n : ¬ MS md H Dl) {a : Addr} (h : MS md (upd H Dl o) a) : MS md H a := by
  obtain ⟨d, e, h⟩ := h
  have nd : d ≠ Dl := fun z => n ⟨d, e, .inl z.symm⟩
  rcases h with h | ⟨c, l, t, h, z⟩
  · exact ⟨d, e, .inl h⟩
  · rw [upd_ne nd] at h
    exact ⟨d, e, .inr ⟨c, l, t, h, z⟩⟩
theorem MRel.upd (h : MRel md H m) (n : ¬ MS md H Dl) (n1 : Dl ≠ sysModules) : MRel md (upd H Dl o) m := ⟨by unfold One; rw [upd_ne (Ne.symm n1)]; exact h.one, by
  have h := h.at_
  cases m with
  | none => exact h
  | some mm =>
    obtain ⟨d, e, c, l, h1, h2, h3, h4⟩ := h
    have nd : d ≠ Dl := fun z => n ⟨d, e, .inl z.symm⟩
    have nl : l ≠ Dl := fun z => n ⟨d, e, .inr ⟨c, l, mm.at_, h1, .inr z.symm⟩⟩
    have nc : c ≠ Dl := fun z => n ⟨d, e, .inr ⟨c, l, mm.at_, h1, .inl z.symm⟩⟩
    exact ⟨d, e, c, l, by rw [upd_ne nd]; exact h1, by rw [upd_ne nc]; exact h2, by rw [upd_ne nl]; exact h3, h4⟩⟩
theorem Hb.upd (n : ¬ MS md H Dl) (ha : av Dl) : Ext (Hb md av H) (Hb md av (upd H Dl o)) := fun a u e => by
  obtain ⟨h, n1, n2⟩ := Hb.of e
  have nd : a ≠ Dl := fun z => n1 (by rw [z]; exact ha)
  exact Hb.get (by rw [upd_ne nd]; exact h) n1 fun z => n2 (MS.upd_of n z)
theorem Fr.upd (f : Fr md H1 md' H) (h0 : H1 Dl = none) (n : ¬ MS md' H Dl) : Fr md H1 md' (upd H Dl o) := ⟨f.same, fun a u h nm => by
  obtain ⟨h', n'⟩ := f.keep a u h nm
  have nd : a ≠ Dl := fun z => by rw [z, h0] at h; cases h
  exact ⟨by rw [upd_ne nd]; exact h', fun z => n' (MS.upd_of n z)⟩⟩
/-- a list that is not a slot's own is changed -/
theorem RE.upd (r : RE C md av H m σ env) (ha : av Dl) (n1 : Dl ≠ sysModules) (hs : ∀ (i : Nat) ds, env[i]? = some (.ol ds) → σ[i]? ≠ some (some (.ref Dl))) : RE C md av (upd H Dl o) m σ env where
  mr := r.mr.upd (r.avt Dl ha).2 n1
  avt := fun a z => by
    by_cases e : a = Dl
    · subst e
      exact ⟨by rw [upd_same]; simp, fun q => (r.avt a z).2 (MS.upd_of (r.avt a ha).2 q)⟩
    · exact ⟨by rw [upd_ne e]; exact (r.avt a z).1, fun q => (r.avt a z).2 (MS.upd_of (r.avt Dl ha).2 q)⟩
  len := r.len
  sh := fun i d e => by
    obtain ⟨v, h1, h2⟩ := r.sh i d e
    exact ⟨v, h1, Rep.mono (fun _ z => z) (Hb.upd (r.avt Dl ha).2 ha) d v h2⟩
  ol := fun i ds e => by
    obtain ⟨a, vs, h1, h2, h3, h4⟩ := r.ol i ds e
    have nd : a ≠ Dl := fun z => hs i ds e (by rw [h1, z])
    exact ⟨a, vs, h1, h2, by rw [upd_ne nd]; exact h3, Reps.mono (fun _ z => z) (Hb.upd (r.avt Dl ha).2 ha) ds vs h4⟩
  ne := r.ne
/-- a new list that nothing leans on -/
theorem RE.addAv (r : RE C md av H m σ env) (h0 : H Dl = none) : RE C md (fun a => av a ∨ a = Dl) (L2.upd H Dl o) m σ env := by
  have e := Ext.new (o := o) h0
  have n : ¬ MS md H Dl := fun z => MS.tracked r.mr z h0
  have hv : ∀ a, H a ≠ none → (av a ∨ a = Dl) → av a := fun a t z => z.elim id fun q => absurd (by rw [q]; exact h0) t
  have hx : Ext (Hb md av H) (Hb md (fun a => av a ∨ a = Dl) (L2.upd H Dl o)) := Hb.fr2 (Fr.of_ext r.mr e) hv
  exact
    { mr := r.mr.ext e
      avt := fun a z => by
        rcases z with z | z
        · exact ⟨by have := (r.avt a z).1; cases q : H a with
            | none => exact absurd q this
            | some u => rw [e a u q]; simp, fun q => (r.avt a z).2 (MS.ext r.mr e q)⟩
        · subst z
          exact ⟨by rw [upd_same]; simp, fun q => n (MS.ext r.mr e q)⟩
      len := r.len
      sh := fun i d q => by
        obtain ⟨v, h1, h2⟩ := r.sh i d q
        exact ⟨v, h1, Rep.mono (fun _ z => z) hx d v h2⟩
      ol := fun i ds q => by
        obtain ⟨a, vs, h1, h2, h3, h4⟩ := r.ol i ds q
        exact ⟨a, vs, h1, .inl h2, e _ _ h3, Reps.mono (fun _ z => z) hx ds vs h4⟩
      ne := r.ne }
theorem RE.hide {i : Nat} {x : Option V} (r : RE C md av H m σ env) : RE C md av H m (σ.set i x) (env.set i .no) := by
  have gs : ∀ {j : Nat} {s : Slot}, (env.set i .no)[j]? = some s → s ≠ .no → i ≠ j ∧ env[j]? = some s := fun {j s} e ns => by
    by_cases hj : i = j
    · subst hj
      by_cases hi : i < env.length
      · rw [List.getElem?_set_self hi] at e
        exact absurd (Option.some.inj e).symm ns
      · rw [List.getElem?_eq_none (by rw [List.length_set]; omega)] at e; cases e
    · exact ⟨hj, by rw [List.getElem?_set_ne hj] at e; exact e⟩
  exact
    { mr := r.mr
      avt := r.avt
      len := by rw [List.length_set, List.length_set]; exact r.len
      sh := fun j d e => by
        obtain ⟨nj, e⟩ := gs e (by simp)
        rw [List.getElem?_set_ne nj]
        exact r.sh j d e
      ol := fun j d e => by
        obtain ⟨nj, e⟩ := gs e (by simp)
        rw [List.getElem?_set_ne nj]
        exact r.ol j d e
      ne := fun j k ds es a e1 e2 s1 s2 => by
        obtain ⟨nj, e1⟩ := gs e1 (by simp)
        obtain ⟨nk, e2⟩ := gs e2 (by simp)
        rw [List.getElem?_set_ne nj] at s1
        rw [List.getElem?_set_ne nk] at s2
        exact r.ne j k ds es a e1 e2 s1 s2 }
theorem RE.clear {i : Nat} (r : RE C md av H m σ env) : RE C md av H m (σ.set i none) (env.set i .no) := r.hide
theorem RE.wipe (r : RE C md av H m σ env) : ∀ vs : List Nat, RE C md av H m (L2.wipe σ vs) (wipeE env vs)
  | [] => r
  | v :: vs => (RE.wipe r vs).clear
theorem wipe_idem (σ : L2.St) : ∀ vs : List Nat, L2.wipe (L2.wipe σ vs) vs = L2.wipe σ vs := by
  intro vs
  have : ∀ ws : List Nat, (∀ i ∈ ws, i ∈ vs) → L2.wipe (L2.wipe σ ws) vs = L2.wipe σ vs := by
    intro ws
    induction ws with
    | nil => intro _; rfl
    | cons w ws ih =>
      intro h
      show L2.wipe ((L2.wipe σ ws).set w none) vs = _
      rw [wipe_set (h w List.mem_cons_self), ih fun i hi => h i (List.mem_cons_of_mem _ hi)]
  exact this vs fun _ h => h
def tTO (C : RC) (F : FT) (W : WX) : Option Ex → TT
  | none => tYes
  | some e => tT C F W e
abbrev W0 : WX := fun _ _ _ _ => False
theorem mapC_step {R' : Option Addr → Hp → D → V → Prop} {f : D → M (Option D)} {d : D} {rest ys : List D} {Q : VK} (h : outG C W av R' md H σ (M.bind (mapC f (d :: rest)) (fun zs => M.ret (.lst (ys ++ zs))) m) Q) :
    ∃ y m1, f d m = .ok y m1 ∧ outG C W av R' md H σ (M.bind (mapC f rest) (fun zs => M.ret (.lst (ys ++ y.toList ++ zs))) m1) Q := by
  simp only [mapC] at h
  unfold M.bind M.calm at h
  cases e : f d m with
  | bad => rw [e] at h; exact h.elim
  | exc c v m1 => rw [e] at h; exact h.elim
  | ok y m1 =>
    rw [e] at h
    refine ⟨y, m1, rfl, ?_⟩
    unfold M.bind
    dsimp only at h
    cases e2 : mapC f rest m1 with
    | bad => rw [e2] at h; exact h
    | exc c v m2 => rw [e2] at h; exact h
    | ok zs m2 =>
      rw [e2] at h
      cases y with
      | none => simpa [M.ret] using h
      | some z => simpa [M.ret] using h
/-- a comprehension's turn, by the evaluator -/
def turnC (F : FT) (elt : Ex) (tg : Tg) (ifs : Option Ex) (env : Env) (x : D) : M (Option D) := match bindT tg x (wipeE env tg.slots) with
  | some env2 => M.bind (evT F ifs env2) fun t => if t = true then M.map some (ev F elt env2) else M.ret none
  | none => M.bad
theorem ev_cmp {elt : Ex} {tg : Tg} {it : Ev.It} {ifs : Option Ex} : ev F (.cmp elt tg it ifs) env = M.bind (evI F it env) fun xs => if xs.length ≤ LIM then M.bind (mapC (turnC F elt tg ifs env) xs) fun ys => M.ret (.lst ys) else M.bad := by
  simp only [ev]; rfl
/-- a new list: nothing that stood at (md, H0) leans on it -/
def RFr (C : RC) (md : Option Addr) (av : Addr → Prop) (H0 : Hp) : Option Addr → Hp → D → V → Prop := fun md' H' d v => ∃ ds a vs, d = .lst ds ∧ v = .ref a ∧ (∀ o, H0 a = some o → MS md H0 a) ∧ H' a = some (.lst vs) ∧ ¬ MS md' H' a ∧ ¬ av a ∧ Reps C md' (Hb md' (fun x => av x ∨ x = a) H') ds vs
theorem RFr.rd {H0 H' : Hp} {md0 md' : Option Addr} {d : D} {v : V} (h : RFr C md0 av H0 md' H' d v) : RD C av md' H' d v := by
  obtain ⟨ds, a, vs, rfl, rfl, _, h1, h2, h3, h4⟩ := h
  simp only [RD, Rep]
  exact ⟨a, vs, rfl, Hb.get h1 h3 h2, Reps.mono (fun _ e => e) (Hb.sub fun x z => .inl z) ds vs h4⟩
def tEF (C : RC) (F : FT) (W : WX) (e : Ex) : TE := fun σ H Q => ∃ md av m env, RE C md av H m σ env ∧ outG C W av (RFr C md av H) md H σ (ev F e env m) Q
theorem tEF_of {a : Ex} {σ : L2.St} {H : Hp} {Q : VK} (q : tE C F W a σ H Q) : tEF C F W a σ H Q := by
  obtain ⟨md, av, m, env, r, q⟩ := q
  refine ⟨md, av, m, env, r, ?_⟩
  cases e : ev F a env m with
  | ok d m' => rw [e] at q; exact fun md' b H' f r h => q md' b H' f r h.rd
  | exc c d m' => rw [e] at q; exact q
  | bad => rw [e] at q; exact q
theorem cmp_impF {elt : Ex} {tg : Tg} {it : Ev.It} {ifs : Option Ex} {σ : L2.St} {H : Hp} {Q : VK} (hK : C.K = X.K) (q : tEF C F W (.cmp elt tg it ifs) σ H Q) : tLc (tI C F W it) (gTg X.K tg) (tTO C F W0 ifs) (tE C F W0 elt) tg.slots σ H Q := by
  obtain ⟨md, av, m, env, r, q⟩ := q
  rw [ev_cmp] at q
  generalize hR : RFr C md av H = R' at q
  refine ⟨md, av, m, env, r, (outG.bind (R := ItOk C av) q).mono fun J H1 ⟨items, md1, m1, f1, r1, hJ, q⟩ => ?_⟩
  intro Dl hD
  by_cases hl : items.length ≤ LIM
  case neg =>
    rw [if_neg hl] at q
    exact q.elim
  rw [if_pos hl] at q
  have re1 := r.step f1 r1
  have nD1 : Dl ≠ sysModules := fun z => by obtain ⟨o1, q⟩ := r1.one; rw [← z, hD] at q; cases q
  have nDav : ¬ av Dl := fun z => (re1.avt Dl z).1 hD
  have nown : ∀ (i : Nat) ds, (wipeE env tg.slots)[i]? = some (.ol ds) → (L2.wipe σ tg.slots)[i]? ≠ some (some (.ref Dl)) := fun i ds e z => by
    obtain ⟨a, vs, h1, h2, h3, _⟩ := (re1.wipe tg.slots).ol i ds e
    rw [h1] at z
    cases z
    rw [hD] at h3
    cases h3
  let av' : Addr → Prop := fun a => av a ∨ a = Dl
  have aD : av' Dl := .inr rfl
  refine ⟨fun i k H => k = items.length - i ∧ i ≤ items.length ∧ ∃ md' m' acc ys, Fr md1 H1 md' H ∧ RE C md' av' H m' (L2.wipe σ tg.slots) (wipeE env tg.slots) ∧ H Dl = some (.lst acc) ∧ Reps C md' (Hb md' av' H) ys acc ∧ ys.length ≤ i ∧
    outG C W av R' md1 H1 σ (M.bind (mapC (turnC F elt tg ifs env) (items.drop i)) (fun zs => M.ret (.lst (ys ++ zs))) m') Q, ⟨items.length, rfl, Nat.zero_le _, md1, m1, [], [], Fr.of_ext r1 (Ext.new hD), (re1.wipe tg.slots).addAv hD, upd_same, Reps.nil, Nat.le_refl _, by simpa using q⟩, ?_⟩
  rintro i k H2 ⟨rfl, hi, md2, m2, acc, ys, f2, re2, hacc, hys, hyl, q2⟩
  have nMS : ¬ MS md2 H2 Dl := (re2.avt Dl aD).2
  have gx : Gx md1 av H1 md2 av' H2 := ⟨f2.same, Hb.fr2 f2 fun a t z => z.elim id fun e => absurd (by rw [e]; exact hD) t⟩
  by_cases hlt : i < items.length
  · refine .inr ⟨hJ.go md2 av' H2 i gx hlt, fun H' => ∃ k', k' = items.length - (i + 1) ∧ (k' = items.length - (i + 1) ∧ i + 1 ≤ items.length ∧ ∃ md' m' acc ys, Fr md1 H1 md' H' ∧ RE C md' av' H' m' (L2.wipe σ tg.slots) (wipeE env tg.slots) ∧ H' Dl = some (.lst acc) ∧ Reps C md' (Hb md' av' H') ys acc ∧ ys.length ≤ i + 1 ∧
      outG C W av R' md1 H1 σ (M.bind (mapC (turnC F elt tg ifs env) (items.drop (i + 1))) (fun zs => M.ret (.lst (ys ++ zs))) m') Q), fun H' ⟨k', e, w⟩ => ⟨k', by omega, w⟩, ?_⟩
    intro x H3 hy
    have hd : items[i]? = some items[i] := List.getElem?_eq_getElem hlt
    rw [List.drop_eq_getElem_cons hlt] at q2
    obtain ⟨y, m3, hf, q3⟩ := mapC_step q2
    obtain ⟨ext3, rep3⟩ := hJ.yld md2 m2 av' H2 i x H3 _ gx re2.mr re2.avn hy hd
    have re3 := re2.ext ext3
    unfold turnC at hf
    cases hb : bindT tg items[i] (wipeE env tg.slots) with
    | none => rw [hb] at hf; cases hf
    | some env2 =>
      rw [hb] at hf
      refine bind_ok hK tg _ x (L2.wipe σ tg.slots) _ env2 tg.slots _ re3 rep3 hb (fun _ h => h) fun σ2 r2 w2 => ⟨w2.trans (wipe_idem σ _), ?_⟩
      -- what stands in the new list through the turn
      have keepD : ∀ {md5 : Option Addr} {H5 : Hp}, Fr md2 H3 md5 H5 → H5 Dl = some (.lst acc) := fun f => (f.keep Dl _ (ext3 _ _ hacc) fun z => nMS (MS.ext re2.mr ext3 z)).1
      have frm : ∀ {md5 : Option Addr} {H5 : Hp}, Fr md2 H3 md5 H5 → Fr md1 H1 md5 H5 := fun f => f2.trans ((Fr.of_ext re2.mr ext3).trans f)
      have accl : acc.length < sizeLine := by
        rw [hys.length]
        exact Nat.lt_of_lt_of_le (Nat.lt_of_le_of_lt hyl hlt) (lim_sz hl)
      dsimp only at hf
      unfold M.bind at hf
      cases et : evT F ifs env2 m2 with
      | bad => rw [et] at hf; cases hf
      | exc c v m4 => rw [et] at hf; cases hf
      | ok t m4 =>
        rw [et] at hf
        dsimp only at hf
        have rest : ∀ (md4 : Option Addr) (H4 : Hp), Fr md2 H3 md4 H4 → MRel md4 H4 m4 → (if t = true then tE C F W0 elt σ2 H4 fun y H5 => ∃ acc, H5 Dl = some (.lst acc) ∧ acc.length < sizeLine ∧
            (∃ k', k' = items.length - (i + 1) ∧ (k' = items.length - (i + 1) ∧ i + 1 ≤ items.length ∧ ∃ md' m' acc' ys, Fr md1 H1 md' (upd H5 Dl (.lst (acc ++ [y]))) ∧ RE C md' av' (upd H5 Dl (.lst (acc ++ [y]))) m' (L2.wipe σ tg.slots) (wipeE env tg.slots) ∧ (upd H5 Dl (.lst (acc ++ [y]))) Dl = some (.lst acc') ∧ Reps C md' (Hb md' av' (upd H5 Dl (.lst (acc ++ [y])))) ys acc' ∧ ys.length ≤ i + 1 ∧
              outG C W av R' md1 H1 σ (M.bind (mapC (turnC F elt tg ifs env) (items.drop (i + 1))) (fun zs => M.ret (.lst (ys ++ zs))) m') Q))
          else ∃ k', k' = items.length - (i + 1) ∧ (k' = items.length - (i + 1) ∧ i + 1 ≤ items.length ∧ ∃ md' m' acc' ys, Fr md1 H1 md' H4 ∧ RE C md' av' H4 m' (L2.wipe σ tg.slots) (wipeE env tg.slots) ∧ H4 Dl = some (.lst acc') ∧ Reps C md' (Hb md' av' H4) ys acc' ∧ ys.length ≤ i + 1 ∧
              outG C W av R' md1 H1 σ (M.bind (mapC (turnC F elt tg ifs env) (items.drop (i + 1))) (fun zs => M.ret (.lst (ys ++ zs))) m') Q)) := by
          intro md4 H4 f4 r4
          cases t with
          | false =>
            rw [if_neg Bool.false_ne_true] at hf ⊢
            unfold M.ret at hf
            cases hf
            have e34 := (Fr.of_ext re2.mr ext3).trans f4
            exact ⟨_, rfl, rfl, hlt, md4, m3, acc, ys, frm f4, re2.step e34 r4, keepD f4, Reps.mono e34.same (Hb.fr e34) ys acc hys, by omega, by simpa using q3⟩
          | true =>
            rw [if_pos rfl] at hf ⊢
            unfold M.map M.bind M.ret at hf
            cases ee : ev F elt env2 m4 with
            | bad => rw [ee] at hf; cases hf
            | exc c v m5 => rw [ee] at hf; cases hf
            | ok z m5 =>
              rw [ee] at hf
              cases hf
              refine ⟨md4, av', m4, env2, r2.step f4 r4, ?_⟩
              rw [ee]
              intro md5 v H5 f5 r5 rv
              have f45 := f4.trans f5
              have e35 := (Fr.of_ext re2.mr ext3).trans f45
              have re5 : RE C md5 av' H5 m3 (L2.wipe σ tg.slots) (wipeE env tg.slots) := re2.step e35 r5
              have n5 : ¬ MS md5 H5 Dl := (re5.avt Dl aD).2
              refine ⟨acc, keepD f45, accl, _, rfl, rfl, hlt, md5, m3, acc ++ [v], ys ++ [z], (frm f45).upd hD n5, re5.upd aD nD1 nown, upd_same, ?_, by rw [List.length_append]; show ys.length + 1 ≤ i + 1; omega, by simpa using q3⟩
              exact Reps.mono (fun _ e => e) (Hb.upd n5 aD) _ _ ((Reps.mono e35.same (Hb.fr e35) ys acc hys).append (Reps.cons rv Reps.nil))
        cases ifs with
        | none =>
          simp only [evT] at et
          unfold M.ret at et
          cases et
          exact rest md2 H3 (Fr.refl _ _) re3.mr
        | some c =>
          simp only [evT] at et
          refine ⟨md2, av', m2, env2, r2, ?_⟩
          rw [et]
          intro md4 b H4 f4 r4 hb4
          cases hb4
          exact rest md4 H4 f4 r4
  · have hie : i = items.length := by omega
    subst hie
    refine .inl ⟨hJ.stop md2 av' H2 _ gx (Nat.le_refl _), ?_⟩
    rw [List.drop_length] at q2
    have q2 : outG C W av R' md1 H1 σ (.ok (.lst (ys ++ [])) m2) Q := q2
    rw [List.append_nil] at q2
    have nw : ∀ o, H Dl = some o → MS md H Dl := fun o e => Classical.byContradiction fun n => by
      have z := (f1.keep Dl o e n).1
      rw [hD] at z
      cases z
    refine q2 md2 (.ref Dl) H2 f2 re2.mr ?_
    rw [← hR]
    exact ⟨ys, Dl, acc, rfl, rfl, nw, hacc, nMS, nDav, hys⟩
theorem cmp_imp {elt : Ex} {tg : Tg} {it : Ev.It} {ifs : Option Ex} {σ : L2.St} {H : Hp} {Q : VK} (hK : C.K = X.K) (q : tE C F W (.cmp elt tg it ifs) σ H Q) : tLc (tI C F W it) (gTg X.K tg) (tTO C F W0 ifs) (tE C F W0 elt) tg.slots σ H Q := cmp_impF hK (tEF_of q)
theorem s_cmp {e : Expr} {elt : Ex} {tg : Tg} {it : Ev.It} {ifs : Option Ex} (hK : C.K = X.K) (h : PE X e (tLc (tI C F W it) (gTg X.K tg) (tTO C F W0 ifs) (tE C F W0 elt) tg.slots)) : PE X e (tE C F W (.cmp elt tg it ifs)) := h.imp fun σ H Q q => cmp_imp hK q
end
end Ev
set_option Elab.async false
set_option linter.all false
set_option maxRecDepth 100000
set_option maxHeartbeats 1000000
/-! Ev8: sorted. -/
namespace Ev
open PySem L2 PyProof.Rows Classical
open PySem.W (alike alikeAll AllAlike SortsAt Sortable dataKind EachIs dataLt dataLe)
section
variable {prog : Program} {w : World} {A : Around} {E : Value → Shared → Prop} {s : Shared}
/-- tuples by one type's < -/
theorem oneLt_tuples {xs ys : List PyData} {a b : Value} {as bs : List Addr} {Q : Bool → Shared → Prop} (ra : Reads s.heap a (.tuple xs) as) (rb : Reads s.heap b (.tuple ys) bs) (h : alikeAll xs ys = true)
    (hu : A.units + min (PyData.tuple xs).depth (PyData.tuple ys).depth < cLine) (hq : Q (dataLt (.tuple xs) (.tuple ys)) s) : wpAny (model prog w) A (oneLt' true a b) Q E s := by
  cases ra with
  | @tuple l o vs n _ as₁ h1 h2 h3 h4 =>
    cases rb with
    | @tuple l' o' vs' n' _ bs₁ k1 k2 k3 k4 =>
      have n1 : vs.size = xs.length := by simpa using SeqAt.ReadsAll.length _ _ _ h4
      have n2 : vs'.size = ys.length := by simpa using SeqAt.ReadsAll.length _ _ _ k4
      rw [PySem.W.dataLt_tuple, ← PySem.W.firstLt_toks xs ys h, ← n1, ← n2] at hq
      rw [oneLt'_eq]
      simp only [if_true]
      obtain ⟨cls, dd, data, sl⟩ := o
      obtain ⟨cls2, dd2, data2, sl2⟩ := o'
      simp only at h2 h3 k2 k3
      subst h2 h3 k2 k3
      have e0 : A.units < cLine := Nat.lt_of_le_of_lt (Nat.le_add_right _ _) hu
      have hm := SeqAt.tuple_ltAt l l' vs vs' n n' dd dd2 sl sl2 (SeqAt.pairEq xs ys) (fun j => dataLt (xs.getD j .none) (ys.getD j .none))
      have hd : A.in1.units + min (PyData.depthAll xs) (PyData.depthAll ys) < cLine := by
        have e1 : (PyData.tuple xs).depth = PyData.depthAll xs + 1 := by simp [PyData.depth]
        have e2 : (PyData.tuple ys).depth = PyData.depthAll ys + 1 := by simp [PyData.depth]
        rw [e1, e2] at hu
        show A.units + 1 + _ < _
        omega
      refine wpAny_bind (wpAny_cRoomFor e0 ?_)
      refine wpAny_bind (wpAny_callSpecialIfBound?_slot (T := "tuple") ⟨_, h1, rfl⟩ F.slot_tuple_lt (call_meets F.slot_tuple_lt ⟨_, h1, rfl⟩ F.entry_tuple_lt (F.args_tuple_lt_2 _ _) hm ⟨h1, k1, fun j j1 j2 => ?_, fun j j1 j2 hj => ?_, ?_⟩))
      · have := PySem.W.eqAt_alikeAll xs ys A.in1 s vs.toList vs'.toList _ _ h4 k4 h hd j (by simpa using j1) (by simpa using j2)
        simpa using this
      · have := PySem.W.rcLt_alikeAll xs ys A.in1 s vs.toList vs'.toList _ _ h4 k4 h hd j (by simpa using j1) (by simpa using j2) hj
        simpa using this
      · exact wpAny_truthy_bool hq
/-- values that are tuples, each with its items -/
inductive TupVs (h : Heap) : List Value → List (Array Value) → Prop
  | nil : TupVs h [] []
  | cons {a : Addr} {o : Obj} {xs : Array Value} {n : Nat} {vs : List Value} {xss : List (Array Value)} : h.get? a = some o → o.cls = .type "tuple" → o.data = .seq xs n → TupVs h vs xss → TupVs h (.ref a :: vs) (xs :: xss)
theorem tv_firsts {M : Model} : ∀ {vs : List Value} {xss : List (Array Value)} {Q : List (Option Value) → Shared → Prop}, TupVs s.heap vs xss → Q (xss.map fun xs => xs[0]?) s → wpAny M A (vs.mapM firstOfTuple') Q E s
  | _, _, _, .nil, h => by rw [List.mapM_nil]; exact wpAny_pure h
  | _, _, Q, .cons ho hc hd t, h => by
    rw [List.mapM_cons]
    refine wpAny_bind ?_
    rw [PySem.W.kas_first_eq]
    refine wpAny_bind (PySem.W.Looks.here (show PySem.W.Looks M s.heap (typeOf (.ref _)) _ from (PySem.W.Looks.ld ho).andThen .now) ?_)
    rw [hc, if_neg (by simp)]
    refine wpAny_bind (listItems_at ho hd (wpAny_pure ?_))
    exact wpAny_bind (tv_firsts (Q := fun bs s' => wpAny M A (pure (_ :: bs)) Q E s') t (wpAny_pure h))
theorem tv_types {M : Model} : ∀ {vs : List Value} {xss : List (Array Value)}, TupVs s.heap vs xss → ∀ v ∈ vs, PySem.W.Looks M s.heap (typeOf v) (.type "tuple")
  | _, _, .nil, v, hv => nomatch hv
  | _, _, .cons ho hc hd t, v, hv => by
    rcases List.mem_cons.mp hv with rfl | hv
    · have q : PySem.W.Looks M s.heap (typeOf (.ref _)) _ := (PySem.W.Looks.ld ho).andThen .now
      rw [hc] at q
      exact q
    · exact tv_types t v hv
theorem tv_kind {M : Model} {v : Value} {vs : List Value} {xss : List (Array Value)} {Q : SortKind → Shared → Prop} (t : TupVs s.heap (v :: vs) (#[] :: xss)) (h : Q oneType' s) : wpAny M A (keyKind' (v :: vs).toArray) Q E s := by
  rw [keyKind'_eq, List.mapM_toArray, map_eq_pure_bind]
  refine wpAny_bind (wpAny_bind (tv_firsts t (wpAny_pure ?_)))
  rw [if_neg (by simp), if_neg (by simp)]
  rw [oneTypeOnly'_eq, List.mapM_toArray, map_eq_pure_bind]
  refine wpAny_bind (wpAny_bind (wpAny_bind (PySem.W.kas_mapM (r := Value.type "tuple") _ (fun u hu Q' hq => (tv_types t u hu).here hq) (wpAny_pure ?_))))
  have hall : ((List.map (fun _ => Value.type "tuple") (v :: vs)).toArray.all fun x => x == Value.type "tuple") = true := by
    simp only [List.all_toArray, List.all_map, List.all_eq_true]
    intro _ _
    show (Value.type "tuple" == Value.type "tuple") = true
    decide
  have h0 : (List.map (fun _ => Value.type "tuple") (v :: vs)).toArray[0]? = some (Value.type "tuple") := by simp
  rw [h0]
  simp only [hall, if_true]
  exact wpAny_pure (wpAny_pure h)
theorem tv_of : ∀ {vs : List Value} {ds : List PyData}, EachIs (fun v d => ∃ as, Reads s.heap v d as) vs ds → (∀ d ∈ ds, ∃ xs, d = .tuple xs) → ∃ xss, TupVs s.heap vs xss ∧ ∀ r, ds = .tuple [] :: r → ∃ q, xss = #[] :: q
  | _, _, .nil, _ => ⟨[], .nil, fun _ e => nomatch e⟩
  | _, _, .cons (b := d) ⟨as, r⟩ e, ht => by
    obtain ⟨xs, rfl⟩ := ht d List.mem_cons_self
    obtain ⟨xss, t, _⟩ := tv_of e fun d hd => ht d (List.mem_cons_of_mem _ hd)
    cases r with
    | @tuple a o vs n _ _ h1 h2 h3 h4 =>
      refine ⟨vs :: xss, .cons h1 h2 h3 t, fun r er => ?_⟩
      have : xs = [] := by injection er with e1; injection e1
      subst this
      have h0 : vs = #[] := by
        generalize hl : vs.toList = l at h4
        cases h4
        exact Array.toList_eq_nil_iff.mp hl
      exact ⟨xss, by rw [h0]⟩
/-- tuples, the first one empty -/
theorem sortsAt_empty {vs : List Value} {ds : List PyData} (e : EachIs (fun v d => ∃ as, Reads s.heap v d as) vs ds) (hal : AllAlike ds) (ht : ∀ d ∈ ds, ∃ xs, d = .tuple xs) (h0 : ∃ r, ds = .tuple [] :: r) (hu : ∀ d, d ∈ ds → A.units + d.depth < cLine) :
    SortsAt prog w A s (dataKind s.heap ds) vs := by
  refine ⟨fun v hv => ?_, oneType', ?_, fun _ E Q hq => ?_⟩
  · obtain ⟨d, hd, as, r⟩ := e.left v hv
    exact ⟨_, PySem.W.dataKind_some hal hd r⟩
  · intro E x y a b Q ha hb hq
    obtain ⟨d, as, hd, ra, rfl⟩ := PySem.W.dataKind_inv ha
    obtain ⟨d', as', hd', rb, rfl⟩ := PySem.W.dataKind_inv hb
    obtain ⟨xs, rfl⟩ := ht d hd
    obtain ⟨ys, rfl⟩ := ht d' hd'
    rw [keyLt'_oneType]
    exact oneLt_tuples ra rb (by simpa [alike] using hal _ hd _ hd') (Nat.lt_of_le_of_lt (Nat.add_le_add_left (Nat.min_le_left _ _) _) (hu _ hd)) hq
  · obtain ⟨xss, t, hh⟩ := tv_of e ht
    obtain ⟨r, er⟩ := h0
    obtain ⟨q, rfl⟩ := hh r er
    cases t with
    | cons a1 a2 a3 a4 => exact tv_kind (.cons a1 a2 a3 a4) hq
end
section
variable {X : Cx} {C : RC}
/-- each value with its data -/
theorem reps_each {pins : List (Addr × Obj)} {σ : L2.St} {H : Hp} {s : Shared} {md : Option Addr} {av : Addr → Prop} (hK : C.K = X.K) (I : Inv X pins σ H s) : ∀ {ds : List D} {vs : List V} {us : List Value}, Reps C md (Hb md av H) ds vs → Vals vs us → (∀ d ∈ ds, d.plain = true) →
    EachIs (fun u d => (∃ x, RelV x u ∧ Rep C md (Hb md av H) d x)) us ds ∧ EachIs (fun u d => ∃ as, Reads s.heap u (D.py d) as) us ds
  | [], vs, us, h, r, _ => by
    simp only [Reps] at h
    subst h
    cases r
    exact ⟨.nil, .nil⟩
  | d :: ds, vs, us, h, r, p => by
    simp only [Reps] at h
    obtain ⟨v, rest, rfl, h1, h2⟩ := h
    cases r with
    | cons r1 r2 =>
      obtain ⟨e1, e2⟩ := reps_each hK I h2 r2 fun d hd => p d (List.mem_cons_of_mem _ hd)
      have q := Rep.dp d v (p d List.mem_cons_self) (Rep.mono (md' := md) (fun _ e => e) (Hb.le _ _ _) d v h1)
      rw [hK] at q
      exact ⟨.cons ⟨v, r1, h1⟩ e1, .cons (Dp.reads I d.py v _ q r1) e2⟩
theorem each_reps {md : Option Addr} {H : Hp} : ∀ {ds : List D} {us : List Value}, EachIs (fun u d => (∃ x, RelV x u ∧ Rep C md H d x)) us ds → ∃ vs, Vals vs us ∧ Reps C md H ds vs
  | _, _, .nil => ⟨[], .nil, Reps.nil⟩
  | _, _, .cons ⟨x, r, h⟩ e => by
    obtain ⟨vs, r2, h2⟩ := each_reps e
    exact ⟨x :: vs, .cons r r2, Reps.cons h h2⟩
theorem sort_py (ds : List D) : dataLe (β := D) false D.py = sortLe := rfl
def rSortD (C : RC) : List V → Hp → VK → Prop := fun xs H Q => ∃ (md : Option Addr) (av : Addr → Prop) (m : Option MSt) (ds : List D) (a : Addr) (vs : List V), GR md av H m ∧ xs = [.ref a] ∧ SqL C.K H a vs ∧ Reps C md (Hb md av H) ds vs ∧ sortOk ds = true ∧ Pz C md av H (.lst (ds.mergeSort sortLe)) Q
theorem call_sortD (hK : C.K = X.K) (hu : X.A.units + 80 < cLine) : CallR X (.builtin "sorted") (rSortD C) := fun pins s σ H xs us Q I r h => by
  obtain ⟨md, av, m, ds, a, vs, g, rfl, ha, hr, hok, p⟩ := h
  rw [hK] at ha
  unfold sortOk at hok
  simp only [Bool.and_eq_true, List.all_eq_true, decide_eq_true_eq] at hok
  obtain ⟨⟨⟨⟨h1, h2⟩, h3⟩, h4⟩, h5⟩ := hok
  obtain ⟨its, rv, pl, hz⟩ := I.list ha
  rw [Vals.ref1 r]
  obtain ⟨e1, e2⟩ := reps_each hK I hr rv h1
  have hal : AllAlike (ds.map D.py) := fun d hd d' hd' => by
    obtain ⟨x, hx, rfl⟩ := List.mem_map.mp hd
    obtain ⟨y, hy, rfl⟩ := List.mem_map.mp hd'
    exact h4 x hx y hy
  have hlen : ds.length ≤ sizeLine := lim_sz h2
  have hdep : ∀ b, b ∈ ds → X.A.units + 2 + b.py.depth < cLine := fun b hb => by have := h3 b hb; omega
  have fin : ∀ out, out.length = ds.length → EachIs (fun u d => (∃ x, RelV x u ∧ Rep C md (Hb md av H) d x)) out (ds.mergeSort (dataLe false D.py)) → EP X pins σ Q (.ref (s.heap.objs.size + 1)) { s with heap := sortedAll s.heap its (List.toArray out) } := fun out hl ho => by
    obtain ⟨ws, rw', hw⟩ := each_reps ho
    obtain ⟨ep, he'⟩ := sortedAll_at s.heap its out.toArray
    have hwl : ws.length ≤ sizeLine := by rw [rw'.length, hl]; exact hlen
    have hf := I.hok.fresh (Nat.le_succ s.heap.objs.size)
    refine ⟨.ref (s.heap.objs.size + 1), upd H (s.heap.objs.size + 1) (.lst ws), I.laid (t' := s.toks) (fun _ _ => sortedAll_old) (Nat.le_succ _) ⟨hwl, out, ep, rw', by simpa using he'⟩, rfl, Pz.lst g p hw _ hf⟩
  by_cases hE : headEmpty ds = true ∧ ∀ x ∈ ds, isTupD x = true
  · -- the first one is empty
    obtain ⟨hE1, hE2⟩ := hE
    have er' : EachIs (fun v b => ∃ as, Reads (PySem.W.sortingHeap (PySem.W.copyHeap s.heap its) (s.heap.objs.size + 1) its) v (D.py b) as) its ds := e2.mono fun _ _ ⟨as, r⟩ => ⟨as, PyProof.Rows.Reads.keeps (fun _ _ => PySem.W.sorting_copy_old) r⟩
    refine PySem.W.sorted_vals pl.isList (sortsAt_empty (s := { s with heap := PySem.W.sortingHeap (PySem.W.copyHeap s.heap its) (s.heap.objs.size + 1) its }) (PySem.W.each_map (R := fun v d => ∃ as, Reads (PySem.W.sortingHeap (PySem.W.copyHeap s.heap its) (s.heap.objs.size + 1) its) v d as) D.py er') hal ?_ ?_ (fun d hd => ?_)) (by rw [e1.length]; exact hlen)
      (fin _ (by rw [PySem.W.sortVals_length false rfl]; exact e1.length) (PySem.W.sortVals_data false e1 er' hal))
    · intro d hd
      obtain ⟨x, hx, rfl⟩ := List.mem_map.mp hd
      have q := hE2 x hx
      cases x <;> simp only [isTupD, reduceCtorEq, Bool.false_eq_true] at q
      exact ⟨_, rfl⟩
    · cases ds with
      | nil => simp [headEmpty] at hE1
      | cons d r =>
        cases d <;> simp only [headEmpty, reduceCtorEq, Bool.false_eq_true] at hE1
        rename_i xs
        cases xs <;> simp only [reduceCtorEq, Bool.false_eq_true] at hE1
        exact ⟨r.map D.py, rfl⟩
    · obtain ⟨x, hx, rfl⟩ := List.mem_map.mp hd
      have := h3 x hx
      show X.A.units + 1 + 1 + _ < cLine
      omega
  · have hs : Sortable (ds.map D.py) := by
      rcases Bool.or_eq_true_iff.mp h5 with h5 | h5
      · rcases Bool.or_eq_true_iff.mp h5 with h5 | h5
        · refine .inl fun d hd => ?_
          obtain ⟨x, hx, rfl⟩ := List.mem_map.mp hd
          have q := List.all_eq_true.mp h5 x hx
          cases x <;> simp only [nonEmptyTup, reduceCtorEq, Bool.false_eq_true] at q
          rename_i xs
          cases xs <;> simp only [reduceCtorEq, Bool.false_eq_true] at q
          exact ⟨_, _, rfl⟩
        · refine .inr fun d hd => ?_
          obtain ⟨x, hx, rfl⟩ := List.mem_map.mp hd
          have q := List.all_eq_true.mp h5 x hx
          have pl := h1 x hx
          cases x <;> simp [isTupD, isNon, D.plain] at q pl <;> simp [D.py]
      · rw [Bool.and_eq_true, List.all_eq_true] at h5
        exact absurd ⟨h5.1, h5.2⟩ hE
    exact PySem.W.sorted_data pl.isList e1 e2 hal hs hlen hdep fin
end
end Ev
set_option Elab.async false
set_option linter.all false
set_option maxRecDepth 100000
set_option maxHeartbeats 1000000
/-! Ev9: built-in functions by data. -/
namespace Ev
open PySem L2 PyProof.Rows Classical
def rBi (C : RC) (b : Bi) : List V → Hp → VK → Prop := fun xs H Q => ∃ (md : Option Addr) (av : Addr → Prop) (m : Option MSt) (ds : List D) (z : D), GR md av H m ∧ Reps C md (Hb md av H) ds xs ∧ biD b ds = some z ∧ Pz C md av H z Q
theorem _root_.L2.CallR.cases {X : Cx} {f : Value} {r' : List V → Hp → VK → Prop} (i : ∀ xs H Q, r' xs H Q → ∃ r, CallR X f r ∧ r xs H Q) : CallR X f r' := fun pins s σ H xs us Q I r q => by
  obtain ⟨r0, h, q⟩ := i _ _ _ q
  exact h pins s σ H xs us Q I r q
section
variable {X : Cx} {C : RC} {md : Option Addr} {av : Addr → Prop} {H : Hp} {m : Option MSt}
theorem reps1 {d : D} {xs : List V} (h : Reps C md H [d] xs) : ∃ v, xs = [v] ∧ Rep C md H d v := by
  simp only [Reps] at h
  obtain ⟨v, r, rfl, h1, rfl⟩ := h
  exact ⟨v, rfl, h1⟩
theorem reps2 {d e : D} {xs : List V} (h : Reps C md H [d, e] xs) : ∃ v w, xs = [v, w] ∧ Rep C md H d v ∧ Rep C md H e w := by
  simp only [Reps] at h
  obtain ⟨v, r, rfl, h1, w, r2, rfl, h2, rfl⟩ := h
  exact ⟨v, w, rfl, h1, h2⟩
/-- what a one-place built-in is asked for -/
theorem bi_one {b : Bi} {f : Value} (h0 : biD b [] = none) (h2 : ∀ x y r, biD b (x :: y :: r) = none) (i : ∀ (md : Option Addr) (av : Addr → Prop) (H : Hp) (m : Option MSt) (Q : VK) (d z : D) (v : V), GR md av H m → Rep C md (Hb md av H) d v → biD b [d] = some z → Pz C md av H z Q → ∃ r, CallR X f r ∧ r [v] H Q) : CallR X f (rBi C b) :=
  CallR.cases fun xs H Q h => by
    obtain ⟨md, av, m, ds, z, g, hr, hz, p⟩ := h
    match ds, hr, hz with
    | [], _, hz => rw [h0] at hz; cases hz
    | x :: y :: r, _, hz => rw [h2] at hz; cases hz
    | [d], hr, hz =>
      obtain ⟨v, rfl, hv⟩ := reps1 hr
      exact i md av H m Q d z v g hv hz p
theorem bi_len (hK : C.K = X.K) : CallR X (.builtin "len") (rBi C .len) := bi_one rfl (fun x y r => by cases x <;> rfl) fun md av H m Q d z v g hv hz p => by
  cases d <;> simp only [biD, reduceCtorEq] at hz
  · simp only [Rep] at hv
    split at hz
    · rename_i hl
      cases hz
      exact ⟨_, call_len_str, _, by rw [hv], lim_sz hl, p.here (by simp [Rep])⟩
    · cases hz
  · cases hz
    simp only [Rep] at hv
    obtain ⟨a, vs, rfl, ha, hr⟩ := hv
    rw [hK] at ha
    exact ⟨_, call_len_seq, a, vs, rfl, .inr ((Hb.le _ _ _).tup ha), p.here (by simp [Rep, hr.length])⟩
  · cases hz
    simp only [Rep] at hv
    obtain ⟨a, vs, rfl, ha, hr⟩ := hv
    exact ⟨_, call_len_seq, a, vs, rfl, .inl (Or.inl (Or.inl (Hb.le _ _ _ _ _ ha))), p.here (by simp [Rep, hr.length])⟩
  · cases hz
    simp only [Rep] at hv
    obtain ⟨a, rfl, ha⟩ := hv
    rw [hK] at ha
    exact ⟨_, call_len_seq, a, _, rfl, .inl ((Hb.le _ _ _).lst ha), p.here (by simp [Rep])⟩
theorem bi_all (hc : X.calm = true) : CallR X (.builtin "all") (rBi C .all) := bi_one rfl (fun x y r => by cases x <;> rfl) fun md av H m Q d z v g hv hz p => by
  cases d <;> simp only [biD, reduceCtorEq] at hz
  cases e : asBools _ with
  | none => rw [e] at hz; cases hz
  | some bs =>
    rw [e] at hz
    cases hz
    simp only [Rep] at hv
    obtain ⟨a, vs, rfl, ha, hr⟩ := hv
    have q := hr.bools e
    subst q
    exact ⟨_, cr_all hc, a, bs, rfl, Or.inl (Or.inl (Hb.le _ _ _ _ _ ha)), p.here (by simp [Rep])⟩
theorem bi_any (hc : X.calm = true) : CallR X (.builtin "any") (rBi C .any) := bi_one rfl (fun x y r => by cases x <;> rfl) fun md av H m Q d z v g hv hz p => by
  cases d <;> simp only [biD, reduceCtorEq] at hz
  cases e : asBools _ with
  | none => rw [e] at hz; cases hz
  | some bs =>
    rw [e] at hz
    cases hz
    simp only [Rep] at hv
    obtain ⟨a, vs, rfl, ha, hr⟩ := hv
    have q := hr.bools e
    subst q
    exact ⟨_, cr_any hc, a, bs, rfl, Or.inl (Or.inl (Hb.le _ _ _ _ _ ha)), p.here (by simp [Rep])⟩
theorem bi_sum (hc : X.calm = true) : CallR X (.builtin "sum") (rBi C .sum) := bi_one rfl (fun x y r => by cases x <;> rfl) fun md av H m Q d z v g hv hz p => by
  cases d <;> simp only [biD, reduceCtorEq] at hz
  cases e : asInts _ with
  | none => rw [e] at hz; cases hz
  | some bs =>
    rw [e] at hz
    cases hz
    simp only [Rep] at hv
    obtain ⟨a, vs, rfl, ha, hr⟩ := hv
    have q := hr.ints e
    subst q
    exact ⟨_, cr_sum hc, a, bs, rfl, Or.inl (Or.inl (Hb.le _ _ _ _ _ ha)), p.here (by simp [Rep])⟩
theorem bi_sorted (hK : C.K = X.K) (hu : X.A.units + 80 < cLine) : CallR X (.builtin "sorted") (rBi C .sorted) := bi_one rfl (fun x y r => by cases x <;> rfl) fun md av H m Q d z v g hv hz p => by
  cases d <;> simp only [biD, reduceCtorEq] at hz
  unfold sortedD at hz
  split at hz
  · rename_i hok
    cases hz
    simp only [Rep] at hv
    obtain ⟨a, vs, rfl, ha, hr⟩ := hv
    exact ⟨_, call_sortD hK hu, md, av, m, _, a, vs, g, rfl, Or.inl (Or.inl (Hb.le _ _ _ _ _ ha)), hr, hok, p⟩
  · cases hz
theorem bi_tuple (hK : C.K = X.K) : CallR X (.type "tuple") (rBi C .tuple) := bi_one rfl (fun x y r => by cases x <;> rfl) fun md av H m Q d z v g hv hz p => by
  cases d <;> simp only [biD, reduceCtorEq] at hz
  · cases hz
    have hv0 := hv
    simp only [Rep] at hv
    obtain ⟨a, vs, rfl, ha, hr⟩ := hv
    rw [hK] at ha
    exact ⟨_, call_tuple_of, a, vs, rfl, .inr ⟨(Hb.le _ _ _).tup ha, p.here hv0⟩⟩
  · cases hz
    simp only [Rep] at hv
    obtain ⟨a, vs, rfl, ha, hr⟩ := hv
    exact ⟨_, call_tuple_of, a, vs, rfl, .inl ⟨Or.inl (Or.inl (Hb.le _ _ _ _ _ ha)), Pz.tup g p hr⟩⟩
theorem bi_list (hK : C.K = X.K) : CallR X (.type "list") (rBi C .list) := bi_one rfl (fun x y r => by cases x <;> rfl) fun md av H m Q d z v g hv hz p => by
  cases d <;> simp only [biD, reduceCtorEq] at hz
  · cases hz
    simp only [Rep] at hv
    obtain ⟨a, vs, rfl, ha, hr⟩ := hv
    rw [hK] at ha
    exact ⟨_, call_list_of, a, vs, rfl, .inr ((Hb.le _ _ _).tup ha), Pz.lst g p hr⟩
  · cases hz
    simp only [Rep] at hv
    obtain ⟨a, vs, rfl, ha, hr⟩ := hv
    exact ⟨_, call_list_of, a, vs, rfl, .inl (Or.inl (Or.inl (Hb.le _ _ _ _ _ ha))), Pz.lst g p hr⟩
  · cases hz
    simp only [Rep] at hv
    obtain ⟨a, rfl, ha⟩ := hv
    rw [hK] at ha
    exact ⟨_, call_list_of, a, _, rfl, .inl ((Hb.le _ _ _).lst ha), Pz.lst g p (Reps.of_ints _)⟩
theorem bi_abs : CallR X (.builtin "abs") (rBi C .abs) := bi_one rfl (fun x y r => by cases x <;> rfl) fun md av H m Q d z v g hv hz p => by
  cases d <;> simp only [biD, reduceCtorEq] at hz
  cases hz
  simp only [Rep] at hv
  subst hv
  exact ⟨_, call_abs, _, rfl, p.here (by simp [Rep])⟩
theorem bi_int : CallR X (.type "int") (rBi C .int) := bi_one rfl (fun x y r => by cases x <;> rfl) fun md av H m Q d z v g hv hz p => by
  cases d <;> simp only [biD, reduceCtorEq] at hz
  cases hz
  simp only [Rep] at hv
  subst hv
  exact ⟨_, call_int1, .inl ⟨_, rfl, p.here (by simp [Rep])⟩⟩
theorem bi_two {b : Bi} {f : Value} {g : Int → Int → Int} (hb : ∀ ds z, biD b ds = some z → ∃ i j, ds = [.int i, .int j] ∧ z = .int (g i j)) (hf : CallR X f (fun xs H Q => ∃ i j : Int, xs = [.int i, .int j] ∧ Q (.int (g i j)) H)) : CallR X f (rBi C b) := CallR.cases fun xs H Q h => by
  obtain ⟨md, av, m, ds, z, gr, hr, hz, p⟩ := h
  obtain ⟨i, j, rfl, rfl⟩ := hb ds z hz
  obtain ⟨v, w, rfl, h1, h2⟩ := reps2 hr
  simp only [Rep] at h1 h2
  subst h1 h2
  exact ⟨_, hf, i, j, rfl, p.here (by simp [Rep])⟩
theorem bi_min (hc : X.calm = true) : CallR X (.builtin "min") (rBi C .min2) := bi_two (g := fun i j => if j < i then j else i) (fun ds z h => by
  match ds, h with
  | [.int i, .int j], h => exact ⟨i, j, rfl, (Option.some.inj h).symm⟩) (call_min2 hc)
theorem bi_max (hc : X.calm = true) : CallR X (.builtin "max") (rBi C .max2) := bi_two (g := fun i j => if j > i then j else i) (fun ds z h => by
  match ds, h with
  | [.int i, .int j], h => exact ⟨i, j, rfl, (Option.some.inj h).symm⟩) (call_max2 hc)
mutual
theorem Rep.reads {pins : List (Addr × Obj)} {σ : L2.St} {s : Shared} (hK : C.K = X.K) (I : Inv X pins σ H s) (h1 : One H) : ∀ (d : D) (v : V) (u : Value), d.shw = true → Rep C md H d v → RelV v u → ∃ as, Reads s.heap u d.py as ∧ sysModules ∉ as
  | .non, v, u, _, h, r => by
    simp only [Rep] at h; subst h; cases r
    exact ⟨_, .none, by simp⟩
  | .bl b, v, u, _, h, r => by
    simp only [Rep] at h; subst h; cases r
    exact ⟨_, .bool b, by simp⟩
  | .int i, v, u, _, h, r => by
    simp only [Rep] at h; subst h; obtain ⟨t, rfl⟩ := r
    exact ⟨_, .int i t, by simp⟩
  | .str x, v, u, _, h, r => by
    simp only [Rep] at h; subst h; obtain ⟨t, rfl⟩ := r
    exact ⟨_, .str x t, by simp⟩
  | .tup ds, v, u, p, h, r => by
    simp only [Rep] at h
    obtain ⟨a, vs, rfl, hs, hr⟩ := h
    rw [hK] at hs
    cases r
    obtain ⟨its, rv, ⟨o, ho, hc, n, hd⟩, _⟩ := I.tuple hs
    obtain ⟨as, hr, ha⟩ := Reps.reads hK I h1 ds vs its (by simpa [D.shw] using p) hr rv
    exact ⟨_, .tuple ho hc hd hr, ha⟩
  | .lst ds, v, u, p, h, r => by
    simp only [Rep] at h
    obtain ⟨a, vs, rfl, hs, hr⟩ := h
    cases r
    obtain ⟨its, rv, ⟨o, n, ho, hc, _, hd⟩, _⟩ := I.list (Or.inl (Or.inl hs))
    obtain ⟨as, hr, ha⟩ := Reps.reads hK I h1 ds vs its (by simpa [D.shw] using p) hr rv
    refine ⟨_, .list ho hc hd hr, fun z => ?_⟩
    rcases List.mem_cons.mp z with z | z
    · rw [← z] at hs
      obtain ⟨o1, h1⟩ := h1
      rw [h1] at hs
      cases hs
    · exact ha z
  | .dct kvs, v, u, p, h, r => by
    simp only [Rep] at h
    obtain ⟨rfl, a, rfl, hs⟩ := h
    cases r
    obtain ⟨_, na, vs, kv, dd⟩ := dk_of I.hok hs
    cases kv
    obtain ⟨o, es, ep, ho, hx, hd, he⟩ := dd
    have he0 : es = #[] := by
      obtain ⟨_, hp⟩ := he
      have q : ∀ l : List DictEntry, PySem.Pairs (mixKind X.prog X.w) l [] → l = [] := fun l h => by cases h; rfl
      exact Array.toList_eq_nil_iff.mp (q _ hp.1)
    subst he0
    refine ⟨_, Reads.dict (kvs := []) ho hx.1 hd .nil .nil, fun z => ?_⟩
    have z' : sysModules = a := by simpa using z
    rw [← z'] at na
    simp at na
  | .ins _ _, _, _, p, _, _ => by simp [D.shw] at p
  | .mm, _, _, p, _, _ => by simp [D.shw] at p
  | .scr _, _, _, p, _, _ => by simp [D.shw] at p
theorem Reps.reads {pins : List (Addr × Obj)} {σ : L2.St} {s : Shared} (hK : C.K = X.K) (I : Inv X pins σ H s) (h1 : One H) : ∀ (ds : List D) (vs : List V) (us : List Value), D.shws ds = true → Reps C md H ds vs → Vals vs us → ∃ as, ReadsAll s.heap us (D.pys ds) as ∧ sysModules ∉ as
  | [], vs, us, _, h, r => by
    simp only [Reps] at h
    subst h
    cases r
    exact ⟨_, .nil, by simp⟩
  | d :: ds, vs, us, p, h, r => by
    simp only [Reps] at h
    obtain ⟨v, rest, rfl, h2, h3⟩ := h
    simp only [D.shws, Bool.and_eq_true] at p
    cases r with
    | cons r1 r2 =>
      obtain ⟨as, q1, a1⟩ := Rep.reads hK I h1 d v _ p.1 h2 r1
      obtain ⟨bs, q2, a2⟩ := Reps.reads hK I h1 ds rest _ p.2 h3 r2
      exact ⟨_, .cons q1 q2, fun z => (List.mem_append.mp z).elim a1 a2⟩
end
theorem bi_repr (hK : C.K = X.K) (hu : X.A.units + 80 < cLine) (hg : X.A.guards = some []) : CallR X (.builtin "repr") (rBi C .repr) := bi_one rfl (fun x y r => rfl) fun md av H m Q d z v g hv hz p => by
  simp only [biD] at hz
  split at hz
  · rename_i hok
    cases hz
    simp only [Bool.and_eq_true, decide_eq_true_eq] at hok
    obtain ⟨⟨⟨h1, h2⟩, h3⟩, h4⟩ := hok
    have q := Rep.mono (md' := md) (fun _ e => e) (Hb.le _ _ _) d v hv
    refine ⟨fun xs H Q => ∃ v, xs = [v] ∧ One H ∧ Rep C md H d v ∧ Q (.str d.py.shown) H, ?_, v, rfl, g.mr.one, q, p.here (by simp [Rep])⟩
    intro pins s σ H xs us Q I r h
    obtain ⟨v, rfl, one, q, hQ⟩ := h
    cases r with
    | cons r1 r2 =>
      cases r2
      obtain ⟨as, hr, hn⟩ := Rep.reads hK I one d v _ h1 q r1
      have hsz : d.py.shown.length ≤ sizeLine := lim_sz h4
      have fin : ∀ (h' : Heap) (u : Tok) (tk : Nat), (∀ b o, s.heap.get? b = some o → h'.get? b = some o) → EP X pins σ Q (.str d.py.shown u) { s with heap := h', toks := tk } := fun h' u tk hk => ⟨.str _, H, I.kept (t' := tk) hk, ⟨_, rfl⟩, hQ⟩
      have fin0 : EP X pins σ Q (.str d.py.shown s.toks) { s with toks := s.toks + 1 } := fin s.heap s.toks (s.toks + 1) fun _ _ e => e
      generalize hd : d.py = e at hr h2 h3 hsz fin fin0
      cases hr with
      | none => exact P.repr_of_none (by simpa [PyData.shown] using fin0)
      | bool b => exact P.repr_of_bool (by simpa [PyData.shown] using fin0)
      | int i t => exact P.repr_of_int (by simpa [PyData.showable] using h3) (by simpa [PyData.shown] using fin0)
      | str x t => exact P.repr_of_str (by simpa [PyData.shown] using fin0) (by simpa [PyData.shown] using hsz)
      | list k1 k2 k3 k4 => exact repr_of_reads' (h₀ := s.heap) (.list k1 k2 k3 k4) h3 (fun _ => hn) hg (by omega) (fun _ _ e => e) fin hsz
      | tuple k1 k2 k3 k4 => exact repr_of_reads' (h₀ := s.heap) (.tuple k1 k2 k3 k4) h3 (fun _ => hn) hg (by omega) (fun _ _ e => e) fin hsz
      | dict k1 k2 k3 k4 k5 => exact repr_of_reads' (h₀ := s.heap) (.dict k1 k2 k3 k4 k5) h3 (fun _ => hn) hg (by omega) (fun _ _ e => e) fin hsz
  · cases hz
/-! ### isinstance against built-in types -/
theorem kit_names : ∀ a ∈ ["NoneType", "bool", "int", "str", "tuple", "list", "dict"], ∀ b ∈ tyNames, kitB a b = some (isTy a b) := by decide +kernel
theorem ty_mem {d : D} {t : String} (h : tyOf d = some t) : t ∈ ["NoneType", "bool", "int", "str", "tuple", "list", "dict"] := by
  cases d <;> simp only [tyOf, reduceCtorEq, Option.some.injEq] at h <;> subst h <;> simp
theorem rep_ty (hK : C.K = X.K) {d : D} {v : V} {t : String} (h : Rep C md H d v) (ht : tyOf d = some t) : TyX X.K H v (.type t) := by
  cases d <;> simp only [tyOf, reduceCtorEq, Option.some.injEq] at ht <;> subst ht <;> simp only [Rep] at h
  · subst h; exact .base .non
  · subst h; exact .base (.bl _)
  · subst h; exact .base (.int _)
  · subst h; exact .base (.str _)
  · obtain ⟨a, vs, rfl, hs, _⟩ := h
    rw [hK] at hs
    rcases hs with (hs | ⟨o, hs⟩) | ⟨o, its, n, hk, hc, _⟩
    · exact .base (.tup hs)
    · exact .fTuple hs
    · exact .kTuple hk hc
  · obtain ⟨a, vs, rfl, hs, _⟩ := h
    exact .base (.lst hs)
  · obtain ⟨_, a, rfl, hs⟩ := h
    exact .base (.dK hs)
theorem kit_any {K : PySem.W.Frag} {t : String} (ht : t ∈ ["NoneType", "bool", "int", "str", "tuple", "list", "dict"]) : ∀ ts : List String, (∀ u ∈ ts, u ∈ tyNames) → PySem.W.kitAny K (.type t) (ts.map Value.type) = some (ts.any (isTy t))
  | [], _ => rfl
  | u :: ts, h => by
    have e := kit_ty (K := K) (kit_names t ht u (h u List.mem_cons_self))
    have r := kit_any (K := K) ht ts fun u hu => h u (List.mem_cons_of_mem _ hu)
    refine kitAny_cons e (fun hb => ?_) (fun hb => ?_)
    · rw [r]
      simp [hb]
    · simp [hb]
theorem clsV_tys : ∀ ts : List String, Paired ClsV (ts.map V.ty) (ts.map Value.type)
  | [] => .nil
  | t :: ts => .cons (.ty t) (clsV_tys ts)
/-- isinstance(x, T) -/
theorem bi_is1 (hK : C.K = X.K) (T : String) : CallR X (.builtin "isinstance") (fun xs H Q => ∃ v, xs = [v, .ty T] ∧ rBi C (.isin [T]) [v] H Q) := CallR.cases fun xs H Q h => by
  obtain ⟨v, rfl, md, av, m, ds, z, g, hr, hz, p⟩ := h
  match ds, hr, hz with
  | [], _, hz => simp [biD] at hz
  | x :: y :: r, _, hz => simp [biD] at hz
  | [d], hr, hz =>
    obtain ⟨w, e, hv⟩ := reps1 hr
    cases e
    simp only [biD] at hz
    split at hz
    · rename_i hall
      cases ht : tyOf d with
      | none => rw [ht] at hz; cases hz
      | some t =>
        rw [ht] at hz
        cases hz
        have hT : T ∈ tyNames := by simpa using hall
        refine ⟨_, call_isi, v, .ty T, .type t, .type T, isTy t T, rfl, .ty T, rep_ty hK (Rep.mono (md' := md) (fun _ e => e) (Hb.le _ _ _) d v hv) ht, kit_ty (kit_names t (ty_mem ht) T hT), p.here (by simp [Rep])⟩
    · cases hz
/-- isinstance(x, (T, ..)) -/
theorem bi_isT (hK : C.K = X.K) (Ts : List String) : CallR X (.builtin "isinstance") (fun xs H Q => ∃ v tp, xs = [v, .ref tp] ∧ H tp = some (.tup (Ts.map V.ty)) ∧ rBi C (.isin Ts) [v] H Q) := CallR.cases fun xs H Q h => by
  obtain ⟨v, tp, rfl, htp, md, av, m, ds, z, g, hr, hz, p⟩ := h
  match ds, hr, hz with
  | [], _, hz => simp [biD] at hz
  | x :: y :: r, _, hz => simp [biD] at hz
  | [d], hr, hz =>
    obtain ⟨w, e, hv⟩ := reps1 hr
    cases e
    simp only [biD] at hz
    split at hz
    · rename_i hall
      cases ht : tyOf d with
      | none => rw [ht] at hz; cases hz
      | some t =>
        rw [ht] at hz
        cases hz
        have hT : ∀ u ∈ Ts, u ∈ tyNames := by simpa using hall
        exact ⟨_, call_isiT, v, tp, Ts.map V.ty, .type t, Ts.map Value.type, _, rfl, htp, clsV_tys Ts, rep_ty hK (Rep.mono (md' := md) (fun _ e => e) (Hb.le _ _ _) d v hv) ht, kit_any (ty_mem ht) Ts hT, p.here (by simp [Rep])⟩
    · cases hz
end
end Ev
set_option Elab.async false
set_option linter.all false
set_option maxRecDepth 100000
set_option maxHeartbeats 1000000
/-! Ev10: x[::-1]; calls. -/
namespace Ev
open PySem L2 PyProof.Rows Classical
section
variable {prog : Program} {w : World} {A : Around} {E : Value → Shared → Prop} {s : Shared}
theorem rev_pick (xs : Array Value) : ((List.range xs.size).filterMap fun (k : Nat) => xs[((xs.size : Int) - 1 + (k : Int) * (-1)).toNat]?) = xs.toList.reverse := by
  have e1 : ∀ k ∈ List.range xs.size, xs[((xs.size : Int) - 1 + (k : Int) * (-1)).toNat]? = some (xs.toList.reverse.getD k Value.none) := fun k hk => by
    have hk := List.mem_range.mp hk
    have e : ((xs.size : Int) - 1 + (k : Int) * (-1)).toNat = xs.size - 1 - k := by omega
    have hl : k < xs.toList.reverse.length := by simpa using hk
    rw [e, List.getD_eq_getElem?_getD, List.getElem?_eq_getElem hl, Array.getElem?_eq_getElem (by omega)]
    simp [List.getElem_reverse]
  have e2 : (List.range xs.size).filterMap (fun (k : Nat) => xs[((xs.size : Int) - 1 + (k : Int) * (-1)).toNat]?) = (List.range xs.size).map fun k => xs.toList.reverse.getD k Value.none := by
    generalize List.range xs.size = l at e1
    induction l with
    | nil => rfl
    | cons a l ih =>
      rw [List.filterMap_cons, e1 a List.mem_cons_self, List.map_cons]
      simp only
      rw [ih fun k hk => e1 k (List.mem_cons_of_mem _ hk)]
  rw [e2]
  apply List.ext_getElem
  · simp
  · intro i h1 h2
    simp only [List.getElem_map, List.getElem_range]
    rw [List.getD_eq_getElem?_getD, List.getElem?_eq_getElem h2]
    rfl
theorem adjust_rev (n : Nat) : Builtin.Slice.sliceAdjust none none (-1) (n : Int) = ((n : Int) - 1, -1) := by
  unfold Builtin.Slice.sliceAdjust
  simp
theorem places_rev (n : Nat) : Builtin.Slice.slicePlaces ((n : Int) - 1) (-1) (-1) = n := by
  unfold Builtin.Slice.slicePlaces
  simp only [show ¬ ((-1 : Int) > 0) by omega, if_false]
  split
  · have e : (- -1 : Int) = 1 := rfl
    rw [e, Int.ediv_one]
    omega
  · omega
theorem getItem_tuple_rev {t sl : Addr} {items : Array Value} {vl vu vs : Value} {Q : Value → Shared → Prop} (ht : IsTup s.heap t items) (hs : s.heap.IsSliceOf sl vl vu vs) (pl : IsPart vl none) (pu : IsPart vu none) (ps : IsPart vs (some (-1)))
    (h : Q (.ref s.heap.objs.size) { s with heap := s.heap.push { cls := .type "tuple", data := .seq items.toList.reverse.toArray } }) (hsz : items.size ≤ sizeLine) : wpAny (model prog w) A (getItem (.ref t) (.ref sl)) Q E s := by
  have htake : sizeOk (.seq items.toList.reverse.toArray) := by
    show items.toList.reverse.toArray.size ≤ sizeLine
    rw [List.size_toArray, List.length_reverse, Array.length_toList]
    exact hsz
  obtain ⟨os, hos, hcs, hds⟩ := id hs
  have hTs : s.TypeIs (.ref sl) "slice" := ⟨os, hos, hcs⟩
  have app : ∀ {A' : Around} {E' : Value → Shared → Prop} {Q' : Int × Int × Nat → Shared → Prop}, Q' ((items.size : Int) - 1, -1, items.size) s → wpAny (model prog w) A' (Builtin.Slice.sliceApplied (.ref sl) (pure (items.size : Int))) Q' E' s := fun {A' E' Q'} q => by
    unfold Builtin.Slice.sliceApplied Builtin.Slice.sliceFields
    refine wpAny_bind (wpAny_bind (wpAny_field hos hds (x := vl) rfl (wpAny_bind (wpAny_field hos hds (x := vu) rfl (wpAny_bind (wpAny_field hos hds (x := vs) rfl (wpAny_pure ?_)))))))
    refine wpAny_bind (HT.slicePart_ ps ?_)
    show wpAny _ _ (if ((-1 : Int) == 0) = true then _ else _) _ _ s
    rw [if_neg (by decide)]
    refine wpAny_bind (HT.slicePart_ pl (wpAny_bind (HT.slicePart_ pu (wpAny_bind (wpAny_pure ?_)))))
    show wpAny _ _ (match Builtin.Slice.sliceAdjust none none (-1) (items.size : Int) with | (lo, hi) => pure (lo, (-1 : Int), Builtin.Slice.slicePlaces lo hi (-1))) _ _ s
    rw [adjust_rev]
    show wpAny _ _ (pure ((items.size : Int) - 1, (-1 : Int), Builtin.Slice.slicePlaces ((items.size : Int) - 1) (-1) (-1))) _ _ s
    rw [places_rev]
    exact wpAny_pure q
  unfold getItem
  try with_reducible refine wpAny_holding ?_
  first | refine wpAny_bind (wpAny_pure ?_) | skip
  refine wpAny_bind (wpAny_sequenceKey ht.typeIs (by decide) ?_)
  refine wpAny_bind (wpAny_callSpecial?_slot (name := Str.ofString "__getitem__") ht.typeIs PyProof.Rows.slot_tuple_getitem (wpAny_call_entry PyProof.Rows.slot_tuple_getitem ht.typeIs entry_tuple_getitem ?_ (args_tuple_getitem _ _)))
  show wpAny _ _ (Builtin.Tuple.tupleItemsOf (.ref t) >>= _) _ _ s
  refine wpAny_bind (tupleItemsOf_ ht ?_)
  refine wpAny_bind (wpAny_typeOf hTs ?_)
  rw [if_pos (by decide)]
  refine wpAny_bind (app ?_)
  have hno : ¬ ((((items.size : Int) - 1) == 0 && (-1 : Int) == 1 && items.size == items.size) = true) := by simp
  show wpAny _ _ (if (((items.size : Int) - 1) == 0 && (-1 : Int) == 1 && items.size == items.size) = true then _ else _) _ _ s
  rw [if_neg hno, rev_pick]
  first
    | exact wpAny_bind (m := Builtin.Tuple.tupleExact _) (wpAny_newObj_type (wpAny_pure ⟨_, rfl, wpAny_pure h⟩) htake)
    | exact wpAny_bind (m := Builtin.Tuple.tupleExact _) (wpAny_newObj_type (wpAny_bind (wpAny_pure (wpAny_pure ⟨_, rfl, wpAny_pure h⟩))) htake)
    | exact wpAny_bind (wpAny_bind (m := Builtin.Tuple.tupleExact _) (wpAny_newObj_type (wpAny_pure (wpAny_pure ⟨_, rfl, wpAny_pure h⟩)) htake))
    | exact wpAny_bind (wpAny_bind (m := Builtin.Tuple.tupleExact _) (wpAny_newObj_type (wpAny_pure ⟨_, rfl, wpAny_pure h⟩) htake))
end
section
variable {X : Cx} {C : RC} {F : FT} {W : WX}
def rRev (C : RC) : V → Hp → VK → Prop := fun x H Q => ∃ (md : Option Addr) (av : Addr → Prop) (m : Option MSt) (d z : D), GR md av H m ∧ Rep C md (Hb md av H) d x ∧ revD d = some z ∧ Pz C md av H z Q
theorem pe_rev {e : Expr} {te : TE} {k : Nat} {p1 p2 p3 pos : Pos} (hK : C.K = X.K) (he : PE X e te) : PE X (.Subscript e (.Slice none none (some (.UnaryOp .USub (.Constant (.int 1) k p1) p2)) p3) pos) (fun σ H Q => te σ H fun x H1 => rRev C x H1 Q) := ⟨fun pins s σ H Q I h => by
  refine Subscript_ (thn (he.run pins s σ H _ I h) fun v s1 ⟨x, H1, I1, r1, q1⟩ => ?_)
  obtain ⟨md, av, m, d, z, g, hx, hz, p⟩ := q1
  have hst : PO X (some (.UnaryOp .USub (.Constant (.int 1) k p1) p2)) (tPart (tUn (rU fun i => .int (-i)) (tC (.int 1)))) := po_some (pe_un un_neg pe_int)
  refine wpAny_Slice (thn (po_none.run pins s1 σ H1 (fun o H2 => o = none ∧ H2 = H1) I1 ⟨rfl, rfl⟩) fun vl s2 ⟨l, H2, I2, pl, el, e2⟩ => ?_)
  subst el e2
  refine thn (po_none.run pins s2 σ H2 (fun o H3 => o = none ∧ H3 = H2) I2 ⟨rfl, rfl⟩) fun vu s3 ⟨u, H3, I3, pu, eu, e3⟩ => ?_
  subst eu e3
  refine thn (hst.run pins s3 σ H3 (fun o H4 => o = some (-1) ∧ H4 = H3) I3 ⟨1, rfl, -1, rfl, rfl, rfl⟩) fun vs s4 ⟨o, H4, I4, ps, eo, e4⟩ => ?_
  subst eo e4
  have I5 : Inv X pins σ H4 { s4 with heap := s4.heap.push { cls := .type "slice", data := .fields #[vl, vu, vs] } } := I4.kept (t' := s4.toks) fun b ob q => Heap.get?_push_of_some _ q
  have hsl := Heap.IsSliceOf.new s4.heap vl vu vs
  cases d <;> simp only [revD, reduceCtorEq] at hz
  · cases hz
    simp only [Rep] at hx
    obtain ⟨a, xs, rfl, ha, hr⟩ := hx
    obtain rfl : v = Value.ref a := r1
    rw [hK] at ha
    obtain ⟨its, rv, ht, hl⟩ := I5.tuple ((Hb.le _ _ _).tup ha)
    have hlen := rv.length
    refine tail_any (ops := [.ref a, .ref s4.heap.objs.size]) ht.typeIs PyProof.Rows.slot_tuple_getitem.lookup ?_ (by with_unfolding_all rfl)
    refine getItem_tuple_rev ht hsl pl pu ps ?_ (by rw [List.size_toArray]; omega)
    have hf := I5.hok.fresh (Nat.le_refl _)
    refine ⟨.ref _, upd H4 _ (.tup xs.reverse), I5.laid (t' := s4.toks) (fun b ob q => Heap.get?_push_of_some _ q) (Nat.le_refl _) ?_, rfl, Pz.tup g p hr.reverse _ hf⟩
    exact ⟨by rw [List.length_reverse]; exact hl, _, rv.reverse, by rw [show its.toArray.toList = its from rfl]; exact IsTup.new _ _⟩
  · cases hz
    simp only [Rep] at hx
    obtain ⟨a, xs, rfl, ha, hr⟩ := hx
    obtain rfl : v = Value.ref a := r1
    obtain ⟨its, rv, ht, hl⟩ := I5.list (Or.inl (Or.inl (Hb.le _ _ _ _ _ ha)))
    have hlen := rv.length
    refine tail_any (ops := [.ref a, .ref s4.heap.objs.size]) ht.isList.typeIs PySem.slot_list_getitem.lookup ?_ (by with_unfolding_all rfl)
    refine wpAny_getItem_list_slice ht.isList hsl pl pu ps (by decide) ?_ (by rw [List.size_toArray]; omega)
    rw [PySem.W.krv_pick]
    have hf := I5.hok.fresh (Nat.le_refl _)
    refine ⟨.ref _, upd H4 _ (.lst xs.reverse), I5.laid (t' := s4.toks) (fun b ob q => Heap.get?_push_of_some _ q) (Nat.le_refl _) ?_, rfl, Pz.lst g p hr.reverse _ hf⟩
    exact ⟨by rw [List.length_reverse]; exact hl, _, 0, rv.reverse, Heap.get?_push_size _ rfl⟩⟩
theorem s_rev {a : Ex} {e : Expr} (h : PE X e (fun σ H Q => tE C F W a σ H fun x H1 => rRev C x H1 Q)) : PE X e (tE C F W (.rev a)) := h.imp fun σ H Q q => by
  obtain ⟨md, av, m, env, r, q⟩ := q
  simp only [ev] at q
  refine ⟨md, av, m, env, r, (outG.bind (R := RD C av) q).mono fun x H1 ⟨d, md1, m1, f1, r1, hx, q⟩ => ?_⟩
  obtain ⟨z, hz, p⟩ := q.lift r1
  exact ⟨md1, av, m1, d, z, (r.step f1 r1).gr, hx, hz, p⟩
theorem s_bi {e : Expr} {b : Bi} {as : List Ex} (h : PE X e (tCB (rBi C b) (tEs C F W as))) : PE X e (tE C F W (.bi b as)) := h.imp fun σ H Q q => by
  obtain ⟨md, av, m, env, r, q⟩ := q
  simp only [ev] at q
  refine ⟨md, av, m, env, r, (outG.bind (R := RDs C av) q).mono fun xs H1 ⟨ds, md1, m1, f1, r1, hx, q⟩ => ?_⟩
  obtain ⟨z, hz, p⟩ := q.lift r1
  exact ⟨md1, av, m1, ds, z, (r.step f1 r1).gr, hx, hz, p⟩
/-! ### calls of the text's own defs and classes -/
/-- what a call of f with these values is asked for -/
def rCall (C : RC) (F : FT) (W : WX) (f : Str) (xs : List V) (σ : L2.St) (H : Hp) (Q : VK) : Prop := ∃ (md : Option Addr) (av : Addr → Prop) (m : Option MSt) (ds : List D), MRel md H m ∧ (∀ a, av a → H a ≠ none ∧ ¬ MS md H a) ∧ Reps C md (Hb md av H) ds xs ∧ outG C W av (RD C av) md H σ (F f ds m) Q
/-- f may be called by its name -/
structure CallW (X : Cx) (C : RC) (F : FT) (W : WX) (f : Str) : Prop where
  ex : ∃ u : Value, X.mg f = some u ∧ PySem.W.keepIn X.K u = true ∧ ∀ (pins : List (Addr × Obj)) (s : Shared) (σ : L2.St) (H : Hp) (xs : List V) (us : List Value) (Q : VK), Inv X pins σ H s → Vals xs us → rCall C F W f xs σ H Q → wpAny (model X.prog X.w) X.A (call u us) (EP X pins σ Q) X.xe s
theorem pe_callW {x : Str} {e : Expr} {es : List Expr} {t : TA} {p pos : Pos} (w : CallW X C F W x) (hg : Gl X x) (ha : PA X (e :: es) t) (hdb : (x == ("__debug__" : Str)) = false) (he : starEach (e :: es) X.env = (false, eval e X.env) :: starEach es X.env) (hpl : (backTo pos (starEach es X.env)).any (·.1) = false) :
    PE X (.Call (.Name x p) (e :: es) [] pos) (fun σ H Q => t σ H fun xs H1 => rCall C F W x xs σ H1 Q) := ⟨fun pins s σ H Q I h => by
  obtain ⟨u, hm, hk, run⟩ := w.ex
  refine wpAny_Call_Name_kw (ld_glob I hg hm ?_ hdb)
  exact PySem.W.callWith_K (h₀ := X.base) I.ok.mod.kin hk (thn (ha.run pos pins s σ H _ I h) fun us s1 ⟨vs, H1, I1, r, q⟩ => ⟨I1.kIn, run pins s1 σ H1 vs us Q I1 r q⟩) he hpl⟩
theorem pe_callW0 {x : Str} {p pos : Pos} (w : CallW X C F W x) (hg : Gl X x) (hdb : (x == ("__debug__" : Str)) = false) : PE X (.Call (.Name x p) [] [] pos) (fun σ H Q => rCall C F W x [] σ H Q) := ⟨fun pins s σ H Q I h => by
  obtain ⟨u, hm, hk, run⟩ := w.ex
  refine wpAny_Call_Name_kw (ld_glob I hg hm ?_ hdb)
  exact PySem.W.callWith_K0 I.kIn hk (run pins s σ H [] [] Q I .nil h)⟩
theorem s_call {e : Expr} {f : Str} {as : List Ex} (h : PE X e (fun σ H Q => tEs C F W as σ H fun xs H1 => rCall C F W f xs σ H1 Q)) : PE X e (tE C F W (.call f as)) := h.imp fun σ H Q q => by
  obtain ⟨md, av, m, env, r, q⟩ := q
  simp only [ev] at q
  refine ⟨md, av, m, env, r, (outG.bind (R := RDs C av) q).mono fun xs H1 ⟨ds, md1, m1, f1, r1, hx, q⟩ => ?_⟩
  exact ⟨md1, av, m1, ds, r1, (r.step f1 r1).avt, hx, q⟩
end
end Ev
set_option Elab.async false
set_option linter.all false
set_option maxRecDepth 100000
set_option maxHeartbeats 1000000
/-! EvS: sorted(set(t)), t a tuple of texts. -/
namespace Ev
open PySem L2 PyProof.Rows Classical
/-- the text of an entry -/
def tx (e : Int × Value) : Str := match e.2 with
  | .str x _ => x
  | _ => Str.empty
def TxE (w : World) (e : Int × Value) : Prop := ∃ x tk, e.2 = Value.str x tk ∧ e.1 = hashStr w x
/-- the set of texts that lies at a: its members are those of xs -/
def TxSet (w : World) (h : Heap) (a : Addr) (M : Str → Bool) (n : Nat) : Prop :=
  ∃ o es ep t, h.get? a = some o ∧ o.ExactSet ∧ o.data = .set es ep t ∧ (∀ e ∈ es.toList, TxE w e) ∧ (es.toList.map tx).Nodup ∧ (∀ x, M x = true ↔ x ∈ es.toList.map tx) ∧
    es.size < scanBound ∧ t.fits es.size = true ∧ es.size = n ∧ Ris t.place.toList ∧ (w.params.followText "set-order" = true ∨ t.led = true)
section
variable {P : Program} {w : World} {h h' : Heap} {a : Addr} {M : Str → Bool} {n : Nat}
theorem TxSet.stays (R : TxSet w h a M n) (k : ∀ o, h.get? a = some o → h'.get? a = some o) : TxSet w h' a M n := R.imp fun o r => r.imp fun es r => r.imp fun ep r => r.imp fun t r => ⟨k o r.1, r.2⟩
theorem tx_elems {l : List (Int × Value)} (g : ∀ e ∈ l, TxE w e) : ElemsOf (PySem.strKind P w) l := fun e he => by
  obtain ⟨x, tk, h1, h2⟩ := g e he
  refine ⟨⟨x, ?_, h2⟩, ?_⟩ <;> rw [h1]
  · exact PySem.strKind_is P w x tk
  · rfl
theorem tx_is {e : Int × Value} (g : TxE w e) (x : Str) : (PySem.strKind P w).is x e.2 = true ↔ tx e = x := by
  obtain ⟨y, tk, h1, _⟩ := g
  unfold tx
  rw [h1]
  constructor
  · intro z
    exact PySem.Value.isStrOf_inj (.str y tk) y x (by simp [Value.isStrOf]) z
  · rintro rfl
    exact PySem.strKind_is P w _ tk
theorem tx_mem {l : List (Int × Value)} (g : ∀ e ∈ l, TxE w e) (x : Str) : x ∈ l.map tx ↔ ∃ e ∈ l, (PySem.strKind P w).is x e.2 = true := by
  rw [List.mem_map]
  exact ⟨fun ⟨e, he, q⟩ => ⟨e, he, (tx_is (g e he) x).2 q⟩, fun ⟨e, he, q⟩ => ⟨e, he, (tx_is (g e he) x).1 q⟩⟩
end
section
variable {P : Program} {w : World} {A : Around} {E : Value → Shared → Prop} {s : Shared} {a : Addr} {M : Str → Bool} {n : Nat}
theorem tx_tail {gv : Bool → Sem Unit} (hg : ∀ (b : Bool) (s₁ : Shared) (Q' : Unit → Shared → Prop), Q' () s₁ → wpAny (model P w) A (gv b) Q' E s₁) {o : Obj} {es : Array (Int × Value)} {ep : Nat} {t : SetTable} (ho : s.heap.get? a = some o) (hex : o.ExactSet) (hd : o.data = .set es ep t)
    {fs : Array (Int × Value)} {u : SetTable} {M' : Str → Bool} (g1 : ∀ e ∈ fs.toList, TxE w e) (nd1 : (fs.toList.map tx).Nodup) (m1 : ∀ x, M' x = true ↔ x ∈ fs.toList.map tx) (hb1 : fs.size < scanBound) (hf2 : u.fits fs.size = true) (hr : Ris u.place.toList)
    (hl : w.params.followText "set-order" = true ∨ u.led = true) {wasD : Bool} {R : Option Bool → Shared → Prop} (hR : ∀ h', Heap.SameBut a s.heap h' → TxSet w h' a M' fs.size → R (some true) { s with heap := h' }) :
    wpAny (model P w) A (storeSet a fs u >>= fun _ => if (!wasD && u.tooFull) = true then (gv (relayAll u fs (SetTable.grown fs.size)).2.2 >>= fun _ => storeSet a (relayAll u fs (SetTable.grown fs.size)).1 (relayAll u fs (SetTable.grown fs.size)).2.1 >>= fun _ => pure (some true)) else pure (some true)) R E s := by
  have st1 := store_at (es' := fs) (t' := u) ho hd
  have sb := Heap.SameBut.update s.heap a (Obj.putSet fs u)
  refine wpAny_bind (wpAny_storeSet_of ho hd ?_ (fits_of_scanBound hb1))
  by_cases c : (!wasD && u.tooFull) = true
  · rw [if_pos c]
    have p1 := relayAll_perm u fs (SetTable.grown fs.size)
    have p2 := relayAll_fits u fs (SetTable.grown fs.size)
    have p3 := relayAll_ris u fs (SetTable.grown fs.size)
    have p4 := relayAll_led u fs (SetTable.grown fs.size)
    revert p1 p2 p3 p4
    generalize relayAll u fs (SetTable.grown fs.size) = z
    obtain ⟨ks, u', gave⟩ := z
    dsimp only
    intro p1 p2 p3 p4
    have e1 : ks.size = fs.size := by have q := p1.length_eq; simpa using q
    have e2 : ks.size < scanBound := e1 ▸ hb1
    refine wpAny_bind (hg _ _ _ (wpAny_bind (wpAny_storeSet_of st1 rfl (wpAny_pure (hR _ (sb.trans (Heap.SameBut.update _ a _)) ?_)) (fits_of_scanBound e2))))
    have q1 := p1.map tx
    exact ⟨_, ks, _, u', store_at (es' := ks) (t' := u') st1 rfl, hex, rfl, fun e he => g1 e (p1.mem_iff.mp he), q1.nodup_iff.mpr nd1, fun x => (m1 x).trans q1.mem_iff.symm, e2, p2, e1, p3, hl.imp id fun q => p4.trans q⟩
  · rw [if_neg c]
    exact wpAny_pure (hR _ sb ⟨_, fs, _, u, st1, hex, rfl, g1, nd1, m1, hb1, hf2, rfl, hr, hl⟩)
theorem tx_add {x : Str} {tk : Tok} {Q : Bool → Shared → Prop} (R : TxSet w s.heap a M n) (room : n + 1 < scanBound) (hQ : ∀ h', Heap.SameBut a s.heap h' → TxSet w h' a (fun y => M y || decide (y = x)) (if M x = true then n else n + 1) → Q (!M x) { s with heap := h' }) :
    wpAny (model P w) A (setAddHashed a (.str x tk) ((PySem.strKind P w).hash x)) Q E s := by
  obtain ⟨o, es, ep, t, ho, hex, hd, g, nd, hm, hb, hf, hn, hr, hl⟩ := R
  have is0 : (PySem.strKind P w).is x (.str x tk) = true := PySem.strKind_is P w x tk
  have scn : (Value.str x tk).scannable = true := rfl
  have el : ElemsOf (PySem.strKind P w) es.toList := tx_elems g
  unfold setAddHashed setAddHashedIn
  refine wpAny_holding (wpAny_bind (wpAny_setState_of ho hd hf ?_))
  dsimp only
  rw [byScan_of scn hb el]
  simp only [↓reduceIte]
  unfold setAddByScan
  refine wpAny_bind (wpAny_bind (wpAny_rule (wpAny_bind (wpAny_setScan_of is0 ho hd hf el ?_))))
  cases fi : List.findIdx? (fun e => (PySem.strKind P w).is x e.2) es.toList with
  | some j =>
    obtain ⟨hj, pj, _⟩ := List.findIdx?_eq_some_iff_getElem.mp fi
    have yes : M x = true := (hm x).2 ((tx_mem (P := P) (w := w) g x).2 ⟨es.toList[j], List.getElem_mem hj, pj⟩)
    dsimp only
    refine wpAny_pure (wpAny_pure ?_)
    have q := hQ s.heap (Heap.SameBut.refl a s.heap) ⟨o, es, ep, t, ho, hex, hd, g, nd, fun y => by
      rw [Bool.or_eq_true, decide_eq_true_eq, ← hm y]
      exact ⟨fun z => z.elim id (fun e => e ▸ yes), .inl⟩, hb, hf, by rw [if_pos yes]; exact hn, hr, hl⟩
    rw [yes] at q
    exact q
  | none =>
    have out : x ∉ es.toList.map tx := fun z => by
      obtain ⟨e, he, q⟩ := (tx_mem (P := P) (w := w) g x).1 z
      exact absurd (List.findIdx?_eq_none_iff.mp fi e he) (by rw [q]; decide)
    have no : M x = false := by
      cases q : M x with
      | false => rfl
      | true => exact absurd ((hm x).1 q) out
    have gw : ∀ (b : Bool) {s₁ : Shared} {Q' : Unit → Shared → Prop}, Q' () s₁ → wpAny (model P w) A (match b with | true => rule "set.scan.the-table-gave-way" | false => pure ()) Q' E s₁ := fun b s₁ Q' q => by cases b <;> first | exact wpAny_pure q | exact wpAny_rule q
    dsimp only
    have p1 := layNew_perm t es ((PySem.strKind P w).hash x) (.str x tk)
    have p2 := layNew_fits t es ((PySem.strKind P w).hash x) (.str x tk)
    have p3 := layNew_ris t es ((PySem.strKind P w).hash x) (.str x tk) hr
    have p4 := layNew_led t es ((PySem.strKind P w).hash x) (.str x tk)
    revert p1 p2 p3 p4
    generalize layNew t es ((PySem.strKind P w).hash x) (.str x tk) = z
    obtain ⟨fs, u, wasD, gave⟩ := z
    dsimp only
    intro p1 p2 p3 p4
    rw [Array.toList_push] at p1
    have pc : fs.toList.Perm (((PySem.strKind P w).hash x, Value.str x tk) :: es.toList) := p1.trans (List.perm_append_singleton _ _)
    have pk : (fs.toList.map tx).Perm (x :: es.toList.map tx) := pc.map tx
    have g1 : ∀ e ∈ fs.toList, TxE w e := fun e he => (List.mem_cons.mp (pc.mem_iff.mp he)).elim (fun z => z ▸ ⟨x, tk, rfl, rfl⟩) (g e)
    have nd1 : (fs.toList.map tx).Nodup := pk.nodup_iff.mpr (List.nodup_cons.mpr ⟨out, nd⟩)
    have m1 : ∀ y, (M y || decide (y = x)) = true ↔ y ∈ fs.toList.map tx := fun y => by
      rw [Bool.or_eq_true, decide_eq_true_eq, hm y, pk.mem_iff, List.mem_cons]
      exact Or.comm
    have sz : fs.size = n + 1 := by have q := pc.length_eq; rw [List.length_cons, Array.length_toList, Array.length_toList, hn] at q; exact q
    have hb1 : fs.size < scanBound := sz ▸ room
    have led : w.params.followText "set-order" = true ∨ u.led = true := hl.imp id fun z => p4.trans z
    have fin : ∀ h', Heap.SameBut a s.heap h' → TxSet w h' a (fun y => M y || decide (y = x)) fs.size → Q true { s with heap := h' } := fun h' sb r => by
      have q := hQ h' sb
      rw [no] at q
      rw [sz] at r
      exact q r
    refine wpAny_bind (gw _ ?_)
    split
    · refine wpAny_bind ?_
      rw [hashByValue_scannable 8 scn]
      refine wpAny_pure (tx_tail ?_ ho hex hd g1 nd1 m1 hb1 ?_ ?_ ?_ ?_)
      · exact fun b s₁ Q' q => by cases b <;> first | exact wpAny_pure q | exact wpAny_rule q
      · first | (split <;> first | exact p2 | exact SetTable.fits_plain_off p2) | exact p2
      · first | (split <;> exact p3) | exact p3
      · first | (split <;> exact led) | exact led
      · exact fun h' sb r => wpAny_pure (fin h' sb r)
    · refine wpAny_bind (wpAny_pure ?_)
      simp only [↓reduceIte]
      refine tx_tail ?_ ho hex hd g1 nd1 m1 hb1 p2 p3 led ?_
      · exact fun b s₁ Q' q => by cases b <;> first | exact wpAny_pure q | exact wpAny_rule q
      · exact fun h' sb r => wpAny_pure (fin h' sb r)
end
/-! ### set(t) -/
def newSet (w : World) : Obj := { cls := .type "set", dict := none, data := .set #[] 0 (.fresh 0 0 (!w.params.followText "set-order")) }
theorem tx_new {w : World} {h : Heap} {a : Addr} {xs : List Str} (ho : h.get? a = some (newSet w)) : TxSet w h a (fun y => decide (y ∈ xs.take 0)) 0 :=
  ⟨newSet w, #[], 0, _, ho, ⟨rfl, rfl, rfl⟩, rfl, (fun e he => by simp at he), (by simp), (fun k => by simp), (by decide), (by rfl), rfl, List.Pairwise.nil, by
    show _ ∨ (!w.params.followText "set-order") = true
    cases w.params.followText "set-order" <;> simp⟩
section
variable {P : Program} {w : World} {A : Around} {E : Value → Shared → Prop} {s : Shared}
theorem tx_update {I : Addr} {fp wr : List Addr} {G : Array GenState → Array GenState → Prop} {n : Nat} {Pv : Nat → Value → Prop} {St : Nat → Shared → Prop} {R : Result → Shared → Prop} (W : WalksS P w A.in1 I fp wr G n Pv St) (a : Addr) (haf : a ∉ fp) (xs : List Str) (hn : n = xs.length) (hb : xs.length + 1 < scanBound)
    (hv : ∀ i v, Pv i v → ∃ x t, xs[i]? = some x ∧ v = .str x t) (hR : ∀ s₀ s' c, Moved (a :: wr) G s₀ s' → c ≤ n → TxSet w s'.heap a (fun y => decide (y ∈ xs)) c → s₀ = s → R (.ok (.ret .none)) s') :
    ∀ (k i : Nat) (s₁ : Shared), n - i = k → i ≤ n → St i s₁ → (∃ c, c ≤ i ∧ TxSet w s₁.heap a (fun y => decide (y ∈ xs.take i)) c) → (i = 0 ∧ s₁ = s ∨ Moved (a :: wr) G s s₁) → codeAny (model P w) A (.builtin "set.update.loop" ⟨[.ref a, .ref I], []⟩) R s₁ := by
  have haw : a ∉ wr := fun z => haf (W.sub _ z)
  have sub : ∀ b ∈ wr, b ∈ a :: wr := fun b z => List.mem_cons_of_mem _ z
  have tr : ∀ {s₁ s₂ : Shared} {i : Nat}, (i = 0 ∧ s₁ = s ∨ Moved (a :: wr) G s s₁) → Moved (a :: wr) G s₁ s₂ → Moved (a :: wr) G s s₂ := fun h m => h.elim (fun z => z.2 ▸ m) fun z => Moved.trans W.gtrans z m
  intro k
  induction k with
  | zero =>
    intro i s₁ ek hi hst ⟨c, hc, hS⟩ hp
    obtain rfl : i = n := by omega
    refine codeAny_builtin F.entry_set_update_loop ?_
    rw [Around.under_plainId F.plain_set_update_loop _]
    refine wpAny_bind (m := pyNext (.ref I)) (W.done s₁ _ _ hst fun s' hm => wpAny_pure ?_)
    rw [List.take_of_length_le (by omega)] at hS
    exact hR s s' c (tr hp (hm.mono sub)) hc (hS.stays fun o e => hm.heap a o haw e) rfl
  | succ k ih =>
    intro i s₁ ek hi hst ⟨c, hc, hS⟩ hp
    have lt : i < n := by omega
    refine codeAny_builtin F.entry_set_update_loop ?_
    rw [Around.under_plainId F.plain_set_update_loop _]
    refine wpAny_bind (m := pyNext (.ref I)) (W.item i s₁ _ _ lt hst fun v s' hP hst' hm => ?_)
    obtain ⟨x, t, hx, rfl⟩ := hv i v hP
    have hS' : TxSet w s'.heap a (fun y => decide (y ∈ xs.take i)) c := hS.stays fun o e => hm.heap a o haw e
    refine wpAny_bind (m := holding [Value.str x t] (setAdd a (.str x t))) (wpAny_holding ?_)
    unfold setAdd
    refine wpAny_holding (wpAny_bind ((PySem.strKind P w).pyHash (k := x) (PySem.strKind_is _ _ _ _) ?_))
    refine tx_add (s := { s' with toks := s'.toks + 1 }) hS' (by omega) fun h' sb S2 => ?_
    have e2 : (fun y => decide (y ∈ xs.take i) || decide (y = x)) = fun y => decide (y ∈ xs.take (i + 1)) := funext fun y => by
      rw [List.take_add_one, hx]
      simp [List.mem_append]
    have c3 : (if decide (x ∈ xs.take i) = true then c else c + 1) ≤ i + 1 := by split <;> omega
    have S3 := S2
    rw [e2] at S3
    refine wpAny_pure ⟨plainId_quiet F.plain_set_update_loop _, ih (i + 1) _ (by omega) lt (W.frame _ s' _ _ hst' (Nat.le_succ _) fun b hb o e => ?_) ⟨_, c3, S3⟩ (.inr (tr hp ((hm.mono sub).then_heap (Nat.le_succ _) fun b o hb e => ?_)))⟩
    · rw [sb.2 b (fun z : b = a => haf (z ▸ hb))]
      exact e
    · rw [sb.2 b (fun z : b = a => hb (z ▸ List.mem_cons_self))]
      exact e
end
end Ev
set_option Elab.async false
set_option linter.all false
set_option maxRecDepth 100000
set_option maxHeartbeats 3200000
/-! EvS2: set(t) as a call; sorted of it. -/
namespace Ev
open PySem L2 PyProof.Rows Classical
theorem strs_get : ∀ {us : List Value} {xs : List Str}, StrsAre us xs → ∀ (i : Nat) (v : Value), us[i]? = some v → ∃ x t, xs[i]? = some x ∧ v = .str x t
  | _, _, .nil, i, v, h => by simp at h
  | _, _, .cons x k r, 0, v, h => by
    simp only [List.getElem?_cons_zero, Option.some.injEq] at h
    exact ⟨x, k, rfl, h.symm⟩
  | _, _, .cons x k r, i + 1, v, h => by
    rw [List.getElem?_cons_succ] at h
    obtain ⟨y, t, a, b⟩ := strs_get r i v h
    exact ⟨y, t, by rw [List.getElem?_cons_succ]; exact a, b⟩
theorem strs_length : ∀ {us : List Value} {xs : List Str}, StrsAre us xs → us.length = xs.length
  | _, _, .nil => rfl
  | _, _, .cons _ _ r => by simp [strs_length r]
section
variable {P : Program} {w : World} {A : Around} {E : Value → Shared → Prop} {s : Shared}
theorem tx_call {l : Addr} {items : Array Value} {xs : List Str} {Q : Value → Shared → Prop} (hh : A.handled = none) (hl : s.heap.IsTuple l items) (hi : StrsAre items.toList xs) (hb : xs.length + 1 < scanBound)
    (h : ∀ (h' : Heap) (tk c : Nat), TxSet w h' s.heap.objs.size (fun y => decide (y ∈ xs)) c → c ≤ xs.length → (∀ b o, s.heap.get? b = some o → h'.get? b = some o) → Q (.ref s.heap.objs.size) { s with heap := h', toks := tk }) : wpAny (model P w) A (call (.type "set") [.ref l]) Q E s := by
  have sz : items.size = xs.length := by have q := strs_length hi; rwa [Array.length_toList] at q
  obtain ⟨c, tl, hmro⟩ := F.called_set.mro
  have made := F.called_set.made
  have sub0 := F.called_set.sub
  refine wpAny_call (codeAny_of_tree (?_ : wpAny _ _ (callAny (.type "set") _) _ _ _))
  refine wpAny_pure ⟨Code.quiet_builtin _ (by decide +kernel), codeAny_builtin F.entry_type_call ?_⟩
  rw [Around.under_plain (weight_type_call_type "set" [.ref l] []) rfl]
  have nt := F.called_set.notType
  have cc := F.called_set.canCreate
  have tc := F.typeCall_set_1 (.ref l)
  repeat (any_goals (first | assumption | wp_step))
  refine codeAny_mono (code_set_led1 (.ref l) (E := E) (Q₁ := fun v s₁ => v = .ref s.heap.objs.size ∧ s₁ = { s with heap := s.heap.push (newSet w) }) ⟨rfl, rfl⟩) fun r s₁ hr => ?_
  cases r with
  | error e => exact hr
  | ok fl =>
    cases fl with
    | next => exact hr.elim
    | brk => exact hr.elim
    | cont => exact hr.elim
    | ret v =>
      obtain ⟨rfl, rfl⟩ := hr
      have gS : (s.heap.push (newSet w)).get? s.heap.objs.size = some (newSet w) := Heap.get?_push_size _ rfl
      have tS : Shared.TypeIs { s with heap := s.heap.push (newSet w) } (.ref s.heap.objs.size) "set" := ⟨_, gS, rfl⟩
      have lk := F.called_set.init.lookup
      have bnd := F.called_set.init.bind (.ref s.heap.objs.size)
      repeat (any_goals (first | assumption | wp_step))
      refine codeAny_mono (codeAny_call_builtin (R := wants (fun v s₂ => v = .none ∧ ∃ h' tk c, s₂ = { s with heap := h', toks := tk } ∧ TxSet w h' s.heap.objs.size (fun y => decide (y ∈ xs)) c ∧ c ≤ xs.length ∧ ∀ b o, s.heap.get? b = some o → h'.get? b = some o) E) F.called_set.init.plain F.entry_set_init (check_set_init_1 tS ?_)) fun r₂ s₂ hr₂ => ?_
      · obtain ⟨⟨oc, od, odt, osl⟩, hol, e1, nl, e2⟩ := hl
        simp only at e1 e2
        subst e1 e2
        have hol1 : (s.heap.push (newSet w)).get? l = some ⟨.type "tuple", od, .seq items nl, osl⟩ := Heap.get?_push_of_some _ hol
        have s1 := F.sub_tuple_set
        have s2 := F.sub_tuple_frozenset
        have nd : (Value.type "tuple" == Value.type "dict") = false := by decide
        have it1 : (s.heap.push (newSet w)).IsTuple l items := ⟨_, hol1, rfl, nl, rfl⟩
        have gS' : (s.heap.push (newSet w)).get? s.heap.objs.size = some { cls := .type "set", dict := none, data := .set #[] 0 (.fresh 0 0 (!w.params.followText "set-order")) } := gS
        unfold Builtin.«set.__init__» noKeywords Builtin.Frozenset.updateFrom
        generalize hPI : pyIter = PI
        wp_walk
        subst hPI
        refine wpAny_pyIter_tuple it1 (wpAny_bind (wpAny_runValue ?_))
        have lt : l < s.heap.objs.size := Heap.lt_size hol
        have h3 : A.in1.in1.in1.handled = none := by simp [hh]
        have zp : (s.heap.push (newSet w)).objs.size = s.heap.objs.size + 1 := Heap.size_push ..
        have neI : l ≠ (s.heap.push (newSet w)).objs.size := by rw [zp]; exact Nat.ne_of_lt (Nat.lt_succ_of_lt lt)
        have nIn : s.heap.objs.size ∉ [(s.heap.push (newSet w)).objs.size, l] := by
          rw [zp]
          intro z
          rcases List.mem_cons.mp z with z | z
          · exact Nat.ne_of_lt (Nat.lt_succ_self _) z
          · exact Nat.ne_of_gt lt (List.mem_singleton.mp z)
        refine tx_update (s := { s with heap := (s.heap.push (newSet w)).push { cls := .type "tuple_iterator", data := .fields #[.ref l, .int 0 0] } }) ((Walks.tuple h3 _ l neI items).toS) s.heap.objs.size nIn xs sz hb (fun i v e => strs_get hi i v (by rw [Array.getElem?_toList]; exact e)) ?hR (items.size - 0) 0 _ (by omega) (Nat.zero_le _) ⟨⟨_, Heap.get?_push_size _ rfl, rfl, rfl⟩, (it1.push _)⟩ ⟨0, Nat.le_refl 0, tx_new (Heap.get?_push_of_some _ gS)⟩ (.inl ⟨rfl, rfl⟩)
        intro s₀ s' c' hm hc' hS' e0
        subst e0
        obtain ⟨h', g2, d', tk', os'⟩ := s'
        obtain rfl : g2 = s.gens := hm.gens
        obtain rfl : d' = s.drawn := hm.drawn
        obtain rfl : os' = s.os := hm.os
        show wpAny _ _ _ _ _ _
        refine wpAny_pure (?_ : wpAny _ _ (ret Value.none) _ _ _)
        rw [sz] at hc'
        refine wpAny_pure ⟨rfl, h', tk', c', rfl, hS', hc', fun b o e => hm.heap b o (fun z => ?_) (Heap.get?_push_of_some _ (Heap.get?_push_of_some _ e))⟩
        have b0 : b < s.heap.objs.size := Heap.lt_size e
        rcases List.mem_cons.mp z with z | z
        · exact Nat.ne_of_lt b0 z
        · exact Nat.ne_of_lt (Nat.lt_succ_of_lt b0) ((List.mem_singleton.mp z).trans zp)
      · cases r₂ with
        | error e => exact hr₂
        | ok fl₂ =>
          cases fl₂ with
          | next => exact hr₂.elim
          | brk => exact hr₂.elim
          | cont => exact hr₂.elim
          | ret r =>
            obtain ⟨rfl, h', tk, c', rfl, hS', hc', hk'⟩ := hr₂
            repeat (any_goals (first | assumption | wp_step))
            exact h _ _ _ hS' hc' hk'
end
end Ev
set_option Elab.async false
set_option linter.all false
set_option maxRecDepth 100000
set_option maxHeartbeats 1000000
/-! EvS3: sorted of a set of texts. -/
namespace Ev
open PySem L2 PyProof.Rows Classical
open PySem.W (EachIs dataLe AllAlike Sortable alike)
theorem each_strs : ∀ {vs : List Value}, (∀ v ∈ vs, ∃ x t, v = Value.str x t) → ∃ ys : List Str, StrsAre vs ys ∧ EachIs (fun v x => ∃ t, v = Value.str x t) vs ys
  | [], _ => ⟨[], .nil, .nil⟩
  | v :: vs, h => by
    obtain ⟨ys, a, b⟩ := each_strs fun v hv => h v (List.mem_cons_of_mem _ hv)
    obtain ⟨x, t, rfl⟩ := h v List.mem_cons_self
    exact ⟨x :: ys, .cons x t a, .cons ⟨t, rfl⟩ b⟩
theorem vals_of_each : ∀ {vs : List Value} {ys : List Str}, EachIs (fun v x => ∃ t, v = Value.str x t) vs ys → Vals (ys.map V.str) vs
  | _, _, .nil => .nil
  | _, _, .cons ⟨t, e⟩ r => .cons ⟨t, e⟩ (vals_of_each r)
theorem each_tx : ∀ {vs : List Value} {ys : List Str}, EachIs (fun v x => ∃ t, v = Value.str x t) vs ys → vs.map (fun v => tx (0, v)) = ys
  | _, _, .nil => rfl
  | _, _, .cons ⟨t, e⟩ r => by rw [List.map_cons, each_tx r, e]; rfl
section
variable {P : Program} {w : World} {A : Around} {E : Value → Shared → Prop} {s : Shared} {a : Addr}
theorem tx_sorted {M : Str → Bool} {n : Nat} {Q : Value → Shared → Prop} (R : TxSet w s.heap a M n) (hh : A.handled = none) (hu : A.units + 10 < cLine)
    (hQ : ∀ s' p (out : List Value) (c : Nat) (ys : List Str), (∀ b o, s.heap.get? b = some o → s'.heap.get? b = some o) → s'.gens = s.gens → s'.os = s.os → s.heap.objs.size ≤ p →
      s'.heap.get? p = some (seqObj "list" out.toArray c) → Vals ((ys.mergeSort (dataLe false PyData.str)).map V.str) out → ys.Nodup → (∀ x, x ∈ ys ↔ M x = true) → ys.length = n → Q (.ref p) s') : wpAny (model P w) A (call (.builtin "sorted") [.ref a]) Q E s := by
  obtain ⟨o, es, ep, t, ho, hex, hd, g, nd, hm, hb, hf, hn, hr, hl⟩ := R
  refine Calls.call_function_entry kind_sorted plain_sorted entry_sorted (args_sorted1 _) ?_
  unfold Builtin.«sorted»
  refine wpAny_bind (m := checkCount "sorted" 1 1 _) (wpAny_pure (wpAny_bind (collect_set (A := A.in1) hh ⟨o, ho, hex.1, hd⟩ hf hb hr hl fun s1 vs k1 hz g1 o1 pm => ?_)))
  have vl : vs.length = n := by rw [pm.length_eq, List.length_map, Array.length_toList]; exact hn
  obtain ⟨ys, sa, ea⟩ := each_strs (vs := vs) fun v hv => by
    obtain ⟨e, he, q⟩ := List.mem_map.mp (pm.mem_iff.mp hv)
    obtain ⟨x, tk, h1, _⟩ := g e he
    exact ⟨x, tk, q ▸ h1⟩
  have py : ys.Perm (es.toList.map tx) := by
    have q := pm.map fun v => tx (0, v)
    rw [List.map_map, each_tx ea] at q
    exact q
  have yl : ys.length ≤ sizeLine := by rw [py.length_eq, List.length_map, Array.length_toList, hn, sizeLine_eq]; rw [hn] at hb; unfold scanBound at hb; omega
  have yv : ys.length = vs.length := ea.length.symm
  refine wpAny_bind (wpAny_newList ?_ (yv ▸ yl))
  have at_ : (s1.heap.push (seqObj "list" vs.toArray 0)).get? s1.heap.objs.size = some (seqObj "list" vs.toArray 0) := Heap.get?_push_size _ rfl
  refine wpAny_bind (wpAny_holding (PySem.W.list_sort_data (s := { s1 with heap := s1.heap.push (seqObj "list" vs.toArray 0) }) (enc := PyData.str) at_ ea (ea.mono fun v x ⟨t, e⟩ => ⟨[], e ▸ .str x t, by simp⟩) (.of fun _ _ => rfl) (.others fun x => ⟨by simp, by simp⟩) yl (fun x _ => ?_) fun out h1 h2 => ?_))
  · show A.units + 1 + 1 + 0 < cLine
    omega
  · obtain ⟨c, hc⟩ := sortedHeap_at (vs := vs) (out := out.toArray) at_
    refine wpAny_pure ⟨_, rfl, hQ _ s1.heap.objs.size out c ys (fun b u e => ?_) g1 o1 hz hc (vals_of_each h2) (py.nodup_iff.mpr nd) (fun x => by rw [py.mem_iff, ← hm x]) (by rw [yv, vl])⟩
    have q := k1 b u e
    have lt := Heap.lt_size q
    show (sortedHeap (s1.heap.push (seqObj "list" vs.toArray 0)) s1.heap.objs.size vs out.toArray).get? b = some u
    rw [sortedHeap_old (Nat.ne_of_lt lt) (by rw [size_push']; exact Nat.lt_succ_of_lt lt)]
    exact Heap.get?_push_of_some _ q
end
theorem sort_perm {xs ys : List Str} (h : xs.Perm ys) : xs.mergeSort (dataLe false PyData.str) = ys.mergeSort (dataLe false PyData.str) := by
  have e : (dataLe false PyData.str : Str → Str → Bool) = fun a b => decide (a.cps.toList ≤ b.cps.toList) := PySem.W.dataLe_str (fun x : Str => x)
  rw [e]
  have tr : ∀ a b c : Str, decide (a.cps.toList ≤ b.cps.toList) = true → decide (b.cps.toList ≤ c.cps.toList) = true → decide (a.cps.toList ≤ c.cps.toList) = true := fun a b c h1 h2 => by
    rw [decide_eq_true_eq] at *
    exact Std.le_trans h1 h2
  have to : ∀ a b : Str, (decide (a.cps.toList ≤ b.cps.toList) || decide (b.cps.toList ≤ a.cps.toList)) = true := fun a b => by
    rw [Bool.or_eq_true, decide_eq_true_eq, decide_eq_true_eq]
    exact Std.le_total
  refine List.Perm.eq_of_pairwise (le := fun a b : Str => decide (a.cps.toList ≤ b.cps.toList) = true) (fun a b _ _ h1 h2 => ?_) (List.pairwise_mergeSort tr to xs) (List.pairwise_mergeSort tr to ys) (((List.mergeSort_perm _ _).trans h).trans (List.mergeSort_perm _ _).symm)
  rw [decide_eq_true_eq] at h1 h2
  have := Std.le_antisymm h1 h2
  cases a; cases b
  simpa using this
theorem mem_dedupS : ∀ (xs : List Str) (x : Str), x ∈ dedupS xs ↔ x ∈ xs
  | [], x => Iff.rfl
  | y :: r, x => by
    unfold dedupS
    split
    · rename_i h
      rw [mem_dedupS r, List.mem_cons]
      exact ⟨.inr, fun z => z.elim (fun e => e ▸ h) id⟩
    · rw [List.mem_cons, List.mem_cons, mem_dedupS r]
theorem nodup_dedupS : ∀ xs : List Str, (dedupS xs).Nodup
  | [] => by simp [dedupS]
  | y :: r => by
    unfold dedupS
    split
    · exact nodup_dedupS r
    · rename_i h
      exact List.nodup_cons.mpr ⟨fun z => h ((mem_dedupS r y).1 z), nodup_dedupS r⟩
/-- sorted(set(t)) -/
def tSS (K : PySem.W.Frag) (ta : TE) : TE := fun σ H Q => ta σ H fun x H1 => ∃ (l : Addr) (xs : List Str), x = .ref l ∧ SqT K H1 l (xs.map V.str) ∧ xs.length < 64 ∧ ∀ p, H1 p = none → Q (.ref p) (upd H1 p (.lst (((dedupS xs).mergeSort (dataLe false PyData.str)).map V.str)))
theorem pe_sortedset {X : Cx} {e : Expr} {ta : TE} {p p2 q pos : Pos} (hc : X.calm = true) (hu : X.A.units + 10 < cLine) (hg : Gl X "sorted") (hm : X.mg "sorted" = none) (hg2 : Gl X "set") (hm2 : X.mg "set" = none) (he : PE X e ta) (na : starEach [e] X.env = (false, eval e X.env) :: starEach [] X.env) :
    PE X (.Call (.Name "sorted" p) [.Call (.Name "set" p2) [e] [] q] [] pos) (tSS X.K ta) := ⟨fun pins s σ H Q I h => by
  refine Call_ (ld_blt (u := .builtin "sorted") I hg hm (by decide +kernel) ?_)
  refine PyProof.Rows.callWith_builtin1 (PyProof.Rows.args_cons (Call_ (ld_blt I hg2 hm2 boot_set ?_)) rfl) rfl rfl
  refine PyProof.Rows.callWith_type1 (PyProof.Rows.args_cons (thn (he.run pins s σ H _ I h) fun v s1 ⟨x, H1, I1, r1, q1⟩ => PyProof.Rows.args_nil ?_) na) na rfl
  obtain ⟨l, xs, rfl, hq, h64, q1⟩ := q1
  cases r1
  obtain ⟨its, r, pl, hz⟩ := I1.tuple hq
  refine tx_call (I1.ok.hd hc) pl (by simpa using strsAre_of r) (by unfold scanBound; omega) fun h' tk c R hcl hk => PyProof.Rows.args_nil ?_
  have I2 : Inv X pins σ H1 { s1 with heap := h', toks := tk } := I1.kept fun b o e => hk b o e
  refine tx_sorted (s := { s1 with heap := h', toks := tk }) R (I2.ok.hd hc) hu fun s' p' out cc ys k g o hp hgt hv hnd hmem hlen => ?_
  have e1 : ys.mergeSort (dataLe false PyData.str) = (dedupS xs).mergeSort (dataLe false PyData.str) := sort_perm ((List.perm_ext_iff_of_nodup hnd (nodup_dedupS xs)).mpr fun x => by rw [hmem, mem_dedupS, decide_eq_true_eq])
  rw [e1] at hv
  have hs : (((dedupS xs).mergeSort (dataLe false PyData.str)).map V.str).length ≤ sizeLine := by rw [List.length_map, ← e1, List.length_mergeSort, hlen, sizeLine_eq]; omega
  have fr : H1 p' = none := I2.hok.fresh hp
  have J : Inv X pins σ (upd H1 p' (.lst (((dedupS xs).mergeSort (dataLe false PyData.str)).map V.str))) { { s1 with heap := h', toks := tk } with heap := s'.heap, gens := s'.gens, drawn := s'.drawn, toks := s'.toks } := I2.call (ch := []) (Un.laid k hp fr) (I2.hok.laid k hp ⟨hs, out, cc, hv, hgt⟩) (by rw [g]; exact I2.bare) (fun _ z => nomatch z)
  have e2 : s' = { { s1 with heap := h', toks := tk } with heap := s'.heap, gens := s'.gens, drawn := s'.drawn, toks := s'.toks } := by
    obtain ⟨_, _, _, _, _⟩ := s'
    obtain rfl := o
    rfl
  rw [e2]
  exact ⟨.ref p', _, J, rfl, q1 p' fr⟩⟩
end Ev
set_option Elab.async false
set_option linter.all false
set_option maxRecDepth 100000
set_option maxHeartbeats 1000000
/-! Ev11: from the text to the core language. -/
namespace Ev
open PySem L2 PyProof.Rows
structure Glo where
  fns : List Str
  cons : List (Str × D)
structure TC where
  N : List Str
  sc : Scope
  fn : Str → Bool
def idx : List Str → Str → Option Nat
  | [], _ => none
  | y :: r, x => if y = x then some 0 else (idx r x).map (· + 1)
theorem idx_get : ∀ {N : List Str} {x : Str} {i : Nat}, idx N x = some i → N[i]? = some x
  | [], _, _, h => by simp [idx] at h
  | y :: r, x, i, h => by
    unfold idx at h
    split at h
    · rename_i e
      cases h
      simp [e]
    · cases q : idx r x with
      | none => rw [q] at h; cases h
      | some j =>
        rw [q] at h
        cases h
        simpa using idx_get q
def isVis (sc : Scope) (x : Str) : Bool := match sc.names.lookup x with
  | some .local => true
  | some .cell => true
  | some .free => true
  | _ => false
theorem isVis_ok {sc : Scope} {x : Str} (h : isVis sc x = true) : Vis sc x := by
  unfold isVis at h
  unfold Vis
  cases e : sc.names.lookup x with
  | none => rw [e] at h; cases h
  | some k => rw [e] at h; cases k <;> simp_all
def isGl (sc : Scope) (x : Str) : Bool := decide (sc.names.lookup x = some .globalImplicit)
def okName (x : Str) : Bool := !(x == ("__debug__" : Str)) && !(x == ("__classdict__" : Str)) && !(x == ("__name__" : Str))
/-! ### targets -/
def isTgt (T : TC) (x : Str) : Bool := match T.sc.names.lookup x with
  | some .local => true
  | some .cell => T.fn x
  | _ => false
mutual
def trTg (T : TC) : Expr → Option Tg
  | .Name x _ => if isTgt T x then (idx T.N x).map .v else none
  | .Tuple es _ _ => (trTgs T es).map .t
  | _ => none
def trTgs (T : TC) : List Expr → Option (List Tg)
  | [] => some []
  | e :: es => match trTg T e, trTgs T es with
    | some u, some us => some (u :: us)
    | _, _ => none
end
section
variable {X : Cx} {T : TC}
theorem isTgt_ok (hs : X.env.scope = T.sc) (hf : X.fn = T.fn) {x : Str} (h : isTgt T x = true) : Loc X.env.scope x ∧ (X.fn x = true ∨ X.env.scope.names.lookup x = some .local) := by
  unfold isTgt at h
  unfold L2.Loc
  rw [hs, hf]
  cases e : T.sc.names.lookup x with
  | none => rw [e] at h; cases h
  | some k => rw [e] at h; cases k <;> simp_all
theorem assignEach_cons {T : TC} {e : Expr} {es : List Expr} {env : PySem.Env} {u : Tg} (h : trTg T e = some u) : assignEach (e :: es) env = (false, assign e env) :: assignEach es env := by
  cases e <;> first | rfl | (simp [trTg] at h)
mutual
theorem tg_ok (hN : X.N = T.N) (nd : X.N.Nodup) (hc : X.calm = true) (hs : X.env.scope = T.sc) (hf : X.fn = T.fn) : ∀ (e : Expr) (u : Tg), trTg T e = some u → PG X e (gTg X.K u)
  | .Name x pos, u, h => by
    simp only [trTg] at h
    split at h
    · rename_i ht
      cases q : idx T.N x with
      | none => rw [q] at h; cases h
      | some i =>
        rw [q] at h
        cases h
        obtain ⟨h1, h2⟩ := isTgt_ok hs hf ht
        exact pg_name nd (by rw [hN]; exact idx_get q) h1 h2
    · cases h
  | .Tuple es k pos, u, h => by
    simp only [trTg] at h
    cases q : trTgs T es with
    | none => rw [q] at h; cases h
    | some us =>
      rw [q] at h
      cases h
      obtain ⟨h1, h2, h3⟩ := tgs_ok hN nd hc hs hf es us q
      exact pg_tup hc h1 h2 h3
  | .BoolOp .., _, h | .NamedExpr .., _, h | .BinOp .., _, h | .UnaryOp .., _, h | .Lambda .., _, h | .IfExp .., _, h | .Dict .., _, h | .Set .., _, h | .ListComp .., _, h | .SetComp .., _, h | .DictComp .., _, h | .GeneratorExp .., _, h | .Await .., _, h | .Yield .., _, h | .YieldFrom .., _, h | .Compare .., _, h | .Call .., _, h | .FormattedValue .., _, h | .JoinedStr .., _, h | .Constant .., _, h | .Attribute .., _, h | .Subscript .., _, h | .Starred .., _, h | .List .., _, h | .Slice .., _, h => by simp [trTg] at h
theorem tgs_ok (hN : X.N = T.N) (nd : X.N.Nodup) (hc : X.calm = true) (hs : X.env.scope = T.sc) (hf : X.fn = T.fn) : ∀ (es : List Expr) (us : List Tg), trTgs T es = some us → PGs X es (gTgs X.K us) ∧ (assignEach es X.env).length = us.length ∧ (assignEach es X.env).findIdx? (·.1) = none
  | [], us, h => by
    simp only [trTgs, Option.some.injEq] at h
    subst h
    exact ⟨pgs_nil, rfl, rfl⟩
  | e :: es, us, h => by
    simp only [trTgs] at h
    cases q1 : trTg T e with
    | none => rw [q1] at h; cases h
    | some u =>
      cases q2 : trTgs T es with
      | none => rw [q1, q2] at h; cases h
      | some us' =>
        rw [q1, q2] at h
        cases h
        obtain ⟨h1, h2, h3⟩ := tgs_ok hN nd hc hs hf es us' q2
        have ea := assignEach_cons (es := es) (env := X.env) q1
        refine ⟨pgs_cons (tg_ok hN nd hc hs hf e u q1) h1 (by rw [ea]; rfl), by rw [ea]; simp [h2], ?_⟩
        rw [ea, List.findIdx?_cons]
        simp [h3]
end
end
/-! ### expressions -/
def bopOf : Operator → Option BOp
  | .Add => some .add
  | .Sub => some .sub
  | .Mult => some .mul
  | .FloorDiv => some .fdiv
  | .Mod => some .mod
  | .Pow => some .pow
  | _ => none
def copOf : CmpOp → BOp
  | .Eq => .eq
  | .NotEq => .ne
  | .Lt => .lt
  | .LtE => .le
  | .Gt => .gt
  | .GtE => .ge
  | .Is => .is_
  | .IsNot => .isnt
  | .In => .in_
  | .NotIn => .notin
def trC : Const → Option D
  | .none => some .non
  | .bool b => some (.bl b)
  | .int i => some (.int i)
  | .str x => some (.str x)
  | _ => none
def trN (G : Glo) (T : TC) (x : Str) : Option Ex :=
  if okName x then
    if isVis T.sc x then (idx T.N x).map .v
    else if isGl T.sc x then (G.cons.lookup x).map .c
    else none
  else none
def bi1 : List (Str × Bi) := [("len", .len), ("all", .all), ("any", .any), ("sum", .sum), ("sorted", .sorted), ("tuple", .tuple), ("list", .list), ("abs", .abs), ("int", .int), ("repr", .repr)]
def bi2 : List (Str × Bi) := [("min", .min2), ("max", .max2)]
def biNames : List Str := ["len", "all", "any", "sum", "sorted", "tuple", "list", "abs", "int", "repr", "min", "max", "isinstance", "range", "zip", "bool", "str", "dict", "set"]
def tstOk : Expr → Bool
  | .IfExp .. => false
  | _ => true
def notStarred : Expr → Bool
  | .Starred .. => false
  | _ => true
/-- a built-in type's name -/
def tyName (T : TC) : Expr → Option String
  | .Name x _ => if isGl T.sc x && okName x then (if x = ("int" : Str) then some "int" else if x = ("bool" : Str) then some "bool" else if x = ("str" : Str) then some "str" else if x = ("tuple" : Str) then some "tuple" else if x = ("list" : Str) then some "list" else if x = ("dict" : Str) then some "dict" else none) else none
  | _ => none
def tyNamesOf (T : TC) : List Expr → Option (List String)
  | [] => some []
  | e :: es => match tyName T e, tyNamesOf T es with
    | some t, some ts => some (t :: ts)
    | _, _ => none
def trsW (f : Expr → Option Ex) : List Expr → Option (List Ex)
  | [] => some []
  | .Starred e _ :: es => match f e, trsW f es with
    | some a, some as => some (.star a :: as)
    | _, _ => none
  | e :: es => match f e, trsW f es with
    | some a, some as => some (a :: as)
    | _, _ => none
/-- the argument of set(..) -/
def setArg (T : TC) : Expr → Option Expr
  | .Call (.Name y _) [b] [] _ => if y = ("set" : Str) && isGl T.sc y && notStarred b then some b else none
  | _ => none
/-- a call by name -/
def trCall (f : Expr → Option Ex) (G : Glo) (T : TC) (x : Str) (es : List Expr) : Option Ex :=
  if isGl T.sc x && okName x && es.all notStarred then
    if G.fns.contains x then (trsW f es).map (.call x)
    else match es with
      | [a] => match (if x = ("sorted" : Str) then setArg T a else none) with
        | some b => (f b).map fun b' => .bi .sortedset [b']
        | none => match bi1.lookup x, f a with
          | some b, some a' => some (.bi b [a'])
          | _, _ => none
      | [a, b] => match bi2.lookup x with
        | some o => match f a, f b with
          | some a', some b' => some (.bi o [a', b'])
          | _, _ => none
        | none => if x = ("isinstance" : Str) then match f a with
            | some a' => match b with
              | .Tuple ts _ _ => if ts.length ≤ 20 then (tyNamesOf T ts).map fun ns => .bi (.isin ns) [a'] else none
              | t => (tyName T t).map fun n => .bi (.isin [n]) [a']
            | none => none
          else none
      | _ => none
  else none
def isTuple : Expr → Bool
  | .Tuple .. => true
  | _ => false
def trI (f : Expr → Option Ex) (T : TC) (tg : Expr) (it : Expr) : Option It := match it with
  | .Call (.Name x _) [a] [] _ => if x = ("range" : Str) && isGl T.sc x && notStarred a then (f a).map .rng else (f it).map .seq
  | .Call (.Name x _) [a, b] [] _ =>
    if x = ("range" : Str) && isGl T.sc x && notStarred a && notStarred b then match f a, f b with
      | some a', some b' => some (.rng2 a' b')
      | _, _ => none
    else if x = ("zip" : Str) && isGl T.sc x && isTuple tg && notStarred a && notStarred b then match f a, f b with
      | some a', some b' => some (.zip a' b')
      | _, _ => none
    else (f it).map .seq
  | e => (f e).map .seq
def tgOwn (T : TC) : Expr → List Str
  | .Name x _ => [x]
  | .Tuple es _ _ => es.flatMap fun e => match e with
    | .Name x _ => [x]
    | .Tuple fs _ _ => fs.flatMap fun e => match e with
      | .Name x _ => [x]
      | _ => []
    | _ => []
  | _ => []
def ownOf (N : List Str) : List Str → Option (List (Str × Nat))
  | [] => some []
  | x :: r => match idx N x, ownOf N r with
    | some i, some o => some ((x, i) :: o)
    | _, _ => none
def inner (T : TC) (scope : Scope) : TC := ⟨T.N, relS scope T.sc, fun x => scope.names.lookup x == some .cell⟩
def trO (f : Expr → Option Ex) : Option Expr → Option (Option Ex)
  | none => some none
  | some e => (f e).map some
def trE : Nat → Glo → TC → Expr → Option Ex
  | 0, _, _, _ => none
  | n + 1, G, T, e => match e with
    | .Constant c _ _ => (trC c).map .c
    | .Name x _ => trN G T x
    | .BinOp a op b _ => match trE n G T a, trE n G T b, bopOf op with
      | some a', some b', some o => some (.bin o a' b')
      | _, _, _ => none
    | .UnaryOp .Not a _ => if tstOk a then (trE n G T a).map (.un .not) else none
    | .UnaryOp .USub a _ => (trE n G T a).map (.un .neg)
    | .BoolOp _ [a] _ => if tstOk a then trE n G T a else none
    | .BoolOp op (a :: b :: r) pos => if tstOk a then match trE n G T a, trE n G T (.BoolOp op (b :: r) pos) with
        | some a', some r' => some (match op with | .And => .and a' r' | .Or => .or a' r')
        | _, _ => none
      else none
    | .IfExp t a b _ => if tstOk t then match trE n G T t, trE n G T a, trE n G T b with
        | some t', some a', some b' => some (.ite t' a' b')
        | _, _, _ => none
      else none
    | .Compare a [op] [b] _ => if behindInMarks op b then none else match trE n G T a, trE n G T b with
      | some a', some b' => some (.bin (copOf op) a' b')
      | _, _ => none
    | .Compare a [o, p] [b, c] _ => if lastMarks [o, p] [b, c] then none else match trE n G T a, trE n G T b, trE n G T c with
      | some a', some b', some c' => some (.chain (copOf o) (copOf p) a' b' c')
      | _, _, _ => none
    | .Tuple es _ _ => (trsW (trE n G T) es).map .tup
    | .List es _ => (trsW (trE n G T) es).map .lst
    | .Dict [] [] _ => some (.bi .edict [])
    | .Subscript a (.Slice none none (some (.UnaryOp .USub (.Constant (.int 1) _ _) _)) _) _ => (trE n G T a).map .rev
    | .Subscript a (.Slice lo hi none _) _ => match trE n G T a, trO (trE n G T) lo, trO (trE n G T) hi with
      | some a', some l, some h => some (.sl a' l h)
      | _, _, _ => none
    | .Subscript a b _ => match b with
      | .Slice .. => none
      | b => match trE n G T a, trE n G T b with
        | some a', some b' => some (.ix a' b')
        | _, _ => none
    | .Call (.Name x _) es [] _ => trCall (trE n G T) G T x es
    | .ListComp elt [⟨tg, it, ifs, 0⟩] scope _ => match trTg (inner T scope) tg, ownOf T.N (tgOwn T tg), trI (trE n G T) T tg it, trE n G (inner T scope) elt with
      | some tg', some own, some it', some elt' =>
        if blkC T.N T.sc scope own && decide (own.map (·.2) = tg'.slots) then match ifs with
          | [] => some (.cmp elt' tg' it' none)
          | [c] => if tstOk c then (trE n G (inner T scope) c).map fun c' => .cmp elt' tg' it' (some c') else none
          | _ => none
        else none
      | _, _, _, _ => none
    | _ => none
end Ev
set_option Elab.async false
set_option linter.all false
set_option maxRecDepth 100000
set_option maxHeartbeats 2000000
/-! Ev12: the translation is sound: expressions. -/
namespace Ev
open PySem L2 PyProof.Rows Classical
/-- the same machine -/
structure SameM (Y X : Cx) : Prop where
  prog : Y.prog = X.prog
  w : Y.w = X.w
  K : Y.K = X.K
  mg : Y.mg = X.mg
  base : Y.base = X.base
  A : Y.A = X.A
/-- a context in which the evaluator's table F holds -/
structure CG (C : RC) (F : FT) (G : Glo) (X : Cx) : Prop where
  hK : C.K = X.K
  nd : X.N.Nodup
  hc : X.calm = true
  hu : X.A.units + 200 < cLine
  hg : X.A.guards = some []
  bn : ∀ x ∈ biNames, X.mg x = none
  cn : ∀ x d, G.cons.lookup x = some d → ∃ v u, X.mg x = some u ∧ RelV v u ∧ ∀ md H, Rep C md H d v
  fn : ∀ (Y : Cx) (W : WX), SameM Y X → L2.Takes Y W → ∀ f ∈ G.fns, CallW Y C F W f
structure Fits (T : TC) (X : Cx) : Prop where
  N : X.N = T.N
  sc : X.env.scope = T.sc
  fn : X.fn = T.fn
section
variable {X : Cx} {C : RC} {F : FT} {W : WX} {G : Glo} {T : TC}
theorem CG.blk (g : CG C F G X) (s : Shared) (H : Hp) (scope : Scope) (cenv : PySem.Env) (fp : List Addr) : CG C F G (X.blk s H scope cenv fp) :=
  ⟨g.hK, g.nd, g.hc, g.hu, g.hg, g.bn, g.cn, fun Y W h => g.fn Y W ⟨h.prog, h.w, h.K, h.mg, h.base, h.A⟩⟩
theorem Fits.blk (f : Fits T X) (s : Shared) (H : Hp) (scope : Scope) (cl : List (Str × Addr)) (D : Addr) (fp : List Addr) : Fits (inner T scope) (X.blk s H scope (compEnvC scope cl D X.env) fp) :=
  ⟨f.N, by show relS scope X.env.scope = relS scope T.sc; rw [f.sc], rfl⟩
theorem takes_blk (s : Shared) (H : Hp) (scope : Scope) (cenv : PySem.Env) (fp : List Addr) : L2.Takes (X.blk s H scope cenv fp) W0 := fun u s' ⟨_, _, _, _, _, _, _, _, _, _, _, _, _, _, _, _, w⟩ => w.elim
theorem gl_ok (f : Fits T X) {x : Str} (h : isGl T.sc x = true) : Gl X x := by
  unfold isGl at h
  unfold Gl PySem.Env.kindOf
  rw [f.sc]
  exact of_decide_eq_true h
theorem ok1 {x : Str} (h : okName x = true) : (x == ("__debug__" : Str)) = false ∧ (x == ("__classdict__" : Str)) = false ∧ x ≠ "__name__" := by
  unfold okName at h
  simp only [Bool.and_eq_true, Bool.not_eq_true'] at h
  exact ⟨h.1.1, h.1.2, fun e => by rw [e] at h; simp at h⟩
theorem vis_ok (f : Fits T X) {x : Str} (h : isVis T.sc x = true) : Vis X.env.scope x := by rw [f.sc]; exact isVis_ok h
/-- a name -/
theorem sound_N (g : CG C F G X) (f : Fits T X) {x : Str} {pos : Pos} {e : Ex} (h : trN G T x = some e) : PE X (.Name x pos) (tE C F W e) := by
  unfold trN at h
  split at h
  · rename_i ho
    obtain ⟨o1, o2, o3⟩ := ok1 ho
    split at h
    · rename_i hv
      cases q : idx T.N x with
      | none => rw [q] at h; cases h
      | some i =>
        rw [q] at h
        cases h
        exact s_v (pe_var (by rw [f.N]; exact idx_get q) (vis_ok f hv) o1 o2)
    · split at h
      · rename_i hg
        cases q : G.cons.lookup x with
        | none => rw [q] at h; cases h
        | some d =>
          rw [q] at h
          cases h
          obtain ⟨v, u, hm, r, hr⟩ := g.cn x d q
          exact s_c (pe_glob (gl_ok f hg) hm r o1) hr
      · cases h
  · cases h
theorem sound_C {c : Const} {k : Nat} {pos : Pos} {d : D} (h : trC c = some d) : PE X (.Constant c k pos) (tE C F W (.c d)) := by
  cases c <;> simp only [trC, reduceCtorEq, Option.some.injEq] at h <;> subst h
  · exact s_c pe_non fun _ _ => by simp [Rep]
  · exact s_c pe_bl fun _ _ => by simp [Rep]
  · exact s_c pe_int fun _ _ => by simp [Rep]
  · exact s_c pe_str fun _ _ => by simp [Rep]
theorem bop_ok (g : CG C F G X) {op : Operator} {o : BOp} (h : bopOf op = some o) : OpR X (binaryOp op) (rBin C o) := by
  have q := op_all g.hK (by have := g.hu; omega) o
  cases op <;> simp only [bopOf, reduceCtorEq, Option.some.injEq] at h <;> subst h <;> exact q
theorem cop_ok (g : CG C F G X) (op : CmpOp) : OpR X (compareOp op) (rBin C (copOf op)) := by
  have q := op_all g.hK (by have := g.hu; omega) (copOf op)
  cases op <;> exact q
/-- the built-ins of one argument, of two -/
theorem bi1_ok (g : CG C F G X) {x : Str} {b : Bi} (h : bi1.lookup x = some b) : x ∈ biNames ∧ ((∃ id, CallR X (.builtin id) (rBi C b) ∧ bootBuiltins x = some (.builtin id)) ∨ ∃ T, CallR X (.type T) (rBi C b) ∧ bootBuiltins x = some (.type T)) := by
  have hu : X.A.units + 80 < cLine := by have := g.hu; omega
  have hm := PySem.mem_of_lookup h
  unfold bi1 at hm
  simp only [List.mem_cons, Prod.mk.injEq, List.not_mem_nil, or_false] at hm
  rcases hm with ⟨rfl, rfl⟩ | ⟨rfl, rfl⟩ | ⟨rfl, rfl⟩ | ⟨rfl, rfl⟩ | ⟨rfl, rfl⟩ | ⟨rfl, rfl⟩ | ⟨rfl, rfl⟩ | ⟨rfl, rfl⟩ | ⟨rfl, rfl⟩ | ⟨rfl, rfl⟩
  · exact ⟨by decide +kernel, .inl ⟨_, bi_len g.hK, boot_len⟩⟩
  · exact ⟨by decide +kernel, .inl ⟨_, bi_all g.hc, boot_all⟩⟩
  · exact ⟨by decide +kernel, .inl ⟨_, bi_any g.hc, boot_any⟩⟩
  · exact ⟨by decide +kernel, .inl ⟨_, bi_sum g.hc, boot_sum⟩⟩
  · exact ⟨by decide +kernel, .inl ⟨_, bi_sorted g.hK hu, boot_sorted⟩⟩
  · exact ⟨by decide +kernel, .inr ⟨_, bi_tuple g.hK, by decide +kernel⟩⟩
  · exact ⟨by decide +kernel, .inr ⟨_, bi_list g.hK, by decide +kernel⟩⟩
  · exact ⟨by decide +kernel, .inl ⟨_, bi_abs, boot_abs⟩⟩
  · exact ⟨by decide +kernel, .inr ⟨_, bi_int, by decide +kernel⟩⟩
  · exact ⟨by decide +kernel, .inl ⟨_, bi_repr g.hK hu g.hg, boot_repr⟩⟩
theorem bi2_ok (g : CG C F G X) {x : Str} {b : Bi} (h : bi2.lookup x = some b) : x ∈ biNames ∧ ∃ id, CallR X (.builtin id) (rBi C b) ∧ bootBuiltins x = some (.builtin id) := by
  have hm := PySem.mem_of_lookup h
  unfold bi2 at hm
  simp only [List.mem_cons, Prod.mk.injEq, List.not_mem_nil, or_false] at hm
  rcases hm with ⟨rfl, rfl⟩ | ⟨rfl, rfl⟩
  · exact ⟨by decide +kernel, _, bi_min g.hc, boot_min⟩
  · exact ⟨by decide +kernel, _, bi_max g.hc, boot_max⟩
theorem ns_star {e : Expr} {es : List Expr} {env : PySem.Env} (h : notStarred e = true) : starEach (e :: es) env = (false, eval e env) :: starEach es env := by
  cases e <;> first | rfl | (simp [notStarred] at h)
theorem ns_any {pos : Pos} {env : PySem.Env} : ∀ {es : List Expr}, es.all notStarred = true → (backTo pos (starEach es env)).any (·.1) = false
  | [], _ => rfl
  | e :: es, h => by
    simp only [List.all_cons, Bool.and_eq_true] at h
    rw [ns_star h.1]
    have r := ns_any (pos := pos) (env := env) h.2
    show (false || (backTo pos (starEach es env)).any (·.1)) = false
    rw [r]; rfl
def noSet : Expr → Bool
  | .Set .. => false
  | _ => true
theorem noSet_ok {e : Expr} {env : PySem.Env} (h : noSet e = true) : ∀ x, foldedSetIterable e env x = pure x := by
  intro x
  cases e <;> first | rfl | (simp [noSet] at h)
/-- what the translation of one expression promises -/
def PEs (C : RC) (F : FT) (G : Glo) (f : TC → Expr → Option Ex) : Prop := ∀ (X : Cx) (W : WX) (T : TC), CG C F G X → L2.Takes X W → Fits T X → ∀ e a, f T e = some a → PE X e (tE C F W a) ∧ a.isStar = false ∧ (tstOk e = true → PT X e (tT C F W a)) ∧ (∀ op vs pos, e = .BoolOp op vs pos → PW X e (tT C F W a)) ∧ noSet e = true
theorem args_ok (g : CG C F G X) (tk : L2.Takes X W) (ft : Fits T X) {f : TC → Expr → Option Ex} (ih : PEs C F G f) : ∀ (es : List Expr) (as : List Ex), trsW (f T) es = some as → PA X es (tEs C F W as)
  | [], as, h => by
    simp only [trsW, Option.some.injEq] at h
    subst h
    exact sa_nil
  | e :: es, as, h => by
    by_cases hs : notStarred e = true
    · have h : (match f T e, trsW (f T) es with | some a, some as => some (a :: as) | _, _ => none) = some as := by
        cases e <;> first | exact h | (simp [notStarred] at hs)
      cases q1 : f T e with
      | none => rw [q1] at h; cases h
      | some a =>
        cases q2 : trsW (f T) es with
        | none => rw [q1, q2] at h; cases h
        | some as' =>
          rw [q1, q2] at h
          cases h
          obtain ⟨h1, h2, _⟩ := ih X W T g tk ft e a q1
          exact sa_cons (pa_cons h1 (args_ok g tk ft ih es as' q2) (ns_star hs)) h2
    · cases e <;> first | (exact absurd rfl hs) | skip
      rename_i e p
      simp only [trsW] at h
      cases q1 : f T e with
      | none => rw [q1] at h; cases h
      | some a =>
        cases q2 : trsW (f T) es with
        | none => rw [q1, q2] at h; cases h
        | some as' =>
          rw [q1, q2] at h
          cases h
          obtain ⟨h1, h2, _⟩ := ih X W T g tk ft e a q1
          exact sa_star g.hK (StX.pa_star h1 (args_ok g tk ft ih es as' q2))
theorem ty_ok (g : CG C F G X) (ft : Fits T X) {e : Expr} {t : String} (h : tyName T e = some t) : PE X e (tC (.ty t)) ∧ notStarred e = true := by
  cases e <;> simp only [tyName, reduceCtorEq] at h
  rename_i x pos
  split at h
  · rename_i ho
    rw [Bool.and_eq_true] at ho
    obtain ⟨o1, o2, o3⟩ := ok1 ho.2
    have hgl := gl_ok ft ho.1
    refine ⟨?_, rfl⟩
    repeat' split at h
    all_goals first
      | (cases h; rename_i e; subst e; exact pe_bltn hgl (g.bn _ (by decide +kernel)) (by decide +kernel) rfl o3 o1)
      | cases h
      | skip
    all_goals (rename_i e; subst e; cases h; exact pe_bltn hgl (g.bn _ (by decide +kernel)) (by decide +kernel) rfl o3 o1)
  · cases h
end
end Ev
set_option Elab.async false
set_option linter.all false
set_option maxRecDepth 100000
set_option maxHeartbeats 2000000
/-! Ev13: the translation is sound: calls, what is walked, all expressions. -/
namespace Ev
open PySem L2 PyProof.Rows Classical
section
variable {X : Cx} {C : RC} {F : FT} {W : WX} {G : Glo} {T : TC}
theorem evs_one {a : Ex} {env : Env} (hn : a.isStar = false) : evs F [a] env = M.bind (ev F a env) fun x => M.ret [x] := by
  rw [evs_cons hn]
  simp only [evs]
  funext m
  unfold M.bind M.ret
  cases ev F a env m <;> rfl
theorem s_is1 {e : Expr} {t : String} {a : Ex} (hn : a.isStar = false) (h : PE X e (tCB (fun xs H Q => ∃ v, xs = [v, .ty t] ∧ rBi C (.isin [t]) [v] H Q) (tCons (tE C F W a) (tCons (tC (.ty t)) tNil)))) : PE X e (tE C F W (.bi (.isin [t]) [a])) := h.imp fun σ H Q q => by
  obtain ⟨md, av, m, env, r, q⟩ := q
  simp only [ev] at q
  rw [evs_one hn] at q
  have e1 : M.bind (M.bind (ev F a env) fun x => M.ret [x]) (fun xs => M.lift (biD (.isin [t]) xs)) m = M.bind (ev F a env) (fun x => M.lift (biD (.isin [t]) [x])) m := by
    unfold M.bind M.ret; cases ev F a env m <;> rfl
  rw [e1] at q
  refine ⟨md, av, m, env, r, (outG.bind (R := RD C av) q).mono fun x H1 ⟨d, md1, m1, f1, r1, hx, q⟩ => ?_⟩
  obtain ⟨z, hz, p⟩ := q.lift r1
  exact ⟨x, rfl, md1, av, m1, [d], z, (r.step f1 r1).gr, Reps.cons hx (by simp [Reps]), hz, p⟩
def tTys : List String → TA
  | [] => tNil
  | t :: ts => tCons (tC (.ty t)) (tTys ts)
theorem tTys_at {σ : L2.St} {H : Hp} : ∀ {ts : List String} {Q : List V → Hp → Prop}, Q (ts.map V.ty) H → tTys ts σ H Q
  | [], _, h => h
  | t :: ts, _, h => by
    show tTys ts σ H _
    exact tTys_at h
theorem tys_ok (g : CG C F G X) (ft : Fits T X) : ∀ {es : List Expr} {ts : List String}, tyNamesOf T es = some ts → PA X es (tTys ts) ∧ ts.length = es.length
  | [], ts, h => by
    simp only [tyNamesOf, Option.some.injEq] at h
    subst h
    exact ⟨pa_nil, rfl⟩
  | e :: es, ts, h => by
    simp only [tyNamesOf] at h
    cases q1 : tyName T e with
    | none => rw [q1] at h; cases h
    | some t =>
      cases q2 : tyNamesOf T es with
      | none => rw [q1, q2] at h; cases h
      | some ts' =>
        rw [q1, q2] at h
        cases h
        obtain ⟨h1, h2⟩ := ty_ok g ft q1
        obtain ⟨h3, h4⟩ := tys_ok g ft q2
        exact ⟨pa_cons h1 h3 (ns_star h2), by simp [h4]⟩
theorem s_isT {e : Expr} {ts : List String} {a : Ex} (hl : ts.length ≤ 20) (hn : a.isStar = false) (h : PE X e (tCB (fun xs H Q => ∃ v tp, xs = [v, .ref tp] ∧ H tp = some (.tup (ts.map V.ty)) ∧ rBi C (.isin ts) [v] H Q) (tCons (tE C F W a) (tCons (tTup (tTys ts)) tNil)))) : PE X e (tE C F W (.bi (.isin ts) [a])) := h.imp fun σ H Q q => by
  obtain ⟨md, av, m, env, r, q⟩ := q
  simp only [ev] at q
  rw [evs_one hn] at q
  have e1 : M.bind (M.bind (ev F a env) fun x => M.ret [x]) (fun xs => M.lift (biD (.isin ts) xs)) m = M.bind (ev F a env) (fun x => M.lift (biD (.isin ts) [x])) m := by
    unfold M.bind M.ret; cases ev F a env m <;> rfl
  rw [e1] at q
  refine ⟨md, av, m, env, r, (outG.bind (R := RD C av) q).mono fun x H1 ⟨d, md1, m1, f1, r1, hx, q⟩ => ?_⟩
  obtain ⟨z, hz, p⟩ := q.lift r1
  have g0 := (r.step f1 r1).gr
  refine tTys_at ⟨by rw [List.length_map]; unfold sizeLine; omega, fun p' hp' => ?_⟩
  have ex := Ext.new (o := .tup (ts.map V.ty)) hp'
  refine ⟨x, p', rfl, upd_same, md1, av, m1, [d], z, ⟨r1.ext ex, fun a ha => ?_⟩, Reps.cons (Rep.mono (fun _ e => e) (Hb.ext r1 ex) d x hx) (by simp [Reps]), hz, fun v H' e' => p v H' (ex.trans e')⟩
  cases q' : H1 a with
  | none => exact absurd q' (g0.avt a ha)
  | some o => rw [ex a o q']; simp
theorem map_sort (xs : List Str) : (xs.map D.str).mergeSort sortLe = (xs.mergeSort (PySem.W.dataLe false PyData.str)).map D.str := by
  exact (List.map_mergeSort (r := PySem.W.dataLe false PyData.str) (s := sortLe) (f := D.str) (fun a _ b _ => rfl)).symm
/-- sorted(set(t)) -/
theorem s_ss {e : Expr} {a : Ex} (hK : C.K = X.K) (hn : a.isStar = false) (h : PE X e (tSS X.K (tE C F W a))) : PE X e (tE C F W (.bi .sortedset [a])) := h.imp fun σ H Q q => by
  obtain ⟨md, av, m, env, r, q⟩ := q
  simp only [ev] at q
  rw [evs_one hn] at q
  have e1 : M.bind (M.bind (ev F a env) fun x => M.ret [x]) (fun xs => M.lift (biD .sortedset xs)) m = M.bind (ev F a env) (fun x => M.lift (biD .sortedset [x])) m := by
    unfold M.bind M.ret; cases ev F a env m <;> rfl
  rw [e1] at q
  refine ⟨md, av, m, env, r, (outG.bind (R := RD C av) q).mono fun x H1 ⟨d, md1, m1, f1, r1, hx, q⟩ => ?_⟩
  obtain ⟨z, hz, p⟩ := q.lift r1
  have g0 := (r.step f1 r1).gr
  cases d <;> simp only [biD, reduceCtorEq] at hz
  rename_i ds
  simp only [RD, Rep] at hx
  obtain ⟨l, vs, rfl, hs, hr⟩ := hx
  cases qs : asStrs ds with
  | none => rw [qs] at hz; cases hz
  | some xs =>
    rw [qs] at hz
    simp only [Option.bind_some] at hz
    split at hz
    · rename_i h64
      cases hz
      obtain ⟨rfl, rfl⟩ := Reps.strs hr qs
      rw [hK] at hs
      refine ⟨l, xs, rfl, (Hb.le _ _ _).tup hs, h64, fun p' hp => ?_⟩
      rw [map_sort] at p
      exact Pz.lst g0 p (Reps.of_strs _) p' hp
    · cases hz
/-- calls by name -/
theorem call_ok (g : CG C F G X) (tk : L2.Takes X W) (ft : Fits T X) {f : TC → Expr → Option Ex} (ih : PEs C F G f) {x : Str} {es : List Expr} {p pos : Pos} {a : Ex} (h : trCall (f T) G T x es = some a) : PE X (.Call (.Name x p) es [] pos) (tE C F W a) ∧ a.isStar = false := by
  unfold trCall at h
  split at h
  · rename_i h0
    simp only [Bool.and_eq_true] at h0
    obtain ⟨⟨h1, h2⟩, h3⟩ := h0
    obtain ⟨o1, o2, o3⟩ := ok1 h2
    have hg := gl_ok ft h1
    split at h
    · rename_i hf
      have hf : x ∈ G.fns := by simpa using hf
      cases q : trsW (f T) es with
      | none => rw [q] at h; cases h
      | some as =>
        rw [q] at h
        cases h
        have hw := g.fn X W ⟨rfl, rfl, rfl, rfl, rfl, rfl⟩ tk x hf
        have ha := args_ok g tk ft ih es as q
        refine ⟨s_call ?_, rfl⟩
        cases es with
        | nil =>
          simp only [trsW, Option.some.injEq] at q
          subst q
          refine (pe_callW0 hw hg o1).imp fun σ H Q q => ?_
          obtain ⟨md, av, m, env, r, q⟩ := q
          simp only [evs] at q
          exact q.ret r.mr (by simp [RDs, Reps])
        | cons e es =>
          have h3' : notStarred e = true ∧ es.all notStarred = true := by simpa using h3
          exact pe_callW hw hg ha o1 (ns_star h3'.1) (ns_any h3'.2)
    · match es, h, h3 with
      | [], h, _ => cases h
      | [b], h, h3 =>
        simp only at h
        cases qs : (if x = ("sorted" : Str) then setArg T b else none) with
        | some b0 =>
          rw [qs] at h
          split at qs
          · rename_i ex
            subst ex
            dsimp only at h
            cases q2 : f T b0 with
            | none => rw [q2] at h; cases h
            | some b' =>
              rw [q2] at h
              cases h
              unfold setArg at qs
              split at qs
              · rename_i y py e' pc
                split at qs
                · rename_i hh
                  cases qs
                  simp only [Bool.and_eq_true, decide_eq_true_eq] at hh
                  obtain ⟨⟨rfl, hg2⟩, hns⟩ := hh
                  obtain ⟨i1, i2, _⟩ := ih X W T g tk ft _ b' q2
                  exact ⟨s_ss g.hK i2 (pe_sortedset g.hc (by have := g.hu; omega) hg (g.bn _ (by decide +kernel)) (gl_ok ft hg2) (g.bn _ (by decide +kernel)) i1 (ns_star hns)), rfl⟩
                · cases qs
              · cases qs
          · cases qs
        | none =>
        rw [qs] at h
        simp only at h
        cases q : bi1.lookup x with
        | none => rw [q] at h; cases h
        | some o =>
          cases q2 : f T b with
          | none => rw [q, q2] at h; cases h
          | some b' =>
            rw [q, q2] at h
            cases h
            have hs : notStarred b = true := by simpa using h3
            obtain ⟨i1, i2, _⟩ := ih X W T g tk ft b b' q2
            have ha : PA X [b] (tEs C F W [b']) := sa_cons (pa_cons i1 sa_nil (ns_star hs)) i2
            obtain ⟨hm, ⟨id, c1, c2⟩ | ⟨t, c1, c2⟩⟩ := bi1_ok g q
            · exact ⟨s_bi (pe_callB c1 hg (g.bn x hm) c2 ha o3 o1 (ns_star hs) rfl), rfl⟩
            · exact ⟨s_bi (pe_callTy c1 hg (g.bn x hm) c2 ha o3 o1 (ns_star hs) rfl), rfl⟩
      | [b, c], h, h3 =>
        simp only at h
        have hs : notStarred b = true ∧ notStarred c = true := by simpa using h3
        have hs2 : (backTo pos (starEach [c] X.env)).any (·.1) = false := ns_any (by simpa using hs.2)
        cases q : bi2.lookup x with
        | some o =>
          rw [q] at h
          simp only at h
          cases q2 : f T b with
          | none => rw [q2] at h; cases h
          | some b' =>
            cases q3 : f T c with
            | none => rw [q2, q3] at h; cases h
            | some c' =>
              rw [q2, q3] at h
              cases h
              obtain ⟨i1, i2, _⟩ := ih X W T g tk ft b b' q2
              obtain ⟨j1, j2, _⟩ := ih X W T g tk ft c c' q3
              have ha : PA X [b, c] (tEs C F W [b', c']) := sa_cons (pa_cons i1 (sa_cons (pa_cons j1 sa_nil (ns_star hs.2)) j2) (ns_star hs.1)) i2
              obtain ⟨hm, id, c1, c2⟩ := bi2_ok g q
              exact ⟨s_bi (pe_callB c1 hg (g.bn x hm) c2 ha o3 o1 (ns_star hs.1) hs2), rfl⟩
        | none =>
          rw [q] at h
          simp only at h
          split at h
          · rename_i ex
            have hh := h
            clear h
            subst ex
            have h := hh
            cases q2 : f T b with
            | none => rw [q2] at h; cases h
            | some b' =>
              rw [q2] at h
              simp only at h
              obtain ⟨i1, i2, _⟩ := ih X W T g tk ft b b' q2
              have hm := g.bn "isinstance" (by decide +kernel)
              split at h
              · rename_i ts kk tp
                split at h
                · rename_i hl
                  cases q4 : tyNamesOf T ts with
                  | none => rw [q4] at h; cases h
                  | some ns =>
                    rw [q4] at h
                    cases h
                    obtain ⟨t1, t2⟩ := tys_ok g ft q4
                    exact ⟨s_isT (by omega) i2 (pe_callB (bi_isT g.hK ns) hg hm PyProof.Rows.boot_isinstance (pa_cons i1 (pa_cons (pe_tup t1) pa_nil) (ns_star hs.1)) o3 o1 (ns_star hs.1) hs2), rfl⟩
                · cases h
              · cases q4 : tyName T c with
                | none => rw [q4] at h; cases h
                | some n =>
                  rw [q4] at h
                  cases h
                  obtain ⟨t1, t2⟩ := ty_ok g ft q4
                  exact ⟨s_is1 i2 (pe_callB (bi_is1 g.hK n) hg hm PyProof.Rows.boot_isinstance (pa_cons i1 (pa_cons t1 pa_nil (ns_star t2)) (ns_star hs.1)) o3 o1 (ns_star hs.1) hs2), rfl⟩
          · cases h
      | _ :: _ :: _ :: _, h, _ => cases h
  · cases h
/-- what is walked -/
theorem it_ok (g : CG C F G X) (tk : L2.Takes X W) (ft : Fits T X) {f : TC → Expr → Option Ex} (ih : PEs C F G f) {tg it : Expr} {a : It} (h : trI (f T) T tg it = some a) : PI X tg it (tI C F W a) ∧ ∀ x, foldedSetIterable it X.env x = pure x := by
  have gen : ∀ e a, (f T e).map It.seq = some a → PI X tg e (tI C F W a) ∧ ∀ x, foldedSetIterable e X.env x = pure x := fun e a h => by
    cases q : f T e with
    | none => rw [q] at h; cases h
    | some e' =>
      rw [q] at h
      cases h
      obtain ⟨h1, _, _, _, h5⟩ := ih X W T g tk ft e e' q
      exact ⟨si_seq g.hK h1, noSet_ok h5⟩
  unfold trI at h
  split at h
  · rename_i x p b pos
    split at h
    · rename_i hh
      simp only [Bool.and_eq_true, decide_eq_true_eq] at hh
      obtain ⟨⟨hx, hg⟩, hs⟩ := hh
      cases q : f T b with
      | none => rw [q] at h; cases h
      | some b' =>
        rw [q] at h
        cases h
        obtain ⟨i1, i2, _⟩ := ih X W T g tk ft b b' q
        have hgl := gl_ok ft hg
        subst hx
        have e1 : starEach [b] X.env = [(false, eval b X.env)] := ns_star hs
        exact ⟨si_rng (pi_range1 hgl (g.bn _ (by decide +kernel)) (sa_cons (pa_cons i1 sa_nil (ns_star hs)) i2) e1) i2, fun _ => rfl⟩
    · exact gen _ _ h
  · rename_i x p b c pos
    split at h
    · rename_i hh
      simp only [Bool.and_eq_true, decide_eq_true_eq] at hh
      obtain ⟨⟨⟨hx, hg⟩, hs⟩, hs2⟩ := hh
      cases q : f T b with
      | none => rw [q] at h; cases h
      | some b' =>
        cases q2 : f T c with
        | none => rw [q, q2] at h; cases h
        | some c' =>
          rw [q, q2] at h
          cases h
          obtain ⟨i1, i2, _⟩ := ih X W T g tk ft b b' q
          obtain ⟨j1, j2, _⟩ := ih X W T g tk ft c c' q2
          have hgl := gl_ok ft hg
          subst hx
          have e2 : starEach [c] X.env = [(false, eval c X.env)] := ns_star hs2
          have e1 : starEach [b, c] X.env = [(false, eval b X.env), (false, eval c X.env)] := by rw [ns_star hs, e2]
          exact ⟨si_rng2 (pi_range2 hgl (g.bn _ (by decide +kernel)) (sa_cons (pa_cons i1 (sa_cons (pa_cons j1 sa_nil (ns_star hs2)) j2) (ns_star hs)) i2) e1 e2) i2 j2, fun _ => rfl⟩
    · split at h
      · rename_i hh
        simp only [Bool.and_eq_true, decide_eq_true_eq] at hh
        obtain ⟨⟨⟨⟨hx, hg⟩, ht⟩, hs⟩, hs2⟩ := hh
        cases q : f T b with
        | none => rw [q] at h; cases h
        | some b' =>
          cases q2 : f T c with
          | none => rw [q, q2] at h; cases h
          | some c' =>
            rw [q, q2] at h
            cases h
            obtain ⟨i1, i2, _⟩ := ih X W T g tk ft b b' q
            obtain ⟨j1, j2, _⟩ := ih X W T g tk ft c c' q2
            have hgl := gl_ok ft hg
            subst hx
            cases tg <;> simp only [isTuple, reduceCtorEq, Bool.false_eq_true] at ht
            exact ⟨si_zip g.hK (RZ.pi_zipA hgl (g.bn _ (by decide +kernel)) (sa_cons (pa_cons i1 (sa_cons (pa_cons j1 sa_nil (ns_star hs2)) j2) (ns_star hs)) i2) (ns_star hs) (ns_any (by simpa using hs2))) i2 j2, fun _ => rfl⟩
      · exact gen _ _ h
  · exact gen _ _ h
/-- a op b op c as a test -/
theorem st_chain {e : Expr} {o p : BOp} {a b c : Ex} (h : PT X e (tTest (tChain (rBin C o) (rBin C p) (tE C F W a) (tE C F W b) (tE C F W c)))) : PT X e (tT C F W (.chain o p a b c)) := h.imp fun σ H Q q => chain_imp (val_imp q)
theorem po_ok (g : CG C F G X) (tk : L2.Takes X W) (ft : Fits T X) {f : TC → Expr → Option Ex} (ih : PEs C F G f) {o : Option Expr} {o' : Option Ex} (h : trO (f T) o = some o') : PO X o (tOI C F W o') := by
  cases o with
  | none => cases h; exact so_none
  | some e =>
    simp only [trO] at h
    cases q : f T e with
    | none => rw [q] at h; cases h
    | some a =>
      rw [q] at h
      cases h
      exact so_some (po_some (ih X W T g tk ft e a q).1)
theorem s_edict {e : Expr} (h : PE X e tDNewK) : PE X e (tE C F W (.bi .edict [])) := h.imp fun σ H Q q p hp => by
  obtain ⟨md, av, m, env, r, q⟩ := q
  have q : outG C W av (RD C av) md H σ (.ok (.dct []) m) Q := q
  have ex := Ext.new (o := .dK []) hp
  exact q md (.ref p) _ (Fr.of_ext r.mr ex) (r.mr.ext ex) (by simp only [RD, Rep]; exact ⟨trivial, p, rfl, Hb.new r.mr r.avn hp⟩)
/-- everything that the translation promises, for an expression that is no and, or, not, comparison -/
theorem fin_ok {e : Expr} {a : Ex} (h : PE X e (tE C F W a)) (hs : a.isStar = false) (hn : noSet e = true) (hb : ∀ op vs pos, e ≠ .BoolOp op vs pos) (he : tstOk e = true → ∀ whole, isTrue e X.env whole = (do let v ← whole; standAt e.pos; holding [v] (truthy v))) :
    PE X e (tE C F W a) ∧ a.isStar = false ∧ (tstOk e = true → PT X e (tT C F W a)) ∧ (∀ op vs pos, e = .BoolOp op vs pos → PW X e (tT C F W a)) ∧ noSet e = true :=
  ⟨h, hs, fun t => st_val (pt_val h (he t)), fun op vs pos q => absurd q (hb op vs pos), hn⟩
/-- a comprehension's parts -/
theorem lc_parts {n : Nat} (ih : PEs C F G (trE n G)) (g : CG C F G X) (tk : L2.Takes X W) (ft : Fits T X) {elt tg it : Expr} {ifs : List Expr} {scope : Scope} {pos : Pos} {a : Ex} (h : trE (n + 1) G T (.ListComp elt [⟨tg, it, ifs, 0⟩] scope pos) = some a) :
    ∃ (own : List (Str × Nat)) (tg' : Tg) (it' : It) (ifs' : Option Ex) (elt' : Ex), a = .cmp elt' tg' it' ifs' ∧ own.map (·.2) = tg'.slots ∧ PI X tg it (tI C F W it') ∧ BlkOk X.N X.env.scope scope own ∧
      (∀ (s : Shared) (H : Hp) (Cc : Addr) (cl : List (Str × Addr)) (fp : List Addr), PG (X.blk s H scope (compEnvC scope cl Cc X.env) fp) tg (gTg X.K tg')) ∧
      (∀ (s : Shared) (H : Hp) (Cc : Addr) (cl : List (Str × Addr)) (fp : List Addr), PTs (X.blk s H scope (compEnvC scope cl Cc X.env) fp) ifs (tTO C F W0 ifs')) ∧
      (∀ (s : Shared) (H : Hp) (Cc : Addr) (cl : List (Str × Addr)) (fp : List Addr), PE (X.blk s H scope (compEnvC scope cl Cc X.env) fp) elt (tE C F W0 elt')) ∧ ∀ x, foldedSetIterable it X.env x = pure x := by
  simp only [trE] at h
  cases q1 : trTg (inner T scope) tg with
  | none => rw [q1] at h; cases h
  | some tg' =>
  cases q2 : ownOf T.N (tgOwn T tg) with
  | none => rw [q1, q2] at h; cases h
  | some own =>
  cases q3 : trI (trE n G T) T tg it with
  | none => rw [q1, q2, q3] at h; cases h
  | some it' =>
  cases q4 : trE n G (inner T scope) elt with
  | none => rw [q1, q2, q3, q4] at h; cases h
  | some elt' =>
  rw [q1, q2, q3, q4] at h
  simp only at h
  split at h
  · rename_i hb
    rw [Bool.and_eq_true, decide_eq_true_eq] at hb
    obtain ⟨hb, hsl⟩ := hb
    have hok : BlkOk X.N X.env.scope scope own := by rw [ft.N, ft.sc]; exact blkOk_by hb
    obtain ⟨p1, p2⟩ := it_ok g tk ft ih q3
    have cg := fun (s : Shared) (H : Hp) (Cc : Addr) (cl : List (Str × Addr)) (fp : List Addr) => g.blk s H scope (compEnvC scope cl Cc X.env) fp
    have cf := fun (s : Shared) (H : Hp) (Cc : Addr) (cl : List (Str × Addr)) (fp : List Addr) => ft.blk s H scope cl Cc fp
    have hg : ∀ (s : Shared) (H : Hp) (Cc : Addr) (cl : List (Str × Addr)) (fp : List Addr), PG (X.blk s H scope (compEnvC scope cl Cc X.env) fp) tg (gTg X.K tg') := fun s H Cc cl fp => tg_ok (cf s H Cc cl fp).N (cg s H Cc cl fp).nd (cg s H Cc cl fp).hc (cf s H Cc cl fp).sc (cf s H Cc cl fp).fn tg tg' q1
    have he : ∀ (s : Shared) (H : Hp) (Cc : Addr) (cl : List (Str × Addr)) (fp : List Addr), PE (X.blk s H scope (compEnvC scope cl Cc X.env) fp) elt (tE C F W0 elt') := fun s H Cc cl fp => (ih _ W0 _ (cg s H Cc cl fp) (takes_blk s H scope _ fp) (cf s H Cc cl fp) elt elt' q4).1
    split at h
    · cases h
      exact ⟨own, tg', it', none, elt', rfl, hsl, p1, hok, hg, fun s H Cc cl fp => pts_nil, he, p2⟩
    · rename_i c
      split at h
      · rename_i ht
        cases q5 : trE n G (inner T scope) c with
        | none => rw [q5] at h; cases h
        | some c' =>
          rw [q5] at h
          cases h
          exact ⟨own, tg', it', some c', elt', rfl, hsl, p1, hok, hg, fun s H Cc cl fp => pts_one ((ih _ W0 _ (cg s H Cc cl fp) (takes_blk s H scope _ fp) (cf s H Cc cl fp) c c' q5).2.2.1 ht), he, p2⟩
      · cases h
    · cases h
  · cases h
theorem sound_E : ∀ n, PEs C F G (trE n G)
  | 0 => fun X W T g tk ft e a h => by simp [trE] at h
  | n + 1 => fun X W T g tk ft e a h => by
    have ih := sound_E n
    unfold trE at h
    split at h
    · -- constant
      rename_i c k pos
      cases q : trC c with
      | none => rw [q] at h; cases h
      | some d =>
        rw [q] at h
        cases h
        exact fin_ok (sound_C q) rfl rfl (by intros; simp) fun _ _ => rfl
    · -- name
      rename_i x pos
      have hs : a.isStar = false := by
        unfold trN at h
        repeat' split at h
        all_goals first | cases h | skip
        · cases q : idx T.N x with
          | none => rw [q] at h; cases h
          | some i => rw [q] at h; cases h; rfl
        · cases q : G.cons.lookup x with
          | none => rw [q] at h; cases h
          | some i => rw [q] at h; cases h; rfl
      exact fin_ok (sound_N g ft h) hs rfl (by intros; simp) fun _ _ => rfl
    · -- a op b
      rename_i x op y pos
      cases q1 : trE n G T x with
      | none => rw [q1] at h; cases h
      | some x' =>
        cases q2 : trE n G T y with
        | none => rw [q1, q2] at h; cases h
        | some y' =>
          cases q3 : bopOf op with
          | none => rw [q1, q2, q3] at h; cases h
          | some o =>
            rw [q1, q2, q3] at h
            cases h
            exact fin_ok (s_op (pe_op (bop_ok g q3) (ih X W T g tk ft x x' q1).1 (ih X W T g tk ft y y' q2).1)) rfl rfl (by intros; simp) fun _ _ => rfl
    · -- not
      rename_i x pos
      split at h
      · rename_i ht
        cases q1 : trE n G T x with
        | none => rw [q1] at h; cases h
        | some x' =>
          rw [q1] at h
          cases h
          obtain ⟨i1, i2, i3, _⟩ := ih X W T g tk ft x x' q1
          exact ⟨s_not (pe_not i1), rfl, fun _ => st_not (pt_not (i3 ht)), by intros; simp_all, rfl⟩
      · cases h
    · -- minus
      rename_i x pos
      cases q1 : trE n G T x with
      | none => rw [q1] at h; cases h
      | some x' =>
        rw [q1] at h
        cases h
        exact fin_ok (s_un (pe_un (un_neg1) (ih X W T g tk ft x x' q1).1)) rfl rfl (by intros; simp) fun _ _ => rfl
    · -- one of and, or
      rename_i op x pos
      split at h
      · rename_i ht
        obtain ⟨i1, i2, i3, _, i5⟩ := ih X W T g tk ft x a h
        have hw : PW X (.BoolOp op [x] pos) (tT C F W a) := by
          cases op with
          | And => exact pw_and1 (i3 ht)
          | Or => exact pw_or1 (i3 ht)
        exact ⟨pe_one i1, i2, fun _ => hw.pt, fun _ _ _ _ => hw, rfl⟩
      · cases h
    · -- and, or
      rename_i op x y r pos
      split at h
      · rename_i ht
        cases q1 : trE n G T x with
        | none => rw [q1] at h; cases h
        | some x' =>
          cases q2 : trE n G T (.BoolOp op (y :: r) pos) with
          | none => rw [q1, q2] at h; cases h
          | some y' =>
            rw [q1, q2] at h
            obtain ⟨i1, i2, i3, _, i5⟩ := ih X W T g tk ft x x' q1
            obtain ⟨j1, j2, j3, j4, j5⟩ := ih X W T g tk ft _ y' q2
            have j4 := j4 _ _ _ rfl
            cases op with
            | And =>
              cases h
              have hw := st_and (pw_and (i3 ht) j4)
              exact ⟨s_and (pe_and i1 j1), rfl, fun _ => hw.pt, fun _ _ _ _ => hw, rfl⟩
            | Or =>
              cases h
              have hw := st_or (pw_or (i3 ht) j4)
              exact ⟨s_or (pe_or i1 j1), rfl, fun _ => hw.pt, fun _ _ _ _ => hw, rfl⟩
      · cases h
    · -- a if t else b
      rename_i t x y pos
      split at h
      · rename_i ht
        cases q1 : trE n G T t with
        | none => rw [q1] at h; cases h
        | some t' =>
          cases q2 : trE n G T x with
          | none => rw [q1, q2] at h; cases h
          | some x' =>
            cases q3 : trE n G T y with
            | none => rw [q1, q2, q3] at h; cases h
            | some y' =>
              rw [q1, q2, q3] at h
              cases h
              exact fin_ok (s_ite (pe_ifExp ((ih X W T g tk ft t t' q1).2.2.1 ht) (ih X W T g tk ft x x' q2).1 (ih X W T g tk ft y y' q3).1)) rfl rfl (by intros; simp) fun h => by simp [tstOk] at h
      · cases h
    · -- a op b
      rename_i x op y pos
      split at h
      · cases h
      · rename_i hm
        have hm : behindInMarks op y = false := by simpa using hm
        cases q1 : trE n G T x with
        | none => rw [q1] at h; cases h
        | some x' =>
          cases q2 : trE n G T y with
          | none => rw [q1, q2] at h; cases h
          | some y' =>
            rw [q1, q2] at h
            cases h
            have i1 := (ih X W T g tk ft x x' q1).1
            have j1 := (ih X W T g tk ft y y' q2).1
            exact ⟨s_op (pe_cmpR (cop_ok g op) i1 j1 hm), rfl, fun _ => st_op (pt_cmpR (cop_ok g op) i1 j1 hm), by intros; simp_all, rfl⟩
    · -- a op b op c
      rename_i x o p y z pos
      split at h
      · cases h
      · rename_i hm
        have hm : lastMarks [o, p] [y, z] = false := by simpa using hm
        cases q1 : trE n G T x with
        | none => rw [q1] at h; cases h
        | some x' =>
          cases q2 : trE n G T y with
          | none => rw [q1, q2] at h; cases h
          | some y' =>
            cases q3 : trE n G T z with
            | none => rw [q1, q2, q3] at h; cases h
            | some z' =>
              rw [q1, q2, q3] at h
              cases h
              have i1 := (ih X W T g tk ft x x' q1).1
              have j1 := (ih X W T g tk ft y y' q2).1
              have k1 := (ih X W T g tk ft z z' q3).1
              exact ⟨s_chain (pe_chain (cop_ok g o) (cop_ok g p) i1 j1 k1 hm), rfl, fun _ => st_chain (pt_chain (cop_ok g o) (cop_ok g p) i1 j1 k1 hm), by intros; simp_all, rfl⟩
    · -- tuple
      rename_i es k pos
      cases q : trsW (trE n G T) es with
      | none => rw [q] at h; cases h
      | some as =>
        rw [q] at h
        cases h
        exact fin_ok (s_tup (pe_tup (args_ok g tk ft ih es as q))) rfl rfl (by intros; simp) fun _ _ => rfl
    · -- list
      rename_i es pos
      cases q : trsW (trE n G T) es with
      | none => rw [q] at h; cases h
      | some as =>
        rw [q] at h
        cases h
        exact fin_ok (s_lst (pe_lst (args_ok g tk ft ih es as q))) rfl rfl (by intros; simp) fun _ _ => rfl
    · -- {}
      cases h
      exact fin_ok (s_edict pe_dnewK) rfl rfl (by intros; simp) fun _ _ => rfl
    · -- x[::-1]
      rename_i x k p1 p2 p3 pos
      cases q1 : trE n G T x with
      | none => rw [q1] at h; cases h
      | some x' =>
        rw [q1] at h
        cases h
        exact fin_ok (s_rev (pe_rev g.hK (ih X W T g tk ft x x' q1).1)) rfl rfl (by intros; simp) fun _ _ => rfl
    · -- slices
      rename_i x lo hi p2 pos
      cases q1 : trE n G T x with
      | none => rw [q1] at h; cases h
      | some x' =>
        cases q2 : trO (trE n G T) lo with
        | none => rw [q1, q2] at h; cases h
        | some l =>
          cases q3 : trO (trE n G T) hi with
          | none => rw [q1, q2, q3] at h; cases h
          | some u =>
            rw [q1, q2, q3] at h
            cases h
            exact fin_ok (s_sl (pe_slice (sl_all g.hK) (ih X W T g tk ft x x' q1).1 (po_ok g tk ft ih q2) (po_ok g tk ft ih q3))) rfl rfl (by intros; simp) fun _ _ => rfl
    · -- x[i]
      rename_i x y pos _ _
      split at h
      · cases h
      · rename_i hns
        cases q1 : trE n G T x with
        | none => rw [q1] at h; cases h
        | some x' =>
          cases q2 : trE n G T y with
          | none => rw [q1, q2] at h; cases h
          | some y' =>
            rw [q1, q2] at h
            cases h
            have hp : PlainIx y := by
              intro o i
              cases y <;> first | rfl | (exfalso; exact hns _ _ _ _ rfl)
            exact fin_ok (s_ix (pe_ix (ix_all g.hK) (ih X W T g tk ft x x' q1).1 (ih X W T g tk ft y y' q2).1 hp)) rfl rfl (by intros; simp) fun _ _ => rfl
    · -- call
      rename_i x p es pos
      obtain ⟨c1, c2⟩ := call_ok (p := p) (pos := pos) g tk ft ih h
      exact fin_ok c1 c2 rfl (by intros; simp) fun _ _ => rfl
    · -- comprehension
      rename_i elt tg it ifs scope pos
      have h : trE (n + 1) G T (.ListComp elt [⟨tg, it, ifs, 0⟩] scope pos) = some a := by unfold trE; exact h
      obtain ⟨own, tg', it', ifs', elt', rfl, hsl, p1, hok, hg, ht, he, p2⟩ := lc_parts ih g tk ft h
      refine fin_ok (s_cmp g.hK ?_) rfl rfl (by intros; simp) fun _ _ => rfl
      rw [← hsl]
      exact pe_lc g.hc g.nd p1 hok hg ht he p2
    · cases h
end
end Ev
set_option Elab.async false
set_option linter.all false
set_option maxRecDepth 100000
set_option maxHeartbeats 1000000
/-! Ev14: statements: the core language, what is asked of an outcome. -/
namespace Ev
open PySem L2 PyProof.Rows Classical
/-- an expression in an except suite -/
inductive Hx where
  | fld | con (d : D) | var (i : Nat) | rep (h : Hx) | bin (o : BOp) (a b : Hx) | pair (a b : Hx)
inductive Hs where
  | set (i : Nat) (h : Hx) | ret (h : Hx) | iff (t : Hx) (h : Hx)
structure Hd where
  cls : Str
  slot : Nat
  body : Hs
inductive Sm where
  | pass
  | cont
  | asg (tg : Tg) (e : Ex)
  | expr (e : Ex)
  | ite (t : Ex) (a b : List Sm)
  | loop (tg : Tg) (it : It) (body : List Sm)
  | ret (e : Ex)
  | rais (c : Str) (e : Ex)
  | tr (body : List Sm) (hs : List Hd)
  | newl (i : Nat) (es : List Ex)
  | newc (i : Nat) (e : Ex)
  | app (i : Nat) (e : Ex)
  | frz (i : Nat)
inductive SOut where
  | nx (env : Env) (m : Option MSt)
  | ct (env : Env) (m : Option MSt)
  | rt (d : D) (m : Option MSt)
  | xc (c : Str) (d : D) (env : Env) (m : Option MSt)
  | bad
def onO {α : Type} (env : Env) (o : Out α) (k : α → Option MSt → SOut) : SOut := match o with
  | .ok a m => k a m
  | .exc c d m => .xc c d env m
  | .bad => .bad
def SOut.seq (o : SOut) (k : Env → Option MSt → SOut) : SOut := match o with
  | .nx e m => k e m
  | o => o
def loopS (tg : Tg) (f : Env → Option MSt → SOut) : List D → Env → Option MSt → SOut
  | [], env, m => .nx env m
  | x :: r, env, m => match bindT tg x env with
    | none => .bad
    | some env1 => match f env1 m with
      | .nx e m1 => loopS tg f r e m1
      | .ct e m1 => loopS tg f r e m1
      | o => o
/-- which classes an except clause takes -/
def takesC (up : List (Str × Str)) (c k : Str) : Bool := c = k || up.contains (c, k)
def evH (env : Env) (v : D) : Hx → Option D
  | .fld => some v
  | .con d => some d
  | .var i => match env[i]? with
    | some (.sh d) => some d
    | _ => none
  | .rep h => (evH env v h).bind fun d => biD .repr [d]
  | .bin o a b => (evH env v a).bind fun x => (evH env v b).bind fun y => binD o x y
  | .pair a b => (evH env v a).bind fun x => (evH env v b).bind fun y => some (.tup [x, y])
def exH (k : Hd) (env : Env) (v : D) (m : Option MSt) : SOut := match k.body with
  | .set i h => match evH env v h with
    | some d => .nx ((env.set i (.sh d)).set k.slot .no) m
    | none => .bad
  | .ret h => match evH env v h with
    | some d => .rt d m
    | none => .bad
  | .iff t h => match evH env v t, evH env v h with
    | some (.bl true), some d => .rt d m
    | some (.bl false), _ => .nx (env.set k.slot .no) m
    | _, _ => .bad
def catchS (up : List (Str × Str)) (c : Str) (v : D) (env : Env) (m : Option MSt) : List Hd → SOut
  | [] => .xc c v env m
  | k :: r => if takesC up c k.cls then (if c = k.cls ∧ k.slot < env.length then exH k (env.set k.slot .no) v m else .bad) else catchS up c v env m r
mutual
def exS (F : FT) (up : List (Str × Str)) : Sm → Env → Option MSt → SOut
  | .pass, env, m => .nx env m
  | .cont, env, m => .ct env m
  | .asg tg e, env, m => onO env (ev F e env m) fun d m1 => match bindT tg d env with
    | some env1 => .nx env1 m1
    | none => .bad
  | .expr e, env, m => onO env (ev F e env m) fun _ m1 => .nx env m1
  | .ite t a b, env, m => onO env (M.bind (ev F t env) (fun x => M.lift (asB x)) m) fun c m1 => if c = true then exSs F up a env m1 else exSs F up b env m1
  | .loop tg it body, env, m => onO env (evI F it env m) fun xs m1 => loopS tg (fun e m => exSs F up body e m) xs env m1
  | .ret e, env, m => onO env (ev F e env m) fun d m1 => .rt d m1
  | .rais c e, env, m => onO env (ev F e env m) fun d m1 => .xc c d env m1
  | .tr body hs, env, m => match exSs F up body env m with
    | .xc c v e m1 => catchS up c v e m1 hs
    | o => o
  | .newl i es, env, m => onO env (evs F es env m) fun ds m1 => if ds.length ≤ LIM then .nx (env.set i (.ol ds)) m1 else .bad
  | .newc i e, env, m => onO env (ev F e env m) fun d m1 => match d with
    | .lst ds => .nx (env.set i (.ol ds)) m1
    | _ => .bad
  | .app i e, env, m => onO env (ev F e env m) fun d m1 => match env[i]? with
    | some (.ol ds) => if ds.length < LIM then .nx (env.set i (.ol (ds ++ [d]))) m1 else .bad
    | _ => .bad
  | .frz i, env, m => match env[i]? with
    | some (.ol ds) => .nx (env.set i (.sh (.lst ds))) m
    | _ => .nx env m
def exSs (F : FT) (up : List (Str × Str)) : List Sm → Env → Option MSt → SOut
  | [], env, m => .nx env m
  | s :: r, env, m => (exS F up s env m).seq fun e m1 => exSs F up r e m1
end
/-! ### what is asked of an outcome -/
def or2 (a b : Addr → Prop) : Addr → Prop := fun x => a x ∨ b x
/-- all that is tracked stays as it is but for the machine and the frame's own lists -/
structure Stp (md : Option Addr) (own : Addr → Prop) (H : Hp) (md' : Option Addr) (own' : Addr → Prop) (H' : Hp) : Prop where
  same : ∀ d, md = some d → md' = some d
  keep : ∀ a o, H a = some o → ¬ MS md H a → ¬ own a → H' a = some o ∧ ¬ MS md' H' a ∧ ¬ own' a
theorem Stp.refl (md : Option Addr) (own : Addr → Prop) (H : Hp) : Stp md own H md own H := ⟨fun _ e => e, fun _ _ h n1 n2 => ⟨h, n1, n2⟩⟩
theorem Stp.trans {md md1 md2 : Option Addr} {own own1 own2 : Addr → Prop} {H H1 H2 : Hp} (a : Stp md own H md1 own1 H1) (b : Stp md1 own1 H1 md2 own2 H2) : Stp md own H md2 own2 H2 :=
  ⟨fun d e => b.same d (a.same d e), fun x o h n1 n2 => by
    obtain ⟨h1, h2, h3⟩ := a.keep x o h n1 n2
    exact b.keep x o h1 h2 h3⟩
theorem Stp.of_fr {md md1 : Option Addr} {own : Addr → Prop} {H H1 : Hp} (f : Fr md H md1 H1) : Stp md own H md1 own H1 := ⟨f.same, fun a o h n1 n2 => ⟨(f.keep a o h n1).1, (f.keep a o h n1).2, n2⟩⟩
def outS (C : RC) (W : WX) (av0 : Addr → Prop) (md : Option Addr) (own : Addr → Prop) (H : Hp) (o : SOut) (D : Ends) : Prop := match o with
  | .nx e m => ∀ md' own' σ' H', Stp md own H md' own' H' → RE C md' (or2 av0 own') H' m σ' e → D.nx σ' H'
  | .ct e m => ∀ md' own' σ' H', Stp md own H md' own' H' → RE C md' (or2 av0 own') H' m σ' e → D.ct σ' H'
  | .rt d m => ∀ md' own' v H', Stp md own H md' own' H' → MRel md' H' m → Rep C md' (Hb md' (or2 av0 own') H') d v → D.rt v H'
  | .xc c d e m => ∀ md' own' σ' dd H' A, Stp md own H md' own' H' → RE C md' (or2 av0 own') H' m σ' e → XcAt C md' (or2 av0 own') H' c d dd → C.cl c = some A → W (.ref A) (some dd) σ' H'
  | .bad => False
def tS (C : RC) (F : FT) (up : List (Str × Str)) (W : WX) (sm : Sm) : TS := fun D σ H => ∃ av0 md own m env, RE C md (or2 av0 own) H m σ env ∧ outS C W av0 md own H (exS F up sm env m) D
def tSs (C : RC) (F : FT) (up : List (Str × Str)) (W : WX) (sm : List Sm) : TS := fun D σ H => ∃ av0 md own m env, RE C md (or2 av0 own) H m σ env ∧ outS C W av0 md own H (exSs F up sm env m) D
section
variable {C : RC} {W : WX} {av0 : Addr → Prop} {md md1 : Option Addr} {own own1 : Addr → Prop} {H H1 : Hp} {D : Ends}
theorem outS.later {o : SOut} (f : Stp md own H md1 own1 H1) (h : outS C W av0 md own H o D) : outS C W av0 md1 own1 H1 o D := by
  cases o with
  | nx e m => exact fun md' own' σ' H' f' r => h md' own' σ' H' (f.trans f') r
  | ct e m => exact fun md' own' σ' H' f' r => h md' own' σ' H' (f.trans f') r
  | rt d m => exact fun md' own' v H' f' r q => h md' own' v H' (f.trans f') r q
  | xc c d e m => exact fun md' own' σ' dd H' A f' r q e => h md' own' σ' dd H' A (f.trans f') r q e
  | bad => exact h
theorem outS.nx {e : Env} {m : Option MSt} {σ : L2.St} (h : outS C W av0 md own H (.nx e m) D) (r : RE C md (or2 av0 own) H m σ e) : D.nx σ H := h md own σ H (Stp.refl _ _ _) r
/-- an expression's part of a statement -/
theorem outS.on {α β : Type} {R : Option Addr → Hp → α → β → Prop} {o : Out α} {env : Env} {k : α → Option MSt → SOut} {m : Option MSt} {σ : L2.St} (r : RE C md (or2 av0 own) H m σ env) (h : outS C W av0 md own H (onO env o k) D) :
    outG C W (or2 av0 own) R md H σ o fun b H1 => ∃ a md1 m1, Fr md H md1 H1 ∧ MRel md1 H1 m1 ∧ R md1 H1 a b ∧ RE C md1 (or2 av0 own) H1 m1 σ env ∧ outS C W av0 md1 own H1 (k a m1) D := by
  cases o with
  | ok a m1 => exact fun md' b H' f r' q => ⟨a, md', m1, f, r', q, r.step f r', outS.later (Stp.of_fr f) h⟩
  | exc c d m1 => exact fun md' dd H' A f r' q e => h md' own σ dd H' A (Stp.of_fr f) (r.step f r') q e
  | bad => exact h
end
section
variable {X : Cx} {C : RC} {F : FT} {up : List (Str × Str)} {W : WX}
theorem _root_.L2.PS.imp {X : Cx} {e : Stmt} {t t' : TS} (h : PS X e t) (i : ∀ D σ H, t' D σ H → t D σ H) : PS X e t' := ⟨fun pins s σ H Q I q => h.run pins s σ H Q I (i Q σ H q)⟩
theorem _root_.L2.PSs.imp {X : Cx} {e : List Stmt} {t t' : TS} (h : PSs X e t) (i : ∀ D σ H, t' D σ H → t D σ H) : PSs X e t' := ⟨fun pins s σ H Q I q => h.run pins s σ H Q I (i Q σ H q)⟩
theorem ss_nil : PSs X [] (tSs C F up W []) := pss_nil.imp fun D σ H ⟨av0, md, own, m, env, r, q⟩ => by
  simp only [exSs] at q
  exact q.nx r
theorem ss_cons {st : Stmt} {rest : List Stmt} {s : Sm} {r : List Sm} (h : PSs X (st :: rest) (tSeq (tS C F up W s) (tSs C F up W r))) : PSs X (st :: rest) (tSs C F up W (s :: r)) := h.imp fun D σ H ⟨av0, md, own, m, env, r, q⟩ => by
  simp only [exSs] at q
  refine ⟨av0, md, own, m, env, r, ?_⟩
  cases e : exS F up s env m with
  | nx e1 m1 =>
    rw [e] at q
    exact fun md' own' σ' H' f r' => ⟨av0, md', own', m1, e1, r', outS.later f q⟩
  | ct e1 m1 => rw [e] at q; exact q
  | rt d m1 => rw [e] at q; exact q
  | xc c d e1 m1 => rw [e] at q; exact q
  | bad => rw [e] at q; exact q
theorem ss_pass {pos : Pos} : PS X (.Pass pos) (tS C F up W .pass) := ps_pass.imp fun D σ H ⟨av0, md, own, m, env, r, q⟩ => by
  simp only [exS] at q
  exact q.nx r
theorem ss_cont {pos : Pos} : PS X (.Continue pos) (tS C F up W .cont) := ps_continue.imp fun D σ H ⟨av0, md, own, m, env, r, q⟩ => by
  simp only [exS] at q
  exact q md own σ H (Stp.refl _ _ _) r
theorem ss_expr {st : Stmt} {e : Ex} (h : PS X st (tDrop (tE C F W e))) : PS X st (tS C F up W (.expr e)) := h.imp fun D σ H ⟨av0, md, own, m, env, r, q⟩ => by
  simp only [exS] at q
  exact ⟨md, _, m, env, r, (q.on (R := RD C _) r).mono fun x H1 ⟨d, md1, m1, f1, r1, hx, re, q⟩ => q.nx re⟩
theorem ss_ret {st : Stmt} {e : Ex} (h : PS X st (tRet (tE C F W e))) : PS X st (tS C F up W (.ret e)) := h.imp fun D σ H ⟨av0, md, own, m, env, r, q⟩ => by
  simp only [exS] at q
  exact ⟨md, _, m, env, r, (q.on (R := RD C _) r).mono fun x H1 ⟨d, md1, m1, f1, r1, hx, re, q⟩ => q md1 own x H1 (Stp.refl _ _ _) r1 hx⟩
theorem ss_ite {st : Stmt} {t : Ex} {a b : List Sm} (h : PS X st (tIfS (tT C F W t) (tSs C F up W a) (tSs C F up W b))) : PS X st (tS C F up W (.ite t a b)) := h.imp fun D σ H ⟨av0, md, own, m, env, r, q⟩ => by
  simp only [exS] at q
  refine ⟨md, _, m, env, r, (q.on (R := RQ) r).mono fun x H1 ⟨d, md1, m1, f1, r1, hx, re, q⟩ => ?_⟩
  cases hx
  cases x with
  | true => exact ⟨av0, md1, own, m1, env, re, q⟩
  | false => exact ⟨av0, md1, own, m1, env, re, q⟩
theorem ss_asg {st : Stmt} {tg : Tg} {e : Ex} (hK : C.K = X.K) (h : PS X st (tAsg (tE C F W e) (gTg X.K tg))) : PS X st (tS C F up W (.asg tg e)) := h.imp fun D σ H ⟨av0, md, own, m, env, r, q⟩ => by
  simp only [exS] at q
  refine ⟨md, _, m, env, r, (q.on (R := RD C _) r).mono fun x H1 ⟨d, md1, m1, f1, r1, hx, re, q⟩ => ?_⟩
  cases hb : bindT tg d env with
  | none => rw [hb] at q; exact q.elim
  | some env1 =>
    rw [hb] at q
    exact bind_ok hK tg d x σ env env1 tg.slots _ re hx hb (fun i hi => hi) fun σ' r' _ => q.nx r'
end
end Ev
set_option Elab.async false
set_option linter.all false
set_option maxRecDepth 100000
set_option maxHeartbeats 1000000
/-! Ev15: for; a, b = x, y. -/
namespace Ev
open PySem L2 PyProof.Rows Classical
section
variable {X : Cx} {C : RC} {F : FT} {up : List (Str × Str)} {W : WX} {av0 : Addr → Prop} {md md1 : Option Addr} {own own1 : Addr → Prop} {H H1 : Hp}
theorem Stp.gx (s : Stp md own H md1 own1 H1) : Gx md (or2 av0 own) H md1 (or2 av0 own1) H1 := ⟨s.same, fun a o e => by
  obtain ⟨h, n1, n2⟩ := Hb.of e
  obtain ⟨h1, h2, h3⟩ := s.keep a o h n2 fun z => n1 (.inr z)
  exact Hb.get h1 (fun z => z.elim (fun z => n1 (.inl z)) h3) h2⟩
theorem ss_loop {st : Stmt} {tg : Tg} {it : Ev.It} {body : List Sm} (hK : C.K = X.K) (h : PS X st (tFor (tI C F W it) (gTg X.K tg) (tSs C F up W body))) : PS X st (tS C F up W (.loop tg it body)) := h.imp fun D σ H ⟨av0, md, own, m, env, r, q⟩ => by
  simp only [exS] at q
  refine ⟨md, _, m, env, r, (q.on (R := ItOk C _) r).mono fun J H1 ⟨items, md1, m1, f1, r1, hJ, re, q⟩ => ?_⟩
  refine ⟨fun i k σ' H' => k = items.length - i ∧ i ≤ items.length ∧ ∃ md' own' m' env', Stp md1 own H1 md' own' H' ∧ RE C md' (or2 av0 own') H' m' σ' env' ∧ outS C W av0 md1 own H1 (loopS tg (fun e m => exSs F up body e m) (items.drop i) env' m') D, ⟨items.length, rfl, Nat.zero_le _, md1, own, m1, env, Stp.refl _ _ _, re, q⟩, ?_⟩
  rintro i k σ2 H2 ⟨rfl, hi, md2, own2, m2, env2, f2, re2, q2⟩
  by_cases hlt : i < items.length
  · refine .inr ⟨hJ.go md2 _ H2 i f2.gx hlt, fun σ' H' => ∃ k', k' = items.length - (i + 1) ∧ (k' = items.length - (i + 1) ∧ i + 1 ≤ items.length ∧ ∃ md' own' m' env', Stp md1 own H1 md' own' H' ∧ RE C md' (or2 av0 own') H' m' σ' env' ∧ outS C W av0 md1 own H1 (loopS tg (fun e m => exSs F up body e m) (items.drop (i + 1)) env' m') D), fun σ' H' ⟨k', e, w⟩ => ⟨k', by omega, w⟩, ?_⟩
    intro x H3 hy
    have hd : items[i]? = some items[i] := List.getElem?_eq_getElem hlt
    rw [List.drop_eq_getElem_cons hlt] at q2
    obtain ⟨ext3, rep3⟩ := hJ.yld md2 m2 _ H2 i x H3 _ f2.gx re2.mr re2.avn hy hd
    have re3 := re2.ext ext3
    have f3 : Stp md1 own H1 md2 own2 H3 := f2.trans (Stp.of_fr (Fr.of_ext re2.mr ext3))
    simp only [loopS] at q2
    cases hb : bindT tg items[i] env2 with
    | none => rw [hb] at q2; exact q2.elim
    | some env3 =>
      rw [hb] at q2
      dsimp only at q2
      refine bind_ok hK tg _ x σ2 env2 env3 tg.slots _ re3 rep3 hb (fun _ h => h) fun σ3 r3 _ => ⟨av0, md2, own2, m2, env3, r3, ?_⟩
      cases eb : exSs F up body env3 m2 with
      | nx e4 m4 =>
        rw [eb] at q2
        exact fun md' own' σ' H' f' r' => ⟨_, rfl, rfl, hlt, md', own', m4, e4, f3.trans f', r', q2⟩
      | ct e4 m4 =>
        rw [eb] at q2
        exact fun md' own' σ' H' f' r' => ⟨_, rfl, rfl, hlt, md', own', m4, e4, f3.trans f', r', q2⟩
      | rt d m4 =>
        rw [eb] at q2
        exact outS.later f3 q2
      | xc c d e4 m4 =>
        rw [eb] at q2
        exact outS.later f3 q2
      | bad => rw [eb] at q2; exact q2.elim
  · have hie : i = items.length := by omega
    subst hie
    refine .inl ⟨hJ.stop md2 _ H2 _ f2.gx (Nat.le_refl _), ?_⟩
    rw [List.drop_length] at q2
    exact (outS.later f2 q2).nx re2
theorem onO_bind {α β : Type} {env : Env} {x : M α} {f : α → M β} {k : β → Option MSt → SOut} {m : Option MSt} : onO env (M.bind x f m) k = onO env (x m) fun a m1 => onO env (f a m1) k := by
  unfold M.bind onO
  cases x m <;> rfl
theorem ss_par {st : Stmt} {i j : Nat} {a b : Ex} (ha : a.isStar = false) (hb : b.isStar = false) (h : PS X st (tPar i j (tEs C F W [a, b]))) : PS X st (tS C F up W (.asg (.t [.v i, .v j]) (.tup [a, b]))) := h.imp fun D σ H ⟨av0, md, own, m, env, r, q⟩ => by
  simp only [exS, ev] at q
  rw [onO_bind] at q
  refine ⟨md, _, m, env, r, (q.on (R := RDs C _) r).mono fun xs H1 ⟨ds, md1, m1, f1, r1, hx, re, q⟩ => ?_⟩
  split at q
  · have q : outS C W av0 md1 own H1 (match bindTs [.v i, .v j] ds env with | some env1 => SOut.nx env1 m1 | none => SOut.bad) D := q
    match ds, hx, q with
    | [], _, q => exact q.elim
    | [_], _, q => exact q.elim
    | _ :: _ :: _ :: _, _, q => exact q.elim
    | [d, e], hx, q =>
      simp only [RDs, Reps] at hx
      obtain ⟨v, r2, rfl, h1, w, r3, rfl, h2, rfl⟩ := hx
      exact ⟨v, w, rfl, q.nx ((re.put h1).put h2)⟩
  · exact q.elim
theorem ss_par3 {st : Stmt} {i j l : Nat} {a b c : Ex} (h : PS X st (tPar3 i j l (tEs C F W [a, b, c]))) : PS X st (tS C F up W (.asg (.t [.v i, .v j, .v l]) (.tup [a, b, c]))) := h.imp fun D σ H ⟨av0, md, own, m, env, r, q⟩ => by
  simp only [exS, ev] at q
  rw [onO_bind] at q
  refine ⟨md, _, m, env, r, (q.on (R := RDs C _) r).mono fun xs H1 ⟨ds, md1, m1, f1, r1, hx, re, q⟩ => ?_⟩
  split at q
  · have q : outS C W av0 md1 own H1 (match bindTs [.v i, .v j, .v l] ds env with | some env1 => SOut.nx env1 m1 | none => SOut.bad) D := q
    match ds, hx, q with
    | [], _, q => exact q.elim
    | [_], _, q => exact q.elim
    | [_, _], _, q => exact q.elim
    | _ :: _ :: _ :: _ :: _, _, q => exact q.elim
    | [d, e, g], hx, q =>
      simp only [RDs, Reps] at hx
      obtain ⟨v, r2, rfl, h1, w, r3, rfl, h2, u, r4, rfl, h3, rfl⟩ := hx
      exact ⟨v, w, u, rfl, q.nx (((re.put h1).put h2).put h3)⟩
  · exact q.elim
end
end Ev
set_option Elab.async false
set_option linter.all false
set_option maxRecDepth 100000
set_option maxHeartbeats 2000000
/-! Ev16: the text's own exceptions: __init__ says super().__init__(..), self.f = f. -/
namespace Ev
open PySem PySem.W PySem.Calls PyProof.Rows PySem.HandSPX
def xA (f : Str) (p1 p2 : Pos) : Arguments := { posonlyargs := [], args := [{ arg := "self", annotation := none, pos := p1 }, { arg := f, annotation := none, pos := p2 }], vararg := none, kwonlyargs := [], kw_defaults := [], kwarg := none, defaults := [] }
def xB (f msg : Str) (j : Nat) (q1 q2 q3 q4 q5 q6 q7 q8 q9 q10 : Pos) : List Stmt := [.Expr (.Call (.Attribute (.Call (.Name "super" q1) [] [] q2) "__init__" q3) [.Constant (.str msg) j q4] [] q5) q6, .Assign [.Attribute (.Name "self" q7) f q8] (.Name f q9) q10]
def xS (f : Str) : Scope := { kind := .function, names := [(PySem.Str.ofString "self", .local), (f, .local), (PySem.Str.ofString "__class__", .free), (PySem.Str.ofString "super", .globalImplicit)], isGenerator := false, isCoroutine := false, more := [] }
def flds : List Str := ["value", "place", "number", "line", "weights", "most"]
/-- what is known of the built-in base -/
structure XBase (B newId initId : String) (bmB : List Value) : Prop where
  fb : ExcBaseFacts B newId initId bmB
  kx : KxsFacts B initId
  pass : ∀ self, refuseLoop self "__setattr__" bmB = pure ()
  obj : bmB.contains (.type "object") = true
theorem xb_ve : XBase "ValueError" "ValueError.__new__" "ValueError.__init__" [.type "ValueError", .type "Exception", .type "BaseException", .type "object"] := ⟨F.excBase_ValueError, kxs_ValueError, F.store_ValueError.passes, by decide +kernel⟩
theorem xb_le : XBase "LookupError" "LookupError.__new__" "LookupError.__init__" [.type "LookupError", .type "Exception", .type "BaseException", .type "object"] := ⟨F.excBase_LookupError, kxs_LookupError, F.store_LookupError.passes, by decide +kernel⟩
theorem xb_oe : XBase "OverflowError" "OverflowError.__new__" "OverflowError.__init__" [.type "OverflowError", .type "ArithmeticError", .type "Exception", .type "BaseException", .type "object"] := ⟨F.excBase_OverflowError, kxs_OverflowError, F.store_OverflowError.passes, by decide +kernel⟩
theorem along_refs {K : Frag} {name : Str} {r : Option Value} : True := trivial
/-- what the written part says of the class c, at C, of its __init__, at fI -/
structure ErrTxt (P : Program) (K : Frag) (mg : Str → Option Value) (c f : Str) (C fI : Addr) : Prop where
  fl : f ∈ flds
  gC : mg c = some (.ref C)
  cls : ∃ (B newId initId : String) (bmB : List Value) (nm q : Str) (N : Addr) (bs : List Value) (rs : List Addr) (sn : List Str) (sub : List Value) (ab : Bool) (col : Option Bool) (dd : Option Addr) (k0 k1 k2 k3 k5 : Option Value), XBase B newId initId bmB ∧ K.lookup C = some (excClassObj nm q C N bs (rs.map Value.ref ++ bmB) true sn sub ab col dd k0 k1 k2 k3 k5 newId) ∧
    alongIn K "__init__" (rs.map Value.ref ++ bmB) = some (some (.builtin initId)) ∧ subIn K (.ref C) (.type B) = some true
  sa : findIn K (.ref C) "__setattr__" = some (some (.builtin "object.__setattr__"))
  ga : findIn K (.ref C) "__getattribute__" = some (some (.builtin "BaseException.__getattribute__"))
  gg : findIn K (.ref C) "__getattr__" = some none
  noN : findIn K (.ref C) f = some none
  iC : findIn K (.ref C) "__init__" = some (some (.ref fI))
  tC : typeIn K (.ref fI) = some (.type "function")
  kC : keepIn K (.ref C) = true
  exC : subIn K (.ref C) (.type "BaseException") = some true
  tyC : typeIn K (.ref C) = some (.type "type")
  hdC : hasDictIn K C = true
  slf : mroIn K C (.ref C) = some true
  opq : nsIn K cStatics "thirdparty.any" = some none
  sup : mg "super" = none
  top : (P.main.scope.names.lookup ("super" : Str)).isSome = false
  fn : ∃ (oc : Value) (od : Option Addr) (doc pm : Value) (an : Option Addr) (cda : Addr) (ct : Value) (cc : Addr) (osl : Array (Option Value)) (qual msg : Str) (j : Nat) (p1 p2 q1 q2 q3 q4 q5 q6 q7 q8 q9 q10 : Pos),
    K.lookup fI = some ⟨oc, od, .func (ksFn "__init__" qual (xA f p1 p2) (xB f msg j q1 q2 q3 q4 q5 q6 q7 q8 q9 q10) (xS f) .none .none doc pm an (.ref cda) ct cc), osl⟩ ∧ codeIn K (.ref cda) qual = true ∧ (q3.endLine == q5.line) = true ∧
    (∃ cl cld csl, K.lookup cc = some ⟨cl, cld, .cell (some (.ref C)), csl⟩) ∧ ∃ ccl cdd vs ccs file tf, K.lookup cda = some ⟨ccl, cdd, .fields vs, ccs⟩ ∧ vs[2]? = some (.str file tf) ∧ ((P.main.file : Str) == file) = true
/-- what __init__ leaves of a fresh exception at x -/
structure XEnd (h h' : Heap) (f : Str) (x C dx : Addr) (v : Value) : Prop where
  keep : ∀ b o, b ≠ x → h.get? b = some o → h'.get? b = some o
  obj : ∃ t1, h'.get? x = some { cls := .ref C, dict := some dx, data := .fields #[.ref t1, .none, .none, .none, .bool false, .none] }
  dbig : h.objs.size ≤ dx
  dne : dx ≠ x
  ns : h'.Ns1 dx (fun y => if y = f then some v else none)
theorem contains_app {rs : List Addr} {l : List Value} (X : String) : (rs.map Value.ref ++ l).contains (.type X) = l.contains (.type X) := by
  induction rs with
  | nil => rfl
  | cons a r ih => rw [List.map_cons, List.cons_append, List.contains_cons, ih]; rfl
theorem pass_app {self : Value} {l : List Value} (h : refuseLoop self "__setattr__" l = pure ()) : ∀ rs : List Addr, refuseLoop self "__setattr__" (rs.map Value.ref ++ l) = pure ()
  | [] => h
  | a :: r => by
    rw [List.map_cons, List.cons_append, refuseLoop_ref]
    exact pass_app h r
section
variable {prog : Program} {w : World} {A : Around} {E : Value → Shared → Prop} {R : Result → Shared → Prop} {hp : Heap} {g : Array GenState} {d : Drawn} {t : Nat} {os : OsState}
theorem exc_osa' {K : W.Frag} {name : Str} {tk : Tok} {v : Value} {x C : Addr} {fv : Array Value} {cd : ClassData}
    (X : K.In hp) (hx : hp.get? x = some { cls := .ref C, data := .fields fv }) (hcd : W.clsIn K C = some cd) (hpa : ∀ self, refuseLoop self "__setattr__" cd.mro = pure ()) (hob : cd.mro.contains (.type "object") = true) (ne : cd.mro.isEmpty = false) (hh : cd.hasDict = true) (ha : W.findIn K (.ref C) name = some none)
    (hq : ∀ h' tk' dx, (∀ b o, b ≠ x → hp.get? b = some o → h'.get? b = some o) → hp.objs.size ≤ dx → dx ≠ x → h'.get? x = some { cls := .ref C, dict := some dx, data := .fields fv } →
      h'.Ns1 dx (fun y => if y = name then some v else none) → R (.ok (.ret .none)) ⟨h', g, d, tk', os⟩) :
    codeAny (model prog w) A (.call (.builtin "object.__setattr__") ⟨[.ref x, .str name tk, v], []⟩) R ⟨hp, g, d, t, os⟩ := by
  have I : W.InstAt hp x { cls := .ref C, data := .fields fv } C none := ⟨hx, rfl, rfl, trivial⟩
  have SF := F.store_object
  have hxs : x ≠ hp.objs.size := Nat.ne_of_lt (Heap.lt_size hx)
  have sub : W.Looks (model prog w) hp (isInstance (.ref x) (.type "object")) true := I.type.andThen (W.looks_mroIn X (by unfold W.mroIn; rw [hcd, Option.bind_some, if_neg (by rw [ne]; decide), hob]))
  refine codeAny_call_builtin SF.slot.plain SF.entry (@W.check_slot (model prog w) _ _ ⟨hp, g, d, t, os⟩ "object.__setattr__" "object" "__setattr__" (.ref x) [.str name tk, v] [] _ SF.kind SF.split sub (SF.args (.ref x) (.str name tk) v) ?_)
  have hmr : W.Looks (model prog w) hp (mroOf (.ref C)) cd.mro := (W.looks_clsIn X hcd).andThen .now
  have L3 : W.Looks (model prog w) hp (Builtin.ObjectAttr.storeTaker? none) none := .now
  have hcls : W.Looks (model prog w) hp (classData C) cd := W.looks_clsIn X hcd
  rw [W.osa_eq, refuse_eq]
  refine wpAny_bind (wpAny_bind (I.type.at (wpAny_bind (hmr.at ?_))))
  rw [hpa]
  refine wpAny_pure (wpAny_bind (I.type.at (wpAny_bind ((W.looks_findIn X ha).at (wpAny_bind (L3.at ?_))))))
  show wpAny _ _ (Builtin.ObjectAttr.storeInOwnDict (.ref x) (.ref C) (.str name tk) name v false) _ _ _
  obtain ⟨nm, bs, mro, ns, qn, hd, sn, sb, ab, col, del⟩ := cd
  dsimp only at hh
  subst hh
  unfold Builtin.ObjectAttr.storeInOwnDict Builtin.ObjectAttr.ownDictForStores
  repeat (first | with_reducible refine store_in_new ?_ ?_ | with_reducible refine wpAny_loadPart_at hx ?_ | with_reducible refine hcls.at ?_ | wp_step)
  · exact ⟨_, #[], _, (Heap.get?_update_ne _ _ _ _ hxs.symm).trans (Heap.get?_push_at rfl rfl), rfl, fun e he => absurd he (by simp), fun _ => rfl⟩
  · intro h' tk' hn' hs
    have hx₁ : (hp.push { cls := .type "dict", data := .dict #[] }).get? x = some { cls := .ref C, data := .fields fv } := Heap.get?_push_of_some _ hx
    refine hq h' tk' hp.objs.size (fun b o hb ho => ?_) (Nat.le_refl _) hxs.symm ?_ hn'
    · exact (hs.2 b (Nat.ne_of_lt (Heap.lt_size ho))).trans ((Heap.get?_update_ne _ _ _ _ hb).trans (Heap.get?_push_of_some _ ho))
    · exact (hs.2 x hxs).trans (Heap.get?_update_self _ hx₁ rfl)
end
section
variable {prog : Program} {w : World} {A : Around} {E : Value → Shared → Prop} {R : Result → Shared → Prop} {s : Shared} {K : Frag} {mg mb : Str → Option Value} {c f : Str} {C fI : Addr}
theorem xS_look (h : f ∈ flds) : (xS f).names.lookup ("self" : Str) = some .local ∧ (xS f).names.lookup f = some .local ∧ (xS f).names.lookup ("__class__" : Str) = some .free ∧ (xS f).names.lookup ("super" : Str) = some .globalImplicit ∧ (f == ("__debug__" : Str)) = false ∧ (("self" : Str) == f) = false := by
  unfold flds at h
  simp only [List.mem_cons, List.not_mem_nil, or_false] at h
  rcases h with rfl | rfl | rfl | rfl | rfl | rfl <;> decide +kernel
theorem x_binds {x : Addr} {v : Value} {fd : FuncData} {p1 p2 : Pos} (h : f ∈ flds) (h1 : fd.params = xA f p1 p2) (h2 : fd.defaults = .none) (h3 : fd.kwdefaults = .none) : bindArgs fd ⟨[.ref x, v], []⟩ = pure [(("self" : Str), Value.ref x), (f, v)] := by
  obtain ⟨a1, a2, a3, a4, a5, a6, a7, a8, a9, a10, a11, a12, a13, a14, a15⟩ := fd
  dsimp only at h1 h2 h3
  subst h1 h2 h3
  unfold flds at h
  simp only [List.mem_cons, List.not_mem_nil, or_false] at h
  rcases h with rfl | rfl | rfl | rfl | rfl | rfl <;> first | rfl | with_unfolding_all rfl
theorem x_init (T : ErrTxt prog K mg c f C fI) {x t0 : Addr} {v : Value} (X : K.In s.heap) (hlim : s.heap.NoLimit) (hG : s.heap.Ns mainGlobals mg) (hB : s.heap.Ns builtinsNs mb) (hb : ∀ x : Str, x ≠ "__name__" → mb x = bootBuiltins x) (hx : s.heap.get? x = some (excO C t0)) (hnx : K.lookup x = none) (hroom : A.depth < recursionLimit)
    (hq : ∀ h' tk dx, XEnd s.heap h' f x C dx v → R (.ok (.ret .none)) { s with heap := h', toks := tk }) :
    codeAny (model prog w) A (.call (.ref fI) ⟨[.ref x, v], []⟩) R s := by
  obtain ⟨oc, od, doc, pm, an, cda, ct, cc, osl, qual, msg, j, p1, p2, q1, q2, q3, q4, q5, q6, q7, q8, q9, q10, ho, hcd, hline, ⟨cl, cld, csl, hcell⟩, ccl, cdd, vs, ccs, file, tf, hcode, hvs, hfile⟩ := T.fn
  obtain ⟨B, newId, initId, bmB, nm, q, N, bs, rs, sn, sub, ab, col, dd, k0, k1, k2, k3, k5, XB, hC, hal, hsubB⟩ := T.cls
  obtain ⟨l1, l2, l3, l4, l5, l6⟩ := xS_look T.fl
  have hcl : clsIn K C = some { name := nm, bases := bs, mro := .ref C :: (rs.map Value.ref ++ bmB), ns := N, qualname := q, hasDict := true, slotNames := sn, subclasses := sub, abstract := ab, collection := col, hasDel := false } := by unfold clsIn; rw [hC] <;> rfl
  have hxC : x ≠ C := fun z => by rw [z, hC] at hnx; cases hnx
  refine ks_codeAny_call_defAt (fd := ksFn "__init__" qual (xA f p1 p2) (xB f msg j q1 q2 q3 q4 q5 q6 q7 q8 q9 q10) (xS f) .none .none doc pm an (.ref cda) ct cc) (body := xB f msg j q1 q2 q3 q4 q5 q6 q7 q8 q9 q10) (binds := [("self", .ref x), (f, v)]) hroom (X _ _ ho) rfl hlim (codeRec_of X hcd) rfl ?_ ?_ ?_ (fun h₁ hns k => ?_) rfl rfl rfl
  · exact BindsTo.of_eq (x_binds T.fl rfl rfl rfl)
  · intro y hy
    unfold ksFn fnX xS at hy
    simp only [List.mem_cons, List.not_mem_nil, or_false] at hy
    rcases hy with rfl | rfl | rfl | rfl <;> simp
  · intro y hy
    simp only [List.mem_cons, List.not_mem_nil, or_false] at hy
    rcases hy with rfl | rfl
    · exact l1
    · exact l2
  · have X₁ : K.In h₁ := X.keeps k
    have hx₁ := k _ _ hx
    have hxs : x < s.heap.objs.size := Heap.lt_size hx
    have hself : ([(("self" : Str), Value.ref x), (f, v)] : List (Str × Value)).reverse.lookup ("self" : Str) = some (.ref x) := by
      show List.lookup ("self" : Str) [(f, v), ("self", Value.ref x)] = _
      rw [List.lookup_cons, l6]; rfl
    have hval : ([(("self" : Str), Value.ref x), (f, v)] : List (Str × Value)).reverse.lookup f = some v := by
      show List.lookup f [(f, v), ("self", Value.ref x)] = _
      rw [List.lookup_cons, beq_self_eq_true]
    have I1 : InstAt h₁ x (excO C t0) C none := ⟨hx₁, rfl, rfl, trivial⟩
    show _root_.PySem.wpAt _ _ (.func _ (ksEnv qual (xS f) s.heap.objs.size fI (.ref cda) cc)) (execs _ (ksEnv qual (xS f) s.heap.objs.size fI (.ref cda) cc)) _ _ _
    refine ks_wpAt_execs_cons (ks_wpAt_Expr_any ?_)
    rw [arm_eval_Call]
    refine _root_.PySem.wpAt_bind (ks_wpAt_super_base (env := ksEnv qual (xS f) s.heap.objs.size fI (.ref cda) cc) l4 l3 (by decide +kernel) rfl (X₁ _ _ ho) rfl rfl rfl (X₁ _ _ hcode) rfl hvs hfile T.top ?_)
    refine ks_loadName_global rfl l4 (loadGlobal_builtin (env := ksEnv qual (xS f) s.heap.objs.size fI (.ref cda) cc) (hG.keeps k) T.sup (hB.keeps k) ((hb _ (by decide +kernel)).trans (by decide +kernel)) ⟨rfl, ?_⟩)
    refine wpAny_loadName_free rfl l3 rfl ⟨_, X₁ _ _ hcell, rfl⟩ ?_
    refine wpAny_loadName_local rfl l1 hns hself ?_
    refine ks_wpAny_isType_cls (X₁ _ _ hC) rfl ⟨rfl, ?_⟩
    refine ks_wpAny_call_super (X₁ _ _ hC) rfl hx₁ rfl (fun c e => by cases e) (looks_mroIn X₁ T.slf) (fun h₂ e₂ k₂ => ?_)
    have X₂ : K.In h₂ := X₁.keeps k₂
    have hx₂ := k₂ _ _ hx₁
    have I2 : InstAt h₂ x (excO C t0) C none := ⟨hx₂, rfl, rfl, trivial⟩
    have hI : Looks (model prog w) h₂ (isInstance (.ref x) (.type B)) true := I2.type.andThen (looks_subIn X₂ hsubB)
    refine _root_.PySem.wpAt_of_wpAny (wpAny_bind (wpAny_standAt ?_))
    have hform : methodCallForm ([Expr.Constant (.str msg) j q4].length + ([] : List Keyword).length) (backTo q5 (starEach [Expr.Constant (.str msg) j q4] (ksEnv qual (xS f) s.heap.objs.size fI (.ref cda) cc))) (backToKw q5 (keywordEach [] (ksEnv qual (xS f) s.heap.objs.size fI (.ref cda) cc))) = true := rfl
    have hpos : methodCallPos true (.Call (.Name "super" q1) [] [] q2) (ksEnv qual (xS f) s.heap.objs.size fI (.ref cda) cc) q3 q5 = pure q5 := by unfold methodCallPos; simp [hline]
    unfold methodCall
    rw [hform]
    refine wpAny_bind (wpAny_holding ?_)
    refine kxs_getMethod XB.kx e₂ (looks_opaque X₂ T.opq) (l₀ := .ref C :: (rs.map Value.ref ++ bmB)) (fun A Q E s k q => wpAny_bind ((looks_clsIn X₂ hcl) A _ E s k (wpAny_pure q))) (by simp [List.dropWhile_cons]) X₂ hal hI hxC (by decide +kernel) ?_
    have k₃ : ∀ b o, h₂.get? b = some o → (h₂.push (kxs_mw initId x)).get? b = some o := fun b o e => Heap.get?_push_of_some _ e
    have X₃ : K.In (h₂.push (kxs_mw initId x)) := X₂.keeps k₃
    have hx₃ := k₃ _ _ hx₂
    have hu : (h₂.push (kxs_mw initId x)).get? h₂.objs.size = some (kxs_mw initId x) := Heap.get?_push_at rfl rfl
    refine wpAny_bind (wpAny_of_eq hpos ?_)
    show wpAny _ _ (callWith q5 (.ref h₂.objs.size) [] ((false, eval (.Constant (.str msg) j q4) (ksEnv qual (xS f) s.heap.objs.size fI (.ref cda) cc)) :: backTo q5 (starEach [] (ksEnv qual (xS f) s.heap.objs.size fI (.ref cda) cc))) []) _ _ _
    refine kxs_callWith (i := initId) (x := x) rfl (evalArgs_plain (Calls.spliced_cons (Calls.Constant_str (Calls.spliced_nil ⟨hu, ?_⟩))))
    refine wpAny_call (codeAny_of_tree ?_)
    show wpAny _ _ (callAny (.ref h₂.objs.size) _) _ _ _
    simp only [callAny]
    refine wpAny_bind (wpAny_load hu ?_)
    simp only [kxs_mw, show (Value.type "method-wrapper" == Value.type "method" || Value.type "method-wrapper" == Value.type "builtin_function_or_method" || Value.type "method-wrapper" == Value.type "method-wrapper") = true by decide, if_true]
    refine KFB.if_so (by decide) ?_
    refine wpAny_bind (check_bound_init XB.fb.toExcCallFacts (X₃ _ _ hC) hx₃ rfl ?_)
    refine wpAny_bind (wpAny_pure (wpAny_pure ?_))
    refine ⟨plainId_quiet XB.fb.init.plain _, codeAny_builtin XB.fb.initEntry ?_⟩
    refine exc_init_tree (cls := .ref C) (t0 := t0) (dv := none) (c2 := .none) (c3 := .none) (b4 := .bool false) hx₃ (by show 1 ≤ sizeLine; decide) fun h₄ k₄ hx₄ _ => ?_
    have hx₄ : h₄.get? x = some (excO C (h₂.push (kxs_mw initId x)).objs.size) := hx₄
    have kAll : ∀ b o, b ≠ x → s.heap.get? b = some o → h₄.get? b = some o := fun b o hb e => k₄ b o hb (k₃ b o (k₂ b o (k b o e)))
    have X₄ : K.In h₄ := fun a o e => kAll a o (fun z => by rw [z, hnx] at e; cases e) (X a o e)
    have hn₄ : h₄.Ns s.heap.objs.size fun y => ([(("self" : Str), Value.ref x), (f, v)] : List (Str × Value)).reverse.lookup y := by
      obtain ⟨oL, es, ep, hL, r⟩ := hns
      exact ⟨oL, es, ep, k₄ _ _ (fun z => absurd hxs (by rw [← z]; exact Nat.lt_irrefl _)) (k₃ _ _ (k₂ _ _ hL)), r⟩
    have hsz : s.heap.objs.size < h₄.objs.size := hn₄.lt
    show _root_.PySem.wpAt _ _ _ (execs [.Assign [.Attribute (.Name "self" q7) f q8] (.Name f q9) q10] (ksEnv qual (xS f) s.heap.objs.size fI (.ref cda) cc)) _ _ _
    refine ks_wpAt_execs_cons (ks_wpAt_Assign_Attr (_root_.PySem.wpAt_of_wpAny (wpAny_Name (wpAny_loadName_local rfl l2 hn₄ hval ?_) l5)))
    refine wpAny_Name (wpAny_loadName_local rfl l1 hn₄ hself ?_) (by decide)
    refine set_plain X₄ (ox := excO C (h₂.push (kxs_mw initId x)).objs.size) (od := none) ⟨hx₄, rfl, rfl, trivial⟩ T.sa ?_
    refine exc_osa' X₄ hx₄ hcl (fun self => by rw [refuseLoop_ref]; exact pass_app (XB.pass self) rs) (by rw [List.contains_cons, contains_app, XB.obj, Bool.or_true]) rfl rfl T.noN (fun h₅ tk₅ dx k₅ dn dne hx₅ hn₅ => ?_)
    refine _root_.PySem.wpAt_of_wpAny (wpAny_execs_nil ?_)
    exact hq h₅ tk₅ dx ⟨fun b o hb e => k₅ b o hb (kAll b o hb e), ⟨_, hx₅⟩, Nat.le_of_lt (Nat.lt_of_lt_of_le hsz dn), dne, hn₅⟩
/-- a made exception -/
structure XMade (h h' : Heap) (f : Str) (e C d : Addr) (v : Value) : Prop where
  keep : ∀ b o, h.get? b = some o → h'.get? b = some o
  new : h.objs.size ≤ e
  obj : ∃ oe vs, h'.get? e = some oe ∧ oe.cls = .ref C ∧ oe.dict = some d ∧ oe.data = .fields vs ∧ vs[1]? = some .none
  dbig : h.objs.size ≤ d
  dne : d ≠ e
  ns : h'.Ns1 d (fun y => if y = f then some v else none)
theorem one_size (v : Value) : [v].length ≤ sizeLine := by
  rw [sizeLine_eq]
  exact (by decide : 1 ≤ 16777216)
theorem x_made (T : ErrTxt prog K mg c f C fI) {v : Value} (X : K.In s.heap) (hlim : s.heap.NoLimit) (hG : s.heap.Ns mainGlobals mg) (hB : s.heap.Ns builtinsNs mb) (hb : ∀ x : Str, x ≠ "__name__" → mb x = bootBuiltins x) (hroom : A.depth + 1 < recursionLimit)
    (hq : ∀ h' tk e d, XMade s.heap h' f e C d v → R (.ok (.ret (.ref e))) { s with heap := h', toks := tk }) :
    codeAny (model prog w) A (.call (.ref C) ⟨[v], []⟩) R s := by
  obtain ⟨B, newId, initId, bmB, nm, q, N, bs, rs, sn, sub, ab, col, dd, k0, k1, k2, k3, k5, XB, hC, hal, hsubB⟩ := T.cls
  obtain ⟨hp, g, dr, tk, os⟩ := s
  have k : ∀ b o, hp.get? b = some o → ((hp.push (kdv_tup [v])).push (excO C hp.objs.size)).get? b = some o := fun b o e => Heap.get?_push_of_some _ (Heap.get?_push_of_some _ e)
  have hget : ((hp.push (kdv_tup [v])).push (excO C hp.objs.size)).get? (hp.objs.size + 1) = some (excO C hp.objs.size) := by heap_get
  have hnx : K.lookup (hp.objs.size + 1) = none := by
    cases e : K.lookup (hp.objs.size + 1) with
    | none => rfl
    | some o =>
      have z : hp.get? (hp.objs.size + 1) = some o := X _ _ e
      exact absurd (Nat.lt_of_succ_lt (Heap.lt_size z)) (Nat.lt_irrefl _)
  refine call_own XB.fb (fun X => contains_app X) (X _ _ hC) (looks_findIn X T.iC) (fun self => bind_fn X self T.tC) (one_size v) ?_
  refine x_init (s := ⟨(hp.push (kdv_tup [v])).push (excO C hp.objs.size), g, dr, tk, os⟩) (mb := mb) T (X.keeps k) (hlim.keeps k) (hG.keeps k) (hB.keeps k) hb hget hnx ?_ fun h' tk' dx ⟨k', ⟨t1, hx⟩, dn, dne, hns⟩ => ?_
  · show A.depth + 1 < recursionLimit
    exact hroom
  · have old : ∀ b o, hp.get? b = some o → h'.get? b = some o := fun b o e => k' b o (Nat.ne_of_lt (Nat.lt_succ_of_lt (Heap.lt_size e))) (k b o e)
    have z : hp.objs.size + 1 + 1 ≤ dx := by
      first
        | (simpa only [Heap.size_push] using dn)
        | exact dn
        | (have q := dn; rw [Heap.size_push, Heap.size_push] at q; exact q)
    exact ⟨rfl, hq h' tk' (hp.objs.size + 1) dx ⟨old, Nat.le_succ _, ⟨_, _, hx, rfl, rfl, rfl, rfl⟩, Nat.le_trans (Nat.le_trans (Nat.le_succ _) (Nat.le_succ _)) z, dne, hns⟩⟩
end
end Ev
namespace Ev
open PySem PySem.Spec PyProof.Rows L2 Classical
theorem relO_fld {v : V} {v' : Value} {f : Str} (r : RelV v v') (y : Str) : RelO (List.lookup y [(f, v)]) (if y = f then some v' else none) := by
  by_cases hw : y = f
  · subst hw
    rw [if_pos rfl, List.lookup_cons, beq_self_eq_true]
    exact r
  · rw [if_neg hw]
    have qw : (y == f) = false := by simpa using hw
    rw [List.lookup_cons, qw]
    trivial
section
variable {X : Cx} {C fI : Addr} {c f : Str}
/-- c(e) -/
def tMkX (A : Addr) (f : Str) (ta : TA) : L2.St → Hp → XK → Prop := fun σ H Q => ta σ H fun vs H1 => ∃ v, vs = [v] ∧ ∀ d, H1 d = none → Q (.ref A) (some d) (upd H1 d (.xd [(f, v)]))
theorem pmk_own {a : Expr} {ta : TA} {p pos : Pos} {k : Nat} (T : ErrTxt X.prog X.K X.mg c f C fI) (hr : Room (k + 1) X.A) (ha : PA X [a] ta) (hg : Gl X c) (hdb : (c == ("__debug__" : Str)) = false)
    (he : starEach (a :: []) X.env = (false, eval a X.env) :: starEach [] X.env) :
    PMk X (.Call (.Name c p) [a] [] pos) (tMkX C f ta) := by
  intro pins s σ H Q I h
  refine wpAny_Call_Name_kw (ld_glob I hg T.gC ?_ hdb)
  refine PySem.W.callWith_K (h₀ := X.base) I.ok.mod.kin T.kC (thn (ha.run pos pins s σ H _ I h) fun us s1 hh => ?_) he rfl
  obtain ⟨vs, H1, I1, r1, v, ev, q1⟩ := hh
  subst ev
  refine ⟨I1.kIn, ?_⟩
  cases r1 with
  | cons rv rn =>
    rename_i v' us'
    cases rn
    show wpAny _ _ (call (.ref C) [v']) _ _ _
    have hlim := I1.nolimit
    obtain ⟨mb, hb1, hb2⟩ := I1.mod.blt
    have hG := I1.mod.glob.keeps I1.bk
    have hB := hb1.keeps I1.bk
    obtain ⟨hp, g, dr, tk, os⟩ := s1
    refine wpAny_call (x_made T I1.kIn hlim hG hB hb2 (by have := hr.dp; omega) fun h' tk' e d M => ?_)
    show MkP X pins σ Q (.ref e) ⟨h', g, dr, tk', os⟩
    obtain ⟨oe, fv, hoe, hc, hd, hdat, h1⟩ := M.obj
    have hns := M.ns
    obtain ⟨G', g1, g2⟩ := restrict h' fun b => decide (b ≠ e)
    have gk : ∀ b, b ≠ e → G'.get? b = h'.get? b := fun b hb => g1 b (decide_eq_true hb)
    have ge : G'.get? e = none := g2 e (by simp)
    have old : ∀ b o, hp.get? b = some o → G'.get? b = some o := fun b o q => (gk b (Nat.ne_of_lt (Nat.lt_of_lt_of_le (Heap.lt_size q) M.new))).trans (M.keep b o q)
    have ob : ObjOk X.prog X.w (upd H1 d (.xd [(f, v)])) G' d (.xd [(f, v)]) :=
      ⟨_, hns.at (fun o q => (gk d M.dne).trans q), fun y => relO_fld rv y⟩
    have J : Inv X pins σ (upd H1 d (.xd [(f, v)])) ⟨G', g, dr, tk', os⟩ := I1.laid (t' := tk') old M.dbig ob
    refine ⟨e, oe, fv, ⟨G', g, dr, tk', os⟩, _, .ref C, some d, rfl, J, fun b o q => ?_, ge, hoe, ⟨hc, hd⟩, hdat, h1, ?_, rfl, I1.bare, raises_own T.exC T.tyC, q1 d (I1.hok.fresh M.dbig)⟩
    · by_cases hb : b = e
      · have q' : G'.get? b = some o := q
        rw [hb, ge] at q'; cases q'
      · exact (gk b hb).symm.trans q
    · rw [upd_ne (Ne.symm M.dne)]
      exact I1.hok.fresh M.new
end
section
variable {X : Cx} {C : RC} {F : FT} {up : List (Str × Str)} {W : WX} {A : Addr} {c f : Str}
theorem ss_rais {st : Stmt} {e : Ex} (he : e.isStar = false) (hf : f = fieldOf c) (h : PS X st (fun _ σ H => tMkX A f (tEs C F W [e]) σ H fun cls d H' => W cls d σ H')) (hA : C.cl c = some A) : PS X st (tS C F up W (.rais c e)) := h.imp fun D σ H ⟨av0, md, own, m, env, r, q⟩ => by
  simp only [exS] at q
  have e1 : onO env (ev F e env m) (fun d m1 => SOut.xc c d env m1) = onO env (evs F [e] env m) fun ds m1 => match ds with | [d] => SOut.xc c d env m1 | _ => SOut.bad := by
    rw [evs_one he]
    unfold M.bind M.ret onO
    cases ev F e env m <;> rfl
  rw [e1] at q
  refine ⟨md, _, m, env, r, (q.on (R := RDs C _) r).mono fun xs H1 ⟨ds, md1, m1, f1, r1, hx, re, q⟩ => ?_⟩
  match ds, hx, q with
  | [], _, q => exact q.elim
  | _ :: _ :: _, _, q => exact q.elim
  | [d], hx, q =>
    obtain ⟨v, rfl, hv⟩ := reps1 hx
    refine ⟨v, rfl, fun dd hd => ?_⟩
    have ex := Ext.new (o := .xd [(f, v)]) hd
    exact q md1 own σ dd _ A (Stp.of_fr (Fr.of_ext r1 ex)) (re.ext ex) ⟨v, by rw [hf]; exact upd_same, Rep.mono (fun _ e => e) (Hb.ext r1 ex) d v hv⟩ hA
end
end Ev
set_option Elab.async false
set_option linter.all false
set_option maxRecDepth 100000
set_option maxHeartbeats 1000000
/-! Ev17: try. -/
namespace Ev
open PySem L2 PyProof.Rows Classical
section
variable {C : RC} {c : Str} {i : Nat} {a A dd : Addr} {av : Addr → Prop} {md : Option Addr} {H H' : Hp} {m : Option MSt} {σ : L2.St} {env : Env} {v : D}
/-- an except suite's state: slot i holds the exception at a, its dict at dd -/
structure HS (C : RC) (c : Str) (i : Nat) (a dd : Addr) (av : Addr → Prop) (md : Option Addr) (H : Hp) (m : Option MSt) (σ : L2.St) (env : Env) (v : D) : Prop where
  re : RE C md av H m σ env
  xc : XcAt C md av H c v dd
  sl : σ[i]? = some (some (.ref a))
theorem HS.ext (h : HS C c i a dd av md H m σ env v) (e : Ext H H') : HS C c i a dd av md H' m σ env v := ⟨h.re.ext e, by
  obtain ⟨x, h1, h2⟩ := h.xc
  exact ⟨x, e _ _ h1, Rep.mono (fun _ z => z) (Hb.ext h.re.mr e) v x h2⟩, h.sl⟩
def tHx (C : RC) (c : Str) (i : Nat) (a dd : Addr) (h : Hx) : TE := fun σ H Q => ∃ md av m env v z, HS C c i a dd av md H m σ env v ∧ evH env v h = some z ∧ Pz C md av H z Q
end
section
variable {X : Cx} {C : RC} {c : Str} {i : Nat} {a A dd : Addr} {oe : Obj} {pn : List (Addr × Obj)}
theorem hx_fld {n : Str} {pos p : Pos} (T : XfC X.K A) (hno : PySem.W.findIn X.K (.ref A) (fieldOf c) = some none) (hz : Zc (.ref A) (some dd) oe) (hf : ∃ vs, oe.data = .fields vs) (hn : PE (X.suite a ((a, oe) :: pn)) (.Name n p) (tVar i)) :
    PE (X.suite a ((a, oe) :: pn)) (.Attribute (.Name n p) (fieldOf c) pos) (tHx C c i a dd .fld) := (pe_xf T hno hz hf hn).imp fun σ H Q ⟨md, av, m, env, v, z, h, e, q⟩ => by
  obtain ⟨x, h1, h2⟩ := h.xc
  simp only [evH, Option.some.injEq] at e
  subst e
  exact ⟨_, h.sl, rfl, rfl, dd, _, x, rfl, h1, by rw [List.lookup_cons, beq_self_eq_true], q.here h2⟩
theorem hx_con {X : Cx} {e : Expr} {d : D} {v : V} (h : PE X e (tC v)) (hr : ∀ md H, Rep C md H d v) : PE X e (tHx C c i a dd (.con d)) := h.imp fun σ H Q ⟨md, av, m, env, w, z, hs, e, q⟩ => by
  simp only [evH, Option.some.injEq] at e
  subst e
  exact q.here (hr _ _)
theorem hx_var {X : Cx} {e : Expr} {j : Nat} (h : PE X e (tVar j)) : PE X e (tHx C c i a dd (.var j)) := h.imp fun σ H Q ⟨md, av, m, env, w, z, hs, e, q⟩ => by
  simp only [evH] at e
  cases es : env[j]? with
  | none => rw [es] at e; cases e
  | some sl =>
    rw [es] at e
    cases sl <;> simp only [reduceCtorEq, Option.some.injEq] at e
    subst e
    obtain ⟨x, h1, h2⟩ := hs.re.sh j _ es
    exact ⟨x, h1, q.here h2⟩
theorem hx_rep {X : Cx} {e : Expr} {h : Hx} (he : PE X e (tCB (rBi C .repr) (tCons (tHx C c i a dd h) tNil))) : PE X e (tHx C c i a dd (.rep h)) := he.imp fun σ H Q ⟨md, av, m, env, w, z, hs, e, q⟩ => by
  simp only [evH] at e
  cases e1 : evH env w h with
  | none => rw [e1] at e; cases e
  | some d =>
    rw [e1] at e
    have e : biD .repr [d] = some z := e
    exact ⟨md, av, m, env, w, d, hs, e1, fun x H1 ex hx => ⟨md, av, m, [d], z, (hs.ext ex).re.gr, Reps.cons hx Reps.nil, e, fun y H2 ex2 hy => q y H2 (ex.trans ex2) hy⟩⟩
theorem hx_bin_imp {σ : L2.St} {H : Hp} {Q : VK} {o : BOp} {h k : Hx} (q : tHx C c i a dd (.bin o h k) σ H Q) : tOp (rBin C o) (tHx C c i a dd h) (tHx C c i a dd k) σ H Q := by
  obtain ⟨md, av, m, env, w, z, hs, e, q⟩ := q
  simp only [evH] at e
  cases e1 : evH env w h with
  | none => rw [e1] at e; cases e
  | some d1 =>
    cases e2 : evH env w k with
    | none => rw [e1, e2] at e; cases e
    | some d2 =>
      rw [e1, e2] at e
      have e : binD o d1 d2 = some z := e
      refine ⟨md, av, m, env, w, d1, hs, e1, fun x H1 ex hx => ⟨md, av, m, env, w, d2, hs.ext ex, e2, fun y H2 ex2 hy => ?_⟩⟩
      exact ⟨md, av, m, d1, d2, z, (hs.ext (ex.trans ex2)).re.gr, Rep.mono (fun _ e => e) (Hb.ext (hs.ext ex).re.mr ex2) d1 x hx, hy, e, fun u H3 ex3 hu => q u H3 ((ex.trans ex2).trans ex3) hu⟩
theorem hx_bin {X : Cx} {e : Expr} {o : BOp} {h k : Hx} (he : PE X e (tOp (rBin C o) (tHx C c i a dd h) (tHx C c i a dd k))) : PE X e (tHx C c i a dd (.bin o h k)) := he.imp fun σ H Q q => hx_bin_imp q
theorem hx_pair {X : Cx} {e : Expr} {h k : Hx} (he : PE X e (tTup (tCons (tHx C c i a dd h) (tCons (tHx C c i a dd k) tNil)))) : PE X e (tHx C c i a dd (.pair h k)) := he.imp fun σ H Q ⟨md, av, m, env, w, z, hs, e, q⟩ => by
  simp only [evH] at e
  cases e1 : evH env w h with
  | none => rw [e1] at e; cases e
  | some d1 =>
    cases e2 : evH env w k with
    | none => rw [e1, e2] at e; cases e
    | some d2 =>
      rw [e1, e2] at e
      have e : some (D.tup [d1, d2]) = some z := e
      cases e
      refine ⟨md, av, m, env, w, d1, hs, e1, fun x H1 ex hx => ⟨md, av, m, env, w, d2, hs.ext ex, e2, fun y H2 ex2 hy => ?_⟩⟩
      have h2 := hs.ext (ex.trans ex2)
      refine ⟨by show 2 ≤ sizeLine; decide, Pz.tup (C := C) (ds := [d1, d2]) h2.re.gr (fun u H3 ex3 hu => q u H3 ((ex.trans ex2).trans ex3) hu) ?_⟩
      exact Reps.cons (Rep.mono (fun _ e => e) (Hb.ext (hs.ext ex).re.mr ex2) d1 x hx) (Reps.cons hy Reps.nil)
end
/-! ### suites -/
def tHb (C : RC) (c : Str) (i : Nat) (a dd : Addr) : Hs → TS
  | .set j h => tAsg (tHx C c i a dd h) (gName j)
  | .ret h => tRet (tHx C c i a dd h)
  | .iff t h => tIfS (tB (tHx C c i a dd t)) (tRet (tHx C c i a dd h)) tNext
def tHs (C : RC) (k : Hd) : Addr → Value → Option Addr → TS := fun a cls d D σ H => ∃ A dd, C.cl k.cls = some A ∧ cls = .ref A ∧ d = some dd ∧ tHb C k.cls k.slot a dd k.body D σ H
/-- the classes' places in a text -/
def trHx (T : TC) (c n : Str) : Nat → Expr → Option Hx
  | 0, _ => none
  | k + 1, e => match e with
    | .Constant k _ _ => (trC k).map .con
    | .Name y _ => if okName y && isVis T.sc y && !(y == n) then (idx T.N y).map .var else none
    | .Attribute (.Name y _) f _ => if okName y && isVis T.sc y && y == n && f == fieldOf c then some .fld else none
    | .Call (.Name y _) [e] [] _ => if y = ("repr" : Str) && isGl T.sc y && notStarred e then (trHx T c n k e).map .rep else none
    | .Tuple [x, y] _ _ => if notStarred x && notStarred y then match trHx T c n k x, trHx T c n k y with
        | some x', some y' => some (.pair x' y')
        | _, _ => none
      else none
    | .Compare x [op] [y] _ => if behindInMarks op y then none else match trHx T c n k x, trHx T c n k y with
        | some x', some y' => some (.bin (copOf op) x' y')
        | _, _ => none
    | _ => none
/-- what the own classes say -/
structure XCs (X : Cx) (C : RC) (up : List (Str × Str)) : Prop where
  xf : ∀ c A, C.cl c = some A → XfC X.K A ∧ PySem.W.findIn X.K (.ref A) (fieldOf c) = some none
  mt : ∀ c A x A', C.cl c = some A → C.cl x = some A' → PySem.W.exmOne X.K (.ref A) (.ref A') = some (takesC up c x)
  gl : ∀ x A, C.cl x = some A → X.mg x = some (.ref A)
section
variable {X : Cx} {C : RC} {F : FT} {G : Glo} {T : TC} {c : Str} {i : Nat} {a A dd : Addr} {oe : Obj} {pn : List (Addr × Obj)}
theorem hx_ok {n : Str} {up : List (Str × Str)} (g : CG C F G X) (ft : Fits T X) (xs : XCs X C up) (hA : C.cl c = some A) (hi : X.N[i]? = some n) (hz : Zc (.ref A) (some dd) oe) (hf : ∃ vs, oe.data = .fields vs) : ∀ (k : Nat) (e : Expr) (h : Hx), trHx T c n k e = some h → PE (X.suite a ((a, oe) :: pn)) e (tHx C c i a dd h)
  | 0, e, h, q => by simp [trHx] at q
  | k + 1, e, h, q => by
    have ih := hx_ok g ft xs hA hi hz hf k
    unfold trHx at q
    split at q
    · rename_i cc j pos
      cases e : trC cc with
      | none => rw [e] at q; cases q
      | some d =>
        rw [e] at q
        cases q
        cases cc <;> simp only [trC, reduceCtorEq, Option.some.injEq] at e <;> subst e
        · exact hx_con pe_non fun _ _ => by simp [Rep]
        · exact hx_con pe_bl fun _ _ => by simp [Rep]
        · exact hx_con pe_int fun _ _ => by simp [Rep]
        · exact hx_con pe_str fun _ _ => by simp [Rep]
    · rename_i y pos
      split at q
      · rename_i hh
        simp only [Bool.and_eq_true] at hh
        obtain ⟨o1, o2, _⟩ := ok1 hh.1.1
        cases e : idx T.N y with
        | none => rw [e] at q; cases q
        | some j =>
          rw [e] at q
          cases q
          exact hx_var (pe_var (by show X.N[j]? = _; rw [ft.N]; exact idx_get e) (vis_ok ft hh.1.2) o1 o2)
      · cases q
    · rename_i y p f pos
      split at q
      · rename_i hh
        simp only [Bool.and_eq_true, beq_iff_eq] at hh
        obtain ⟨o1, o2, _⟩ := ok1 hh.1.1.1
        cases q
        obtain ⟨⟨⟨_, hv⟩, rfl⟩, rfl⟩ := hh
        exact hx_fld (xs.xf c A hA).1 (xs.xf c A hA).2 hz hf (pe_var hi (vis_ok ft hv) o1 o2)
      · cases q
    · rename_i y p e pos
      split at q
      · rename_i hh
        simp only [Bool.and_eq_true, decide_eq_true_eq] at hh
        obtain ⟨⟨rfl, hg⟩, hs⟩ := hh
        cases e1 : trHx T c n k e with
        | none => rw [e1] at q; cases q
        | some h1 =>
          rw [e1] at q
          cases q
          have hu : X.A.units + 80 < cLine := by have := g.hu; omega
          exact hx_rep (pe_callB (X := X.suite a ((a, oe) :: pn)) (bi_repr g.hK hu g.hg) (gl_ok ft hg) (g.bn _ (by decide +kernel)) boot_repr (pa_cons (ih e h1 e1) pa_nil (ns_star hs)) (by decide) (by decide) (ns_star hs) rfl)
      · cases q
    · rename_i x y kk pos
      split at q
      · rename_i hs
        simp only [Bool.and_eq_true] at hs
        cases e1 : trHx T c n k x with
        | none => rw [e1] at q; cases q
        | some x' =>
          cases e2 : trHx T c n k y with
          | none => rw [e1, e2] at q; cases q
          | some y' =>
            rw [e1, e2] at q
            cases q
            exact hx_pair (pe_tup (pa_cons (ih x x' e1) (pa_cons (ih y y' e2) pa_nil (ns_star hs.2)) (ns_star hs.1)))
      · cases q
    · rename_i x op y pos
      split at q
      · cases q
      · rename_i hm
        cases e1 : trHx T c n k x with
        | none => rw [e1] at q; cases q
        | some x' =>
          cases e2 : trHx T c n k y with
          | none => rw [e1, e2] at q; cases q
          | some y' =>
            rw [e1, e2] at q
            cases q
            have ho : OpR (X.suite a ((a, oe) :: pn)) (compareOp op) (rBin C (copOf op)) := by
              have z := op_all (X := X.suite a ((a, oe) :: pn)) g.hK (show X.A.units + 65 < cLine by have := g.hu; omega) (copOf op)
              cases op <;> exact z
            exact hx_bin (pe_cmpR ho (ih x x' e1) (ih y y' e2) (by simpa using hm))
    · cases q
/-! ### the clause -/
def trHs (T : TC) (c n : Str) : List Stmt → Option Hs
  | [.Assign [.Name y _] e _] => if isTgt T y && notComp e then match idx T.N y, trHx T c n 20 e with
      | some j, some h => some (.set j h)
      | _, _ => none
    else none
  | [.Return (some e) _] => (trHx T c n 20 e).map .ret
  | [.If t [.Return (some e) _] [] _] => if isCmp1 t then match trHx T c n 20 t, trHx T c n 20 e with
      | some t', some e' => some (.iff t' e')
      | _, _ => none
    else none
  | _ => none
where
  notComp : Expr → Bool
    | .ListComp .. => false
    | .SetComp .. => false
    | .DictComp .. => false
    | _ => true
  isCmp1 : Expr → Bool
    | .Compare _ [_] [_] _ => true
    | _ => false
theorem sw_plain {e : Expr} {t : Option Expr} {l : Nat} {env : PySem.Env} (h : trHs.notComp e = true) : swapsWith e t l env = pure false := by
  cases e <;> first | rfl | (simp [trHs.notComp] at h)
theorem hs_ok {n : Str} {up : List (Str × Str)} (g : CG C F G X) (ft : Fits T X) (xs : XCs X C up) (hA : C.cl c = some A) (hi : X.N[i]? = some n) (hz : Zc (.ref A) (some dd) oe) (hf : ∃ vs, oe.data = .fields vs) {sts : List Stmt} {b : Hs} (q : trHs T c n sts = some b) : PSs (X.suite a ((a, oe) :: pn)) sts (tHb C c i a dd b) := by
  have ih := hx_ok (a := a) (pn := pn) g ft xs hA hi hz hf 20
  unfold trHs at q
  split at q
  · rename_i y p e pos
    split at q
    · rename_i hh
      simp only [Bool.and_eq_true] at hh
      cases e1 : idx T.N y with
      | none => rw [e1] at q; cases q
      | some j =>
        cases e2 : trHx T c n 20 e with
        | none => rw [e1, e2] at q; cases q
        | some h =>
          rw [e1, e2] at q
          cases q
          obtain ⟨h1, h2⟩ := isTgt_ok ft.sc ft.fn hh.1
          exact pss_one (ps_set (X := X.suite a ((a, oe) :: pn)) g.nd (by show X.N[j]? = _; rw [ft.N]; exact idx_get e1) h1 (ih e h e2) (sw_plain hh.2) h2)
    · cases q
  · rename_i e pos
    cases e2 : trHx T c n 20 e with
    | none => rw [e2] at q; cases q
    | some h =>
      rw [e2] at q
      cases q
      exact pss_one (ps_ret (ih e h e2))
  · rename_i t e pos pos2
    split at q
    · rename_i hh
      cases e1 : trHx T c n 20 t with
      | none => rw [e1] at q; cases q
      | some t' =>
        cases e2 : trHx T c n 20 e with
        | none => rw [e1, e2] at q; cases q
        | some h =>
          rw [e1, e2] at q
          cases q
          refine pss_one (ps_if ?_ (pss_one (ps_ret (ih e h e2))) pss_nil)
          cases t <;> simp only [trHs.isCmp1, Bool.false_eq_true] at hh
          rename_i x ops ys p
          match ops, ys, hh, e1 with
          | [op], [y], _, e1 =>
            have ih2 := hx_ok (a := a) (pn := pn) g ft xs hA hi hz hf 19
            have e1 : (if behindInMarks op y then none else match trHx T c n 19 x, trHx T c n 19 y with
              | some x', some y' => some (.bin (copOf op) x' y')
              | _, _ => none) = some t' := e1
            split at e1
            · cases e1
            · rename_i hm
              cases f1 : trHx T c n 19 x with
              | none => rw [f1] at e1; cases e1
              | some x' =>
                cases f2 : trHx T c n 19 y with
                | none => rw [f1, f2] at e1; cases e1
                | some y' =>
                  rw [f1, f2] at e1
                  cases e1
                  have ho : OpR (X.suite a ((a, oe) :: pn)) (compareOp op) (rBin C (copOf op)) := by
                    have z := op_all (X := X.suite a ((a, oe) :: pn)) g.hK (show X.A.units + 65 < cLine by have := g.hu; omega) (copOf op)
                    cases op <;> exact z
                  exact (pt_cmpR ho (ih2 x x' f1) (ih2 y y' f2) (by simpa using hm)).imp fun σ H Q q => hx_bin_imp q
    · cases q
  · cases q
/-- try: body / except x as n: suite -/
theorem ss_try {up : List (Str × Str)} {Wout : WX} {body : List Stmt} {sb : List Sm} {x n : Str} {b₀ : Stmt} {suite : List Stmt} {k : Hs} {np pos pos' : Pos} {A' : Addr} (g : CG C F G X) (ft : Fits T X) (xs : XCs X C up) (hs : X.stack = X.env :: X.outer) (hf : X.env.frame = some X.env.locals)
    (hi : X.N[i]? = some n) (hln : X.env.kindOf n = some .local) (hA : C.cl x = some A') (hgl : Gl X x) (hdb : (x == ("__debug__" : Str)) = false) (tk : L2.Takes X Wout)
    (hb : ∀ (W : WX) (pn : List (Addr × Obj)) (xe : Value → Shared → Prop), L2.Takes (X.tr pn xe) W → PassesOwn (model X.prog X.w) X.A X.env xe → PSs (X.tr pn xe) body (tSs C F up W sb)) (hk : trHs T x n (b₀ :: suite) = some k) :
    PS X (.Try body [.ExceptHandler (some (.Name x np)) (some n) (b₀ :: suite) pos'] [] [] pos) (tS C F up Wout (.tr sb [⟨x, i, k⟩])) := by
  refine (ps_try_as (i := i) (tb := fun W => tSs C F up W sb) (ts := tHs C ⟨x, i, k⟩) hs hf g.nd hi hln ⟨hgl, hdb, Or.inl (xs.gl x A' hA)⟩ tk hb fun a oe cls d pn hz hfl => ⟨fun pins s σ H D I ⟨A, dd, h1, e1, e2, q⟩ => ?_⟩).imp fun D σ H ⟨av0, md, own, m, env, r, q⟩ => ?_
  · subst e1 e2
    exact (hs_ok (a := a) (pn := pn) g ft xs h1 hi hz hfl hk).run pins s σ H D I q
  · refine ⟨av0, md, own, m, env, r, ?_⟩
    simp only [exS] at q
    cases eb : exSs F up sb env m with
    | nx e1 m1 => rw [eb] at q; exact q
    | ct e1 m1 => rw [eb] at q; exact q
    | rt d m1 => rw [eb] at q; exact q
    | bad => rw [eb] at q; exact q
    | xc c v e1 m1 =>
      rw [eb] at q
      intro md' own' σ' dd H' A st re hx hc
      refine ⟨takesC up c x, xs.mt c A x A' hc hA, fun ht a ha => ?_, fun ht => ?_⟩
      · simp only [catchS] at q
        rw [if_pos ht] at q
        split at q
        · rename_i ec
          obtain ⟨rfl, hlt⟩ := ec
          refine ⟨A, dd, hc, rfl, rfl, ?_⟩
          have hlt : i < e1.length := hlt
          have hS : HS C c i a dd (or2 av0 own') md' H' m1 (σ'.set i (some (.ref a))) (e1.set i .no) v := ⟨re.hide, hx, List.getElem?_set_self (by rw [re.len]; exact hlt)⟩
          have q := outS.later st q
          unfold exH at q
          cases k with
          | set j h =>
            dsimp only at q
            cases ee : evH (e1.set i .no) v h with
            | none => rw [ee] at q; exact q.elim
            | some z =>
              rw [ee] at q
              refine ⟨md', _, m1, _, v, z, hS, ee, fun y H2 ex hy => ?_⟩
              have r2 := ((hS.re.ext ex).put (i := j) hy).clear (i := i)
              exact (outS.later (Stp.of_fr (Fr.of_ext re.mr ex)) q).nx r2
          | ret h =>
            dsimp only at q
            cases ee : evH (e1.set i .no) v h with
            | none => rw [ee] at q; exact q.elim
            | some z =>
              rw [ee] at q
              refine ⟨md', _, m1, _, v, z, hS, ee, fun y H2 ex hy => ?_⟩
              exact q md' own' y H2 (Stp.of_fr (Fr.of_ext re.mr ex)) (re.mr.ext ex) hy
          | iff t h =>
            dsimp only at q
            cases et : evH (e1.set i .no) v t with
            | none => rw [et] at q; exact q.elim
            | some zt =>
              rw [et] at q
              cases zt <;> first
                | exact q.elim
                | skip
              rename_i bt
              refine ⟨md', _, m1, _, v, .bl bt, hS, et, fun y H2 ex hy => ?_⟩
              simp only [Rep] at hy
              refine ⟨bt, hy, ?_⟩
              have hS2 := hS.ext ex
              have q := outS.later (Stp.of_fr (own := own') (Fr.of_ext re.mr ex)) q
              cases bt with
              | true =>
                cases ee : evH (e1.set i .no) v h with
                | none => rw [ee] at q; exact q.elim
                | some z =>
                  rw [ee] at q
                  exact ⟨md', _, m1, _, v, z, hS2, ee, fun y3 H3 ex3 hy3 => q md' own' y3 H3 (Stp.of_fr (Fr.of_ext hS2.re.mr ex3)) (hS2.re.mr.ext ex3) hy3⟩
              | false =>
                have q : outS C Wout av0 md' own' H2 (.nx ((e1.set i .no).set i .no) m1) D := by
                  cases ee : evH (e1.set i .no) v h with
                  | none => rw [ee] at q; exact q
                  | some z => rw [ee] at q; exact q
                exact q.nx (hS2.re.clear (i := i))
        · exact q.elim
      · simp only [catchS] at q
        rw [if_neg (by rw [ht]; simp)] at q
        exact q md' own' σ' dd H' A st re hx hc
end
end Ev
set_option Elab.async false
set_option linter.all false
set_option maxRecDepth 100000
set_option maxHeartbeats 2000000
/-! Ev18: statements from the text; the translation is sound. -/
namespace Ev
open PySem L2 PyProof.Rows Classical
/-- is x = [..] stored within the comprehension? -/
def swN (T : TC) (e : Expr) (y : Str) (py : Pos) : Bool := match e with
  | .ListComp _ _ scope pos => decide (T.sc.kind = .function) && decide (T.sc.names.lookup y = some .local) && (py.line == pos.line) && !(scope.names.any fun (n, k) => n == y && (k == .local || k == .cell))
  | _ => false
def isLc : Expr → Bool
  | .ListComp _ [⟨_, _, _, 0⟩] _ _ => true
  | _ => false
def nmOf : Expr → Option (Str × Pos)
  | .Name x p => some (x, p)
  | _ => none
def isNames : List Expr → Bool
  | [] => true
  | .Name _ _ :: r => isNames r
  | _ => false
/-- stored from the right? none: can't tell -/
def swS (T : TC) (ts vs : List Expr) : Option (Option (List Str)) :=
  if !(ts.length == 2 || ts.length == 3) || vs.length != ts.length || !decide (T.sc.kind = .function) then (if T.sc.kind = .function then some none else none)
  else if (vs.any fun | .Starred .. => true | _ => false) then some none
  else
    let line := (ts.head?.map (·.pos.line)).getD 0
    let names := ts.filterMap fun
      | .Name id pos => if T.sc.names.lookup id == some .local && pos.line == line then some id else none
      | _ => none
    if names.length != ts.length || names.eraseDups.length != names.length then some none
    else if vs.all (foldedForSure 8) then some none
    else if vs.all (constantsAlone 8) then none
    else some (some names)
section
variable {X : Cx} {T : TC}
theorem swN_ok {e : Expr} {y : Str} {py : Pos} {l : Nat} (hs : X.env.scope = T.sc) (hk : X.env.scope.kind = .function) (h : trHs.notComp e = true ∨ isLc e = true) : swapsWith e (some (.Name y py)) l X.env = pure (swN T e y py) := by
  rcases h with h | h
  · rw [sw_plain h]
    cases e <;> first | rfl | (simp [trHs.notComp] at h)
  · cases e <;> simp only [isLc, Bool.false_eq_true] at h
    rename_i elt gs scope pos
    unfold swapsWith swN
    have hb : X.env.blockKind = .function := by unfold Env.blockKind; rw [hk]; rfl
    have hkk : X.env.kindOf y = T.sc.names.lookup y := by unfold Env.kindOf; rw [hs]
    rw [← hs, hk]
    simp only [hb, hkk, hs, beq_self_eq_true, decide_true, Bool.true_and, Expr.pos]
    have e1 : (List.lookup y T.sc.names == some NameKind.local) = decide (List.lookup y T.sc.names = some NameKind.local) := by
      cases hq : List.lookup y T.sc.names with
      | none => rfl
      | some k => cases k <;> rfl
    rw [e1]
theorem swS_ok {ts vs : List Expr} {r : Option (List Str)} {k1 k2 : Nat} {p1 p2 : Pos} (hs : X.env.scope = T.sc) (hk : X.env.scope.kind = .function) (h : swS T ts vs = some r) : swappedStores [.Tuple ts k1 p1] (.Tuple vs k2 p2) X.env = pure r := by
  have hb : X.env.blockKind = .function := by unfold Env.blockKind; rw [hk]; rfl
  have hkk : ∀ y, X.env.kindOf y = T.sc.names.lookup y := fun y => by unfold Env.kindOf; rw [hs]
  have hk2 : T.sc.kind = .function := by rw [← hs]; exact hk
  unfold swappedStores
  unfold swS at h
  simp only [hb, hk2, decide_true, Bool.not_true, Bool.or_false, if_true] at h ⊢
  simp only [hkk]
  by_cases c1 : (!(ts.length == 2 || ts.length == 3) || vs.length != ts.length) = true
  · rw [if_pos c1] at h
    cases h
    simp only [c1, Bool.true_or, if_true]
  · rw [if_neg c1] at h
    have c1 : (!(ts.length == 2 || ts.length == 3) || vs.length != ts.length) = false := by simpa using c1
    simp only [c1, bne_self_eq_false, Bool.or_false, Bool.false_eq_true, if_false]
    split at h
    · rename_i c2
      cases h
      exact if_pos c2
    · rename_i c2
      refine (if_neg c2).trans ?_
      split at h
      · rename_i c3
        cases h
        exact if_pos c3
      · rename_i c3
        refine (if_neg c3).trans ?_
        split at h
        · rename_i c4
          cases h
          exact if_pos c4
        · rename_i c4
          refine (if_neg c4).trans ?_
          split at h
          · cases h
          · rename_i c5
            cases h
            exact if_neg c5
end
def trSs (f : Stmt → Option Sm) : List Stmt → Option (List Sm)
  | [] => some []
  | s :: r => match f s, trSs f r with
    | some a, some b => some (a :: b)
    | _, _ => none
def isLoc (T : TC) (y : Str) : Bool := decide (T.sc.names.lookup y = some .local)
def trS : Nat → Glo → List Str → TC → Stmt → Option Sm
  | 0, _, _, _, _ => none
  | n + 1, G, xs, T, st => match st with
    | .Pass _ => some .pass
    | .Continue _ => some .cont
    | .Return (some e) _ => (trE n G T e).map .ret
    | .Return none _ => some (.ret (.c .non))
    | .Expr e _ => if trHs.notComp e then (trE n G T e).map .expr else none
    | .If c a b _ => if tstOk c then match trE n G T c, trSs (trS n G xs T) a, trSs (trS n G xs T) b with
        | some c', some a', some b' => some (.ite c' a' b')
        | _, _, _ => none
      else none
    | .For tg it body [] _ => match trTg T tg, trI (trE n G T) T tg it, trSs (trS n G xs T) body with
      | some tg', some it', some b' => some (.loop tg' it' b')
      | _, _, _ => none
    | .Raise (some (.Call (.Name c _) [e] [] _)) none _ => if xs.contains c && isGl T.sc c && okName c && notStarred e then (trE n G T e).map (.rais c) else none
    | .Try body [.ExceptHandler (some (.Name x _)) (some nm) (b₀ :: suite) _] [] [] _ => if xs.contains x && isGl T.sc x && okName x && isLoc T nm then match idx T.N nm, trHs T x nm (b₀ :: suite), trSs (trS n G xs T) body with
        | some i, some k, some b => some (.tr b [⟨x, i, k⟩])
        | _, _, _ => none
      else none
    | .Assign [.Name y py] e _ => if isTgt T y && decide (T.sc.kind = .function) && (trHs.notComp e || isLc e) then match idx T.N y, trE n G T e with
        | some j, some a => some (.asg (.v j) a)
        | _, _ => none
      else none
    | .Assign [.Tuple ts k p] (.Tuple vs k2 p2) _ => match swS T ts vs with
      | some none => match trTgs T ts, trE n G T (.Tuple vs k2 p2) with
        | some us, some a => some (.asg (.t us) a)
        | _, _ => none
      | some (some nm) => match ts, vs with
        | [.Name x _, .Name y _], [a, b] => if decide (nm = [x, y]) && isLoc T x && isLoc T y then match idx T.N x, idx T.N y, trE n G T a, trE n G T b with
            | some i, some j, some a', some b' => if i ≠ j then some (.asg (.t [.v i, .v j]) (.tup [a', b'])) else none
            | _, _, _, _ => none
          else none
        | [.Name x _, .Name y _, .Name z _], [a, b, c] => if decide (nm = [x, y, z]) && isLoc T x && isLoc T y && isLoc T z then match idx T.N x, idx T.N y, idx T.N z with
            | some i, some j, some l => match trE n G T a, trE n G T b, trE n G T c with
              | some a', some b', some c' => if i ≠ j ∧ i ≠ l ∧ j ≠ l then some (.asg (.t [.v i, .v j, .v l]) (.tup [a', b', c'])) else none
              | _, _, _ => none
            | _, _, _ => none
          else none
        | _, _ => none
      | none => none
    | .Assign [.Tuple ts k p] e _ => if isTup e then none else match trTgs T ts, trE n G T e with
      | some us, some a => some (.asg (.t us) a)
      | _, _ => none
    | _ => none
where
  isTup : Expr → Bool
    | .Tuple .. => true
    | _ => false
/-- a context in which statements run -/
structure SG (C : RC) (F : FT) (G : Glo) (up : List (Str × Str)) (xs : List Str) (X : Cx) : Prop where
  g : CG C F G X
  xc : XCs X C up
  er : ∀ c ∈ xs, ∃ A fI, C.cl c = some A ∧ ErrTxt X.prog X.K X.mg c (fieldOf c) A fI
  rm : Room 2 X.A
  st : X.stack = X.env :: X.outer
  fr : X.env.frame = some X.env.locals
  kd : X.env.scope.kind = .function
  po : PassesOwn (model X.prog X.w) X.A X.env X.xe
section
variable {C : RC} {F : FT} {G : Glo} {up : List (Str × Str)} {xs : List Str} {X : Cx} {T : TC} {W : WX}
theorem CG.tr (g : CG C F G X) (pn : List (Addr × Obj)) (xe : Value → Shared → Prop) : CG C F G (X.tr pn xe) :=
  ⟨g.hK, g.nd, g.hc, g.hu, g.hg, g.bn, g.cn, fun Y W h => g.fn Y W ⟨h.prog, h.w, h.K, h.mg, h.base, h.A⟩⟩
theorem SG.tr (g : SG C F G up xs X) (pn : List (Addr × Obj)) (xe : Value → Shared → Prop) (po : PassesOwn (model X.prog X.w) X.A X.env xe) : SG C F G up xs (X.tr pn xe) :=
  ⟨g.g.tr pn xe, ⟨g.xc.xf, g.xc.mt, g.xc.gl⟩, g.er, g.rm, g.st, g.fr, g.kd, po⟩
theorem Fits.tr (f : Fits T X) (pn : List (Addr × Obj)) (xe : Value → Shared → Prop) : Fits T (X.tr pn xe) := ⟨f.N, f.sc, f.fn⟩
def PSd (C : RC) (F : FT) (G : Glo) (up : List (Str × Str)) (xs : List Str) (f : TC → Stmt → Option Sm) : Prop := ∀ (X : Cx) (W : WX) (T : TC), SG C F G up xs X → L2.Takes X W → Fits T X → ∀ st sm, f T st = some sm → PS X st (tS C F up W sm)
theorem list_ok {f : TC → Stmt → Option Sm} (ih : PSd C F G up xs f) (g : SG C F G up xs X) (tk : L2.Takes X W) (ft : Fits T X) : ∀ (sts : List Stmt) (sms : List Sm), trSs (f T) sts = some sms → PSs X sts (tSs C F up W sms)
  | [], sms, h => by
    simp only [trSs, Option.some.injEq] at h
    subst h
    exact ss_nil
  | s :: r, sms, h => by
    simp only [trSs] at h
    cases q1 : f T s with
    | none => rw [q1] at h; cases h
    | some a =>
      cases q2 : trSs (f T) r with
      | none => rw [q1, q2] at h; cases h
      | some b =>
        rw [q1, q2] at h
        cases h
        exact ss_cons (pss_cons (ih X W T g tk ft s a q1) (list_ok ih g tk ft r b q2))
theorem sws_tuple {ts : List Expr} {k l : Nat} {p : Pos} {e : Expr} {env : PySem.Env} : swapsWithSole [.Tuple ts k p] e l env = pure false := by
  cases e <;> rfl
theorem swst_other {ts : List Expr} {k : Nat} {p : Pos} {e : Expr} {env : PySem.Env} (h : trS.isTup e = false) : swappedStores [.Tuple ts k p] e env = pure none := by
  cases e <;> first | rfl | (simp [trS.isTup] at h)
theorem loc_ok (ft : Fits T X) {y : Str} (h : isLoc T y = true) : X.env.scope.names.lookup y = some .local := by
  rw [ft.sc]
  exact of_decide_eq_true h
theorem asg_name {n : Nat} (g : SG C F G up xs X) (tk : L2.Takes X W) (ft : Fits T X) {y : Str} {py pos : Pos} {e : Expr} {j : Nat} {a : Ex} (ht : isTgt T y = true) (hn : trHs.notComp e = true ∨ isLc e = true) (q1 : idx T.N y = some j) (q2 : trE n G T e = some a) : PS X (.Assign [.Name y py] e pos) (tS C F up W (.asg (.v j) a)) := by
  have hj : X.N[j]? = some y := by rw [ft.N]; exact idx_get q1
  obtain ⟨h1, h2⟩ := isTgt_ok ft.sc ft.fn ht
  have hsw := swN_ok (T := T) (y := y) (py := py) (l := pos.line) ft.sc g.kd hn
  refine ss_asg g.g.hK ?_
  show PS X _ (tAsg (tE C F W a) (gName j))
  cases hb : swN T e y py with
  | false =>
    rw [hb] at hsw
    exact ps_set g.g.nd hj h1 ((sound_E n X W T g.g tk ft e a q2).1) hsw h2
  | true =>
    rw [hb] at hsw
    cases e <;> simp only [swN, Bool.false_eq_true] at hb
    rename_i elt gs scope cpos
    rcases hn with hn | hn
    · simp [trHs.notComp] at hn
    · match gs, hn, q2, hsw with
      | [⟨tg, it, ifs, 0⟩], _, q2, hsw =>
        cases n with
        | zero => simp [trE] at q2
        | succ n =>
          obtain ⟨own, tg', it', ifs', elt', rfl, hsl, p1, hok, hg, htt, he, p2⟩ := lc_parts (sound_E n) g.g tk ft q2
          simp only [Bool.and_eq_true, decide_eq_true_eq] at hb
          have hyl : X.env.scope.names.lookup y = some .local := by rw [ft.sc]; exact hb.1.1.2
          refine (ps_setLc g.g.hc g.g.nd hj hyl hsw p1 hok hg htt he p2).imp fun D σ H q => ?_
          rw [hsl]
          exact cmp_imp g.g.hK q
theorem sound_S : ∀ n, PSd C F G up xs (trS n G xs)
  | 0 => fun X W T g tk ft st sm h => by simp [trS] at h
  | n + 1 => fun X W T g tk ft st sm h => by
    have ih := sound_S n
    have ie := sound_E (C := C) (F := F) (G := G) n
    unfold trS at h
    split at h
    · cases h; exact ss_pass
    · cases h; exact ss_cont
    · rename_i e pos
      cases q : trE n G T e with
      | none => rw [q] at h; cases h
      | some a =>
        rw [q] at h
        cases h
        exact ss_ret (ps_ret (ie X W T g.g tk ft e a q).1)
    · cases h
      exact ps_retN.imp fun D σ H ⟨av0, md, own, m, env, r, q⟩ => by
        simp only [exS, ev, M.ret, onO] at q
        exact q md own .non H (Stp.refl _ _ _) r.mr (by simp [Rep])
    · rename_i e pos
      split at h
      · rename_i hn
        cases q : trE n G T e with
        | none => rw [q] at h; cases h
        | some a =>
          rw [q] at h
          cases h
          exact ss_expr (ps_expr (ie X W T g.g tk ft e a q).1 (sw_plain hn))
      · cases h
    · rename_i c a b pos
      split at h
      · rename_i ht
        cases q : trE n G T c with
        | none => rw [q] at h; cases h
        | some c' =>
          cases q2 : trSs (trS n G xs T) a with
          | none => rw [q, q2] at h; cases h
          | some a' =>
            cases q3 : trSs (trS n G xs T) b with
            | none => rw [q, q2, q3] at h; cases h
            | some b' =>
              rw [q, q2, q3] at h
              cases h
              exact ss_ite (ps_if ((ie X W T g.g tk ft c c' q).2.2.1 ht) (list_ok ih g tk ft a a' q2) (list_ok ih g tk ft b b' q3))
      · cases h
    · rename_i tg it body pos
      cases q : trTg T tg with
      | none => rw [q] at h; cases h
      | some tg' =>
        cases q2 : trI (trE n G T) T tg it with
        | none => rw [q, q2] at h; cases h
        | some it' =>
          cases q3 : trSs (trS n G xs T) body with
          | none => rw [q, q2, q3] at h; cases h
          | some b' =>
            rw [q, q2, q3] at h
            cases h
            obtain ⟨p1, p2⟩ := it_ok g.g tk ft ie q2
            exact ss_loop g.g.hK (ps_for g.po g.g.hc p1 (tg_ok ft.N g.g.nd g.g.hc ft.sc ft.fn tg tg' q) (list_ok ih g tk ft body b' q3) p2)
    · rename_i c p e pos pos2
      split at h
      · rename_i hh
        simp only [Bool.and_eq_true, List.contains_iff_mem] at hh
        obtain ⟨⟨⟨h1, h2⟩, h3⟩, h4⟩ := hh
        cases q : trE n G T e with
        | none => rw [q] at h; cases h
        | some a =>
          rw [q] at h
          cases h
          obtain ⟨i1, i2, _⟩ := ie X W T g.g tk ft e a q
          obtain ⟨A, fI, hA, ET⟩ := g.er c h1
          obtain ⟨o1, o2, o3⟩ := ok1 h3
          exact ss_rais i2 rfl (ps_raise g.g.hc tk (pmk_own (k := 1) ET g.rm (sa_cons (pa_cons i1 sa_nil (ns_star h4)) i2) (gl_ok ft h2) o1 (ns_star h4))) hA
      · cases h
    · rename_i body x np nm b₀ suite p1 p2
      split at h
      · rename_i hh
        simp only [Bool.and_eq_true, List.contains_iff_mem] at hh
        obtain ⟨⟨⟨h1, h2⟩, h3⟩, h4⟩ := hh
        cases q : idx T.N nm with
        | none => rw [q] at h; cases h
        | some i =>
          cases q2 : trHs T x nm (b₀ :: suite) with
          | none => rw [q, q2] at h; cases h
          | some k =>
            cases q3 : trSs (trS n G xs T) body with
            | none => rw [q, q2, q3] at h; cases h
            | some b =>
              rw [q, q2, q3] at h
              cases h
              obtain ⟨A, fI, hA, ET⟩ := g.er x h1
              obtain ⟨o1, o2, o3⟩ := ok1 h3
              exact ss_try g.g ft g.xc g.st g.fr (by rw [ft.N]; exact idx_get q) (loc_ok ft h4) hA (gl_ok ft h2) o1 tk (fun W' pn xe tk' po => list_ok ih (g.tr pn xe po) tk' (ft.tr pn xe) body b q3) q2
      · cases h
    · rename_i y py e pos
      split at h
      · rename_i hh
        simp only [Bool.and_eq_true, Bool.or_eq_true, decide_eq_true_eq] at hh
        cases q : idx T.N y with
        | none => rw [q] at h; cases h
        | some j =>
          cases q2 : trE n G T e with
          | none => rw [q, q2] at h; cases h
          | some a =>
            rw [q, q2] at h
            cases h
            exact asg_name g tk ft hh.1.1 hh.2 q q2
      · cases h
    · rename_i ts k p vs k2 p2 pos
      split at h
      · rename_i hsw
        cases q : trTgs T ts with
        | none => rw [q] at h; cases h
        | some us =>
          cases q2 : trE n G T (.Tuple vs k2 p2) with
          | none => rw [q, q2] at h; cases h
          | some a =>
            rw [q, q2] at h
            cases h
            refine ss_asg g.g.hK (ps_asg (ie X W T g.g tk ft _ a q2).1 (tg_ok ft.N g.g.nd g.g.hc ft.sc ft.fn (.Tuple ts k p) (.t us) (by simp [trTg, q])) sws_tuple (swS_ok ft.sc g.kd hsw) rfl)
      · rename_i nm hsw
        split at h
        · rename_i x px y py a b
          split at h
          · rename_i hh
            simp only [Bool.and_eq_true, decide_eq_true_eq] at hh
            obtain ⟨⟨rfl, hx⟩, hy⟩ := hh
            cases q1 : idx T.N x with
            | none => rw [q1] at h; cases h
            | some i =>
            cases q2 : idx T.N y with
            | none => rw [q1, q2] at h; cases h
            | some j =>
            cases q3 : trE n G T a with
            | none => rw [q1, q2, q3] at h; cases h
            | some a' =>
            cases q4 : trE n G T b with
            | none => rw [q1, q2, q3, q4] at h; cases h
            | some b' =>
              rw [q1, q2, q3, q4] at h
              simp only at h
              split at h
              · rename_i hij
                cases h
                obtain ⟨i1, i2, _⟩ := ie X W T g.g tk ft a a' q3
                obtain ⟨j1, j2, _⟩ := ie X W T g.g tk ft b b' q4
                have ns1 : notStarred a = true := by
                  cases a <;> first | rfl | (cases n <;> simp [trE] at q3)
                have ns2 : notStarred b = true := by
                  cases b <;> first | rfl | (cases n <;> simp [trE] at q4)
                exact ss_par i2 j2 (ps_par g.g.hc g.g.nd (by rw [ft.N]; exact idx_get q1) (by rw [ft.N]; exact idx_get q2) hij (loc_ok ft hx) (loc_ok ft hy) (sa_cons (pa_cons i1 (sa_cons (pa_cons j1 sa_nil (ns_star ns2)) j2) (ns_star ns1)) i2) (swS_ok ft.sc g.kd hsw) sws_tuple)
              · cases h
          · cases h
        · rename_i x px y py z pz a b c
          split at h
          · rename_i hh
            simp only [Bool.and_eq_true, decide_eq_true_eq] at hh
            obtain ⟨⟨⟨rfl, hx⟩, hy⟩, hz⟩ := hh
            cases q1 : idx T.N x with
            | none => rw [q1] at h; cases h
            | some i =>
            cases q2 : idx T.N y with
            | none => rw [q1, q2] at h; cases h
            | some j =>
            cases q5 : idx T.N z with
            | none => rw [q1, q2, q5] at h; cases h
            | some l =>
            cases q3 : trE n G T a with
            | none => rw [q1, q2, q5, q3] at h; cases h
            | some a' =>
            cases q4 : trE n G T b with
            | none => rw [q1, q2, q5, q3, q4] at h; cases h
            | some b' =>
            cases q6 : trE n G T c with
            | none => rw [q1, q2, q5, q3, q4, q6] at h; cases h
            | some c' =>
              rw [q1, q2, q5] at h
              simp only at h
              rw [q3, q4, q6] at h
              simp only at h
              split at h
              · rename_i hij
                cases h
                obtain ⟨i1, i2, _⟩ := ie X W T g.g tk ft a a' q3
                obtain ⟨j1, j2, _⟩ := ie X W T g.g tk ft b b' q4
                obtain ⟨l1, l2, _⟩ := ie X W T g.g tk ft c c' q6
                have ns1 : notStarred a = true := by
                  cases a <;> first | rfl | (cases n <;> simp [trE] at q3)
                have ns2 : notStarred b = true := by
                  cases b <;> first | rfl | (cases n <;> simp [trE] at q4)
                have ns3 : notStarred c = true := by
                  cases c <;> first | rfl | (cases n <;> simp [trE] at q6)
                exact ss_par3 (ps_par3 g.g.hc g.g.nd (by rw [ft.N]; exact idx_get q1) (by rw [ft.N]; exact idx_get q2) (by rw [ft.N]; exact idx_get q5) hij.1 hij.2.1 hij.2.2 (loc_ok ft hx) (loc_ok ft hy) (loc_ok ft hz) (sa_cons (pa_cons i1 (sa_cons (pa_cons j1 (sa_cons (pa_cons l1 sa_nil (ns_star ns3)) l2) (ns_star ns2)) j2) (ns_star ns1)) i2) (swS_ok ft.sc g.kd hsw) sws_tuple)
              · cases h
          · cases h
        · cases h
      · cases h
    · rename_i ts k p e pos _
      split at h
      · cases h
      · rename_i hnt
        cases q : trTgs T ts with
        | none => rw [q] at h; cases h
        | some us =>
          cases q2 : trE n G T e with
          | none => rw [q, q2] at h; cases h
          | some a =>
            rw [q, q2] at h
            cases h
            refine ss_asg g.g.hK (ps_asg (ie X W T g.g tk ft _ a q2).1 (tg_ok ft.N g.g.nd g.g.hc ft.sc ft.fn (.Tuple ts k p) (.t us) (by simp [trTg, q])) sws_tuple (swst_other (by simpa using hnt)) rfl)
    · cases h
end
end Ev
set_option Elab.async false
set_option linter.all false
set_option maxRecDepth 100000
set_option maxHeartbeats 1000000
/-! Ev19: defs. -/
namespace Ev
open PySem L2 PyProof.Rows Classical
/-- a def: the names (its parameters first), how many parameters, the body -/
structure Fn where
  N : List Str
  np : Nat
  body : List Sm
def startE (fn : Fn) (ds : List D) : Env := ds.map Slot.sh ++ List.replicate (fn.N.length - ds.length) Slot.no
def retO : SOut → Out D
  | .nx _ m => .ok .non m
  | .rt d m => .ok d m
  | .xc c d _ m => .exc c d m
  | _ => .bad
/-- the text's defs, to the depth k; pr: those that are proved by hand -/
def runF (P : List (Str × Fn)) (pr : FT) (up : List (Str × Str)) : Nat → FT
  | 0 => fun _ _ => M.bad
  | k + 1 => fun f ds m => match P.lookup f with
    | some fn => if ds.length = fn.np ∧ fn.np ≤ fn.N.length then retO (exSs (runF P pr up k) up fn.body (startE fn ds) m) else .bad
    | none => pr f ds m
/-- one call of a def, by its body -/
theorem def_run {P : Program} {w : World} {K : PySem.W.Frag} {mg : Str → Option Value} {base : Heap} {k : Nat} {f : Addr} {name qual : Str} {params : Arguments} {body : List Stmt} {scope : Scope} {dV kV doc pm cdv ct oc : Value} {an od : Option Addr} {osl : Array (Option Value)} {N ps : List Str}
    {A : Around} {outer : List PySem.Env} {s : Shared} {H : Hp} {args : Args} {us : List Value} {vs : List V} {Q : VK} {E : XK} {t : TS}
    (at_ : K.lookup f = some ⟨oc, od, .func (PySem.W.fnOf name qual params body scope dV kV doc pm an cdv ct), osl⟩) (code : PySem.W.codeIn K cdv qual = true) (S : FnScope N ps scope) (room : Room (k + 1) A) (e0 : Env0 P w K mg base A outer s H)
    (bd : BindsTo s (PySem.W.fnOf name qual params body scope dV kV doc pm an cdv ct) args (ps.zip us)) (rv : Vals vs us) (ln : vs.length = ps.length) (hb : PSs (cxOf (L2.CX P w) P w K mg base N qual scope f cdv A outer s H E) body t)
    (ht : t { nx := fun _ H' => Q .non H', rt := Q } (start N vs) H) : codeAny (model P w) A (.call (.ref f) args) (CR (L2.CX P w) outer P w H s Q E) s := by
  have up : ∀ b o, base.get? b = some o → s.heap.get? b = some o := fun b o e => (e0.bs b o e).1
  have kin := e0.mod.kin.keeps up
  refine codeAny_call_function room.depth (kin f _ at_) rfl S.co S.gen rfl (PySem.W.codeRec_of kin code) (bd _ _ _ _ (wpAny_newFunctionEnv_cells S.kind (fun y hy => (S.par y.1 (List.of_mem_zip (a := y.1) (b := y.2) hy).1).imp id fun z => ⟨z, PySem.W.cellsFrom_some _ _ _ (.inl z)⟩) ?_))
  rintro _ rfl s1 inC
  refine ⟨(e0.mod.nolimit.keeps up).keeps inC.toInCall.keep, codeAny_func (wpAny_mono (hb.run [] s1 _ H _ (inv_start S room.hd e0 ln rv inC) ht) ?_ fun _ _ z => z)⟩
  intro fl s2 z
  have fin : ∀ {σ2 : L2.St} {H2 : Hp} {v : V} {u : Value}, Inv (cxOf (L2.CX P w) P w K mg base N qual scope f cdv A outer s H E) [] σ2 H2 s2 → RelV v u → Q v H2 → CE outer P w H s Q u s2 := fun J r q => ⟨_, _, J.os, J.bare, J.base, J.hok, r, q⟩
  cases fl with
  | ret u => exact z.elim fun v z => z.elim fun σ2 z => z.elim fun H2 z => fin z.1 z.2.1 z.2.2
  | next => exact z.elim fun σ2 z => z.elim fun H2 z => fin (v := .non) (u := .none) z.1 rfl z.2
  | brk => exact z.elim fun _ z => z.elim fun _ z => z.2.elim
  | cont => exact z.elim fun _ z => z.elim fun _ z => z.2.elim
/-! ### the text -/
/-- a def of the text -/
structure DefTxt (K : PySem.W.Frag) (mg : Str → Option Value) (G : Glo) (xs : List Str) (x : Str) (fn : Fn) : Prop where
  ex : ∃ (f : Addr) (qual : Str) (params : Arguments) (body : List Stmt) (scope : Scope) (kV doc pm cdv ct oc : Value) (an od : Option Addr) (osl : Array (Option Value)),
    mg x = some (.ref f) ∧ PySem.W.keepIn K (.ref f) = true ∧ K.lookup f = some ⟨oc, od, .func (PySem.W.fnOf x qual params body scope .none kV doc pm an cdv ct), osl⟩ ∧ PySem.W.codeIn K cdv qual = true ∧ FnScope fn.N (fn.N.take fn.np) scope ∧
    (∀ us : List Value, us.length = fn.np → bindArgs (PySem.W.fnOf x qual params body scope .none kV doc pm an cdv ct) ⟨us, []⟩ = pure ((fn.N.take fn.np).zip us)) ∧ trSs (trS 100 G xs ⟨fn.N, scope, fun _ => true⟩) body = some fn.body
/-- all that is known of the text -/
structure Gd (P : Program) (w : World) (base : Heap) (K : PySem.W.Frag) (mg : Str → Option Value) (C : RC) (G : Glo) (up : List (Str × Str)) (xs : List Str) (T : List (Str × Fn)) (pr : FT) : Prop where
  hK : C.K = K
  bn : ∀ x ∈ biNames, mg x = none
  cn : ∀ x d, G.cons.lookup x = some d → ∃ v u, mg x = some u ∧ RelV v u ∧ ∀ md H, Rep C md H d v
  xf : ∀ c A, C.cl c = some A → XfC K A ∧ PySem.W.findIn K (.ref A) (fieldOf c) = some none
  mt : ∀ c A x A', C.cl c = some A → C.cl x = some A' → PySem.W.exmOne K (.ref A) (.ref A') = some (takesC up c x)
  gl : ∀ x A, C.cl x = some A → mg x = some (.ref A)
  er : ∀ c ∈ xs, ∃ A fI, C.cl c = some A ∧ ErrTxt P K mg c (fieldOf c) A fI
  df : ∀ x ∈ G.fns, ∀ fn, T.lookup x = some fn → DefTxt K mg G xs x fn
  pm : ∀ x ∈ G.fns, T.lookup x = none → ∀ (Y : Cx) (W : WX), Y.prog = P → Y.w = w → Y.K = K → Y.mg = mg → Y.base = base → Room 4 Y.A → Y.A.guards = some [] → L2.Takes Y W → CallW Y C pr W x
section
variable {P : Program} {w : World} {base : Heap} {K : PySem.W.Frag} {mg : Str → Option Value} {C : RC} {G : Glo} {up : List (Str × Str)} {xs : List Str} {T : List (Str × Fn)} {pr : FT}
theorem start_re {md : Option Addr} {av : Addr → Prop} {H : Hp} {m : Option MSt} {fn : Fn} {ds : List D} {vs : List V} (hm : MRel md H m) (ha : ∀ a, av a → H a ≠ none ∧ ¬ MS md H a) (hr : Reps C md (Hb md av H) ds vs) : RE C md (or2 av fun _ => False) H m (start fn.N vs) (startE fn ds) where
  mr := hm
  avt := fun a z => ha a (z.elim id False.elim)
  len := by
    unfold L2.start startE
    simp only [List.length_append, List.length_map, List.length_replicate, hr.length]
  sh := fun i d e => by
    unfold startE at e
    by_cases hi : i < ds.length
    · rw [List.getElem?_append_left (by simpa using hi), List.getElem?_map] at e
      cases q : ds[i]? with
      | none => rw [q] at e; cases e
      | some d' =>
        rw [q] at e
        cases e
        obtain ⟨v, hv, h⟩ := hr.get q
        refine ⟨v, ?_, Rep.mono (fun _ z => z) (Hb.sub fun a z => z.elim id False.elim) d v h⟩
        unfold L2.start
        rw [List.getElem?_append_left (by rw [List.length_map, hr.length]; exact hi), List.getElem?_map, hv]
        rfl
    · rw [List.getElem?_append_right (by simpa using hi), List.getElem?_replicate] at e
      split at e <;> cases e
  ol := fun i d e => by
    unfold startE at e
    by_cases hi : i < ds.length
    · rw [List.getElem?_append_left (by simpa using hi), List.getElem?_map] at e
      cases q : ds[i]? with
      | none => rw [q] at e; cases e
      | some d' => rw [q] at e; cases e
    · rw [List.getElem?_append_right (by simpa using hi), List.getElem?_replicate] at e
      split at e <;> cases e
  ne := fun i j d _ a e => by
    unfold startE at e
    by_cases hi : i < ds.length
    · rw [List.getElem?_append_left (by simpa using hi), List.getElem?_map] at e
      cases q : ds[i]? with
      | none => rw [q] at e; cases e
      | some d' => rw [q] at e; cases e
    · rw [List.getElem?_append_right (by simpa using hi), List.getElem?_replicate] at e
      split at e <;> cases e
theorem Stp.fr {md md' : Option Addr} {own' : Addr → Prop} {H H' : Hp} (s : Stp md (fun _ => False) H md' own' H') : Fr md H md' H' := ⟨s.same, fun a o h n => ⟨(s.keep a o h n id).1, (s.keep a o h n id).2.1⟩⟩
/-- a body's end is the call's -/
theorem end_out {W : WX} {av : Addr → Prop} {md : Option Addr} {H : Hp} {σ : L2.St} {o : SOut} {Q : VK} (h : outG C W av (RD C av) md H σ (retO o) Q) :
    outS C (fun cls d _ H => W cls d σ H) av md (fun _ => False) H o { nx := fun _ H' => Q .non H', rt := Q } := by
  cases o with
  | nx e m => exact fun md' own' σ' H' s r => h md' .non H' s.fr r.mr (by simp [RD, Rep])
  | rt d m => exact fun md' own' v H' s r q => h md' v H' s.fr r (Rep.mono (fun _ z => z) (Hb.sub fun a z => .inl z) d v q)
  | xc c d e m => exact fun md' own' σ' dd H' A s r x e => h md' dd H' A s.fr r.mr (by
      obtain ⟨v, h1, h2⟩ := x
      exact ⟨v, h1, Rep.mono (fun _ z => z) (Hb.sub fun a z => .inl z) d v h2⟩) e
  | ct e m => exact h.elim
  | bad => exact h.elim
theorem level (g : Gd P w base K mg C G up xs T pr) (k : Nat) : ∀ (Y : Cx) (W : WX), Y.prog = P → Y.w = w → Y.K = K → Y.mg = mg → Y.base = base → Room (k + 4) Y.A → Y.A.guards = some [] → L2.Takes Y W → ∀ f ∈ G.fns, CallW Y C (runF T pr up k) W f := by
  induction k with
  | zero =>
    intro Y W e1 e2 e3 e4 e5 hr hg tk f hf
    have none_ : ∀ {u : Value}, Y.mg f = some u → PySem.W.keepIn Y.K u = true → CallW Y C (runF T pr up 0) W f := fun h1 h2 => ⟨_, h1, h2, fun pins s σ H vs us Q I r ⟨md, av, m, ds, a1, a2, a3, a4⟩ => a4.elim⟩
    cases hl : T.lookup f with
    | none =>
      obtain ⟨u, h1, h2, _⟩ := (g.pm f hf hl Y W e1 e2 e3 e4 e5 (hr.mono (by omega)) hg tk).ex
      exact none_ h1 h2
    | some fn =>
      obtain ⟨a, _, _, _, _, _, _, _, _, _, _, _, _, _, h1, h2, _⟩ := (g.df f hf fn hl).ex
      subst e1 e2 e3 e4 e5
      exact none_ h1 h2
  | succ k ih =>
    intro Y W e1 e2 e3 e4 e5 hr hg tk f hf
    cases hl : T.lookup f with
    | none =>
      obtain ⟨u, h1, h2, h3⟩ := (g.pm f hf hl Y W e1 e2 e3 e4 e5 (hr.mono (by omega)) hg tk).ex
      refine ⟨u, h1, h2, fun pins s σ H xs us Q I r q => h3 pins s σ H xs us Q I r ?_⟩
      obtain ⟨md, av, m, ds, a1, a2, a3, a4⟩ := q
      refine ⟨md, av, m, ds, a1, a2, a3, ?_⟩
      have e : runF T pr up (k + 1) f ds m = pr f ds m := by simp only [runF, hl]
      rw [e] at a4
      exact a4
    | some fn =>
      obtain ⟨a, qual, params, body, scope, kV, doc, pm, cdv, ct, oc, an, od, osl, h1, h2, h3, h4, h5, h6, h7⟩ := (g.df f hf fn hl).ex
      subst e1 e2 e3 e4 e5
      refine ⟨.ref a, h1, h2, fun pins s σ H vs us Q I r q => ?_⟩
      obtain ⟨md, av, m, ds, a1, a2, a3, a4⟩ := q
      have e : runF T pr up (k + 1) f ds m = if ds.length = fn.np ∧ fn.np ≤ fn.N.length then retO (exSs (runF T pr up k) up fn.body (startE fn ds) m) else .bad := by simp only [runF, hl]
      rw [e] at a4
      by_cases hc : ds.length = fn.np ∧ fn.np ≤ fn.N.length
      · rw [if_pos hc] at a4
        have hlen : vs.length = (fn.N.take fn.np).length := by rw [a3.length, hc.1, List.length_take, Nat.min_eq_left hc.2]
        have hul : us.length = fn.np := by rw [← r.length, a3.length, hc.1]
        refine wpAny_call (codeAny_mono (def_run (k := k + 4) (E := WE W σ) (Q := Q) (t := tSs C (runF T pr up k) up (fun cls d _ H => W cls d σ H) fn.body) h3 h4 h5 hr I.env0 (.of_eq (h6 us hul)) r hlen ?_ ⟨av, md, fun _ => False, m, startE fn ds, start_re a1 a2 a3, end_out a4⟩) fun res s' z => ?_)
        · have hr' := hr.deeper (envOfC qual scope s.heap.objs.size a cdv)
          refine list_ok (sound_S 100) (X := cxOf (L2.CX Y.prog Y.w) Y.prog Y.w Y.K Y.mg Y.base fn.N qual scope a cdv Y.A Y.stack s H (WE W σ)) ⟨⟨g.hK, h5.nd, rfl, by have h9 := hr'.un; show (Y.A.deeper (envOfC qual scope s.heap.objs.size a cdv)).units + 200 < cLine; omega, hg, g.bn, g.cn, ?_⟩, ⟨g.xf, g.mt, g.gl⟩, g.er, hr'.mono (by omega), rfl, rfl, h5.kind, passes_of rfl⟩ (takes_of rfl rfl rfl rfl) ⟨rfl, rfl, rfl⟩ body fn.body h7
          intro Z W' sm tk' f' hf'
          refine ih Z W' sm.prog sm.w sm.K sm.mg sm.base (by rw [sm.A]; exact hr') (by rw [sm.A]; exact hg) tk' f' hf'
        · cases res with
          | error e => exact passAt tk σ pins H s e s' I z
          | ok fl =>
            cases fl with
            | ret u => exact I.after z
            | next => exact z.elim
            | brk => exact z.elim
            | cont => exact z.elim
      · rw [if_neg hc] at a4
        exact a4.elim
end
end Ev
set_option Elab.async false
set_option linter.all false
set_option maxRecDepth 100000
set_option maxHeartbeats 1000000
/-! Ev20: new lists. -/
namespace Ev
open PySem L2 PyProof.Rows Classical
section
variable {X : Cx} {C : RC} {F : FT} {W : WX} {G : Glo} {T : TC} {md md1 : Option Addr} {av : Addr → Prop} {H H1 : Hp} {m m1 : Option MSt} {σ : L2.St} {env : Env}
theorem Hb.plus {l : Addr} {o : HO} (r1 : MRel md1 H1 m1) (hl : H1 l = none) : Ext (Hb md1 av H1) (Hb md1 (fun x => av x ∨ x = l) (L2.upd H1 l o)) := fun b u e => by
  obtain ⟨h, n1, n2⟩ := Hb.of e
  have nb : b ≠ l := fun z => by rw [z, hl] at h; cases h
  exact Hb.get (by rw [upd_ne nb]; exact h) (fun z => z.elim n1 nb) fun z => n2 (MS.ext r1 (Ext.new hl) z)
theorem fresh_new {l : Addr} {es : List D} {vs : List V} (r : RE C md av H m σ env) (f1 : Fr md H md1 H1) (r1 : MRel md1 H1 m1) (hl : H1 l = none) (hr : Reps C md1 (Hb md1 av H1) es vs) : RFr C md av H md1 (upd H1 l (.lst vs)) (.lst es) (.ref l) := by
  refine ⟨es, l, vs, rfl, rfl, fun o e => Classical.byContradiction fun n => ?_, upd_same, fun z => MS.tracked r1 (MS.ext r1 (Ext.new hl) z) hl, fun z => ((r.step f1 r1).avt l z).1 hl, Reps.mono (fun _ e => e) (Hb.plus r1 hl) es vs hr⟩
  have z := (f1.keep l o e n).1
  rw [hl] at z
  cases z
theorem s_lstF {e : Expr} {as : List Ex} (h : PE X e (tLst (tEs C F W as))) : PE X e (tEF C F W (.lst as)) := h.imp fun σ H Q q => by
  obtain ⟨md, av, m, env, r, q⟩ := q
  simp only [ev] at q
  refine ⟨md, av, m, env, r, (outG.bind (R := RDs C av) q).mono fun xs H1 ⟨ds, md1, m1, f1, r1, hx, q⟩ => ?_⟩
  by_cases hl : ds.length ≤ LIM
  · rw [if_pos hl] at q
    refine ⟨by rw [Reps.length hx]; exact lim_sz hl, fun p hp => ?_⟩
    have ex := Ext.new (o := .lst xs) hp
    exact q md1 _ _ (Fr.of_ext r1 ex) (r1.ext ex) (fresh_new r f1 r1 hp hx)
  · rw [if_neg hl] at q
    exact q.elim
theorem s_listF {e : Expr} {a : Ex} (hK : C.K = X.K) (h : PE X e (tCB (fun xs H Q => ∃ p ys, xs = [.ref p] ∧ (SqL X.K H p ys ∨ SqT X.K H p ys) ∧ ∀ l, H l = none → Q (.ref l) (upd H l (.lst ys))) (tEs C F W [a]))) : PE X e (tEF C F W (.bi .list [a])) := h.imp fun σ H Q q => by
  obtain ⟨md, av, m, env, r, q⟩ := q
  simp only [ev] at q
  refine ⟨md, av, m, env, r, (outG.bind (R := RDs C av) q).mono fun xs H1 ⟨ds, md1, m1, f1, r1, hx, q⟩ => ?_⟩
  have fin : ∀ {es : List D} {vs : List V}, Reps C md1 (Hb md1 av H1) es vs → outG C W av (RFr C md av H) md1 H1 σ (.ok (.lst es) m1) Q → ∀ l, H1 l = none → Q (.ref l) (upd H1 l (.lst vs)) := fun {es vs} hr q l hl =>
    q md1 _ _ (Fr.of_ext r1 (Ext.new hl)) (r1.ext (Ext.new hl)) (fresh_new r f1 r1 hl hr)
  match ds, hx, q with
  | [], _, q => exact q.elim
  | x :: y :: r, _, q => cases x <;> exact q.elim
  | [d], hx, q =>
    obtain ⟨v, rfl, hv⟩ := reps1 hx
    cases d <;> first | exact q.elim | skip
    · simp only [Rep] at hv
      obtain ⟨b, vs, rfl, ha, hr⟩ := hv
      rw [hK] at ha
      exact ⟨b, vs, rfl, .inr ((Hb.le _ _ _).tup ha), fin hr q⟩
    · simp only [Rep] at hv
      obtain ⟨b, vs, rfl, ha, hr⟩ := hv
      exact ⟨b, vs, rfl, .inl (Or.inl (Or.inl (Hb.le _ _ _ _ _ ha))), fin hr q⟩
    · simp only [Rep] at hv
      obtain ⟨b, rfl, ha⟩ := hv
      rw [hK] at ha
      exact ⟨b, _, rfl, .inl ((Hb.le _ _ _).lst ha), fin (Reps.of_ints _) q⟩
/-- expressions that make a new list -/
def trF (n : Nat) (G : Glo) (T : TC) (e : Expr) : Option Ex := match e with
  | .List es _ => (trsW (trE n G T) es).map .lst
  | .ListComp elt [⟨tg, it, ifs, 0⟩] scope pos => trE (n + 1) G T (.ListComp elt [⟨tg, it, ifs, 0⟩] scope pos)
  | .Call (.Name x _) [a] [] _ => if x = ("list" : Str) && isGl T.sc x && notStarred a then (trE n G T a).map fun a' => .bi .list [a'] else none
  | _ => none
theorem sound_F {n : Nat} (g : CG C F G X) (tk : L2.Takes X W) (ft : Fits T X) {e : Expr} {a : Ex} (h : trF n G T e = some a) : PE X e (tEF C F W a) := by
  have ih := sound_E (C := C) (F := F) (G := G) n
  unfold trF at h
  split at h
  · rename_i es pos
    cases q : trsW (trE n G T) es with
    | none => rw [q] at h; cases h
    | some as =>
      rw [q] at h
      cases h
      exact s_lstF (pe_lst (args_ok g tk ft ih es as q))
  · rename_i elt tg it ifs scope pos
    obtain ⟨own, tg', it', ifs', elt', rfl, hsl, p1, hok, hg, ht, he, p2⟩ := lc_parts ih g tk ft h
    refine (pe_lc g.hc g.nd p1 hok hg ht he p2).imp fun σ H Q q => ?_
    rw [hsl]
    exact cmp_impF g.hK q
  · rename_i x p b pos
    split at h
    · rename_i hh
      simp only [Bool.and_eq_true, decide_eq_true_eq] at hh
      obtain ⟨⟨rfl, hg⟩, hs⟩ := hh
      cases q : trE n G T b with
      | none => rw [q] at h; cases h
      | some b' =>
        rw [q] at h
        cases h
        obtain ⟨i1, i2, _⟩ := ih X W T g tk ft b b' q
        exact s_listF g.hK (pe_callTy call_list_of (gl_ok ft hg) (g.bn _ (by decide +kernel)) (by decide +kernel) (sa_cons (pa_cons i1 sa_nil (ns_star hs)) i2) (by decide) (by decide) (ns_star hs) rfl)
    · cases h
  · cases h
end
end Ev
set_option Elab.async false
set_option linter.all false
set_option maxRecDepth 100000
set_option maxHeartbeats 1000000
/-! Ev21: the law's machine begins. -/
namespace Ev
open PySem L2 PyProof.Rows Classical
/-- a def that is proved by hand -/
structure PrimTxt (K : PySem.W.Frag) (mg : Str → Option Value) (x : Str) (N : List Str) (np : Nat) (body : List Stmt) (scope : Scope) : Prop where
  ex : ∃ (f : Addr) (qual : Str) (params : Arguments) (kV doc pm cdv ct oc : Value) (an od : Option Addr) (osl : Array (Option Value)),
    mg x = some (.ref f) ∧ PySem.W.keepIn K (.ref f) = true ∧ K.lookup f = some ⟨oc, od, .func (PySem.W.fnOf x qual params body scope .none kV doc pm an cdv ct), osl⟩ ∧ PySem.W.codeIn K cdv qual = true ∧
    (∀ us : List Value, us.length = np → bindArgs (PySem.W.fnOf x qual params body scope .none kV doc pm an cdv ct) ⟨us, []⟩ = pure ((N.take np).zip us))
  sc : FnScope N (N.take np) scope
  le : np ≤ N.length
section
variable {P : Program} {w : World} {base : Heap} {K : PySem.W.Frag} {mg : Str → Option Value} {C : RC} {x : Str} {N : List Str} {np : Nat} {body : List Stmt} {scope : Scope} {pr : FT}
theorem prim_call (T : PrimTxt K mg x N np body scope) {k : Nat} {Y : Cx} {W : WX} (e1 : Y.prog = P) (e2 : Y.w = w) (e3 : Y.K = K) (e4 : Y.mg = mg) (e5 : Y.base = base) (hr : Room (k + 1) Y.A) (hg : Y.A.guards = some []) (tk : L2.Takes Y W)
    (hb : ∀ (vs : List V) (H : Hp) (σ : L2.St) (Q : VK), rCall C pr W x vs σ H Q → vs.length = np ∧ ∃ t : TS, (∀ Z : Cx, Z.prog = P → Z.w = w → Z.K = K → Z.mg = mg → Z.base = base → Z.N = N → Z.env.scope = scope → Z.fn = (fun _ => true) → Z.calm = true → Room k Z.A → Z.A.guards = some [] → PassesOwn (model Z.prog Z.w) Z.A Z.env Z.xe → Z.stack = Z.env :: Z.outer → Z.env.frame = some Z.env.locals → PSs Z body t) ∧ t { nx := fun _ H' => Q .non H', rt := Q } (start N vs) H) : CallW Y C pr W x := by
  obtain ⟨a, qual, params, kV, doc, pm, cdv, ct, oc, an, od, osl, h1, h2, h3, h4, h6⟩ := T.ex
  subst e1 e2 e3 e4 e5
  refine ⟨.ref a, h1, h2, fun pins s σ H vs us Q I r q => ?_⟩
  obtain ⟨hl, t, ht, hq⟩ := hb vs H σ Q q
  have hlen : vs.length = (N.take np).length := by rw [hl, List.length_take, Nat.min_eq_left T.le]
  refine wpAny_call (codeAny_mono (def_run (k := k) (E := WE W σ) (Q := Q) (t := t) h3 h4 T.sc hr I.env0 (.of_eq (h6 us (by rw [← r.length, hl]))) r hlen (ht _ rfl rfl rfl rfl rfl rfl rfl rfl rfl (hr.deeper _) hg (passes_of rfl) rfl rfl) hq) fun res s' z => ?_)
  cases res with
  | error e => exact passAt tk σ pins H s e s' I z
  | ok fl =>
    cases fl with
    | ret u => exact I.after z
    | next => exact z.elim
    | brk => exact z.elim
    | cont => exact z.elim
end
theorem mapC_pure {f : D → M (Option D)} {g : D → Option D} {m : Option MSt} : ∀ (xs : List D), (∀ x ∈ xs, f x m = .ok (g x) m) → mapC f xs m = .ok (xs.filterMap g) m
  | [], _ => rfl
  | x :: r, h => by
    have e := h x List.mem_cons_self
    have e2 := mapC_pure r fun y hy => h y (List.mem_cons_of_mem _ hy)
    simp only [mapC]
    unfold M.bind M.calm
    rw [e]
    dsimp only
    rw [e2]
    cases hg : g x <;> simp [M.ret, hg, List.filterMap_cons]
/-! ### _law_begun -/
def BIG : Int := 1000000000000000000
def begunM : List D → M D := fun ds m => match ds, m with
  | [.scr ns], none => if ns.length ≤ LIM then .ok .mm (some ⟨ns, ns.filter (fun n => decide (BIG ≤ n)), 0⟩) else .bad
  | _, _ => .bad
def G0 : Glo := ⟨[], []⟩
def F0 : FT := fun _ _ => M.bad
def exLeft : Ex := .cmp (.v 1) (.v 1) (.seq (.v 0)) (some (.bin .ge (.v 1) (.bin .pow (.c (.int 10)) (.c (.int 18)))))
theorem ev_left {ns : List Int} {r : Env} {m : Option MSt} (hl : ns.length ≤ LIM) : ev F0 exLeft (.sh (.scr ns) :: .no :: r) m = .ok (.lst ((ns.filter fun n => decide (BIG ≤ n)).map D.int)) m := by
  unfold exLeft
  rw [ev_cmp]
  have e1 : evI F0 (.seq (.v 0)) (.sh (.scr ns) :: .no :: r) m = .ok (ns.map D.int) m := rfl
  unfold M.bind
  rw [e1]
  dsimp only
  rw [if_pos (by simpa using hl)]
  have e2 : mapC (turnC F0 (.v 1) (.v 1) (some (.bin .ge (.v 1) (.bin .pow (.c (.int 10)) (.c (.int 18))))) (.sh (.scr ns) :: .no :: r)) (ns.map D.int) m = .ok ((ns.map D.int).filterMap fun d => match d with | .int n => if decide (BIG ≤ n) = true then some (.int n) else none | _ => none) m := by
    apply mapC_pure
    intro x hx
    obtain ⟨n, _, rfl⟩ := List.mem_map.mp hx
    change (if decide (BIG ≤ n) = true then (M.map some (M.ret (D.int n)) : M (Option D)) else M.ret none) m = _
    by_cases h : decide (BIG ≤ n) = true
    · rw [if_pos h]
      show Out.ok (some (D.int n)) m = _
      simp only [h, if_true]
    · rw [if_neg h]
      show Out.ok none m = _
      simp only [h]
      rfl
  rw [e2]
  dsimp only
  unfold M.ret
  rw [List.filterMap_map]
  congr 2
  have e4 : ∀ l : List Int, List.filterMap ((fun d : D => match d with | .int n => if decide (BIG ≤ n) = true then some (D.int n) else none | _ => none) ∘ D.int) l = (l.filter fun n => decide (BIG ≤ n)).map D.int := by
    intro l
    induction l with
    | nil => rfl
    | cons n l ih =>
      rw [List.filterMap_cons, ih]
      by_cases h : BIG ≤ n
      · simp [h]
      · simp [h]
  exact e4 ns
theorem asInts_map : ∀ ns : List Int, asInts (ns.map D.int) = some ns
  | [] => rfl
  | n :: r => by
    show (asInts (r.map D.int)).map (n :: ·) = _
    rw [asInts_map r]
    rfl
/-- the text of _law_begun -/
def BegunTxt (body : List Stmt) (scope : Scope) : Prop := ∃ (N : List Str) (e1 e2 : Expr) (k1 k2 k3 k4 : Nat) (p1 p2 p3 p4 p5 p6 : Pos), N.length = 2 ∧ body = [.Return (some (.Dict [some (.Constant (.str "cells") k1 p1), some (.Constant (.str "left") k2 p2), some (.Constant (.str "at") k3 p3)] [e1, e2, .Constant (.int 0) k4 p4] p5)) p6] ∧
  trF 20 G0 ⟨N, scope, fun _ => true⟩ e1 = some (.bi .list [.v 0]) ∧ trF 20 G0 ⟨N, scope, fun _ => true⟩ e2 = some exLeft
section
variable {P : Program} {w : World} {base : Heap} {K : PySem.W.Frag} {mg : Str → Option Value} {C : RC} {x : Str} {N : List Str} {body : List Stmt} {scope : Scope} {pr : FT}
theorem begun_pure {e1 e2 : Ex} {W : WX} {N : List Str} (hN : N.length = 2) {vs : List V} {H : Hp} {σ : L2.St} {Q : VK} (hp : pr x = begunM) (q : rCall C pr W x vs σ H Q) :
    vs.length = 1 ∧ tDisp [(tC (.str "cells"), tEF C F0 W0 (.bi .list [.v 0])), (tC (.str "left"), tEF C F0 W0 exLeft), (tC (.str "at"), tC (.int 0))] (L2.start N vs) H Q := by
  obtain ⟨md, av, m, ds, hm, ha, hr, h⟩ := q
  rw [hp] at h
  match ds, m, hr, hm, h with
  | [.scr ns], none, hr, hm, h =>
    simp only [begunM] at h
    by_cases hl : ns.length ≤ LIM
    case neg => rw [if_neg hl] at h; exact h.elim
    rw [if_pos hl] at h
    obtain ⟨v, rfl, hv⟩ := reps1 hr
    have emd : md = none := hm.at_
    subst emd
    refine ⟨rfl, fun p hp => ?_⟩
    let fn : Fn := ⟨N, 1, []⟩
    have r0 : RE C none (or2 av fun _ => False) H none (L2.start N [v]) (startE fn [.scr ns]) := start_re (fn := fn) hm ha hr
    have es : startE fn [.scr ns] = [.sh (.scr ns), .no] := by
      unfold startE
      show [Slot.sh (.scr ns)] ++ List.replicate (N.length - 1) Slot.no = _
      rw [hN]
      rfl
    rw [es] at r0
    have nMS : ∀ {G : Hp} {a : Addr}, ¬ MS none G a := fun ⟨_, e, _⟩ => by cases e
    have r1 := r0.addAv (o := .dK []) hp
    refine ⟨none, _, none, _, r1, ?_⟩
    have ev1 : ev F0 (.bi .list [.v 0]) [.sh (.scr ns), .no] none = .ok (.lst (ns.map D.int)) none := rfl
    rw [ev1]
    rintro md2 b H2 f2 r2 ⟨ds, c, cs, e1, rfl, nw, hc, _, nav, hcs⟩
    cases e1
    have emd : md2 = none := r2.at_
    subst emd
    have ecs := Reps.ints hcs (asInts_map ns)
    subst ecs
    have hp2 : H2 p = some (.dK []) := (f2.keep p _ upd_same nMS).1
    have hc1 : L2.upd H p (.dK []) c = none := by
      cases z : L2.upd H p (.dK []) c with
      | none => rfl
      | some o => exact absurd (nw o z) nMS
    refine ⟨none, _, none, _, r1.step f2 r2, ?_⟩
    rw [ev_left hl]
    rintro md3 b H3 f3 r3 ⟨ds, l, ls, e1, rfl, nw3, hl3, _, nav3, hls⟩
    cases e1
    have emd : md3 = none := r3.at_
    subst emd
    have els := Reps.ints hls (asInts_map _)
    subst els
    have hp3 : H3 p = some (.dK []) := (f3.keep p _ hp2 nMS).1
    have hc3 : H3 c = some (.lst (ns.map V.int)) := (f3.keep c _ hc nMS).1
    have hl2 : H2 l = none := by
      cases z : H2 l with
      | none => rfl
      | some o => exact absurd (nw3 o z) nMS
    refine ⟨hp3, [(kCells, .ref c), (kLeft, .ref l), (kAt, .int 0)], rfl, by show 3 ≤ 15; omega, ?_⟩
    have em : mergeK [] [(kCells, V.ref c), (kLeft, V.ref l), (kAt, V.int 0)] = [(kCells, .ref c), (kLeft, .ref l), (kAt, .int 0)] := by rfl
    rw [em]
    have npc : c ≠ p := fun z => by rw [z, upd_same] at hc1; cases hc1
    have npl : l ≠ p := fun z => by rw [z, hp2] at hl2; cases hl2
    have ncl : c ≠ l := fun z => by rw [← z, hc] at hl2; cases hl2
    have n1 : p ≠ sysModules := fun z => by obtain ⟨o1, q⟩ := hm.one; rw [← z, hp] at q; cases q
    obtain ⟨o1, hone⟩ := r3.one
    refine h (some p) (.ref p) _ ⟨fun _ e => (by cases e), fun a o ho _ => ?_⟩ ⟨?_, p, rfl, c, l, upd_same, by rw [upd_ne npc]; exact hc3, by rw [upd_ne npl]; exact hl3, ncl⟩ (by simp only [RD, Rep]; exact ⟨p, rfl, rfl⟩)
    · have nap : a ≠ p := fun z => by rw [z, hp] at ho; cases ho
      have h1 : L2.upd H p (.dK []) a = some o := by rw [upd_ne nap]; exact ho
      have h2 := (f2.keep a o h1 nMS).1
      have h3 := (f3.keep a o h2 nMS).1
      refine ⟨by rw [upd_ne nap]; exact h3, ?_⟩
      rintro ⟨d, e, z | ⟨c', l', t, z, z2⟩⟩
      · cases e; exact nap z
      · cases e
        rw [upd_same] at z
        have z := Option.some.inj z
        unfold mDict at z
        simp only [HO.dK.injEq, List.cons.injEq, Prod.mk.injEq, V.ref.injEq, true_and, and_true] at z
        rcases z2 with z2 | z2
        · rw [z2, ← z.1] at h1
          rw [hc1] at h1
          cases h1
        · rw [z2, ← z.2.1] at h2
          rw [hl2] at h2
          cases h2
    · refine ⟨o1, ?_⟩
      rw [upd_ne (Ne.symm n1)]
      exact hone
  | [], _, _, _, h => exact h.elim
  | .scr _ :: _ :: _, _, _, _, h => exact h.elim
  | [.scr ns], some _, _, _, h => exact h.elim
  | .non :: _, _, _, _, h | .bl _ :: _, _, _, _, h | .int _ :: _, _, _, _, h | .str _ :: _, _, _, _, h | .tup _ :: _, _, _, _, h | .lst _ :: _, _, _, _, h | .dct _ :: _, _, _, _, h | .ins _ _ :: _, _, _, _, h | .mm :: _, _, _, _, h => exact h.elim
theorem prim_begun (T : PrimTxt K mg x N 1 body scope) (hN : N.length = 2) (hK : C.K = K) (hbn : ∀ x ∈ biNames, mg x = none) (B : ∃ (e1 e2 : Expr) (k1 k2 k3 k4 : Nat) (p1 p2 p3 p4 p5 p6 : Pos), body = [.Return (some (.Dict [some (.Constant (.str "cells") k1 p1), some (.Constant (.str "left") k2 p2), some (.Constant (.str "at") k3 p3)] [e1, e2, .Constant (.int 0) k4 p4] p5)) p6] ∧
      trF 20 G0 ⟨N, scope, fun _ => true⟩ e1 = some (.bi .list [.v 0]) ∧ trF 20 G0 ⟨N, scope, fun _ => true⟩ e2 = some exLeft) (hp : pr x = begunM)
    {Y : Cx} {W : WX} (a1 : Y.prog = P) (a2 : Y.w = w) (a3 : Y.K = K) (a4 : Y.mg = mg) (a5 : Y.base = base) (hr : Room 4 Y.A) (hg : Y.A.guards = some []) (tk : L2.Takes Y W) : CallW Y C pr W x := by
  obtain ⟨e1, e2, k1, k2, k3, k4, p1, p2, p3, p4, p5, p6, rfl, t1, t2⟩ := B
  refine prim_call (k := 3) T a1 a2 a3 a4 a5 hr hg tk fun vs H σ Q q => ?_
  obtain ⟨hl, h⟩ := begun_pure (N := N) (e1 := .lst []) (e2 := .lst []) hN hp q
  refine ⟨hl, tRet (tDisp [(tC (.str "cells"), tEF C F0 W0 (.bi .list [.v 0])), (tC (.str "left"), tEF C F0 W0 exLeft), (tC (.str "at"), tC (.int 0))]), fun Z z1 z2 z3 z4 z5 z6 z7 z8 z9 z10 z11 z12 _ _ => ?_, h⟩
  have g : CG C F0 G0 Z := ⟨by rw [hK, z3], by rw [z6]; exact T.sc.nd, z9, by have := z10.un; omega, z11, by rw [z4]; exact hbn, fun x d e => by simp [G0] at e, fun Y W _ _ f hf => by simp [G0] at hf⟩
  have ft : Fits ⟨N, scope, fun _ => true⟩ Z := ⟨z6, z7, z8⟩
  have tk0 : L2.Takes Z W0 := fun u s' ⟨_, _, _, _, _, _, _, _, _, _, _, _, _, _, _, _, w⟩ => w.elim
  exact pss_one (ps_ret (pe_disp (pps_cons pe_str (sound_F g tk0 ft t1) (pps_cons pe_str (sound_F g tk0 ft t2) (pps_cons pe_str pe_int pps_nil))) rfl rfl (by simp) (by show 3 ≤ 15; omega)))
end
end Ev
set_option Elab.async false
set_option linter.all false
set_option maxRecDepth 100000
set_option maxHeartbeats 1000000
/-! Ev22: the law's machine draws. -/
namespace Ev
open PySem L2 PyProof.Rows Classical
/-- the cell that a draw mixes -/
def cellV (cells : List Int) (at_ : Int) : Int := if cells = [] then 5 else cells.getD ((at_ * at_ + at_ / 2) % (cells.length : Int)).toNat 0
def nextV (cells : List Int) (at_ k : Int) : Int := (((cellV cells at_ * 40692 + at_ * 65539 + 7001 * at_ * at_) % 2147483399 * 48271 + 1013 * at_) % 2147483647 / 13) % k
def nextM : List D → M D := fun ds m => match ds, m with
  | [.mm, .int k], some s => if 0 < k ∧ k ≤ 1000000 ∧ 0 ≤ s.at_ ∧ s.at_ ≤ 1000000000 ∧ s.cells.length ≤ LIM then
      match s.left.dropWhile (· == 0) with
      | r :: rest => .ok (.int (r % k)) (some ⟨s.cells, (r / k) :: rest, s.at_⟩)
      | [] => .ok (.int (nextV s.cells (s.at_ + 1) k)) (some ⟨s.cells, [], s.at_ + 1⟩)
    else .bad
  | _, _ => .bad
/-- the machine at d: cells at c, what is left at l -/
structure MQ (H : Hp) (d : Addr) (cells : List Int) (zs : List Int) (t : Int) (H' : Hp) (c l : Addr) : Prop where
  dd : H' d = some (mDict c l t)
  cc : H' c = some (.lst (cells.map V.int))
  ll : H' l = some (.lst (zs.map V.int))
  ne : c ≠ l
  fr : Fr (some d) H (some d) H'
  one : One H'
section
variable {H H' H'' : Hp} {d c l : Addr} {cells zs : List Int} {t : Int}
theorem MQ.mr (q : MQ H d cells zs t H' c l) : MRel (some d) H' (some ⟨cells, zs, t⟩) := ⟨q.one, d, rfl, c, l, q.dd, q.cc, q.ll, q.ne⟩
theorem MQ.ext (q : MQ H d cells zs t H' c l) (e : Ext H' H'') : MQ H d cells zs t H'' c l := ⟨e _ _ q.dd, e _ _ q.cc, e _ _ q.ll, q.ne, q.fr.trans (Fr.of_ext q.mr e), q.one.imp fun _ z => e _ _ z⟩
theorem MQ.ms (q : MQ H d cells zs t H' c l) {a : Addr} : MS (some d) H' a ↔ a = d ∨ a = c ∨ a = l := by
  constructor
  · rintro ⟨d', e, z | ⟨c', l', t', z, z2⟩⟩
    · cases e; exact .inl z
    · cases e
      rw [q.dd] at z
      have z := Option.some.inj z
      unfold mDict at z
      simp only [HO.dK.injEq, List.cons.injEq, Prod.mk.injEq, V.ref.injEq, true_and, and_true] at z
      rcases z2 with z2 | z2
      · exact .inr (.inl (z2.trans z.1.symm))
      · exact .inr (.inr (z2.trans z.2.1.symm))
  · rintro (z | z | z)
    · exact ⟨d, rfl, .inl z⟩
    · exact ⟨d, rfl, .inr ⟨c, l, t, q.dd, .inl z⟩⟩
    · exact ⟨d, rfl, .inr ⟨c, l, t, q.dd, .inr z⟩⟩
theorem MQ.dne (q : MQ H d cells zs t H' c l) : d ≠ c ∧ d ≠ l := ⟨fun z => (by have h := q.dd; rw [z, q.cc] at h; cases h), fun z => (by have h := q.dd; rw [z, q.ll] at h; cases h)⟩
theorem MQ.n1 (q : MQ H d cells zs t H' c l) : d ≠ sysModules ∧ c ≠ sysModules ∧ l ≠ sysModules := by
  obtain ⟨o1, o⟩ := q.one
  exact ⟨fun z => (by rw [← z, q.dd] at o; cases o), fun z => (by rw [← z, q.cc] at o; cases o), fun z => (by rw [← z, q.ll] at o; cases o)⟩
/-- another list is left -/
theorem MQ.put {q : Addr} {ys : List Int} (h : MQ H d cells zs t H' c l) (hq : H' q = none) : MQ H d cells ys t (L2.upd (L2.upd H' q (.lst (ys.map V.int))) d (mDict c q t)) c q := by
  have e := h.ext (Ext.new (o := .lst (ys.map V.int)) hq)
  have ndq : q ≠ d := fun z => by rw [z, h.dd] at hq; cases hq
  have ncq : c ≠ q := fun z => by rw [← z, h.cc] at hq; cases hq
  refine ⟨upd_same, by rw [upd_ne (Ne.symm h.dne.1), upd_ne ncq]; exact h.cc, by rw [upd_ne ndq]; exact upd_same, ncq, ⟨fun _ e => e, fun a o ho n => ?_⟩, ?_⟩
  · obtain ⟨h1, h2⟩ := e.fr.keep a o ho n
    rw [e.ms] at h2
    have nad : a ≠ d := fun z => h2 (.inl z)
    have h0 := (h.fr.keep a o ho n).1
    have naq : a ≠ q := fun z => by rw [z, hq] at h0; cases h0
    refine ⟨by rw [upd_ne nad]; exact h1, ?_⟩
    rintro ⟨d', e', z | ⟨c', l', t', z, z2⟩⟩
    · cases e'; exact nad z
    · cases e'
      rw [upd_same] at z
      have z := Option.some.inj z
      unfold mDict at z
      simp only [HO.dK.injEq, List.cons.injEq, Prod.mk.injEq, V.ref.injEq, true_and, and_true] at z
      rcases z2 with z2 | z2
      · exact h2 (.inr (.inl (z2.trans z.1.symm)))
      · exact naq (z2.trans z.2.1.symm)
  · obtain ⟨o1, o⟩ := e.one
    refine ⟨o1, ?_⟩
    rw [upd_ne (Ne.symm h.n1.1)]
    exact o
/-- what is left is changed in place -/
theorem MQ.set {ys : List Int} (h : MQ H d cells zs t H' c l) : MQ H d cells ys t (L2.upd H' l (.lst (ys.map V.int))) c l := by
  refine ⟨by rw [upd_ne h.dne.2]; exact h.dd, by rw [upd_ne h.ne]; exact h.cc, upd_same, h.ne, ⟨fun _ e => e, fun a o ho n => ?_⟩, ?_⟩
  · obtain ⟨h1, h2⟩ := h.fr.keep a o ho n
    rw [h.ms] at h2
    have nal : a ≠ l := fun z => h2 (.inr (.inr z))
    refine ⟨by rw [upd_ne nal]; exact h1, ?_⟩
    rintro ⟨d', e', z | ⟨c', l', t', z, z2⟩⟩
    · cases e'; exact h2 (.inl z)
    · cases e'
      rw [upd_ne h.dne.2, h.dd] at z
      have z := Option.some.inj z
      unfold mDict at z
      simp only [HO.dK.injEq, List.cons.injEq, Prod.mk.injEq, V.ref.injEq, true_and, and_true] at z
      rcases z2 with z2 | z2
      · exact h2 (.inr (.inl (z2.trans z.1.symm)))
      · exact h2 (.inr (.inr (z2.trans z.2.1.symm)))
  · obtain ⟨o1, o⟩ := h.one
    refine ⟨o1, ?_⟩
    rw [upd_ne (Ne.symm h.n1.2.2)]
    exact o
/-- the count goes up -/
theorem MQ.up {t' : Int} (h : MQ H d cells zs t H' c l) : MQ H d cells zs t' (L2.upd H' d (mDict c l t')) c l := by
  refine ⟨upd_same, by rw [upd_ne (Ne.symm h.dne.1)]; exact h.cc, by rw [upd_ne (Ne.symm h.dne.2)]; exact h.ll, h.ne, ⟨fun _ e => e, fun a o ho n => ?_⟩, ?_⟩
  · obtain ⟨h1, h2⟩ := h.fr.keep a o ho n
    rw [h.ms] at h2
    have nad : a ≠ d := fun z => h2 (.inl z)
    refine ⟨by rw [upd_ne nad]; exact h1, ?_⟩
    rintro ⟨d', e', z | ⟨c', l', t', z, z2⟩⟩
    · cases e'; exact nad z
    · cases e'
      rw [upd_same] at z
      have z := Option.some.inj z
      unfold mDict at z
      simp only [HO.dK.injEq, List.cons.injEq, Prod.mk.injEq, V.ref.injEq, true_and, and_true] at z
      rcases z2 with z2 | z2
      · exact h2 (.inr (.inl (z2.trans z.1.symm)))
      · exact h2 (.inr (.inr (z2.trans z.2.1.symm)))
  · obtain ⟨o1, o⟩ := h.one
    refine ⟨o1, ?_⟩
    rw [upd_ne (Ne.symm h.n1.1)]
    exact o
end
end Ev
set_option Elab.async false
set_option linter.all false
set_option maxRecDepth 100000
set_option maxHeartbeats 1000000
/-! Ev23: _law_next. -/
namespace Ev
open PySem L2 PyProof.Rows Classical
theorem plains_ints : ∀ zs : List Int, D.plains (zs.map D.int) = true
  | [] => rfl
  | z :: r => by
    show (true && D.plains (r.map D.int)) = true
    rw [plains_ints r]; rfl
theorem depth_ints : ∀ zs : List Int, PyData.depthAll (D.pys (zs.map D.int)) = 0
  | [] => rfl
  | z :: r => by
    show max 0 (PyData.depthAll (D.pys (r.map D.int))) = 0
    rw [depth_ints r]; rfl
theorem eqok_ints (zs : List Int) : (D.lst (zs.map D.int)).eqok = true := by
  unfold D.eqok
  rw [Bool.and_eq_true, decide_eq_true_eq]
  refine ⟨plains_ints zs, ?_⟩
  show PyData.depthAll (D.pys (zs.map D.int)) + 1 ≤ 64
  rw [depth_ints]
  omega
theorem ne_nil (zs : List Int) : binD .ne (.lst (zs.map D.int)) (.lst []) = some (.bl (!zs.isEmpty)) := by
  show noD (eqE (.lst (zs.map D.int)) (.lst ([].map D.int))) = _
  unfold eqE eqB
  rw [eqok_ints, eqok_ints]
  cases zs <;> rfl
theorem ix0 {α : Type} (x : α) (r : List α) : ixN (x :: r).length 0 = some 0 := by
  unfold ixN
  rw [if_pos (by omega), if_pos (by simp only [List.length_cons]; omega)]
  rfl
theorem at0 {α : Type} (x : α) (r : List α) : atI (x :: r) 0 = some x := by
  unfold atI
  rw [ix0]
  rfl
def tGl (k : Str) : TE := tDGet (tVar 0) (tC (.str k))
def tNe (C : RC) : TT := tTest (tOp (rBin C .ne) (tGl "left") (tLst tNil))
def tHd (K : PySem.W.Frag) : TE := tOp (rIxL K) (tGl "left") (tC (.int 0))
def tZero (C : RC) (K : PySem.W.Frag) : TT := tTest (tOp (rBin C .eq) (tHd K) (tC (.int 0)))
def eDiv : Ex := .bin .fdiv (.v 2) (.v 1)
def eMod : Ex := .bin .mod (.bi .int [.v 2]) (.v 1)
section
variable {C : RC} {K : PySem.W.Frag} {H H' : Hp} {d c l : Addr} {cells zs : List Int} {t : Int} {σ : L2.St}
theorem gl_left {Q : VK} (h0 : σ[0]? = some (some (.ref d))) (q : MQ H d cells zs t H' c l) (h : Q (.ref l) H') : tGl "left" σ H' Q := ⟨_, h0, d, .ref l, rfl, .inl ⟨_, kLeft, .inl q.dd, rfl, rfl⟩, h⟩
theorem gl_cells {Q : VK} (h0 : σ[0]? = some (some (.ref d))) (q : MQ H d cells zs t H' c l) (h : Q (.ref c) H') : tGl "cells" σ H' Q := ⟨_, h0, d, .ref c, rfl, .inl ⟨_, kCells, .inl q.dd, rfl, rfl⟩, h⟩
theorem gl_at {Q : VK} (h0 : σ[0]? = some (some (.ref d))) (q : MQ H d cells zs t H' c l) (h : Q (.int t) H') : tGl "at" σ H' Q := ⟨_, h0, d, .int t, rfl, .inl ⟨_, kAt, .inl q.dd, rfl, rfl⟩, h⟩
theorem hb0 {H : Hp} {a : Addr} {o : HO} (h : H a = some o) : Hb none (fun _ => False) H a = some o := Hb.get h id fun ⟨_, e, _⟩ => by cases e
theorem gr0 {H : Hp} (h : One H) : GR none (fun _ => False) H none := ⟨⟨h, rfl⟩, fun _ z => z.elim⟩
theorem rep_ints {H : Hp} {a : Addr} {zs : List Int} (h : H a = some (.lst (zs.map V.int))) : Rep C none (Hb none (fun _ => False) H) (.lst (zs.map D.int)) (.ref a) := by
  simp only [Rep]
  exact ⟨a, _, rfl, hb0 h, Reps.of_ints zs⟩
theorem ne_ok {Q : Bool → Hp → Prop} (h0 : σ[0]? = some (some (.ref d))) (q : MQ H d cells zs t H' c l) (h : ∀ H'', Ext H' H'' → Q (!zs.isEmpty) H'') : tNe C σ H' Q := by
  refine gl_left h0 q ⟨by show 0 ≤ sizeLine; omega, fun p hp => ?_⟩
  have q2 := q.ext (Ext.new (o := .lst []) hp)
  refine ⟨none, fun _ => False, none, _, .lst [], _, gr0 q2.one, rep_ints q2.ll, by simp only [Rep]; exact ⟨p, [], rfl, hb0 upd_same, by simp [Reps]⟩, ne_nil zs, fun v H3 ex rv => ?_⟩
  simp only [Rep] at rv
  exact ⟨_, rv, h H3 ((Ext.new hp).trans ex)⟩
theorem hd_ok {Q : VK} {z : Int} {r : List Int} (h0 : σ[0]? = some (some (.ref d))) (q : MQ H d cells (z :: r) t H' c l) (h : Q (.int z) H') : tHd K σ H' Q :=
  gl_left h0 q ⟨l, _, 0, .int z, rfl, rfl, Or.inl (Or.inl q.ll), at0 _ _, h⟩
theorem zero_ok {Q : Bool → Hp → Prop} {z : Int} {r : List Int} (h0 : σ[0]? = some (some (.ref d))) (q : MQ H d cells (z :: r) t H' c l) (h : ∀ H'', Ext H' H'' → Q (z == 0) H'') : tZero C K σ H' Q := by
  refine hd_ok h0 q ⟨none, fun _ => False, none, .int z, .int 0, .bl (z == 0), gr0 q.one, by simp [Rep], by simp [Rep], rfl, fun v H3 ex rv => ?_⟩
  simp only [Rep] at rv
  exact ⟨_, rv, h H3 ex⟩
theorem cut1 (z : Int) (r : List Int) : cutV ((z :: r).map V.int) (some 1) none = r.map V.int := by
  unfold cutV
  rw [HT.sIx_none, show HT.sIx ((z :: r).map V.int).length 0 (some 1) = 1 from by
    rw [show (1 : Int) = ((1 : Nat) : Int) from rfl, HT.sIx_nat]
    simp]
  simp [List.take_of_length_le]
/-- the first loop -/
def tLp (C : RC) (K : PySem.W.Frag) : TS := tWhile (tAnd (tNe C) (tZero C K)) (sDPut (tVar 0) (tC (.str "left")) (tSl (rSlL K) (tGl "left") (tPart (tC (.int 1))) tNoPart))
theorem put_left {c l q : Addr} {t : Int} : putK [(kCells, V.ref c), (kLeft, V.ref l), (kAt, V.int t)] kLeft (.ref q) = [(kCells, V.ref c), (kLeft, V.ref q), (kAt, V.int t)] := by rfl
theorem put_at {c l : Addr} {t t' : Int} : putK [(kCells, V.ref c), (kLeft, V.ref l), (kAt, V.int t)] kAt (.int t') = [(kCells, V.ref c), (kLeft, V.ref l), (kAt, V.int t')] := by rfl
theorem lp_ok {D : Ends} (h0 : σ[0]? = some (some (.ref d))) (q : MQ H d cells zs t H' c l) (h : ∀ H'' c l, MQ H d cells (zs.dropWhile (· == 0)) t H'' c l → D.nx σ H'') : tLp C K D σ H' := by
  refine ⟨fun n σ' G => σ' = σ ∧ ∃ ys c l, n = ys.length ∧ MQ H d cells ys t G c l ∧ ys.dropWhile (· == 0) = zs.dropWhile (· == 0), ⟨_, rfl, zs, c, l, rfl, q, rfl⟩, ?_⟩
  rintro n σ' G ⟨e0, ys, c, l, rfl, q, e⟩
  subst σ'
  refine ne_ok h0 q fun G1 e1 => ?_
  have q1 := q.ext e1
  cases ys with
  | nil =>
    have q1 : MQ H d cells (zs.dropWhile (· == 0)) t G1 c l := e ▸ q1
    exact h G1 c l q1
  | cons y ys =>
    refine zero_ok h0 q1 fun G2 e2 => ?_
    have q2 := q1.ext e2
    by_cases hy : y = 0
    · subst hy
      refine ⟨fun σ' G' => ∃ m', m' < (0 :: ys).length ∧ (σ' = σ ∧ ∃ zs' c l, m' = zs'.length ∧ MQ H d cells zs' t G' c l ∧ zs'.dropWhile (· == 0) = zs.dropWhile (· == 0)), fun σ' G' z => z, ?_⟩
      refine gl_left h0 q2 ⟨1, rfl, l, _, rfl, Or.inl (Or.inl q2.ll), fun p hp => ?_⟩
      have q3 := q2.put (ys := ys) hp
      refine ⟨_, h0, d, _, rfl, .inl ⟨[(kCells, .ref c), (kLeft, .ref l), (kAt, .int t)], kLeft, ?_, rfl, by show 3 < sizeLine; decide, rfl⟩, ys.length, by simp, rfl, ys, c, p, rfl, ?_, by rw [← e]; rfl⟩
      · rw [upd_ne (fun z => by rw [← z, q2.dd] at hp; cases hp)]
        exact q2.dd
      · rw [cut1, put_left]
        exact q3
    · have hy : (y == 0) = false := by simpa using hy
      rw [hy]
      have ez : (y :: ys).dropWhile (· == 0) = y :: ys := by rw [List.dropWhile_cons, hy]; rfl
      rw [ez] at e
      have q2 : MQ H d cells (zs.dropWhile (· == 0)) t G2 c l := e ▸ q2
      exact h G2 c l q2
end
end Ev
set_option Elab.async false
set_option linter.all false
set_option maxRecDepth 100000
set_option maxHeartbeats 1000000
/-! Ev24: _law_next, the rest. -/
namespace Ev
open PySem L2 PyProof.Rows Classical
def eCell : Ex := .ite (.bin .ne (.v 4) (.lst [])) (.bi .int [.ix (.v 4) (.bin .mod (.bi .int [.bin .add (.bin .mul (.v 3) (.v 3)) (.bin .fdiv (.v 3) (.c (.int 2)))]) (.bi .len [.v 4]))]) (.c (.int 5))
def eBlend : Ex := .bin .mod (.bi .int [.bin .add (.bin .add (.bin .mul (.v 5) (.c (.int 40692))) (.bin .mul (.v 3) (.c (.int 65539)))) (.bin .mul (.bin .mul (.c (.int 7001)) (.v 3)) (.v 3))]) (.c (.int 2147483399))
def eOut : Ex := .bin .mod (.bi .int [.bin .fdiv (.bin .mod (.bi .int [.bin .add (.bin .mul (.v 6) (.c (.int 48271))) (.bin .mul (.c (.int 1013)) (.v 3))]) (.c (.int 2147483647))) (.c (.int 13))]) (.v 1)
def tailS : List Sm := [.asg (.v 5) eCell, .asg (.v 6) eBlend, .ret eOut]
theorem log_small {i : Int} (h0 : 0 ≤ i) (h : i < 2 ^ 59) : i.natAbs.log2 < 60 := PySem.Flt.log2_lt_of (by omega) (by omega)
theorem mul_l {i j : Int} (h0 : 0 ≤ i) (h : i < 2 ^ 59) : mulOk i j = true := by
  unfold mulOk
  rw [decide_eq_true (log_small h0 h)]
  simp
theorem mul_r {i j : Int} (h0 : 0 ≤ j) (h : j < 2 ^ 59) : mulOk i j = true := by
  unfold mulOk
  rw [decide_eq_true (log_small h0 h)]
  simp
theorem b_mulr {i j : Int} (h0 : 0 ≤ j) (h : j < 2 ^ 59) : binD .mul (.int i) (.int j) = some (.int (i * j)) := by
  show (if mulOk i j then some (D.int (i * j)) else none) = _
  rw [mul_r h0 h]; rfl
theorem b_mull {i j : Int} (h0 : 0 ≤ i) (h : i < 2 ^ 59) : binD .mul (.int i) (.int j) = some (.int (i * j)) := by
  show (if mulOk i j then some (D.int (i * j)) else none) = _
  rw [mul_l h0 h]; rfl
theorem b_add (i j : Int) : binD .add (.int i) (.int j) = some (.int (i + j)) := rfl
theorem b_mod {i j : Int} (h : 0 < j) : binD .mod (.int i) (.int j) = some (.int (i % j)) := by
  show (if 0 < j then some (D.int (i % j)) else none) = _
  rw [if_pos h]
theorem b_div {i j : Int} (h : 0 < j) (h2 : j < 2 ^ 59) : binD .fdiv (.int i) (.int j) = some (.int (i / j)) := by
  show (if 0 < j ∧ j.natAbs.log2 < 9000 then some (D.int (i / j)) else none) = _
  rw [if_pos ⟨h, Nat.lt_of_lt_of_le (log_small (by omega) h2) (by omega)⟩]
theorem b_int (i : Int) : biD .int [.int i] = some (.int i) := rfl
/-! ### steps of the evaluator -/
section
variable {F : FT} {env : Env} {m : Option MSt}
theorem e_v {i : Nat} {d : D} (h : env[i]? = some (.sh d)) : ev F (.v i) env m = .ok d m := by
  simp only [ev, h, M.ret]
theorem e_bin {o : BOp} {a b : Ex} {x y z : D} {m1 m2 : Option MSt} (h1 : ev F a env m = .ok x m1) (h2 : ev F b env m1 = .ok y m2) (h : binD o x y = some z) : ev F (.bin o a b) env m = .ok z m2 := by
  simp only [ev, M.bind, h1, h2, binM, h, M.ret]
theorem e_bi1 {o : Bi} {a : Ex} {x z : D} {m1 : Option MSt} (hn : a.isStar = false) (h1 : ev F a env m = .ok x m1) (h : biD o [x] = some z) : ev F (.bi o [a]) env m = .ok z m1 := by
  simp only [ev]
  rw [evs_one hn]
  simp only [M.bind, h1, M.ret, h, M.lift]
theorem e_ix {a b : Ex} {x y z : D} {m1 m2 : Option MSt} (h1 : ev F a env m = .ok x m1) (h2 : ev F b env m1 = .ok y m2) (h : ixD x y = some z) : ev F (.ix a b) env m = .ok z m2 := by
  simp only [ev, M.bind, h1, h2, M.lift, h, M.ret]
theorem e_t {t a b : Ex} {m1 : Option MSt} (h1 : ev F t env m = .ok (.bl true) m1) : ev F (.ite t a b) env m = ev F a env m1 := by
  simp only [ev, M.bind, h1, asB, M.lift, M.ret, if_true]
theorem e_f {t a b : Ex} {m1 : Option MSt} (h1 : ev F t env m = .ok (.bl false) m1) : ev F (.ite t a b) env m = ev F b env m1 := by
  simp only [ev, M.bind, h1, asB, M.lift, M.ret]
  rfl
end
theorem cell_eval {cells : List Int} {at_ : Int} {s0 s1 s2 s5 s6 : Slot} (h0 : 0 ≤ at_) (h1 : at_ < 2 ^ 31) (hl : cells.length ≤ LIM) : ev F0 eCell [s0, s1, s2, .sh (.int at_), .sh (.lst (cells.map D.int)), s5, s6] none = .ok (.int (cellV cells at_)) none := by
  have v3 : ev F0 (.v 3) [s0, s1, s2, .sh (.int at_), .sh (.lst (cells.map D.int)), s5, s6] none = .ok (.int at_) none := rfl
  have v4 : ev F0 (.v 4) [s0, s1, s2, .sh (.int at_), .sh (.lst (cells.map D.int)), s5, s6] none = .ok (.lst (cells.map D.int)) none := rfl
  have en : ev F0 (.lst []) [s0, s1, s2, .sh (.int at_), .sh (.lst (cells.map D.int)), s5, s6] none = .ok (.lst []) none := rfl
  have ec : ev F0 (.bin .ne (.v 4) (.lst [])) [s0, s1, s2, .sh (.int at_), .sh (.lst (cells.map D.int)), s5, s6] none = .ok (.bl (!cells.isEmpty)) none := e_bin v4 en (ne_nil cells)
  unfold eCell
  cases cells with
  | nil => rw [e_f ec]; rfl
  | cons x r =>
    rw [e_t ec]
    have hp : (0 : Int) < ((x :: r).length : Int) := by simp only [List.length_cons]; omega
    have hm0 : 0 ≤ (at_ * at_ + at_ / 2) % ((x :: r).length : Int) := Int.emod_nonneg _ (by omega)
    have hm1 : (at_ * at_ + at_ / 2) % ((x :: r).length : Int) < ((x :: r).length : Int) := Int.emod_lt_of_pos _ hp
    refine e_bi1 rfl (e_ix (y := .int ((at_ * at_ + at_ / 2) % ((x :: r).length : Int))) v4 (e_bin (e_bi1 rfl (e_bin (e_bin v3 v3 (b_mull h0 (by omega))) (e_bin v3 rfl (b_div (by omega) (by omega))) (b_add _ _)) (b_int _)) (e_bi1 (x := .lst ((x :: r).map D.int)) (z := .int (((x :: r).map D.int).length)) rfl v4 rfl) ?_) ?_) (b_int _)
    · rw [List.length_map]
      exact b_mod hp
    · show L2.atI ((x :: r).map D.int) _ = _
      unfold L2.atI L2.ixN cellV
      rw [List.length_map, if_pos hm0, if_pos hm1, if_neg (by simp)]
      show ((x :: r).map D.int)[_]? = _
      rw [List.getElem?_map, List.getD_eq_getElem?_getD]
      have hlt : ((at_ * at_ + at_ / 2) % ((x :: r).length : Int)).toNat < (x :: r).length := by omega
      rw [List.getElem?_eq_getElem hlt]
      rfl
theorem mod_lt' (i : Int) {k : Int} (h : 0 < k) : 0 ≤ i % k ∧ i % k < k := ⟨Int.emod_nonneg _ (by omega), Int.emod_lt_of_pos _ h⟩
theorem tail_eval {up : List (Str × Str)} {cells : List Int} {at_ k : Int} {s0 s2 : Slot} (h0 : 0 ≤ at_) (h1 : at_ < 2 ^ 31) (hl : cells.length ≤ LIM) (hk : 0 < k) :
    exSs F0 up tailS [s0, .sh (.int k), s2, .sh (.int at_), .sh (.lst (cells.map D.int)), .no, .no] none = .rt (.int (nextV cells at_ k)) none := by
  unfold tailS
  simp only [exSs, exS]
  rw [cell_eval h0 h1 hl]
  simp only [onO, bindT, SOut.seq, List.set]
  have e1 : ev F0 eBlend [s0, .sh (.int k), s2, .sh (.int at_), .sh (.lst (cells.map D.int)), .sh (.int (cellV cells at_)), .no] none = .ok (.int ((cellV cells at_ * 40692 + at_ * 65539 + 7001 * at_ * at_) % 2147483399)) none := by
    unfold eBlend
    exact e_bin (e_bi1 rfl (e_bin (e_bin (e_bin rfl rfl (b_mulr (by omega) (by omega))) (e_bin rfl rfl (b_mulr (by omega) (by omega))) (b_add _ _)) (e_bin (e_bin rfl rfl (b_mull (by omega) (by omega))) rfl (b_mulr h0 (by omega))) (b_add _ _)) (b_int _)) rfl (b_mod (by omega))
  rw [e1]
  simp only [onO, bindT, SOut.seq, List.set]
  have e2 : ev F0 eOut [s0, .sh (.int k), s2, .sh (.int at_), .sh (.lst (cells.map D.int)), .sh (.int (cellV cells at_)), .sh (.int ((cellV cells at_ * 40692 + at_ * 65539 + 7001 * at_ * at_) % 2147483399))] none = .ok (.int (nextV cells at_ k)) none := by
    unfold eOut
    exact e_bin (e_bi1 rfl (e_bin (e_bin (e_bi1 rfl (e_bin (e_bin rfl rfl (b_mulr (by omega) (by omega))) (e_bin rfl rfl (b_mull (by omega) (by omega))) (b_add _ _)) (b_int _)) rfl (b_mod (by omega))) rfl (b_div (by omega) (by omega))) (b_int _)) rfl (b_mod hk)
  rw [e2]
end Ev
set_option Elab.async false
set_option linter.all false
set_option maxRecDepth 100000
set_option maxHeartbeats 1000000
/-! Ev25: _law_next, joined. -/
namespace Ev
open PySem L2 PyProof.Rows Classical
section
variable {C : RC} {K : PySem.W.Frag} {H H' : Hp} {d c l : Addr} {cells zs : List Int} {t : Int} {σ : L2.St}
theorem Fr0.ext {H1 : Hp} {md' : Option Addr} (f : Fr none H md' H1) : Ext H H1 := fun a o h => (f.keep a o h fun ⟨_, e, _⟩ => by cases e).1
theorem Stp0.ext {H1 : Hp} {md' : Option Addr} {own' : Addr → Prop} (f : Stp none (fun _ => False) H md' own' H1) : Ext H H1 := fun a o h => (f.keep a o h (fun ⟨_, e, _⟩ => by cases e) id).1
/-- slots of ints and such, no machine -/
theorem re0 {env : Env} (h1 : One H) (hl : σ.length = env.length) (hs : ∀ (i : Nat) d, env[i]? = some (.sh d) → ∃ v, σ[i]? = some (some v) ∧ Rep C none (Hb none (fun _ => False) H) d v) (ho : ∀ (i : Nat) ds, env[i]? ≠ some (.ol ds)) : RE C none (fun _ => False) H none σ env :=
  ⟨⟨h1, rfl⟩, fun _ z => z.elim, hl, hs, fun i ds e => absurd e (ho i ds), fun i j ds _ _ e => absurd e (ho i ds)⟩
theorem or2_no : or2 (fun _ => False) (fun _ => False) = (fun _ : Addr => False) := by
  funext a
  simp [or2]
def tNx (C : RC) (K : PySem.W.Frag) (up : List (Str × Str)) : TS := tSeq (tLp C K) (tSeq (tIfS (tNe C) (tSeq (tAsg (tHd K) (gName 2)) (tSeq (tAsg (tE C F0 W0 eDiv) (gSub (tGl "left") (tC (.int 0)) rSetL)) (tRet (tE C F0 W0 eMod)))) tNext)
  (tSeq (tPar 3 4 (tCons (tOp (rBin C .add) (tGl "at") (tC (.int 1))) (tCons (tGl "cells") tNil))) (tSeq (sDPut (tVar 0) (tC (.str "at")) (tVar 3)) (tSs C F0 up W0 tailS))))
theorem next_pure {up : List (Str × Str)} {W : WX} {pr : FT} {x : Str} {N : List Str} (hN : N.length = 7) {vs : List V} {H : Hp} {σ0 : L2.St} {Q : VK} (hp : pr x = nextM) (q : rCall C pr W x vs σ0 H Q) :
    vs.length = 2 ∧ tNx C K up { nx := fun _ H' => Q .non H', rt := Q } (L2.start N vs) H := by
  obtain ⟨md, av, m, ds, hm, ha, hr, h⟩ := q
  rw [hp] at h
  have bad : ∀ {P : Prop}, outG C W av (RD C av) md H σ0 Out.bad Q → P := fun z => z.elim
  cases m with
  | none =>
    have e : nextM ds none = .bad := by
      unfold nextM
      split <;> first | rfl | (rename_i z; cases z)
    rw [e] at h
    exact h.elim
  | some s =>
    match ds, hr, h with
    | [.mm, .int k], hr, h =>
      obtain ⟨v, w, rfl, hv, hw⟩ := reps2 hr
      simp only [Rep] at hv hw
      obtain ⟨d, rfl, rfl⟩ := hv
      subst hw
      simp only [nextM] at h
      split at h
      case isFalse => exact h.elim
      rename_i hc
      obtain ⟨hk0, hk1, ht0, ht1, hcl⟩ := hc
      obtain ⟨d', e, c, l, h1, h2, h3, h4⟩ := hm.at_
      cases e
      have q0 : MQ H d s.cells s.left s.at_ H c l := ⟨h1, h2, h3, h4, Fr.refl _ _, hm.one⟩
      have es : L2.start N [.ref d, .int k] = [some (.ref d), some (.int k), none, none, none, none, none] := by
        unfold L2.start
        rw [hN]
        rfl
      rw [es]
      refine ⟨rfl, lp_ok (d := d) rfl q0 fun G1 c l q1 => ?_⟩
      refine ne_ok (d := d) rfl q1 fun G2 e2 => ?_
      have q2 := q1.ext e2
      cases hz : s.left.dropWhile (· == 0) with
      | cons r rest =>
        rw [hz] at h q2
        refine hd_ok (d := d) rfl q2 ?_
        show tSeq _ _ _ [some (.ref d), some (.int k), some (.int r), none, none, none, none] G2
        have re : RE C none (fun _ => False) G2 none [some (.ref d), some (.int k), some (.int r), none, none, none, none] [.no, .sh (.int k), .sh (.int r), .no, .no, .no, .no] := by
          refine re0 q2.one rfl (fun i dd e => ?_) fun i dd e => ?_
          · rcases i with _ | _ | _ | _ | _ | _ | _ | i <;> simp at e
            · exact ⟨_, rfl, by rw [← e]; simp [Rep]⟩
            · exact ⟨_, rfl, by rw [← e]; simp [Rep]⟩
          · rcases i with _ | _ | _ | _ | _ | _ | _ | i <;> simp at e
        refine ⟨none, _, none, _, re, ?_⟩
        have ed : ev F0 eDiv [.no, .sh (.int k), .sh (.int r), .no, .no, .no, .no] none = .ok (.int (r / k)) none := e_bin rfl rfl (b_div hk0 (by omega))
        rw [ed]
        intro md' b G3 f3 r3 hb
        simp only [RD, Rep] at hb
        subst hb
        have e3 := Fr0.ext f3
        have q3 := q2.ext e3
        refine gl_left (d := d) rfl q3 ⟨l, _, 0, 0, rfl, rfl, q3.ll, ix0 _ _, ?_⟩
        have q4 := q3.set (ys := (r / k) :: rest)
        have re4 : RE C none (fun _ => False) (L2.upd G3 l (.lst (((r / k) :: rest).map V.int))) none [some (.ref d), some (.int k), some (.int r), none, none, none, none] [.no, .sh (.int k), .sh (.int r), .no, .no, .no, .no] := by
          refine re0 q4.one rfl (fun i dd e => ?_) fun i dd e => ?_
          · rcases i with _ | _ | _ | _ | _ | _ | _ | i <;> simp at e
            · exact ⟨_, rfl, by rw [← e]; simp [Rep]⟩
            · exact ⟨_, rfl, by rw [← e]; simp [Rep]⟩
          · rcases i with _ | _ | _ | _ | _ | _ | _ | i <;> simp at e
        refine ⟨none, _, none, _, re4, ?_⟩
        have em : ev F0 eMod [.no, .sh (.int k), .sh (.int r), .no, .no, .no, .no] none = .ok (.int (r % k)) none := e_bin (e_bi1 rfl rfl (b_int _)) rfl (b_mod hk0)
        rw [em]
        intro md5 b G5 f5 r5 hb
        simp only [RD, Rep] at hb
        subst hb
        have q5 := q4.ext (Fr0.ext f5)
        exact h (some d) (.int (r % k)) G5 q5.fr q5.mr (by simp [RD, Rep])
      | nil =>
        rw [hz] at h q2
        rw [if_neg (by simp)]
        show tSeq _ _ _ [some (.ref d), some (.int k), none, none, none, none, none] G2
        refine gl_at (d := d) rfl q2 ⟨none, fun _ => False, none, .int s.at_, .int 1, _, gr0 q2.one, by simp [Rep], by simp [Rep], b_add _ _, fun v G3 e3 rv => ?_⟩
        simp only [Rep] at rv
        subst rv
        have q3 := q2.ext e3
        refine gl_cells (d := d) rfl q3 ⟨_, _, rfl, ?_⟩
        show tSeq _ _ _ [some (.ref d), some (.int k), none, some (.int (s.at_ + 1)), some (.ref c), none, none] G3
        have q4 := q3.up (t' := s.at_ + 1)
        refine ⟨_, rfl, _, rfl, d, _, rfl, .inl ⟨[(kCells, .ref c), (kLeft, .ref l), (kAt, .int s.at_)], kAt, q3.dd, rfl, by show 3 < sizeLine; decide, rfl⟩, ?_⟩
        rw [put_at]
        have re4 : RE C none (or2 (fun _ => False) (fun _ => False)) (L2.upd G3 d (mDict c l (s.at_ + 1))) none [some (.ref d), some (.int k), none, some (.int (s.at_ + 1)), some (.ref c), none, none] [.no, .sh (.int k), .no, .sh (.int (s.at_ + 1)), .sh (.lst (s.cells.map D.int)), .no, .no] := by
          rw [or2_no]
          refine re0 q4.one rfl (fun i dd e => ?_) fun i dd e => ?_
          · rcases i with _ | _ | _ | _ | _ | _ | _ | i <;> simp at e
            · exact ⟨_, rfl, by rw [← e]; simp [Rep]⟩
            · exact ⟨_, rfl, by rw [← e]; simp [Rep]⟩
            · exact ⟨_, rfl, by rw [← e]; exact rep_ints q4.cc⟩
          · rcases i with _ | _ | _ | _ | _ | _ | _ | i <;> simp at e
        refine ⟨fun _ => False, none, fun _ => False, none, _, re4, ?_⟩
        rw [tail_eval (by omega) (by omega) hcl hk0]
        intro md' own' v G5 st r5 rv
        simp only [Rep] at rv
        subst rv
        have q5 := q4.ext (Stp0.ext st)
        exact h (some d) _ G5 q5.fr q5.mr (by simp [RD, Rep])
    | [], _, h => exact h.elim
    | [.mm], _, h => exact h.elim
    | .mm :: x :: y :: r, _, h => cases x <;> exact h.elim
    | [.mm, .non], _, h | [.mm, .bl _], _, h | [.mm, .str _], _, h | [.mm, .tup _], _, h | [.mm, .lst _], _, h | [.mm, .dct _], _, h | [.mm, .ins _ _], _, h | [.mm, .mm], _, h | [.mm, .scr _], _, h => exact h.elim
    | .non :: _, _, h | .bl _ :: _, _, h | .int _ :: _, _, h | .str _ :: _, _, h | .tup _ :: _, _, h | .lst _ :: _, _, h | .dct _ :: _, _, h | .ins _ _ :: _, _, h | .scr _ :: _, _, h => exact h.elim
def NX : List Str := ["_law_m", "_law_many", "_law_rest", "_law_at", "_law_bits", "_law_cell", "_law_blend"]
def gx (k : Str) (p q r : Pos) (j : Nat) : Expr := .Subscript (.Name "_law_m" p) (.Constant (.str k) j q) r
/-- the text of _law_next -/
structure NextTxt (body : List Stmt) (scope : Scope) : Prop where
  ex : ∃ (p : Nat → Pos) (j : Nat → Nat) (eD eM : Expr) (s5 s6 s7 : Stmt), body =
    [.While (.BoolOp .And [.Compare (gx "left" (p 0) (p 1) (p 2) (j 0)) [.NotEq] [.List [] (p 3)] (p 4), .Compare (.Subscript (gx "left" (p 5) (p 6) (p 7) (j 1)) (.Constant (.int 0) (j 2) (p 8)) (p 9)) [.Eq] [.Constant (.int 0) (j 3) (p 10)] (p 11)] (p 12))
        [.Assign [gx "left" (p 13) (p 14) (p 15) (j 4)] (.Subscript (gx "left" (p 16) (p 17) (p 18) (j 5)) (.Slice (some (.Constant (.int 1) (j 6) (p 19))) none none (p 20)) (p 21)) (p 22)] [] (p 23),
      .If (.Compare (gx "left" (p 24) (p 25) (p 26) (j 7)) [.NotEq] [.List [] (p 27)] (p 28))
        [.Assign [.Name "_law_rest" (p 29)] (.Subscript (gx "left" (p 30) (p 31) (p 32) (j 8)) (.Constant (.int 0) (j 9) (p 33)) (p 34)) (p 35), .Assign [.Subscript (gx "left" (p 36) (p 37) (p 38) (j 10)) (.Constant (.int 0) (j 11) (p 39)) (p 40)] eD (p 41), .Return (some eM) (p 42)] [] (p 43),
      .Assign [.Tuple [.Name "_law_at" (p 44), .Name "_law_bits" (p 45)] (j 12) (p 46)] (.Tuple [.BinOp (gx "at" (p 47) (p 48) (p 49) (j 13)) .Add (.Constant (.int 1) (j 14) (p 50)) (p 51), gx "cells" (p 52) (p 53) (p 54) (j 15)] (j 16) (p 55)) (p 56),
      .Assign [gx "at" (p 57) (p 58) (p 59) (j 17)] (.Name "_law_at" (p 60)) (p 61), s5, s6, s7] ∧
    trE 20 G0 ⟨NX, scope, fun _ => true⟩ eD = some eDiv ∧ trHs.notComp eD = true ∧ trE 20 G0 ⟨NX, scope, fun _ => true⟩ eM = some eMod ∧ trSs (trS 30 G0 [] ⟨NX, scope, fun _ => true⟩) [s5, s6, s7] = some tailS ∧
    swS ⟨NX, scope, fun _ => true⟩ [.Name "_law_at" (p 44), .Name "_law_bits" (p 45)] [.BinOp (gx "at" (p 47) (p 48) (p 49) (j 13)) .Add (.Constant (.int 1) (j 14) (p 50)) (p 51), gx "cells" (p 52) (p 53) (p 54) (j 15)] = some (some (["_law_at", "_law_bits"] : List Str))
  loc : NX.all (isLoc ⟨NX, scope, fun _ => true⟩) = true
section
variable {P : Program} {w : World} {base : Heap} {K : PySem.W.Frag} {mg : Str → Option Value} {C : RC} {x : Str} {body : List Stmt} {scope : Scope} {pr : FT}
theorem prim_next {up : List (Str × Str)} (hxf : ∀ c A, C.cl c = some A → XfC K A ∧ PySem.W.findIn K (.ref A) (fieldOf c) = some none) (hmt : ∀ c A x A', C.cl c = some A → C.cl x = some A' → PySem.W.exmOne K (.ref A) (.ref A') = some (takesC up c x)) (hgl : ∀ x A, C.cl x = some A → mg x = some (.ref A)) (T : PrimTxt K mg x NX 2 body scope) (hK : C.K = K) (hbn : ∀ x ∈ biNames, mg x = none) (B : NextTxt body scope) (hp : pr x = nextM)
    {Y : Cx} {W : WX} (a1 : Y.prog = P) (a2 : Y.w = w) (a3 : Y.K = K) (a4 : Y.mg = mg) (a5 : Y.base = base) (hr : Room 4 Y.A) (hg : Y.A.guards = some []) (tk : L2.Takes Y W) : CallW Y C pr W x := by
  obtain ⟨p, j, eD, eM, s5, s6, s7, rfl, t1, t2, t3, t4, t5⟩ := B.ex
  refine prim_call (k := 3) T a1 a2 a3 a4 a5 hr hg tk fun vs H σ Q q => ?_
  obtain ⟨hl, h⟩ := next_pure (K := K) (up := up) (N := NX) rfl hp q
  refine ⟨hl, tNx C K up, fun Z z1 z2 z3 z4 z5 z6 z7 z8 z9 z10 z11 z12 z13 z14 => ?_, h⟩
  have g : CG C F0 G0 Z := ⟨by rw [hK, z3], by rw [z6]; exact T.sc.nd, z9, by have := z10.un; omega, z11, by rw [z4]; exact hbn, fun x d e => by simp [G0] at e, fun Y W _ _ f hf => by simp [G0] at hf⟩
  have ft : Fits ⟨NX, scope, fun _ => true⟩ Z := ⟨z6, z7, z8⟩
  have tk0 : L2.Takes Z W0 := fun u s' ⟨_, _, _, _, _, _, _, _, _, _, _, _, _, _, _, _, w⟩ => w.elim
  have loc : ∀ y ∈ NX, Z.env.scope.names.lookup y = some .local := fun y hy => loc_ok ft (List.all_eq_true.mp B.loc y hy)
  have hu : Z.A.units + 1 < cLine := by have := z10.un; omega
  have vM : ∀ q, PE Z (.Name "_law_m" q) (tVar 0) := fun q => pe_var (by rw [z6]; rfl) (.inl (loc _ (by decide +kernel)))
  have gl : ∀ (k : Str) (p q r : Pos) (j : Nat), PE Z (gx k p q r j) (tGl k) := fun k p q r j => pe_dget hu (vM p) pe_str fun _ _ => rfl
  have ne : ∀ (p q r s t : Pos) (j : Nat), PT Z (.Compare (gx "left" p q r j) [.NotEq] [.List [] s] t) (tNe C) := fun p q r s t j => pt_cmpR (cop_ok g .NotEq) (gl "left" p q r j) (pe_lst pa_nil) (nomark _)
  have hd : ∀ (p q r s t : Pos) (j i : Nat), PE Z (.Subscript (gx "left" p q r j) (.Constant (.int 0) i s) t) (tHd K) := fun p q r s t j i => by
    have z := pe_ix (pos := t) (ix_list (X := Z)) (gl "left" p q r j) (pe_int (i := 0) (j := i) (pos := s)) fun _ _ => rfl
    rw [z3] at z
    exact z
  have kd : Z.env.scope.kind = .function := by rw [z7]; exact T.sc.kind
  have ix : ∀ (i : Nat) (y : Str), NX[i]? = some y → Z.N[i]? = some y := fun i y e => by rw [z6]; exact e
  refine pss_cons (ps_while z12 (PW.pt (pw_and (ne _ _ _ _ _ _) (pw_and1 (pt_cmpR (cop_ok g .Eq) (hd _ _ _ _ _ _ _) pe_int (nomark _))))) (pss_one (ps_dput hu (vM _) pe_str ?_ rfl))) ?_
  · have z := pe_slice (X := Z) (p2 := p 20) (pos := p 21) sl_list (gl "left" (p 16) (p 17) (p 18) (j 5)) (po_some (pe_int (i := 1) (j := j 6) (pos := p 19))) po_none
    rw [z3] at z
    exact z
  refine pss_cons (ps_if (ne _ _ _ _ _ _) (pss_cons (ps_set (i := 2) g.nd (ix 2 _ rfl) (.inl (loc _ (by decide +kernel))) (hd _ _ _ _ _ _ _) rfl (.inr (loc _ (by decide +kernel)))) (pss_cons (ps_asg (sound_E 20 Z W0 _ g tk0 ft eD eDiv t1).1 (pg_sub (gl "left" _ _ _ _) pe_int set_list) (by simp only [swapsWithSole]; exact sw_plain t2) ?_ rfl) (pss_one (ps_ret (sound_E 20 Z W0 _ g tk0 ft eM eMod t3).1)))) pss_nil) ?_
  · cases eD <;> rfl
  refine pss_cons (ps_par (i := 3) (j := 4) z9 g.nd (ix 3 _ rfl) (ix 4 _ rfl) (by decide) (loc _ (by decide +kernel)) (loc _ (by decide +kernel)) (pa_cons (pe_op (bop_ok g (op := .Add) rfl) (gl "at" _ _ _ _) pe_int) (pa_cons (gl "cells" _ _ _ _) pa_nil)) (swS_ok ft.sc kd t5) sws_tuple) ?_
  refine pss_cons (ps_dput hu (vM _) pe_str (pe_var (i := 3) (ix 3 _ rfl) (.inl (loc _ (by decide +kernel)))) rfl) ?_
  exact list_ok (sound_S 30) ⟨g, ⟨by rw [z3]; exact hxf, by rw [z3]; exact hmt, by rw [z4]; exact hgl⟩, fun c hc => by simp at hc, z10.mono (by omega), z13, z14, kd, z12⟩ tk0 ft [s5, s6, s7] tailS t4
end
end
end Ev
set_option Elab.async false
set_option linter.all false
set_option maxRecDepth 100000
set_option maxHeartbeats 1000000
/-! Ev26: the law's own call. -/
namespace Ev
open PySem L2 PyProof.Rows Classical
section
variable {P : Program} {w : World} {base : Heap} {K : PySem.W.Frag} {mg mb : Str → Option Value} {C : RC} {G : Glo} {up : List (Str × Str)} {xs : List Str} {T : List (Str × Fn)} {pr : FT}
theorem def_call (g : Gd P w base K mg C G up xs T pr) (k : Nat) {f : Str} {fn : Fn} (hl : T.lookup f = some fn) (hf : f ∈ G.fns) {A : Around} {outer : List PySem.Env} {s : Shared} {H : Hp} {vs : List V} {us : List Value} {Q : VK} {E : XK} {a : Addr} (hr : Room (k + 5) A) (hg : A.guards = some []) (e0 : Env0 P w K mg base A outer s H) (r : Vals vs us)
    {md : Option Addr} {av : Addr → Prop} {m : Option MSt} {ds : List D} (a1 : MRel md H m) (a2 : ∀ a, av a → H a ≠ none ∧ ¬ MS md H a) (a3 : Reps C md (Hb md av H) ds vs) (a4 : outG C (fun cls d _ H => E cls d H) av (RD C av) md H [] (runF T pr up (k + 1) f ds m) Q) (ha : mg f = some (.ref a)) :
    codeAny (model P w) A (.call (.ref a) ⟨us, []⟩) (CR (L2.CX P w) outer P w H s Q E) s := by
  obtain ⟨a', qual, params, body, scope, kV, doc, pm, cdv, ct, oc, an, od, osl, h1, h2, h3, h4, h5, h6, h7⟩ := (g.df f hf fn hl).ex
  obtain rfl : a' = a := by rw [h1] at ha; cases ha; rfl
  have e : runF T pr up (k + 1) f ds m = if ds.length = fn.np ∧ fn.np ≤ fn.N.length then retO (exSs (runF T pr up k) up fn.body (startE fn ds) m) else .bad := by simp only [runF, hl]
  rw [e] at a4
  by_cases hc : ds.length = fn.np ∧ fn.np ≤ fn.N.length
  · rw [if_pos hc] at a4
    have hlen : vs.length = (fn.N.take fn.np).length := by rw [a3.length, hc.1, List.length_take, Nat.min_eq_left hc.2]
    have hul : us.length = fn.np := by rw [← r.length, a3.length, hc.1]
    refine def_run (k := k + 4) (E := E) (Q := Q) (t := tSs C (runF T pr up k) up (fun cls d _ H => E cls d H) fn.body) h3 h4 h5 hr e0 (.of_eq (h6 us hul)) r hlen ?_ ⟨av, md, fun _ => False, m, startE fn ds, start_re a1 a2 a3, end_out (W := fun cls d _ H => E cls d H) (σ := []) a4⟩
    have hr' := hr.deeper (envOfC qual scope s.heap.objs.size a' cdv)
    refine list_ok (sound_S 100) (X := cxOf (L2.CX P w) P w K mg base fn.N qual scope a' cdv A outer s H E) ⟨⟨g.hK, h5.nd, rfl, by have h9 := hr'.un; show (A.deeper (envOfC qual scope s.heap.objs.size a' cdv)).units + 200 < cLine; omega, hg, g.bn, g.cn, ?_⟩, ⟨g.xf, g.mt, g.gl⟩, g.er, hr'.mono (by omega), rfl, rfl, h5.kind, passes_of rfl⟩ (takes_of rfl rfl rfl rfl) ⟨rfl, rfl, rfl⟩ body fn.body h7
    intro Z W' sm tk' f' hf'
    exact level g k Z W' sm.prog sm.w sm.K sm.mg sm.base (by rw [sm.A]; exact hr') (by rw [sm.A]; exact hg) tk' f' hf'
  · rw [if_neg hc] at a4
    exact a4.elim
/-- what is tracked where the law begins -/
noncomputable def H0 (om : Obj) (a : Addr) (o : Obj) (ns : List Int) (free : Bool) : Hp := fun b => if b = sysModules then some (.frz om (.ext fun _ => True)) else if b = a ∧ free = true then some (.frz o (.lst (ns.map V.int))) else none
theorem law_run {k : Nat} {a fa : Addr} {fn : Fn} {s₁ : Shared} {vs : List Value} {ns : List Int} {m' : Option MSt} {om : Obj}
    (KX : K.In s₁.heap) (hns : s₁.heap.Ns mainGlobals mg) (hb : s₁.heap.Ns builtinsNs mb) (hbb : ∀ x : Str, x ≠ "__name__" → mb x = bootBuiltins x) (hlim : s₁.heap.NoLimit) (hg : s₁.gens = #[])
    (ha : s₁.heap.get? a = some { cls := .type "list", data := .seq vs.toArray }) (hi : IntsAre vs ns) (hl : ns.length ≤ sizeLine) (hr : Room (k + 5) callerA) (hsm : s₁.heap.get? sysModules = some om) (hsc : om.cls = .type "dict") (hK1 : K.lookup sysModules = none)
    (F : ∀ base : Heap, K.In base → base.Ns mainGlobals mg → Gd P w base K mg C G up xs T pr) (hKC : C.K = K) (hT : T.lookup ("law" : Str) = some fn) (hf : ("law" : Str) ∈ G.fns) (hfa : mg "law" = some (.ref fa))
    (ev : runF T pr up (k + 1) "law" [.scr ns] none = .ok (.bl true) m') :
    codeAny (model P w) callerA (.call (.ref fa) ⟨[.ref a], []⟩) (fun r s' => r = .ok (.ret (.bool true)) ∧ OldK s₁.heap s'.heap ∧ s'.os = s₁.os ∧ AllBare s'.gens) s₁ := by
  have na : a ≠ sysModules := fun z => by
    rw [z, hsm] at ha
    cases ha
    have hsc : Value.type "list" = Value.type "dict" := hsc
    exact absurd hsc (by decide)
  have rv := vals_ints hi
  have lenV := hi.length
  have core : ∀ fr : Bool, (fr = true → K.lookup a = none) → SqL K (H0 om a { cls := .type "list", data := .seq vs.toArray } ns fr) a (ns.map V.int) →
      codeAny (model P w) callerA (.call (.ref fa) ⟨[.ref a], []⟩) (fun r s' => r = .ok (.ret (.bool true)) ∧ OldK s₁.heap s'.heap ∧ s'.os = s₁.os ∧ AllBare s'.gens) s₁ := by
    intro fr hfr hS
    generalize hH : H0 om a { cls := .type "list", data := .seq vs.toArray } ns fr = H at hS
    have h1 : H sysModules = some (.frz om (.ext fun _ => True)) := by rw [← hH]; unfold H0; rw [if_pos rfl]
    have hcase : ∀ b, H b = none ∨ b = sysModules ∨ (b = a ∧ fr = true ∧ H b = some (.frz { cls := .type "list", data := .seq vs.toArray } (.lst (ns.map V.int)))) := fun b => by
      rw [← hH]
      unfold H0
      by_cases e1 : b = sysModules
      · exact .inr (.inl e1)
      · rw [if_neg e1]
        by_cases e2 : b = a ∧ fr = true
        · rw [if_pos e2]; exact .inr (.inr ⟨e2.1, e2.2, rfl⟩)
        · rw [if_neg e2]; exact .inl rfl
    have hok : HOk P w H s₁.heap := fun b u e => by
      rcases hcase b with z | rfl | ⟨rfl, _, z⟩
      · rw [z] at e; cases e
      · rw [h1] at e
        cases e
        exact ⟨hsm, trivial, ⟨om, hsm⟩, fun _ _ _ _ => trivial⟩
      · rw [z] at e
        cases e
        exact ⟨ha, by rw [List.length_map]; exact hl, vs, _, rv, ha⟩
    have noD : ∀ {b : Addr} {m : Str → Option Value}, b ≠ sysModules → s₁.heap.Ns b m → H b = none := fun {b m} nb ⟨o, es, ep, e, d, _⟩ => by
      rcases hcase b with z | z | ⟨rfl, _, _⟩
      · exact z
      · exact absurd z nb
      · rw [ha] at e
        cases e
        cases d
    have nsK : ∀ {b : Addr} {m : Str → Option Value}, b ≠ sysModules → s₁.heap.Ns b m → (hidT s₁.heap H).Ns b m := fun {b m} nb h => by
      have z := noD nb h
      obtain ⟨o, es, ep, e, d, r⟩ := h
      exact ⟨o, es, ep, hidT_get e z, d, r⟩
    have hKb : K.In (hidT s₁.heap H) := fun b o e => hidT_get (KX b o e) (by
      rcases hcase b with z | z | ⟨z, z2, _⟩
      · exact z
      · rw [z, hK1] at e; cases e
      · rw [z, hfr z2] at e; cases e)
    have hM : Mod K mg (hidT s₁.heap H) := ⟨hKb, nsK (by decide) hns, ⟨mb, nsK (by decide) hb, hbb⟩, by
      obtain ⟨mc, z1, z2⟩ := hlim
      exact ⟨mc, nsK (by decide) z1, z2⟩⟩
    have e0 : Env0 P w K mg (hidT s₁.heap H) callerA [] s₁ H := ⟨rfl, hM, fun b o e => of_hidT e, Nat.le_of_eq (hidT_size _ _), trivial, fun b hb => absurd (show b ∈ ([] : List Addr) from hb) (by simp), hok, .of_eq hg⟩
    have nMS : ∀ b, ¬ MS none H b := fun b ⟨_, e, _⟩ => by cases e
    have hHb : Hb none (fun _ => False) H = H := by
      funext b
      unfold Hb
      rw [if_neg (fun z => z.elim id (nMS b))]
    refine codeAny_mono (def_call (F _ hKb (nsK (by decide) hns)) k (s := s₁) (vs := [.ref a]) (us := [.ref a]) (Q := fun v _ => v = .bl true) (E := fun _ _ _ => False) hT hf hr rfl e0 (.cons rfl .nil) (md := none) (av := fun _ => False) (m := none) (ds := [.scr ns]) ⟨⟨om, h1⟩, rfl⟩ (fun _ z => z.elim) (Reps.cons (by simp only [Rep]; rw [hHb, hKC]; exact ⟨a, rfl, hS⟩) Reps.nil) (by rw [ev]; intro md' b H' _ _ z; simpa [RD, Rep] using z) hfa) fun res s' z => ?_
    cases res with
    | error e =>
      obtain ⟨_, _, _, _, _, _, _, _, _, _, _, _, z⟩ := z
      exact z.elim
    | ok fl =>
      cases fl with
      | next => exact z.elim
      | brk => exact z.elim
      | cont => exact z.elim
      | ret u =>
        obtain ⟨v, H', os, bare, un, hok', r', q⟩ := z
        have q' : v = .bl true := q
        subst q'
        obtain rfl : u = Value.bool true := r'
        refine ⟨rfl, OldK.of_keep fun b o e => ?_, os, bare⟩
        rcases hcase b with z | rfl | ⟨rfl, _, z⟩
        · exact un.keep b o e z (by intro z; exact absurd (show b ∈ ([] : List Addr) from z) (by simp)) (by simp)
        · obtain ⟨e2, _⟩ := hok' _ _ (un.frzs _ _ _ h1)
          rw [hsm] at e
          cases e
          exact e2
        · obtain ⟨e2, _⟩ := hok' _ _ (un.frzs _ _ _ z)
          rw [ha] at e
          cases e
          exact e2
  cases hk : K.lookup a with
  | some o =>
    have e := KX a o hk
    rw [ha] at e
    cases e
    exact core false (fun z => by cases z) (.inr ⟨_, vs.toArray, _, hk, rfl, rfl, rfl, by rw [List.size_toArray, lenV]; exact hl, by simpa using rv⟩)
  | none =>
    refine core true (fun _ => hk) (.inl (.inr ⟨{ cls := .type "list", data := .seq vs.toArray }, ?_⟩))
    unfold H0
    rw [if_neg na, if_pos ⟨rfl, rfl⟩]
end
end Ev
set_option Elab.async false
set_option linter.all false
set_option maxRecDepth 100000
set_option maxHeartbeats 1000000
/-! Ev27: what the head tells. -/
namespace Ev
open PySem PySem.W PyProof.Rows
theorem tail_split {bmB : List Value} : ∀ (bm : List Value), excTail bmB bm = true → ∃ rs : List Addr, bm = rs.map Value.ref ++ bmB := by
  intro bm
  induction bm with
  | nil =>
    intro h
    rcases excTail_cases _ h with ⟨c, r, e, _⟩ | e
    · cases e
    · exact ⟨[], e⟩
  | cons x l ih =>
    intro h
    rcases excTail_cases _ h with ⟨c, r, e, h2⟩ | e
    · cases e
      obtain ⟨rs, e⟩ := ih h2
      exact ⟨c :: rs, by rw [e]; rfl⟩
    · exact ⟨[], e⟩
/-- the built-in bases of the text's exceptions -/
inductive Bk where
  | ve | le | oe
def Bk.b : Bk → String
  | .ve => "ValueError"
  | .le => "LookupError"
  | .oe => "OverflowError"
def Bk.new : Bk → String
  | .ve => "ValueError.__new__"
  | .le => "LookupError.__new__"
  | .oe => "OverflowError.__new__"
def Bk.init : Bk → String
  | .ve => "ValueError.__init__"
  | .le => "LookupError.__init__"
  | .oe => "OverflowError.__init__"
def Bk.bm : Bk → List Value
  | .ve => [.type "ValueError", .type "Exception", .type "BaseException", .type "object"]
  | .le => [.type "LookupError", .type "Exception", .type "BaseException", .type "object"]
  | .oe => [.type "OverflowError", .type "ArithmeticError", .type "Exception", .type "BaseException", .type "object"]
theorem Bk.xb : ∀ k : Bk, XBase k.b k.new k.init k.bm
  | .ve => xb_ve
  | .le => xb_le
  | .oe => xb_oe
abbrev Tx : Type := Option (Str × Str × Arguments × FuncBody × Scope)
/-- a function's text -/
def txt (K : Frag) (p : Str × Option Str) : Tx := match K.lookup (He.fAd K p) with
  | some ⟨_, _, .func fd, _⟩ => some (fd.name, fd.qualname, fd.params, fd.body, fd.scope)
  | _ => none
def initB (P : Program) (K : Frag) (C fI : Addr) : Bool := match K.lookup fI with
  | some ⟨_, _, .func fd, _⟩ => decide (fd.globals = mainGlobals) && decide (fd.builtins = builtinsNs) && decide (fd.defaults = .none) && decide (fd.kwdefaults = .none) && codeIn K fd.code fd.qualname && (match fd.closure with
    | [(y, cc)] => decide (y = ("__class__" : Str)) && (match K.lookup cc with
      | some ⟨_, _, .cell (some v), _⟩ => decide (v = .ref C)
      | _ => false)
    | _ => false) && (match fd.code with
    | .ref cda => (match K.lookup cda with
      | some ⟨_, _, .fields vs, _⟩ => (match (vs[2]? : Option Value) with
        | some (.str file _) => (P.main.file : Str) == file
        | _ => false)
      | _ => false)
    | _ => false)
  | _ => false
def errB (P : Program) (K : Frag) (k : Bk) (c f : Str) : Bool :=
  let C := He.ga K c
  let fI := He.ma K C "__init__"
  flds.contains f && He.eqO (nsIn K mainGlobals c) (some (some (.ref C))) && excInitIn K C k.bm k.new && hasDictIn K C && ((clsIn K C).any fun cd => He.eqO (alongIn K "__init__" (cd.mro.drop 1)) (some (some (.builtin k.init)))) &&
  decide (subIn K (.ref C) (.type k.b) = some true) && He.eqO (findIn K (.ref C) "__setattr__") (some (some (.builtin "object.__setattr__"))) && He.eqO (findIn K (.ref C) "__getattribute__") (some (some (.builtin "BaseException.__getattribute__"))) &&
  He.eqO (findIn K (.ref C) "__getattr__") (some none) && He.eqO (findIn K (.ref C) f) (some none) && He.eqO (findIn K (.ref C) "__init__") (some (some (.ref fI))) && decide (typeIn K (.ref fI) = some (.type "function")) && keepIn K (.ref C) &&
  decide (subIn K (.ref C) (.type "BaseException") = some true) && decide (typeIn K (.ref C) = some (.type "type")) && decide (mroIn K C (.ref C) = some true) && He.eqO (nsIn K cStatics "thirdparty.any") (some none) && He.eqO (nsIn K mainGlobals "super") (some none) &&
  !(P.main.scope.names.lookup ("super" : Str)).isSome && initB P K C fI
theorem errB_ok {P : Program} {K : Frag} {k : Bk} {c f : Str} {mg : Str → Option Value} {h : Heap} (X : K.In h) (G : h.Ns mainGlobals mg) (e : errB P K k c f = true) {qual msg : Str} {j : Nat} {p1 p2 q1 q2 q3 q4 q5 q6 q7 q8 q9 q10 : Pos} (hq : (q3.endLine == q5.line) = true)
    (t : txt K (c, some ("__init__" : Str)) = some (("__init__" : Str), qual, xA f p1 p2, FuncBody.stmts (xB f msg j q1 q2 q3 q4 q5 q6 q7 q8 q9 q10), xS f)) : ErrTxt P K mg c f (He.ga K c) (He.ma K (He.ga K c) "__init__") := by
  unfold errB at e
  simp only [Bool.and_eq_true, decide_eq_true_eq, Bool.not_eq_true', List.contains_iff_mem] at e
  obtain ⟨⟨⟨⟨⟨⟨⟨⟨⟨⟨⟨⟨⟨⟨⟨⟨⟨⟨⟨e1, e2⟩, e3⟩, e4⟩, e5⟩, e6⟩, e7⟩, e8⟩, e9⟩, e10⟩, e11⟩, e12⟩, e13⟩, e14⟩, e15⟩, e16⟩, e17⟩, e18⟩, e19⟩, e20⟩ := e
  refine ⟨e1, mg_of X G (He.eqO_ok e2), ?_, He.eqO_ok e7, He.eqO_ok e8, He.eqO_ok e9, He.eqO_ok e10, He.eqO_ok e11, e12, e13, e14, e15, e4, e16, He.eqO_ok e17, mg_none_of X G (He.eqO_ok e18), e19, ?_⟩
  · unfold excInitIn at e3
    split at e3
    · rename_i dd cd sl ho
      split at e3
      · rename_i C' bm k0 k1 k2 k3 n k5 hm hs
        simp only [Bool.and_eq_true, beq_iff_eq, Bool.not_eq_true'] at e3
        obtain ⟨⟨⟨h1, h2⟩, h3⟩, h4⟩ := e3
        obtain ⟨rs, h5⟩ := tail_split _ h4
        obtain ⟨nm, bs, mro, ns, qn, hd, sn, sub, ab, col, del⟩ := cd
        dsimp only at hm h3
        obtain ⟨sl⟩ := sl
        dsimp only at hs
        subst hs hm h3 h1 h2 h5
        have hcl : clsIn K (He.ga K c) = some { name := nm, bases := bs, mro := .ref (He.ga K c) :: (rs.map Value.ref ++ k.bm), ns := ns, qualname := qn, hasDict := hd, slotNames := sn, subclasses := sub, abstract := ab, collection := col, hasDel := false } := by unfold clsIn; rw [ho]
        have hdt : hd = true := by
          unfold hasDictIn at e4
          rw [hcl] at e4
          exact e4
        subst hdt
        rw [hcl] at e5
        exact ⟨k.b, k.new, k.init, k.bm, nm, qn, ns, bs, rs, sn, sub, ab, col, dd, k0, k1, k2, k3, k5, k.xb, ho, He.eqO_ok e5, e6⟩
      · cases e3
    · cases e3
  · unfold initB at e20
    unfold txt at t
    have ef : He.fAd K (c, some ("__init__" : Str)) = He.ma K (He.ga K c) "__init__" := rfl
    rw [ef] at t
    cases ho : K.lookup (He.ma K (He.ga K c) "__init__") with
    | none => rw [ho] at t; cases t
    | some o =>
      obtain ⟨oc, od, dt, osl⟩ := o
      rw [ho] at t e20
      cases dt <;> first | (cases t; done) | skip
      rename_i fd
      obtain ⟨n1, n2, n3, n4, n5, n6, n7, n8, n9, n10, n11, n12, n13, n14, n15⟩ := fd
      simp only [Option.some.injEq, Prod.mk.injEq] at t
      obtain ⟨rfl, rfl, rfl, rfl, rfl⟩ := t
      simp only [Bool.and_eq_true, decide_eq_true_eq] at e20
      obtain ⟨⟨⟨⟨⟨⟨rfl, rfl⟩, rfl⟩, rfl⟩, a1⟩, a2⟩, a3⟩ := e20
      split at a2
      · rename_i y cc
        simp only [Bool.and_eq_true, decide_eq_true_eq] at a2
        obtain ⟨rfl, a2⟩ := a2
        split at a2
        · rename_i cl cld v csl hcc
          have a2 := of_decide_eq_true a2
          subst a2
          split at a3
          · rename_i cda
            split at a3
            · rename_i ccl cdd vs ccs hcda
              split at a3
              · rename_i file tf hvs
                exact ⟨oc, od, n10, n11, n12, cda, n14, cc, osl, _, msg, j, p1, p2, q1, q2, q3, q4, q5, q6, q7, q8, q9, q10, rfl, a1, hq, ⟨cl, cld, csl, hcc⟩, ccl, cdd, vs, ccs, file, tf, hcda, hvs, a3⟩
              · cases a3
            · cases a3
          · cases a3
        · cases a2
      · cases a2
end Ev
set_option Elab.async false
set_option linter.all false
set_option maxRecDepth 100000
set_option maxHeartbeats 1000000
/-! Ev28: the head's hook. -/
namespace Ev
open PySem PySem.W PyProof.Rows
def defB (K : Frag) (x : Str) : Bool := He.eqO (nsIn K mainGlobals x) (some (some (.ref (He.ga K x)))) && keepIn K (.ref (He.ga K x)) && (match K.lookup (He.ga K x) with
  | some ⟨_, _, .func fd, _⟩ => decide (fd.globals = mainGlobals) && decide (fd.builtins = builtinsNs) && decide (fd.defaults = .none) && codeIn K fd.code fd.qualname && fd.closure.isEmpty
  | _ => false)
theorem defB_ok {K : Frag} {x name qual : Str} {params : Arguments} {body : List Stmt} {scope : Scope} {mg : Str → Option Value} {h : Heap} (X : K.In h) (G : h.Ns mainGlobals mg) (e : defB K x = true) (t : txt K (x, none) = some (name, qual, params, FuncBody.stmts body, scope)) :
    ∃ (kV doc pm cdv ct oc : Value) (an od : Option Addr) (osl : Array (Option Value)), mg x = some (.ref (He.ga K x)) ∧ keepIn K (.ref (He.ga K x)) = true ∧ K.lookup (He.ga K x) = some ⟨oc, od, .func (fnOf name qual params body scope .none kV doc pm an cdv ct), osl⟩ ∧ codeIn K cdv qual = true := by
  unfold defB at e
  simp only [Bool.and_eq_true] at e
  obtain ⟨⟨e1, e2⟩, e3⟩ := e
  unfold txt at t
  have ef : He.fAd K (x, none) = He.ga K x := rfl
  rw [ef] at t
  cases ho : K.lookup (He.ga K x) with
  | none => rw [ho] at t; cases t
  | some o =>
    obtain ⟨oc, od, dt, osl⟩ := o
    rw [ho] at t e3
    cases dt <;> first | (cases t; done) | skip
    rename_i fd
    obtain ⟨n1, n2, n3, n4, n5, n6, n7, n8, n9, n10, n11, n12, n13, n14, n15⟩ := fd
    simp only [Option.some.injEq, Prod.mk.injEq] at t
    obtain ⟨rfl, rfl, rfl, rfl, rfl⟩ := t
    simp only [Bool.and_eq_true, decide_eq_true_eq] at e3
    obtain ⟨⟨⟨⟨rfl, rfl⟩, rfl⟩, a1⟩, a2⟩ := e3
    cases n7 with
    | cons _ _ => cases a2
    | nil => exact ⟨n9, n10, n11, n13, n14, oc, n12, od, osl, mg_of X G (He.eqO_ok e1), e2, rfl, a1⟩
def refsX (o : Obj) : List Addr := He.refsD o ++ match o.data with
  | .func fd => fd.closure.map (·.2)
  | _ => []
def growX (g : Addr → Option Obj) (as : List Addr) : List Addr := ((as ++ as.flatMap fun a => match g a with
  | some o => refsX o
  | none => []).eraseDups).filter fun a => a != sysModules
def asX (g : Addr → Option Obj) : Nat → List Addr
  | 0 => [mainGlobals, cStatics]
  | n + 1 => growX g (asX g n)
abbrev AlX : Type := Bool × List Tx
def sysB (g : Addr → Option Obj) : Bool := match g sysModules with
  | some o => decide (o.cls = .type "dict")
  | none => false
def obsX (chk : Frag → Bool) (ps : List (Str × Option Str)) (K : Frag) : AlX := ((K.lookup sysModules).isNone && chk K, ps.map (txt K))
def obsXG (n : Nat) (chk : Frag → Bool) (ps : List (Str × Option Str)) (g : Addr → Option Obj) : AlX := (sysB g && (obsX chk ps (He.frG g (asX g n))).1, (obsX chk ps (He.frG g (asX g n))).2)
structure SaysX (chk : Frag → Bool) (ps : List (Str × Option Str)) (txs : List Tx) (K : Frag) (h : Heap) : Prop where
  kin : K.In h
  sys : ∃ om, h.get? sysModules = some om ∧ om.cls = .type "dict"
  no : K.lookup sysModules = none
  chk : chk K = true
  txs : ps.map (txt K) = txs
def hookX (n : Nat) (chk : Frag → Bool) (ps : List (Str × Option Str)) (txs : List Tx) : Hook where
  α := AlX
  obs := fun s => obsXG n chk ps s.heap.get?
  val := fun _ => (true, txs)
  says := fun _ h => ∃ K : Frag, SaysX chk ps txs K h
  of := fun w s e => by
    have e1 := congrArg (·.1) e
    have e2 := congrArg (·.2) e
    dsimp only [obsXG, obsX] at e1 e2
    simp only [Bool.and_eq_true, Option.isNone_iff_eq_none] at e1
    refine ⟨_, He.frG_in, ?_, e1.2.1, e1.2.2, e2⟩
    have z := e1.1
    unfold sysB at z
    split at z
    · rename_i o ho
      exact ⟨o, ho, of_decide_eq_true z⟩
    · cases z
  keeps := fun w h h' ⟨K, c⟩ k => ⟨K, c.kin.keeps k, let ⟨om, a, b⟩ := c.sys; ⟨om, k _ _ a, b⟩, c.no, c.chk, c.txs⟩
theorem obsXG_eq {n : Nat} {chk : Frag → Bool} {ps : List (Str × Option Str)} {txs : List Tx} {g : Addr → Option Obj} {s : Shared} (h : ∀ a, g a = s.heap.get? a) : obsXG n chk ps g = (hookX n chk ps txs).obs s := by
  have e : g = s.heap.get? := funext h
  rw [e]
  rfl
end Ev
set_option Elab.async false
set_option linter.all false
set_option maxRecDepth 100000
set_option maxHeartbeats 1000000
/-! Ev29: from the head's facts to all that is known of the text. -/
namespace Ev
open PySem PySem.W PyProof.Rows L2
/-- a def of the text and its core form -/
structure DefOk (G : Glo) (xs : List Str) (x : Str) (st : Stmt) (fn : Fn) : Prop where
  sc : FnScope fn.N (fn.N.take fn.np) (defScope st)
  bd : ∀ (kV doc pm : Value) (an : Option Addr) (cdv ct : Value) (us : List Value), us.length = fn.np → bindArgs (fnOf x x (defArgs st) (defBody st) (defScope st) .none kV doc pm an cdv ct) ⟨us, []⟩ = pure ((fn.N.take fn.np).zip us)
  tr : trSs (trS 100 G xs ⟨fn.N, defScope st, fun _ => true⟩) (defBody st) = some fn.body
def stTx (x : Str) (st : Stmt) : Tx := some (x, x, defArgs st, FuncBody.stmts (defBody st), defScope st)
def conB (K : Frag) (q : Str × D) : Bool := match q.2, nsIn K mainGlobals q.1 with
  | .int i, some (some (.int j _)) => decide (i = j)
  | .str x, some (some (.str y _)) => decide (x = y)
  | _, _ => false
def mkC (K : Frag) (xs : List Str) : RC := ⟨K, fun c => if xs.contains c then some (He.ga K c) else none⟩
theorem mkC_cl {K : Frag} {xs : List Str} {c : Str} {A : Addr} (h : (mkC K xs).cl c = some A) : c ∈ xs ∧ A = He.ga K c := by
  unfold mkC at h
  dsimp only at h
  split at h
  · rename_i hc
    cases h
    exact ⟨by simpa using hc, rfl⟩
  · cases h
/-- the checks over the head's fragment -/
def chkL (P : Program) (cons : List (Str × D)) (errs : List (Str × Bk)) (up : List (Str × Str)) (fns : List Str) (K : Frag) : Bool :=
  cons.all (conB K) && biNames.all (fun x => He.eqO (nsIn K mainGlobals x) (some none)) && errs.all (fun q => errB P K q.2 q.1 (fieldOf q.1) && xfB K (He.ga K q.1)) &&
  errs.all (fun q => errs.all fun r => decide (exmOne K (.ref (He.ga K q.1)) (.ref (He.ga K r.1)) = some (takesC up q.1 r.1))) && fns.all (defB K)
structure ChkL (P : Program) (cons : List (Str × D)) (errs : List (Str × Bk)) (up : List (Str × Str)) (fns : List Str) (K : Frag) : Prop where
  con : ∀ q ∈ cons, conB K q = true
  fre : ∀ x ∈ biNames, nsIn K mainGlobals x = some none
  err : ∀ q ∈ errs, errB P K q.2 q.1 (fieldOf q.1) = true ∧ XfC K (He.ga K q.1)
  exm : ∀ q ∈ errs, ∀ r ∈ errs, exmOne K (.ref (He.ga K q.1)) (.ref (He.ga K r.1)) = some (takesC up q.1 r.1)
  def_ : ∀ x ∈ fns, defB K x = true
theorem chk_ok {P : Program} {cons : List (Str × D)} {errs : List (Str × Bk)} {up : List (Str × Str)} {fns : List Str} {K : Frag} (h : chkL P cons errs up fns K = true) : ChkL P cons errs up fns K := by
  unfold chkL at h
  simp only [Bool.and_eq_true, List.all_eq_true, decide_eq_true_eq] at h
  obtain ⟨⟨⟨⟨h1, h2⟩, h3⟩, h4⟩, h5⟩ := h
  exact ⟨h1, fun x hx => He.eqO_ok (h2 x hx), fun q hq => ⟨(h3 q hq).1, xfB_ok (h3 q hq).2⟩, h4, h5⟩
/-- the text of an exception's __init__ -/
def InitTx (f : Str) (t : Tx) : Prop := ∃ (qual msg : Str) (j : Nat) (p1 p2 q1 q2 q3 q4 q5 q6 q7 q8 q9 q10 : Pos), (q3.endLine == q5.line) = true ∧ t = some (("__init__" : Str), qual, xA f p1 p2, FuncBody.stmts (xB f msg j q1 q2 q3 q4 q5 q6 q7 q8 q9 q10), xS f)
section
variable {P : Program} {w : World} {K : Frag} {h : Heap} {mg : Str → Option Value} {cons : List (Str × D)} {errs : List (Str × Bk)} {up : List (Str × Str)} {fns : List Str} {T : List (Str × Fn)} {pr : FT}
theorem mem_errs {c : Str} (hc : c ∈ errs.map (·.1)) : ∃ q ∈ errs, q.1 = c := by
  obtain ⟨q, h1, h2⟩ := List.mem_map.mp hc
  exact ⟨q, h1, h2⟩
theorem con_ok (X : K.In h) (G : h.Ns mainGlobals mg) {C : RC} {x : Str} {d : D} (e : conB K (x, d) = true) : ∃ v u, mg x = some u ∧ RelV v u ∧ ∀ md H, Rep C md H d v := by
  unfold conB at e
  dsimp only at e
  split at e
  · rename_i i j t hj
    have e := of_decide_eq_true e
    subst e
    exact ⟨.int _, _, mg_of X G hj, ⟨t, rfl⟩, fun _ _ => by simp [Rep]⟩
  · rename_i y z t hj
    have e := of_decide_eq_true e
    subst e
    exact ⟨.str _, _, mg_of X G hj, ⟨t, rfl⟩, fun _ _ => by simp [Rep]⟩
  · cases e
theorem gd_of (X : K.In h) (G : h.Ns mainGlobals mg) (c : ChkL P cons errs up fns K) (hi : ∀ q ∈ errs, InitTx (fieldOf q.1) (txt K (q.1, some ("__init__" : Str)))) (hd : ∀ x ∈ fns, ∀ fn, T.lookup x = some fn → ∃ st, txt K (x, none) = stTx x st ∧ DefOk ⟨fns, cons⟩ (errs.map (·.1)) x st fn) {base : Heap}
    (hp : ∀ x ∈ fns, T.lookup x = none → ∀ (Y : Cx) (W : WX), Y.prog = P → Y.w = w → Y.K = K → Y.mg = mg → Y.base = base → Room 4 Y.A → Y.A.guards = some [] → L2.Takes Y W → CallW Y (mkC K (errs.map (·.1))) pr W x) : Gd P w base K mg (mkC K (errs.map (·.1))) ⟨fns, cons⟩ up (errs.map (·.1)) T pr := by
  have er : ∀ q ∈ errs, ErrTxt P K mg q.1 (fieldOf q.1) (He.ga K q.1) (He.ma K (He.ga K q.1) "__init__") := fun q hq => by
    obtain ⟨qual, msg, j, p1, p2, q1, q2, q3, q4, q5, q6, q7, q8, q9, q10, hl, t⟩ := hi q hq
    exact errB_ok X G (c.err q hq).1 hl t
  exact
    { hK := rfl
      bn := fun x hx => mg_none_of X G (c.fre x hx)
      cn := fun x d e => con_ok X G (c.con (x, d) (PySem.mem_of_lookup e))
      xf := fun cc A e => by
        obtain ⟨h1, rfl⟩ := mkC_cl e
        obtain ⟨q, hq, rfl⟩ := mem_errs h1
        exact ⟨(c.err q hq).2, (er q hq).noN⟩
      mt := fun cc A x A' e e' => by
        obtain ⟨h1, rfl⟩ := mkC_cl e
        obtain ⟨h2, rfl⟩ := mkC_cl e'
        obtain ⟨q, hq, rfl⟩ := mem_errs h1
        obtain ⟨r, hr, rfl⟩ := mem_errs h2
        exact c.exm q hq r hr
      gl := fun x A e => by
        obtain ⟨h1, rfl⟩ := mkC_cl e
        obtain ⟨q, hq, rfl⟩ := mem_errs h1
        exact (er q hq).gC
      er := fun cc hc => by
        obtain ⟨q, hq, rfl⟩ := mem_errs hc
        refine ⟨He.ga K q.1, _, ?_, er q hq⟩
        unfold mkC
        dsimp only
        rw [if_pos (by simpa using hc)]
      df := fun x hx fn e => by
        obtain ⟨st, t, ok⟩ := hd x hx fn e
        obtain ⟨kV, doc, pm, cdv, ct, oc, an, od, osl, h1, h2, h3, h4⟩ := defB_ok X G (c.def_ x hx) t
        exact ⟨_, _, _, _, _, kV, doc, pm, cdv, ct, oc, an, od, osl, h1, h2, h3, h4, ok.sc, fun us hu => ok.bd kV doc pm an cdv ct us hu, ok.tr⟩
      pm := hp }
/-- a prim's text -/
theorem prim_of (X : K.In h) (G : h.Ns mainGlobals mg) {x : Str} (c : defB K x = true) {st : Stmt} (t : txt K (x, none) = stTx x st) {N : List Str} {np : Nat} (sc : FnScope N (N.take np) (defScope st)) (le : np ≤ N.length)
    (bd : ∀ (kV doc pm : Value) (an : Option Addr) (cdv ct : Value) (us : List Value), us.length = np → bindArgs (fnOf x x (defArgs st) (defBody st) (defScope st) .none kV doc pm an cdv ct) ⟨us, []⟩ = pure ((N.take np).zip us)) : PrimTxt K mg x N np (defBody st) (defScope st) := by
  obtain ⟨kV, doc, pm, cdv, ct, oc, an, od, osl, h1, h2, h3, h4⟩ := defB_ok X G c t
  exact ⟨⟨_, _, _, kV, doc, pm, cdv, ct, oc, an, od, osl, h1, h2, h3, h4, fun us hu => bd kV doc pm an cdv ct us hu⟩, sc, le⟩
end
end Ev
set_option Elab.async false
set_option linter.all false
set_option maxRecDepth 100000
set_option maxHeartbeats 1000000
/-! Pl1: the evaluator by equations. -/
namespace Ev
open PySem
namespace M
variable {α β γ : Type}
theorem bind_congr {x x' : M α} {f : α → M β} (h : x = x') : M.bind x f = M.bind x' f := by rw [h]
theorem ret_bind (a : α) (f : α → M β) : M.bind (M.ret a) f = f a := id rfl
theorem bad_bind (f : α → M β) : M.bind M.bad f = M.bad := id rfl
theorem bind_assoc (x : M α) (f : α → M β) (g : β → M γ) : M.bind (M.bind x f) g = M.bind x fun a => M.bind (f a) g := by
  funext m
  unfold M.bind
  cases x m <;> rfl
theorem bind_ret (x : M α) : M.bind x M.ret = x := by
  funext m
  unfold M.bind
  cases x m <;> rfl
theorem lift_some (a : α) : M.lift (some a) = M.ret a := id rfl
theorem lift_none : (M.lift (none : Option α)) = M.bad := id rfl
theorem calm_ret (a : α) : M.calm (M.ret a) = M.ret a := id rfl
/-- an exception -/
def exc (c : Str) (v : D) : M α := fun m => .exc c v m
theorem exc_bind (c : Str) (v : D) (f : α → M β) : M.bind (M.exc c v) f = M.exc c v := id rfl
theorem map_ret (f : α → β) (a : α) : M.map f (M.ret a) = M.ret (f a) := id rfl
end M
/-- statements as a machine -/
abbrev SM := Option MSt → SOut
namespace SM
def nx (env : Env) : SM := fun m => .nx env m
def ct (env : Env) : SM := fun m => .ct env m
def rt (d : D) : SM := fun m => .rt d m
def xc (c : Str) (d : D) (env : Env) : SM := fun m => .xc c d env m
def bad : SM := fun _ => .bad
def seq (x : SM) (k : Env → SM) : SM := fun m => (x m).seq fun e m1 => k e m1
/-- an expression, then a statement -/
def sb {α : Type} (x : M α) (env : Env) (k : α → SM) : SM := fun m => onO env (x m) fun a m1 => k a m1
theorem sb_congr {α : Type} {x x' : M α} {env : Env} {k : α → SM} (h : x = x') : sb x env k = sb x' env k := by rw [h]
theorem seq_congr {x x' : SM} {k : Env → SM} (h : x = x') : seq x k = seq x' k := by rw [h]
theorem sb_ret {α : Type} (a : α) (env : Env) (k : α → SM) : sb (M.ret a) env k = k a := id rfl
theorem sb_exc {α : Type} (c : Str) (v : D) (env : Env) (k : α → SM) : sb (M.exc c v) env k = SM.xc c v env := id rfl
theorem sb_bad {α : Type} (env : Env) (k : α → SM) : sb M.bad env k = SM.bad := id rfl
theorem sb_bind {α β : Type} (x : M α) (f : α → M β) (env : Env) (k : β → SM) : sb (M.bind x f) env k = sb x env fun a => sb (f a) env k := by
  funext m
  unfold sb M.bind onO
  cases x m <;> rfl
theorem seq_nx (env : Env) (k : Env → SM) : seq (SM.nx env) k = k env := id rfl
theorem seq_rt (d : D) (k : Env → SM) : seq (SM.rt d) k = SM.rt d := id rfl
theorem seq_ct (e : Env) (k : Env → SM) : seq (SM.ct e) k = SM.ct e := id rfl
theorem seq_xc (c : Str) (d : D) (e : Env) (k : Env → SM) : seq (SM.xc c d e) k = SM.xc c d e := id rfl
theorem seq_bad (k : Env → SM) : seq SM.bad k = SM.bad := id rfl
theorem seq_sb {α : Type} (x : M α) (env : Env) (h : α → SM) (k : Env → SM) : seq (sb x env h) k = sb x env fun a => seq (h a) k := by
  funext m
  unfold seq sb onO
  cases x m <;> rfl
theorem seq_seq (x : SM) (h k : Env → SM) : seq (seq x h) k = seq x fun e => seq (h e) k := by
  funext m
  unfold seq SOut.seq
  cases x m <;> rfl
end SM
/-- a name's slot -/
def slotM : Option Slot → M D
  | some (.sh d) => M.ret d
  | _ => M.bad
def boolM (d : D) : M Bool := M.lift (asB d)
theorem boolM_bl (b : Bool) : boolM (.bl b) = M.ret b := id rfl
def fitM (xs : List D) (d : D) : M D := if xs.length ≤ LIM then M.ret d else M.bad
def starM (x : D) (k : List D → M (List D)) : M (List D) := match x with
  | .lst xs => k xs
  | .tup xs => k xs
  | _ => M.bad
def optI (x : D) : M (Option Int) := match x with
  | .int i => M.ret (some i)
  | _ => M.bad
def bindM {α : Type} (o : Option Env) (k : Env → M α) : M α := match o with
  | some e => k e
  | none => M.bad
def bindS (o : Option Env) (k : Env → SM) : SM := match o with
  | some e => k e
  | none => SM.bad
theorem bindM_some {α : Type} (e : Env) (k : Env → M α) : bindM (some e) k = k e := id rfl
theorem bindS_some (e : Env) (k : Env → SM) : bindS (some e) k = k e := id rfl
theorem bindM_congr {α : Type} {o o' : Option Env} {k : Env → M α} (h : o = o') : bindM o k = bindM o' k := by rw [h]
theorem bindS_congr {o o' : Option Env} {k : Env → SM} (h : o = o') : bindS o k = bindS o' k := by rw [h]
/-- a test -/
def iteM {α : Type} (c : Bool) (x y : M α) : M α := if c = true then x else y
def iteS (c : Bool) (x y : SM) : SM := if c = true then x else y
theorem iteM_congr {α : Type} {c c' : Bool} {x y : M α} (h : c = c') : iteM c x y = iteM c' x y := by rw [h]
theorem iteS_congr {c c' : Bool} {x y : SM} (h : c = c') : iteS c x y = iteS c' x y := by rw [h]
theorem iteM_t {α : Type} (x y : M α) : iteM true x y = x := id rfl
theorem iteM_f {α : Type} (x y : M α) : iteM false x y = y := id rfl
theorem iteS_t (x y : SM) : iteS true x y = x := id rfl
theorem iteS_f (x y : SM) : iteS false x y = y := id rfl
/-- a branch of a statement -/
def brS (c : Bool) (env : Env) (x y : Env → SM) : SM := if c = true then x env else y env
theorem brS_congr {c c' : Bool} {env : Env} {x y : Env → SM} (h : c = c') : brS c env x y = brS c' env x y := by rw [h]
theorem brS_t (env : Env) (x y : Env → SM) : brS true env x y = x env := id rfl
theorem brS_f (env : Env) (x y : Env → SM) : brS false env x y = y env := id rfl
/-- the items of a comprehension -/
def cmpM (xs : List D) (f : D → M (Option D)) : M D := if xs.length ≤ LIM then M.bind (mapC f xs) fun ys => M.ret (.lst ys) else M.bad
section
variable (F : FT) (env : Env)
theorem ev_c (d : D) : ev F (.c d) env = M.ret d := id rfl
theorem ev_v (i : Nat) : ev F (.v i) env = slotM env[i]? := by
  simp only [ev]
  cases env[i]? with
  | none => rfl
  | some s => cases s <;> rfl
theorem ev_bin (o : BOp) (a b : Ex) : ev F (.bin o a b) env = M.bind (ev F a env) fun x => M.bind (ev F b env) fun y => M.lift (binD o x y) := by
  simp only [ev]
  congr; funext x; congr; funext y
  unfold binM
  cases binD o x y <;> rfl
theorem ev_un (o : UOp) (a : Ex) : ev F (.un o a) env = M.bind (ev F a env) fun x => M.lift (unD o x) := by simp only [ev]
theorem ev_chain (o p : BOp) (a b e : Ex) : ev F (.chain o p a b e) env = M.bind (ev F a env) fun x => M.bind (ev F b env) fun y => M.bind (M.lift (binD o x y)) fun t => M.bind (boolM t) fun t => iteM t (M.bind (ev F e env) fun z => M.lift (binD p y z)) (M.ret (.bl false)) := by
  simp only [ev]
  congr; funext x; congr; funext y
  funext m
  unfold M.bind M.lift boolM iteM
  cases binD o x y with
  | none => rfl
  | some t => cases asB t <;> rfl
theorem ev_and (a b : Ex) : ev F (.and a b) env = M.bind (ev F a env) fun x => M.bind (boolM x) fun t => iteM t (ev F b env) (M.ret (.bl false)) := by simp only [ev]; rfl
theorem ev_or (a b : Ex) : ev F (.or a b) env = M.bind (ev F a env) fun x => M.bind (boolM x) fun t => iteM t (M.ret (.bl true)) (ev F b env) := by simp only [ev]; rfl
theorem ev_ite (t a b : Ex) : ev F (.ite t a b) env = M.bind (ev F t env) fun x => M.bind (boolM x) fun c => iteM c (ev F a env) (ev F b env) := by simp only [ev]; rfl
theorem ev_tup (es : List Ex) : ev F (.tup es) env = M.bind (evs F es env) fun xs => fitM xs (.tup xs) := by simp only [ev]; rfl
theorem ev_lst (es : List Ex) : ev F (.lst es) env = M.bind (evs F es env) fun xs => fitM xs (.lst xs) := by simp only [ev]; rfl
theorem ev_call (f : Str) (es : List Ex) : ev F (.call f es) env = M.bind (evs F es env) fun xs => F f xs := by simp only [ev]
theorem ev_bi (f : Bi) (es : List Ex) : ev F (.bi f es) env = M.bind (evs F es env) fun xs => M.lift (biD f xs) := by simp only [ev]
theorem ev_ix (a b : Ex) : ev F (.ix a b) env = M.bind (ev F a env) fun x => M.bind (ev F b env) fun y => M.lift (ixD x y) := by simp only [ev]
theorem ev_sl (a : Ex) (lo hi : Option Ex) : ev F (.sl a lo hi) env = M.bind (ev F a env) fun x => M.bind (evO F lo env) fun l => M.bind (evO F hi env) fun h => M.lift (slD x l h) := by simp only [ev]
theorem ev_rev (a : Ex) : ev F (.rev a) env = M.bind (ev F a env) fun x => M.lift (revD x) := by simp only [ev]
theorem ev_cmp' (elt : Ex) (tg : Tg) (it : It) (ifs : Option Ex) : ev F (.cmp elt tg it ifs) env = M.bind (evI F it env) fun xs => cmpM xs fun x => bindM (bindT tg x (wipeE env tg.slots)) fun env2 => M.bind (evT F ifs env2) fun t => iteM t (M.map some (ev F elt env2)) (M.ret none) := by
  simp only [ev]
  refine congrArg _ (funext fun xs => ?_)
  unfold cmpM
  split
  · refine congrArg (fun f => M.bind (mapC f xs) fun ys => M.ret (D.lst ys)) (funext fun x => ?_)
    unfold bindM
    cases bindT tg x (wipeE env tg.slots) <;> rfl
  · rfl
theorem evs_nil : evs F [] env = M.ret [] := id rfl
theorem evs_star (e : Ex) (es : List Ex) : evs F (.star e :: es) env = M.bind (ev F e env) fun x => starM x fun xs => M.bind (evs F es env) fun ys => M.ret (xs ++ ys) := by
  simp only [evs]
  refine congrArg _ (funext fun x => ?_)
  cases x <;> rfl
theorem evs_cons' (e : Ex) (es : List Ex) (h : e.isStar = false) : evs F (e :: es) env = M.bind (ev F e env) fun x => M.bind (evs F es env) fun ys => M.ret (x :: ys) := evs_cons h
theorem evO_none : evO F none env = M.ret none := id rfl
theorem evO_some (e : Ex) : evO F (some e) env = M.bind (ev F e env) optI := by
  simp only [evO]
  refine congrArg _ (funext fun x => ?_)
  cases x <;> rfl
theorem evT_none : evT F none env = M.ret true := id rfl
theorem evT_some (e : Ex) : evT F (some e) env = M.bind (ev F e env) boolM := id rfl
theorem evI_rng (a : Ex) : evI F (.rng a) env = M.bind (ev F a env) fun x => M.lift (rngO (.int 0) x) := by simp only [evI]
theorem evI_rng2 (a b : Ex) : evI F (.rng2 a b) env = M.bind (ev F a env) fun x => M.bind (ev F b env) fun y => M.lift (rngO x y) := by simp only [evI]
theorem evI_zip (a b : Ex) : evI F (.zip a b) env = M.bind (ev F a env) fun x => M.bind (ev F b env) fun y => M.lift (zipO x y) := by simp only [evI]
theorem evI_enm (a : Ex) (k : Int) : evI F (.enm a k) env = M.bind (ev F a env) fun x => M.lift (enmO k x) := by simp only [evI]
theorem evI_seq (e : Ex) : evI F (.seq e) env = M.bind (ev F e env) fun x => M.lift (seqD x) := by simp only [evI]
variable (up : List (Str × Str)) (r : List Sm)
def loopM (tg : Tg) (f : Env → SM) (xs : List D) (env : Env) : SM := fun m => loopS tg (fun e m => f e m) xs env m
/-- a try's clauses -/
def catchM (up : List (Str × Str)) (hs : List Hd) (x : SM) (k : Env → SM) : SM := fun m => (match x m with
  | .xc c v e m1 => catchS up c v e m1 hs
  | o => o).seq fun e m1 => k e m1
variable (s : Slot)
theorem ss_nil' : exSs F up [] env = SM.nx env := id rfl
theorem ss_pass' : exSs F up (.pass :: r) env = exSs F up r env := by funext m; simp only [exSs, exS]; rfl
theorem ss_cont' : exSs F up (.cont :: r) env = SM.ct env := by funext m; simp only [exSs, exS]; rfl
theorem ss_asg0 (tg : Tg) (e : Ex) : exSs F up (.asg tg e :: r) env = SM.sb (ev F e env) env fun d => bindS (bindT tg d env) fun env1 => exSs F up r env1 := by
  funext m
  simp only [exSs, exS]
  unfold SM.sb onO
  cases ev F e env m with
  | ok d m1 => dsimp only; cases bindT tg d env <;> rfl
  | exc c d m1 => rfl
  | bad => rfl
theorem ss_asg' (tg : Tg) (e : Ex) : exSs F up (.asg tg e :: r) (s :: env) = SM.sb (ev F e (s :: env)) (s :: env) fun d => bindS (bindT tg d (s :: env)) fun env1 => exSs F up r env1 := ss_asg0 ..
theorem ss_expr' (e : Ex) : exSs F up (.expr e :: r) (s :: env) = SM.sb (ev F e (s :: env)) (s :: env) fun _ => bindS (some (s :: env)) fun e => exSs F up r e := by
  funext m
  simp only [exSs, exS]
  unfold SM.sb onO
  cases ev F e (s :: env) m <;> rfl
theorem app_seq : ∀ (a : List Sm) (env : Env), exSs F up (a ++ r) env = SM.seq (exSs F up a env) fun e => exSs F up r e
  | [], env => rfl
  | s :: a, env => by
    funext m
    have ih := fun e => app_seq a e
    simp only [List.cons_append, exSs]
    unfold SM.seq
    dsimp only
    cases exS F up s env m with
    | nx e m1 => exact congrFun (ih e) m1
    | ct e m1 => rfl
    | rt d m1 => rfl
    | xc c d e m1 => rfl
    | bad => rfl
theorem ss_ite' (t : Ex) (a b : List Sm) : exSs F up (.ite t a b :: r) (s :: env) = SM.sb (ev F t (s :: env)) (s :: env) fun x => SM.sb (boolM x) (s :: env) fun c => brS c (s :: env) (fun e => exSs F up (a ++ r) e) (fun e => exSs F up (b ++ r) e) := by
  funext m
  simp only [exSs, exS, app_seq]
  unfold SM.sb onO M.bind boolM
  cases ev F t (s :: env) m with
  | exc c d m1 => rfl
  | bad => rfl
  | ok d m1 =>
    dsimp only
    cases asB d with
    | none => rfl
    | some b => cases b <;> rfl
theorem ss_loop' (tg : Tg) (it : It) (body : List Sm) : exSs F up (.loop tg it body :: r) (s :: env) = SM.sb (evI F it (s :: env)) (s :: env) fun xs => SM.seq (loopM tg (fun e => exSs F up body e) xs (s :: env)) fun e => exSs F up r e := by
  funext m
  simp only [exSs, exS]
  unfold SM.sb onO
  cases evI F it (s :: env) m <;> rfl
theorem ss_ret' (e : Ex) : exSs F up (.ret e :: r) (s :: env) = SM.sb (ev F e (s :: env)) (s :: env) fun d => SM.rt d := by
  funext m
  simp only [exSs, exS]
  unfold SM.sb onO
  cases ev F e (s :: env) m <;> rfl
theorem ss_rais' (c : Str) (e : Ex) : exSs F up (.rais c e :: r) (s :: env) = SM.sb (ev F e (s :: env)) (s :: env) fun d => SM.xc c d (s :: env) := by
  funext m
  simp only [exSs, exS]
  unfold SM.sb onO
  cases ev F e (s :: env) m <;> rfl
theorem ss_tr' (body : List Sm) (hs : List Hd) : exSs F up (.tr body hs :: r) (s :: env) = catchM up hs (exSs F up body (s :: env)) fun e => exSs F up r e := by
  funext m
  simp only [exSs, exS]
  rfl
end
theorem slotM_sh (d : D) : slotM (some (.sh d)) = M.ret d := id rfl
theorem fitM_ok {xs : List D} {d : D} (h : xs.length ≤ LIM) : fitM xs d = M.ret d := if_pos h
theorem starM_lst (xs : List D) (k : List D → M (List D)) : starM (.lst xs) k = k xs := id rfl
theorem starM_tup (xs : List D) (k : List D → M (List D)) : starM (.tup xs) k = k xs := id rfl
theorem optI_int (i : Int) : optI (.int i) = M.ret (some i) := id rfl
theorem cmpM_ret {xs : List D} {f : D → M (Option D)} (g : D → Option D) (h : ∀ x ∈ xs, f x = M.ret (g x)) (hl : xs.length ≤ LIM) : cmpM xs f = M.ret (.lst (xs.filterMap g)) := by
  unfold cmpM
  rw [if_pos hl]
  have e : mapC f xs = M.ret (xs.filterMap g) := by
    funext m
    exact mapC_pure xs fun x hx => congrFun (h x hx) m
  rw [e]
  rfl
theorem loopM_nil (tg : Tg) (f : Env → SM) (env : Env) : loopM tg f [] env = SM.nx env := id rfl
/-- a body that goes on, from data to data -/
theorem loopM_cons_nx {tg : Tg} {f : Env → SM} {x : D} {xs : List D} {env env1 env2 : Env} (h1 : bindT tg x env = some env1) (h2 : f env1 = SM.nx env2) : loopM tg f (x :: xs) env = loopM tg f xs env2 := by
  funext m
  unfold loopM
  simp only [loopS, h1]
  rw [h2]
  rfl
/-- a loop that goes from state to state; what is left behind in other slots is of no matter -/
theorem loop_fold {α σ J : Type} (E : σ → J → Env) (step : α → σ → σ) (I : List α → σ → Prop) {tg : Tg} {f : Env → SM} {h : α → D}
    (hs : ∀ a r s j, I (a :: r) s → I r (step a s) ∧ ∃ env1 j', bindT tg (h a) (E s j) = some env1 ∧ f env1 = SM.nx (E (step a s) j')) :
    ∀ (l : List α) (s : σ) (j : J), I l s → I [] (l.foldl (fun s a => step a s) s) ∧ ∃ j', loopM tg f (l.map h) (E s j) = SM.nx (E (l.foldl (fun s a => step a s) s) j')
  | [], s, j, i => ⟨i, j, rfl⟩
  | a :: r, s, j, i => by
    obtain ⟨i2, env1, j1, h1, h2⟩ := hs a r s j i
    obtain ⟨i3, j2, h3⟩ := loop_fold E step I hs r (step a s) j1 i2
    refine ⟨i3, j2, ?_⟩
    rw [List.map_cons, loopM_cons_nx h1 h2]
    exact h3
/-- a def's call -/
def retM (x : SM) : M D := fun m => retO (x m)
theorem retM_rt (d : D) : retM (SM.rt d) = M.ret d := id rfl
theorem retM_xc (c : Str) (d : D) (e : Env) : retM (SM.xc c d e) = M.exc c d := id rfl
theorem retM_nx (e : Env) : retM (SM.nx e) = M.ret .non := id rfl
def Has (P : List (Str × Fn)) (f : Str) (fn : Fn) : Prop := P.lookup f = some fn
def HasNo (P : List (Str × Fn)) (f : Str) : Prop := P.lookup f = none
theorem run_def {P : List (Str × Fn)} {pr : FT} {up : List (Str × Str)} {k : Nat} {f : Str} {fn : Fn} {ds : List D} (h : Has P f fn) (hl : ds.length = fn.np) (hn : fn.np ≤ fn.N.length) : runF P pr up (k + 1) f ds = retM (exSs (runF P pr up k) up fn.body (startE fn ds)) := by
  funext m
  have h : P.lookup f = some fn := h
  simp only [runF, h]
  rw [if_pos ⟨hl, hn⟩]
  rfl
theorem run_prim {P : List (Str × Fn)} {pr : FT} {up : List (Str × Str)} {k : Nat} {f : Str} {ds : List D} (h : HasNo P f) : runF P pr up (k + 1) f ds = pr f ds := by
  funext m
  have h : P.lookup f = none := h
  simp only [runF, h]
end Ev
namespace Ev
open PySem
section
variable {d : D} {i : Nat} {o p : BOp} {a b e t : Ex} {es : List Ex} {f : Str} {bi : Bi} {lo hi : Option Ex} {tg : Tg} {it : It} {u : UOp} {oe : Option Ex}
variable {F : FT} {env : Env} {rs : List Ex}
theorem ec_c : evs F (.c d :: rs) env = M.bind (ev F (.c d) env) fun x => M.bind (evs F rs env) fun ys => M.ret (x :: ys) := evs_cons rfl
theorem ec_v : evs F (.v i :: rs) env = M.bind (ev F (.v i) env) fun x => M.bind (evs F rs env) fun ys => M.ret (x :: ys) := evs_cons rfl
theorem ec_bin : evs F (.bin o a b :: rs) env = M.bind (ev F (.bin o a b) env) fun x => M.bind (evs F rs env) fun ys => M.ret (x :: ys) := evs_cons rfl
theorem ec_un : evs F (.un u a :: rs) env = M.bind (ev F (.un u a) env) fun x => M.bind (evs F rs env) fun ys => M.ret (x :: ys) := evs_cons rfl
theorem ec_chain : evs F (.chain o p a b e :: rs) env = M.bind (ev F (.chain o p a b e) env) fun x => M.bind (evs F rs env) fun ys => M.ret (x :: ys) := evs_cons rfl
theorem ec_and : evs F (.and a b :: rs) env = M.bind (ev F (.and a b) env) fun x => M.bind (evs F rs env) fun ys => M.ret (x :: ys) := evs_cons rfl
theorem ec_or : evs F (.or a b :: rs) env = M.bind (ev F (.or a b) env) fun x => M.bind (evs F rs env) fun ys => M.ret (x :: ys) := evs_cons rfl
theorem ec_ite : evs F (.ite t a b :: rs) env = M.bind (ev F (.ite t a b) env) fun x => M.bind (evs F rs env) fun ys => M.ret (x :: ys) := evs_cons rfl
theorem ec_tup : evs F (.tup es :: rs) env = M.bind (ev F (.tup es) env) fun x => M.bind (evs F rs env) fun ys => M.ret (x :: ys) := evs_cons rfl
theorem ec_lst : evs F (.lst es :: rs) env = M.bind (ev F (.lst es) env) fun x => M.bind (evs F rs env) fun ys => M.ret (x :: ys) := evs_cons rfl
theorem ec_call : evs F (.call f es :: rs) env = M.bind (ev F (.call f es) env) fun x => M.bind (evs F rs env) fun ys => M.ret (x :: ys) := evs_cons rfl
theorem ec_bi : evs F (.bi bi es :: rs) env = M.bind (ev F (.bi bi es) env) fun x => M.bind (evs F rs env) fun ys => M.ret (x :: ys) := evs_cons rfl
theorem ec_ix : evs F (.ix a b :: rs) env = M.bind (ev F (.ix a b) env) fun x => M.bind (evs F rs env) fun ys => M.ret (x :: ys) := evs_cons rfl
theorem ec_sl : evs F (.sl a lo hi :: rs) env = M.bind (ev F (.sl a lo hi) env) fun x => M.bind (evs F rs env) fun ys => M.ret (x :: ys) := evs_cons rfl
theorem ec_rev : evs F (.rev a :: rs) env = M.bind (ev F (.rev a) env) fun x => M.bind (evs F rs env) fun ys => M.ret (x :: ys) := evs_cons rfl
theorem ec_cmp : evs F (.cmp e tg it oe :: rs) env = M.bind (ev F (.cmp e tg it oe) env) fun x => M.bind (evs F rs env) fun ys => M.ret (x :: ys) := evs_cons rfl
end
end Ev
set_option Elab.async false
set_option linter.all false
set_option maxRecDepth 100000
set_option maxHeartbeats 1000000
/-! Pl2: rules of data. -/
namespace Ev
open PySem
section
variable {i j : Int} {x y : Str} {xs ys : List D} {d e : D} {b c : Bool} {kv : List (D × D)}
theorem b_add_i : binD .add (.int i) (.int j) = some (.int (i + j)) := id rfl
theorem b_add_s (h : x.length + y.length ≤ LIM) : binD .add (.str x) (.str y) = some (.str (x ++ y)) := if_pos h
theorem b_add_l (h : (xs ++ ys).length ≤ LIM) : binD .add (.lst xs) (.lst ys) = some (.lst (xs ++ ys)) := if_pos h
theorem b_add_t (h : (xs ++ ys).length ≤ LIM) : binD .add (.tup xs) (.tup ys) = some (.tup (xs ++ ys)) := if_pos h
theorem b_sub_i : binD .sub (.int i) (.int j) = some (.int (i - j)) := id rfl
theorem b_mul_i (h : mulOk i j = true) : binD .mul (.int i) (.int j) = some (.int (i * j)) := if_pos h
theorem b_mod_i (h : 0 < j) : binD .mod (.int i) (.int j) = some (.int (i % j)) := if_pos h
theorem b_lt_i : binD .lt (.int i) (.int j) = some (.bl (decide (i < j))) := id rfl
theorem b_le_i : binD .le (.int i) (.int j) = some (.bl (decide (i ≤ j))) := id rfl
theorem b_gt_i : binD .gt (.int i) (.int j) = some (.bl (decide (j < i))) := id rfl
theorem b_ge_i : binD .ge (.int i) (.int j) = some (.bl (decide (j ≤ i))) := id rfl
theorem b_lt_s : binD .lt (.str x) (.str y) = some (.bl (ltS x.cps.toList y.cps.toList)) := id rfl
theorem b_eq (h : d.eqok = true) (k : e.eqok = true) : binD .eq d e = some (.bl (PyData.eqv d.py e.py)) := by
  show (eqE d e).map D.bl = _
  unfold eqE eqB
  rw [h, k]
  rfl
theorem eqE_t0 : eqE (.tup xs) (.tup []) = some xs.isEmpty := by
  by_cases h : (D.tup xs).eqok = true
  · have h0 : (D.tup []).eqok = true := rfl
    simp only [eqE, eqB, h, h0, Bool.and_self, if_true]
    cases xs with
    | nil => rfl
    | cons a r => simp [D.py, D.pys, PyData.eqv, PyData.eqvAll]
  · have h : (D.tup xs).eqok = false := by simpa using h
    simp only [eqE, eqB, h, Bool.false_and, Bool.false_eq_true, if_false, emptyB]
theorem eqE_l0 : eqE (.lst xs) (.lst []) = some xs.isEmpty := by
  by_cases h : (D.lst xs).eqok = true
  · have h0 : (D.lst []).eqok = true := rfl
    simp only [eqE, eqB, h, h0, Bool.and_self, if_true]
    cases xs with
    | nil => rfl
    | cons a r => simp [D.py, D.pys, PyData.eqv, PyData.eqvAll]
  · have h : (D.lst xs).eqok = false := by simpa using h
    simp only [eqE, eqB, h, Bool.false_and, Bool.false_eq_true, if_false, emptyB]
theorem b_eq_t0 : binD .eq (.tup xs) (.tup []) = some (.bl xs.isEmpty) := by
  show (eqE _ _).map D.bl = _
  rw [eqE_t0]
  rfl
theorem b_eq_l0 : binD .eq (.lst xs) (.lst []) = some (.bl xs.isEmpty) := by
  show (eqE _ _).map D.bl = _
  rw [eqE_l0]
  rfl
theorem b_ne_t0 : binD .ne (.tup xs) (.tup []) = some (.bl (!xs.isEmpty)) := by
  show (eqE _ _).map (fun b => D.bl (!b)) = _
  rw [eqE_t0]
  rfl
theorem b_ne_l0 : binD .ne (.lst xs) (.lst []) = some (.bl (!xs.isEmpty)) := by
  show (eqE _ _).map (fun b => D.bl (!b)) = _
  rw [eqE_l0]
  rfl
theorem b_ne (h : d.eqok = true) (k : e.eqok = true) : binD .ne d e = some (.bl (!PyData.eqv d.py e.py)) := by
  show (eqE d e).map (fun b => D.bl (!b)) = _
  unfold eqE eqB
  rw [h, k]
  rfl
theorem b_eq_i : binD .eq (.int i) (.int j) = some (.bl (decide (i = j))) := by
  rw [b_eq rfl rfl]
  simp only [D.py, PyData.eqv]
  rfl
theorem b_ne_i : binD .ne (.int i) (.int j) = some (.bl (!decide (i = j))) := by
  rw [b_ne rfl rfl]
  simp only [D.py, PyData.eqv]
  rfl
/-- one sign in a text -/
theorem b_in_1 (n : Nat) : binD .in_ (.str ⟨#[n]⟩) (.str x) = some (.bl (decide (n ∈ x.cps.toList))) := by
  show some (D.bl (!(Builtin.Str.occurrences x ⟨#[n]⟩ 0 x.length 1).isEmpty)) = _
  rw [PySem.StrLaws.found_one]
theorem b_nin_1 (n : Nat) : binD .notin (.str ⟨#[n]⟩) (.str x) = some (.bl (!decide (n ∈ x.cps.toList))) := by
  show some (D.bl (!(!(Builtin.Str.occurrences x ⟨#[n]⟩ 0 x.length 1).isEmpty))) = _
  rw [PySem.StrLaws.found_one]
theorem u_not : unD .not (.bl b) = some (.bl (!b)) := id rfl
theorem u_neg : unD .neg (.int i) = some (.int (-i)) := id rfl
theorem bi_len_s (h : x.length ≤ LIM) : biD .len [.str x] = some (.int x.length) := if_pos h
theorem bi_len_t : biD .len [.tup xs] = some (.int xs.length) := id rfl
theorem bi_len_l : biD .len [.lst xs] = some (.int xs.length) := id rfl
theorem bi_len_c {ns : List Int} : biD .len [.scr ns] = some (.int ns.length) := id rfl
theorem bi_tup_l : biD .tuple [.lst xs] = some (.tup xs) := id rfl
theorem bi_tup_t : biD .tuple [.tup xs] = some (.tup xs) := id rfl
theorem bi_lst_l : biD .list [.lst xs] = some (.lst xs) := id rfl
theorem bi_lst_t : biD .list [.tup xs] = some (.lst xs) := id rfl
theorem bi_int_i : biD .int [.int i] = some (.int i) := id rfl
theorem bi_edict : biD .edict [] = some (.dct []) := id rfl
theorem bi_min_i : biD .min2 [.int i, .int j] = some (.int (if j < i then j else i)) := id rfl
theorem asBools_map {α : Type} (f : α → Bool) : ∀ l : List α, asBools (l.map fun a => .bl (f a)) = some (l.map f)
  | [] => rfl
  | a :: l => by simp only [List.map_cons, asBools, asBools_map f l, Option.map_some]
theorem bi_all_map {α : Type} (f : α → Bool) (l : List α) : biD .all [.lst (l.map fun a => .bl (f a))] = some (.bl (l.all f)) := by
  show (asBools _).map _ = _
  rw [asBools_map]
  simp
theorem bi_any_map {α : Type} (f : α → Bool) (l : List α) : biD .any [.lst (l.map fun a => .bl (f a))] = some (.bl (l.any f)) := by
  show (asBools _).map _ = _
  rw [asBools_map]
  simp
theorem sq_l : seqD (.lst xs) = some xs := id rfl
theorem sq_t : seqD (.tup xs) = some xs := id rfl
theorem sq_s (h : x.length ≤ LIM) : seqD (.str x) = some (x.cps.toList.map fun c => .str ⟨#[c]⟩) := if_pos h
theorem zp_t : zipO (.tup xs) (.tup ys) = some (zipD xs ys) := id rfl
theorem zp_l : zipO (.lst xs) (.lst ys) = some (zipD xs ys) := id rfl
theorem rv_t : revD (.tup xs) = some (.tup xs.reverse) := id rfl
theorem rv_l : revD (.lst xs) = some (.lst xs.reverse) := id rfl
theorem cut_from {α : Type} (l : List α) {i : Int} (h : 0 ≤ i) : cutL l (some i) none = l.drop i.toNat := by
  unfold cutL HT.sIx
  dsimp only
  rw [if_neg (by omega)]
  rw [List.take_of_length_le (by simp [List.length_drop])]
  rcases Nat.le_total i.toNat l.length with h1 | h1
  · rw [Nat.min_eq_left h1]
  · rw [Nat.min_eq_right h1, List.drop_eq_nil_of_le (Nat.le_refl _), List.drop_eq_nil_of_le h1]
theorem cut_to {α : Type} (l : List α) {i : Int} (h : 0 ≤ i) : cutL l none (some i) = l.take i.toNat := by
  unfold cutL HT.sIx
  dsimp only
  rw [if_neg (by omega)]
  simp only [List.drop_zero, Nat.sub_zero]
  rcases Nat.le_total i.toNat l.length with h1 | h1
  · rw [Nat.min_eq_left h1]
  · rw [Nat.min_eq_right h1, List.take_of_length_le (Nat.le_refl _), List.take_of_length_le h1]
theorem cut_ft {α : Type} (l : List α) {i j : Int} (h : 0 ≤ i) (h2 : 0 ≤ j) : cutL l (some i) (some j) = (l.drop i.toNat).take (j.toNat - i.toNat) := by
  unfold cutL HT.sIx
  dsimp only
  rw [if_neg (by omega : ¬ i < 0), if_neg (by omega : ¬ j < 0)]
  rcases Nat.le_total i.toNat l.length with h1 | h1
  · rw [Nat.min_eq_left h1]
    rcases Nat.le_total j.toNat l.length with h3 | h3
    · rw [Nat.min_eq_left h3]
    · rw [Nat.min_eq_right h3, List.take_of_length_le (by simp [List.length_drop]), List.take_of_length_le (by rw [List.length_drop]; omega)]
  · rw [Nat.min_eq_right h1, List.drop_eq_nil_of_le (Nat.le_refl _), List.drop_eq_nil_of_le h1]
    simp
theorem cut_all {α : Type} (l : List α) : cutL l none none = l := by
  unfold cutL HT.sIx
  simp
theorem rng0 {v : Int} (h0 : 0 ≤ v) (h1 : v ≤ 100000) : rngO (.int 0) (.int v) = some ((List.range v.toNat).map fun k => .int (k : Int)) := by
  unfold rngO
  have e : rangeOk 0 v = true := by unfold rangeOk; simp only [decide_eq_true_eq]; omega
  simp only [e, if_true, Option.some.injEq]
  unfold rangeD
  simp
theorem ix_l {v : Int} (h0 : 0 ≤ v) (h1 : v < xs.length) : ∃ d ∈ xs, ixD (.lst xs) (.int v) = some d := by
  have hv : v.toNat < xs.length := by omega
  refine ⟨xs[v.toNat], List.getElem_mem hv, ?_⟩
  show L2.atI xs v = _
  unfold L2.atI L2.ixN
  rw [if_pos h0, if_pos h1]
  simp [hv]
theorem ix_ln {v : Int} (h0 : 0 ≤ v) (h1 : v < xs.length) : ixD (.lst xs) (.int v) = xs[v.toNat]? := by
  show L2.atI xs v = _
  unfold L2.atI L2.ixN
  rw [if_pos h0, if_pos h1]
  rfl
theorem ix_tn {v : Int} (h0 : 0 ≤ v) (h1 : v < xs.length) : ixD (.tup xs) (.int v) = xs[v.toNat]? := by
  show L2.atI xs v = _
  unfold L2.atI L2.ixN
  rw [if_pos h0, if_pos h1]
  rfl
theorem sl_t (lo hi : Option Int) : slD (.tup xs) lo hi = some (.tup (cutL xs lo hi)) := id rfl
theorem sl_l (lo hi : Option Int) : slD (.lst xs) lo hi = some (.lst (cutL xs lo hi)) := id rfl
theorem sl_s (lo hi : Option Int) (h : x.length ≤ LIM) : slD (.str x) lo hi = some (.str (L2.cutS x lo hi)) := if_pos h
theorem cmpM_map {α : Type} (l : List α) (h : α → D) {f : D → M (Option D)} (g : α → D) (hf : ∀ a ∈ l, f (h a) = M.ret (some (g a))) (hl : l.length ≤ LIM) : cmpM (l.map h) f = M.ret (.lst (l.map g)) := by
  unfold cmpM
  rw [if_pos (by rw [List.length_map]; exact hl)]
  have e : mapC f (l.map h) = M.ret (l.map g) := by
    clear hl
    induction l with
    | nil => rfl
    | cons a l ih =>
      have ih := ih fun b hb => hf b (List.mem_cons_of_mem _ hb)
      simp only [List.map_cons, mapC, hf a List.mem_cons_self, M.calm_ret, M.ret_bind, ih]
  rw [e]
  rfl
theorem cmpM_filter {α : Type} (l : List α) (h : α → D) {f : D → M (Option D)} (p : α → Bool) (g : α → D) (hf : ∀ a ∈ l, f (h a) = M.ret (if p a = true then some (g a) else none)) (hl : l.length ≤ LIM) : cmpM (l.map h) f = M.ret (.lst ((l.filter p).map g)) := by
  unfold cmpM
  rw [if_pos (by rw [List.length_map]; exact hl)]
  have e : mapC f (l.map h) = M.ret ((l.filter p).map g) := by
    clear hl
    induction l with
    | nil => rfl
    | cons a l ih =>
      have ih := ih fun b hb => hf b (List.mem_cons_of_mem _ hb)
      cases hp : p a <;> simp only [List.map_cons, mapC, hf a List.mem_cons_self, M.calm_ret, M.ret_bind, ih, hp, List.filter_cons, if_true, if_false, Bool.false_eq_true, List.map_cons]
  rw [e]
  rfl
theorem cmpM_map0 (l : List D) {f : D → M (Option D)} (g : D → D) (hf : ∀ a ∈ l, f a = M.ret (some (g a))) (hl : l.length ≤ LIM) : cmpM l f = M.ret (.lst (l.map g)) := by
  have z := cmpM_map l id g hf hl
  rwa [List.map_id] at z
theorem cmpM_filter0 (l : List D) {f : D → M (Option D)} (p : D → Bool) (g : D → D) (hf : ∀ a ∈ l, f a = M.ret (if p a = true then some (g a) else none)) (hl : l.length ≤ LIM) : cmpM l f = M.ret (.lst ((l.filter p).map g)) := by
  have z := cmpM_filter l id p g hf hl
  rwa [List.map_id] at z
theorem fit0 {d : D} : fitM [] d = M.ret d := if_pos (by decide : 0 ≤ LIM)
theorem fit1 {a0 : D} {d : D} : fitM [a0] d = M.ret d := if_pos (by decide : 1 ≤ LIM)
theorem fit2 {a0 a1 : D} {d : D} : fitM [a0, a1] d = M.ret d := if_pos (by decide : 2 ≤ LIM)
theorem fit3 {a0 a1 a2 : D} {d : D} : fitM [a0, a1, a2] d = M.ret d := if_pos (by decide : 3 ≤ LIM)
theorem fit4 {a0 a1 a2 a3 : D} {d : D} : fitM [a0, a1, a2, a3] d = M.ret d := if_pos (by decide : 4 ≤ LIM)
theorem fit5 {a0 a1 a2 a3 a4 : D} {d : D} : fitM [a0, a1, a2, a3, a4] d = M.ret d := if_pos (by decide : 5 ≤ LIM)
theorem fit6 {a0 a1 a2 a3 a4 a5 : D} {d : D} : fitM [a0, a1, a2, a3, a4, a5] d = M.ret d := if_pos (by decide : 6 ≤ LIM)
theorem fit7 {a0 a1 a2 a3 a4 a5 a6 : D} {d : D} : fitM [a0, a1, a2, a3, a4, a5, a6] d = M.ret d := if_pos (by decide : 7 ≤ LIM)
theorem fit8 {a0 a1 a2 a3 a4 a5 a6 a7 : D} {d : D} : fitM [a0, a1, a2, a3, a4, a5, a6, a7] d = M.ret d := if_pos (by decide : 8 ≤ LIM)
theorem fit9 {a0 a1 a2 a3 a4 a5 a6 a7 a8 : D} {d : D} : fitM [a0, a1, a2, a3, a4, a5, a6, a7, a8] d = M.ret d := if_pos (by decide : 9 ≤ LIM)
theorem fit10 {a0 a1 a2 a3 a4 a5 a6 a7 a8 a9 : D} {d : D} : fitM [a0, a1, a2, a3, a4, a5, a6, a7, a8, a9] d = M.ret d := if_pos (by decide : 10 ≤ LIM)
theorem fit11 {a0 a1 a2 a3 a4 a5 a6 a7 a8 a9 a10 : D} {d : D} : fitM [a0, a1, a2, a3, a4, a5, a6, a7, a8, a9, a10] d = M.ret d := if_pos (by decide : 11 ≤ LIM)
theorem fit12 {a0 a1 a2 a3 a4 a5 a6 a7 a8 a9 a10 a11 : D} {d : D} : fitM [a0, a1, a2, a3, a4, a5, a6, a7, a8, a9, a10, a11] d = M.ret d := if_pos (by decide : 12 ≤ LIM)
theorem fit13 {a0 a1 a2 a3 a4 a5 a6 a7 a8 a9 a10 a11 a12 : D} {d : D} : fitM [a0, a1, a2, a3, a4, a5, a6, a7, a8, a9, a10, a11, a12] d = M.ret d := if_pos (by decide : 13 ≤ LIM)
theorem fit14 {a0 a1 a2 a3 a4 a5 a6 a7 a8 a9 a10 a11 a12 a13 : D} {d : D} : fitM [a0, a1, a2, a3, a4, a5, a6, a7, a8, a9, a10, a11, a12, a13] d = M.ret d := if_pos (by decide : 14 ≤ LIM)
theorem fit15 {a0 a1 a2 a3 a4 a5 a6 a7 a8 a9 a10 a11 a12 a13 a14 : D} {d : D} : fitM [a0, a1, a2, a3, a4, a5, a6, a7, a8, a9, a10, a11, a12, a13, a14] d = M.ret d := if_pos (by decide : 15 ≤ LIM)
theorem fit16 {a0 a1 a2 a3 a4 a5 a6 a7 a8 a9 a10 a11 a12 a13 a14 a15 : D} {d : D} : fitM [a0, a1, a2, a3, a4, a5, a6, a7, a8, a9, a10, a11, a12, a13, a14, a15] d = M.ret d := if_pos (by decide : 16 ≤ LIM)
theorem fit17 {a0 a1 a2 a3 a4 a5 a6 a7 a8 a9 a10 a11 a12 a13 a14 a15 a16 : D} {d : D} : fitM [a0, a1, a2, a3, a4, a5, a6, a7, a8, a9, a10, a11, a12, a13, a14, a15, a16] d = M.ret d := if_pos (by decide : 17 ≤ LIM)
theorem fit18 {a0 a1 a2 a3 a4 a5 a6 a7 a8 a9 a10 a11 a12 a13 a14 a15 a16 a17 : D} {d : D} : fitM [a0, a1, a2, a3, a4, a5, a6, a7, a8, a9, a10, a11, a12, a13, a14, a15, a16, a17] d = M.ret d := if_pos (by decide : 18 ≤ LIM)
theorem fit19 {a0 a1 a2 a3 a4 a5 a6 a7 a8 a9 a10 a11 a12 a13 a14 a15 a16 a17 a18 : D} {d : D} : fitM [a0, a1, a2, a3, a4, a5, a6, a7, a8, a9, a10, a11, a12, a13, a14, a15, a16, a17, a18] d = M.ret d := if_pos (by decide : 19 ≤ LIM)
theorem fit20 {a0 a1 a2 a3 a4 a5 a6 a7 a8 a9 a10 a11 a12 a13 a14 a15 a16 a17 a18 a19 : D} {d : D} : fitM [a0, a1, a2, a3, a4, a5, a6, a7, a8, a9, a10, a11, a12, a13, a14, a15, a16, a17, a18, a19] d = M.ret d := if_pos (by decide : 20 ≤ LIM)
theorem fit21 {a0 a1 a2 a3 a4 a5 a6 a7 a8 a9 a10 a11 a12 a13 a14 a15 a16 a17 a18 a19 a20 : D} {d : D} : fitM [a0, a1, a2, a3, a4, a5, a6, a7, a8, a9, a10, a11, a12, a13, a14, a15, a16, a17, a18, a19, a20] d = M.ret d := if_pos (by decide : 21 ≤ LIM)
theorem fit22 {a0 a1 a2 a3 a4 a5 a6 a7 a8 a9 a10 a11 a12 a13 a14 a15 a16 a17 a18 a19 a20 a21 : D} {d : D} : fitM [a0, a1, a2, a3, a4, a5, a6, a7, a8, a9, a10, a11, a12, a13, a14, a15, a16, a17, a18, a19, a20, a21] d = M.ret d := if_pos (by decide : 22 ≤ LIM)
theorem fit23 {a0 a1 a2 a3 a4 a5 a6 a7 a8 a9 a10 a11 a12 a13 a14 a15 a16 a17 a18 a19 a20 a21 a22 : D} {d : D} : fitM [a0, a1, a2, a3, a4, a5, a6, a7, a8, a9, a10, a11, a12, a13, a14, a15, a16, a17, a18, a19, a20, a21, a22] d = M.ret d := if_pos (by decide : 23 ≤ LIM)
theorem fit24 {a0 a1 a2 a3 a4 a5 a6 a7 a8 a9 a10 a11 a12 a13 a14 a15 a16 a17 a18 a19 a20 a21 a22 a23 : D} {d : D} : fitM [a0, a1, a2, a3, a4, a5, a6, a7, a8, a9, a10, a11, a12, a13, a14, a15, a16, a17, a18, a19, a20, a21, a22, a23] d = M.ret d := if_pos (by decide : 24 ≤ LIM)
theorem fit25 {a0 a1 a2 a3 a4 a5 a6 a7 a8 a9 a10 a11 a12 a13 a14 a15 a16 a17 a18 a19 a20 a21 a22 a23 a24 : D} {d : D} : fitM [a0, a1, a2, a3, a4, a5, a6, a7, a8, a9, a10, a11, a12, a13, a14, a15, a16, a17, a18, a19, a20, a21, a22, a23, a24] d = M.ret d := if_pos (by decide : 25 ≤ LIM)
theorem fit26 {a0 a1 a2 a3 a4 a5 a6 a7 a8 a9 a10 a11 a12 a13 a14 a15 a16 a17 a18 a19 a20 a21 a22 a23 a24 a25 : D} {d : D} : fitM [a0, a1, a2, a3, a4, a5, a6, a7, a8, a9, a10, a11, a12, a13, a14, a15, a16, a17, a18, a19, a20, a21, a22, a23, a24, a25] d = M.ret d := if_pos (by decide : 26 ≤ LIM)
theorem fit27 {a0 a1 a2 a3 a4 a5 a6 a7 a8 a9 a10 a11 a12 a13 a14 a15 a16 a17 a18 a19 a20 a21 a22 a23 a24 a25 a26 : D} {d : D} : fitM [a0, a1, a2, a3, a4, a5, a6, a7, a8, a9, a10, a11, a12, a13, a14, a15, a16, a17, a18, a19, a20, a21, a22, a23, a24, a25, a26] d = M.ret d := if_pos (by decide : 27 ≤ LIM)
theorem fit28 {a0 a1 a2 a3 a4 a5 a6 a7 a8 a9 a10 a11 a12 a13 a14 a15 a16 a17 a18 a19 a20 a21 a22 a23 a24 a25 a26 a27 : D} {d : D} : fitM [a0, a1, a2, a3, a4, a5, a6, a7, a8, a9, a10, a11, a12, a13, a14, a15, a16, a17, a18, a19, a20, a21, a22, a23, a24, a25, a26, a27] d = M.ret d := if_pos (by decide : 28 ≤ LIM)
theorem fit29 {a0 a1 a2 a3 a4 a5 a6 a7 a8 a9 a10 a11 a12 a13 a14 a15 a16 a17 a18 a19 a20 a21 a22 a23 a24 a25 a26 a27 a28 : D} {d : D} : fitM [a0, a1, a2, a3, a4, a5, a6, a7, a8, a9, a10, a11, a12, a13, a14, a15, a16, a17, a18, a19, a20, a21, a22, a23, a24, a25, a26, a27, a28] d = M.ret d := if_pos (by decide : 29 ≤ LIM)
theorem fit30 {a0 a1 a2 a3 a4 a5 a6 a7 a8 a9 a10 a11 a12 a13 a14 a15 a16 a17 a18 a19 a20 a21 a22 a23 a24 a25 a26 a27 a28 a29 : D} {d : D} : fitM [a0, a1, a2, a3, a4, a5, a6, a7, a8, a9, a10, a11, a12, a13, a14, a15, a16, a17, a18, a19, a20, a21, a22, a23, a24, a25, a26, a27, a28, a29] d = M.ret d := if_pos (by decide : 30 ≤ LIM)
theorem fit31 {a0 a1 a2 a3 a4 a5 a6 a7 a8 a9 a10 a11 a12 a13 a14 a15 a16 a17 a18 a19 a20 a21 a22 a23 a24 a25 a26 a27 a28 a29 a30 : D} {d : D} : fitM [a0, a1, a2, a3, a4, a5, a6, a7, a8, a9, a10, a11, a12, a13, a14, a15, a16, a17, a18, a19, a20, a21, a22, a23, a24, a25, a26, a27, a28, a29, a30] d = M.ret d := if_pos (by decide : 31 ≤ LIM)
theorem fit32 {a0 a1 a2 a3 a4 a5 a6 a7 a8 a9 a10 a11 a12 a13 a14 a15 a16 a17 a18 a19 a20 a21 a22 a23 a24 a25 a26 a27 a28 a29 a30 a31 : D} {d : D} : fitM [a0, a1, a2, a3, a4, a5, a6, a7, a8, a9, a10, a11, a12, a13, a14, a15, a16, a17, a18, a19, a20, a21, a22, a23, a24, a25, a26, a27, a28, a29, a30, a31] d = M.ret d := if_pos (by decide : 32 ≤ LIM)
theorem filterMap_some' {α β : Type} (f : α → β) (l : List α) : l.filterMap (fun a => some (f a)) = l.map f := by
  induction l with
  | nil => rfl
  | cons a l ih => simp [ih]
theorem isin_str_non : biD (.isin ["str"]) [.non] = some (.bl false) := id rfl
theorem isin_str_bl : biD (.isin ["str"]) [.bl b] = some (.bl false) := id rfl
theorem isin_str_int : biD (.isin ["str"]) [.int i] = some (.bl false) := id rfl
theorem isin_str_str : biD (.isin ["str"]) [.str x] = some (.bl true) := id rfl
theorem isin_str_tup : biD (.isin ["str"]) [.tup xs] = some (.bl false) := id rfl
theorem isin_str_lst : biD (.isin ["str"]) [.lst xs] = some (.bl false) := id rfl
theorem isin_str_dct : biD (.isin ["str"]) [.dct kv] = some (.bl false) := id rfl
theorem isin_tuple_non : biD (.isin ["tuple"]) [.non] = some (.bl false) := id rfl
theorem isin_tuple_bl : biD (.isin ["tuple"]) [.bl b] = some (.bl false) := id rfl
theorem isin_tuple_int : biD (.isin ["tuple"]) [.int i] = some (.bl false) := id rfl
theorem isin_tuple_str : biD (.isin ["tuple"]) [.str x] = some (.bl false) := id rfl
theorem isin_tuple_tup : biD (.isin ["tuple"]) [.tup xs] = some (.bl true) := id rfl
theorem isin_tuple_lst : biD (.isin ["tuple"]) [.lst xs] = some (.bl false) := id rfl
theorem isin_tuple_dct : biD (.isin ["tuple"]) [.dct kv] = some (.bl false) := id rfl
theorem isin_int_non : biD (.isin ["int"]) [.non] = some (.bl false) := id rfl
theorem isin_int_bl : biD (.isin ["int"]) [.bl b] = some (.bl true) := id rfl
theorem isin_int_int : biD (.isin ["int"]) [.int i] = some (.bl true) := id rfl
theorem isin_int_str : biD (.isin ["int"]) [.str x] = some (.bl false) := id rfl
theorem isin_int_tup : biD (.isin ["int"]) [.tup xs] = some (.bl false) := id rfl
theorem isin_int_lst : biD (.isin ["int"]) [.lst xs] = some (.bl false) := id rfl
theorem isin_int_dct : biD (.isin ["int"]) [.dct kv] = some (.bl false) := id rfl
theorem isin_bool_non : biD (.isin ["bool"]) [.non] = some (.bl false) := id rfl
theorem isin_bool_bl : biD (.isin ["bool"]) [.bl b] = some (.bl true) := id rfl
theorem isin_bool_int : biD (.isin ["bool"]) [.int i] = some (.bl false) := id rfl
theorem isin_bool_str : biD (.isin ["bool"]) [.str x] = some (.bl false) := id rfl
theorem isin_bool_tup : biD (.isin ["bool"]) [.tup xs] = some (.bl false) := id rfl
theorem isin_bool_lst : biD (.isin ["bool"]) [.lst xs] = some (.bl false) := id rfl
theorem isin_bool_dct : biD (.isin ["bool"]) [.dct kv] = some (.bl false) := id rfl
theorem isin_list_tuple_non : biD (.isin ["list", "tuple"]) [.non] = some (.bl false) := id rfl
theorem isin_list_tuple_bl : biD (.isin ["list", "tuple"]) [.bl b] = some (.bl false) := id rfl
theorem isin_list_tuple_int : biD (.isin ["list", "tuple"]) [.int i] = some (.bl false) := id rfl
theorem isin_list_tuple_str : biD (.isin ["list", "tuple"]) [.str x] = some (.bl false) := id rfl
theorem isin_list_tuple_tup : biD (.isin ["list", "tuple"]) [.tup xs] = some (.bl true) := id rfl
theorem isin_list_tuple_lst : biD (.isin ["list", "tuple"]) [.lst xs] = some (.bl true) := id rfl
theorem isin_list_tuple_dct : biD (.isin ["list", "tuple"]) [.dct kv] = some (.bl false) := id rfl
theorem isin_tuple_list_non : biD (.isin ["tuple", "list"]) [.non] = some (.bl false) := id rfl
theorem isin_tuple_list_bl : biD (.isin ["tuple", "list"]) [.bl b] = some (.bl false) := id rfl
theorem isin_tuple_list_int : biD (.isin ["tuple", "list"]) [.int i] = some (.bl false) := id rfl
theorem isin_tuple_list_str : biD (.isin ["tuple", "list"]) [.str x] = some (.bl false) := id rfl
theorem isin_tuple_list_tup : biD (.isin ["tuple", "list"]) [.tup xs] = some (.bl true) := id rfl
theorem isin_tuple_list_lst : biD (.isin ["tuple", "list"]) [.lst xs] = some (.bl true) := id rfl
theorem isin_tuple_list_dct : biD (.isin ["tuple", "list"]) [.dct kv] = some (.bl false) := id rfl
theorem isin_list_non : biD (.isin ["list"]) [.non] = some (.bl false) := id rfl
theorem isin_list_bl : biD (.isin ["list"]) [.bl b] = some (.bl false) := id rfl
theorem isin_list_int : biD (.isin ["list"]) [.int i] = some (.bl false) := id rfl
theorem isin_list_str : biD (.isin ["list"]) [.str x] = some (.bl false) := id rfl
theorem isin_list_tup : biD (.isin ["list"]) [.tup xs] = some (.bl false) := id rfl
theorem isin_list_lst : biD (.isin ["list"]) [.lst xs] = some (.bl true) := id rfl
theorem isin_list_dct : biD (.isin ["list"]) [.dct kv] = some (.bl false) := id rfl
theorem isin_dict_non : biD (.isin ["dict"]) [.non] = some (.bl false) := id rfl
theorem isin_dict_bl : biD (.isin ["dict"]) [.bl b] = some (.bl false) := id rfl
theorem isin_dict_int : biD (.isin ["dict"]) [.int i] = some (.bl false) := id rfl
theorem isin_dict_str : biD (.isin ["dict"]) [.str x] = some (.bl false) := id rfl
theorem isin_dict_tup : biD (.isin ["dict"]) [.tup xs] = some (.bl false) := id rfl
theorem isin_dict_lst : biD (.isin ["dict"]) [.lst xs] = some (.bl false) := id rfl
theorem isin_dict_dct : biD (.isin ["dict"]) [.dct kv] = some (.bl true) := id rfl
end
end Ev
set_option Elab.async false
set_option linter.all false
set_option maxRecDepth 100000
set_option maxHeartbeats 1000000
/-! FnA: core forms of defs -/
namespace Ev
open PySem
def f_is_word : Fn := ⟨["thing", "letter"], 1,
  [.ret (.and (.bi (.isin ["str"]) [.v 0]) (.and (.chain .le .le (.c (.int 1)) (.bi .len [.v 0]) (.c (.int 8))) (.bi .all [.cmp (.bin .in_ (.v 1) (.c (.str "abcdefghijklmnopqrstuvwxyz"))) (.v 1) (.seq (.v 0)) none])))]⟩
def f_are_ascending : Fn := ⟨["thing", "one", "other"], 1,
  [.ite (.or (.un .not (.bi (.isin ["tuple"]) [.v 0])) (.un .not (.bi .all [.cmp (.call "is_word" [.v 1]) (.v 1) (.seq (.v 0)) none]))) [.ret (.c (.bl false))] [],
   .ret (.bi .all [.cmp (.bin .lt (.v 1) (.v 2)) (.t [.v 1, .v 2]) (.zip (.v 0) (.sl (.v 0) (some (.c (.int 1))) none)) none])]⟩
def f_need_things : Fn := ⟨["thing"], 1,
  [.ite (.or (.un .not (.call "are_ascending" [.v 0])) (.un .not (.chain .le .le (.c (.int 1)) (.bi .len [.v 0]) (.c (.int 5))))) [.rais "BadThings" (.v 0)] [],
   .ret (.v 0)]⟩
def f_is_lot : Fn := ⟨["things", "thing", "one"], 2,
  [.ret (.and (.call "are_ascending" [.v 1]) (.bi .all [.cmp (.bin .in_ (.v 2) (.v 0)) (.v 2) (.seq (.v 1)) none]))]⟩
def f_all_lots : Fn := ⟨["things", "found", "thing", "lot"], 1,
  [.asg (.v 1) (.lst [.tup []]),
   .loop (.v 2) (.seq (.rev (.v 0)))
    [.asg (.v 1) (.lst [.tup [], .star (.cmp (.tup [.v 2, .star (.v 3)]) (.v 3) (.seq (.v 1)) none), .star (.sl (.v 1) (some (.c (.int 1))) none)])],
   .ret (.bi .tuple [.v 1])]⟩
def f_joined : Fn := ⟨["one", "other", "thing"], 2,
  [.ret (.bi .tuple [.bi .sorted [.lst [.star (.v 0), .star (.cmp (.v 2) (.v 2) (.seq (.v 1)) (some (.bin .notin (.v 2) (.v 0))))]]])]⟩
def f_law_names : Fn := ⟨["_law_m", "_law_many", "_law_k", "_law_word", "_law_letters", "_law_stem", "_law_at", "_law_first", "_law_by"], 2,
  [.asg (.t [.v 4, .v 5]) (.tup [.c (.str "abcdefghijklmnopqrstuvwxyz"), .c (.str "")]),
   .loop (.v 2) (.rng (.call "_law_next" [.v 0, .c (.int 8)]))
    [.asg (.v 5) (.bin .add (.v 5) (.ix (.v 4) (.call "_law_next" [.v 0, .c (.int 26)])))],
   .asg (.t [.v 6, .v 7, .v 8]) (.tup [.call "_law_next" [.v 0, .bin .add (.bi .len [.v 5]) (.c (.int 1))], .call "_law_next" [.v 0, .c (.int 26)], .ix (.lst [.c (.int 1), .c (.int 3), .c (.int 5), .c (.int 7), .c (.int 9), .c (.int 11)]) (.call "_law_next" [.v 0, .c (.int 6)])]),
   .asg (.v 3) (.sl (.bin .add (.v 5) (.bin .mul (.ix (.v 4) (.v 7)) (.c (.int 8)))) none (some (.c (.int 8)))),
   .ite (.and (.bin .gt (.v 8) (.c (.int 5))) (.bin .lt (.v 1) (.c (.int 9)))) [.ret (.cmp (.ite (.bin .gt (.v 8) (.c (.int 7))) (.sl (.v 3) (some (.v 2)) none) (.sl (.v 3) none (some (.bin .sub (.bin .add (.v 2) (.c (.int 9))) (.v 1))))) (.v 2) (.rng (.v 1)) none)] [],
   .ret (.cmp (.bin .add (.bin .add (.sl (.v 5) none (some (.v 6))) (.ix (.v 4) (.bin .mod (.bi .int [.bin .add (.v 7) (.bin .mul (.v 8) (.v 2))]) (.c (.int 26))))) (.sl (.v 5) (some (.v 6)) none)) (.v 2) (.rng (.v 1)) none)]⟩
def f_law_is_whole : Fn := ⟨["_law_thing", "_law_least", "_law_most"], 3,
  [.ret (.and (.bi (.isin ["int"]) [.v 0]) (.and (.un .not (.bi (.isin ["bool"]) [.v 0])) (.chain .le .le (.v 1) (.v 0) (.v 2))))]⟩
def f_law_is_name : Fn := ⟨["_law_thing", "_law_sign"], 1,
  [.ite (.or (.un .not (.bi (.isin ["str"]) [.v 0])) (.un .not (.chain .le .le (.c (.int 1)) (.bi .len [.v 0]) (.c (.int 8))))) [.ret (.c (.bl false))] [],
   .ret (.bin .eq (.cmp (.v 1) (.v 1) (.seq (.v 0)) (some (.bin .notin (.v 1) (.c (.str "abcdefghijklmnopqrstuvwxyz"))))) (.lst []))]⟩
def f_law_odd : Fn := ⟨["_law_m", "_law_some"], 1,
  [.asg (.v 1) (.lst [.c .non, .c (.int 0), .c (.int 1), .c (.int 2), .c (.int 9), .un .neg (.c (.int 1)), .c (.int 100), .un .neg (.c (.int 100)), .c (.bl true), .c (.bl false), .c (.str ""), .c (.str "a"), .c (.str "abcdefghi"), .c (.str "A"), .c (.str "one"), .c (.str "sum"), .tup [], .tup [.tup []], .tup [.c (.str "a"), .c (.int 0)]]),
   .asg (.v 1) (.bin .add (.v 1) (.lst [.lst [], .bi .edict [], .bin .pow (.c (.int 10)) (.c (.int 30)), .tup [.c (.str "one"), .c (.str "a")], .tup [.c (.str "pair"), .c (.str "a"), .c (.str "b"), .tup []], .c (.str "a1"), .tup [.c .non], .tup [.c (.int 0)], .tup [.c (.str "a")], .tup [.c (.str "a"), .c (.str "b")]])),
   .ret (.ix (.v 1) (.call "_law_next" [.v 0, .c (.int 29)]))]⟩
def f_law_bent : Fn := ⟨["_law_m", "_law_thing", "_law_at", "_law_pick"], 2,
  [.ite (.and (.bi (.isin ["str"]) [.v 1]) (.bin .eq (.call "_law_next" [.v 0, .c (.int 2)]) (.c (.int 0)))) [.ret (.ix (.lst [.bin .add (.v 1) (.c (.str "b")), .sl (.v 1) (some (.c (.int 1))) none, .bin .add (.v 1) (.c (.str "A")), .bin .add (.v 1) (.c (.str " ")), .bin .mul (.v 1) (.c (.int 2)), .bin .add (.v 1) (.c (.str "1"))]) (.call "_law_next" [.v 0, .c (.int 6)]))] [],
   .ite (.and (.bi (.isin ["int"]) [.v 1]) (.and (.un .not (.bi (.isin ["bool"]) [.v 1])) (.bin .eq (.call "_law_next" [.v 0, .c (.int 2)]) (.c (.int 0))))) [.ret (.bin .add (.v 1) (.ix (.lst [.c (.int 1), .un .neg (.c (.int 1)), .c (.int 3), .un .neg (.c (.int 3)), .c (.int 100), .un .neg (.c (.int 100))]) (.call "_law_next" [.v 0, .c (.int 6)])))] [],
   .ite (.or (.un .not (.bi (.isin ["tuple"]) [.v 1])) (.or (.bin .eq (.v 1) (.tup [])) (.bin .eq (.call "_law_next" [.v 0, .c (.int 6)]) (.c (.int 0))))) [.ret (.call "_law_odd" [.v 0])] [],
   .asg (.t [.v 2, .v 3]) (.tup [.call "_law_next" [.v 0, .bi .len [.v 1]], .call "_law_next" [.v 0, .c (.int 11)]]),
   .ite (.bin .eq (.v 3) (.c (.int 0))) [.ret (.bin .add (.sl (.v 1) none (some (.v 2))) (.sl (.v 1) (some (.bin .add (.v 2) (.c (.int 1)))) none))] [],
   .ite (.bin .eq (.v 3) (.c (.int 1))) [.ret (.bin .add (.v 1) (.sl (.v 1) (some (.v 2)) (some (.bin .add (.v 2) (.c (.int 1))))))] [],
   .ite (.bin .eq (.v 3) (.c (.int 2))) [.ret (.bi .list [.v 1])] [],
   .ite (.bin .eq (.v 3) (.c (.int 3))) [.ret (.bin .add (.bin .add (.sl (.v 1) none (some (.v 2))) (.tup [.call "_law_odd" [.v 0]])) (.sl (.v 1) (some (.v 2)) none))] [],
   .ite (.bin .eq (.v 3) (.c (.int 4))) [.ret (.rev (.v 1))] [],
   .ret (.bin .add (.bin .add (.sl (.v 1) none (some (.v 2))) (.tup [.call "_law_bent" [.v 0, .ix (.v 1) (.v 2)]])) (.sl (.v 1) (some (.bin .add (.v 2) (.c (.int 1)))) none))]⟩
def f_law_lots : Fn := ⟨["_law_many", "_law_rows", "_law_one", "_law_row"], 1,
  [.asg (.v 1) (.lst [.tup []]),
   .loop (.v 2) (.seq (.v 0))
    [.asg (.v 1) (.bin .add (.v 1) (.cmp (.bin .add (.v 3) (.tup [.v 2])) (.v 3) (.seq (.v 1)) none))],
   .ret (.bi .sorted [.v 1])]⟩
def f_law_things : Fn := ⟨["_law_m", "_law_most"], 2,
  [.ret (.bi .tuple [.bi .sorted [.call "_law_names" [.v 0, .bin .add (.c (.int 1)) (.call "_law_next" [.v 0, .v 1])]]])]⟩
def f_law_both : Fn := ⟨["_law_one", "_law_other"], 2,
  [.ret (.bi .tuple [.bi .sortedset [.bin .add (.v 0) (.v 1)]])]⟩
end Ev
set_option Elab.async false
set_option linter.all false
set_option maxRecDepth 100000
set_option maxHeartbeats 1000000
/-! Pl3: words, ascending tuples. -/
namespace Ev
open PySem
mutual
/-- data that the law may hand to the program: short texts, short rows, dicts that are empty -/
def D.good : D → Bool
  | .non => true
  | .bl _ => true
  | .int _ => true
  | .str x => decide (x.length ≤ 1000) && PyData.strOk x
  | .tup xs => decide (xs.length ≤ 1000) && D.goods xs
  | .lst xs => decide (xs.length ≤ 1000) && D.goods xs
  | .dct kvs => kvs.isEmpty
  | .ins _ _ => false
  | .mm => false
  | .scr _ => false
def D.goods : List D → Bool
  | [] => true
  | x :: xs => D.good x && D.goods xs
end
theorem goods_iff : ∀ {xs : List D}, D.goods xs = true ↔ ∀ x ∈ xs, x.good = true
  | [] => by simp [D.goods]
  | x :: xs => by simp [D.goods, goods_iff (xs := xs)]
theorem good_tup {xs : List D} : (D.tup xs).good = true ↔ xs.length ≤ 1000 ∧ ∀ x ∈ xs, x.good = true := by
  simp [D.good, goods_iff]
theorem good_lst {xs : List D} : (D.lst xs).good = true ↔ xs.length ≤ 1000 ∧ ∀ x ∈ xs, x.good = true := by
  simp [D.good, goods_iff]
theorem good_str {x : Str} : (D.str x).good = true ↔ x.length ≤ 1000 ∧ PyData.strOk x = true := by
  simp [D.good]
theorem lim_of {n : Nat} (h : n ≤ 1000) : n ≤ LIM := Nat.le_trans h (by decide)
def alphS : Str := "abcdefghijklmnopqrstuvwxyz"
def wordB (x : Str) : Bool := decide (1 ≤ x.length) && decide (x.length ≤ 8) && x.cps.toList.all fun c => decide (c ∈ alphS.cps.toList)
def isWordD : D → Bool
  | .str x => wordB x
  | _ => false
theorem iteM_ret {α : Type} (c : Bool) (a b : α) : iteM c (M.ret a) (M.ret b) = M.ret (if c = true then a else b) := by cases c <;> rfl
section
variable {P : List (Str × Fn)} {pr : FT} {up : List (Str × Str)} {k : Nat}
theorem all_cut (l : List Nat) (f : Nat → Bool) : l.all f = l.all f := rfl
theorem w_is_word (h : Has P "is_word" f_is_word) {d : D} (g : d.good = true) : runF P pr up (k + 1) "is_word" [d] = M.ret (.bl (isWordD d)) := by
  rw [run_def h rfl (by decide)]
  cases d <;> first
    | (simp only [M.ret_bind, M.bad_bind, M.bind_assoc, M.lift_some, M.lift_none, M.calm_ret, M.map_ret, M.exc_bind, SM.sb_exc, retM_xc, SM.sb_ret, SM.sb_bad, SM.sb_bind, SM.seq_nx, SM.seq_rt, SM.seq_ct, SM.seq_xc, SM.seq_bad, SM.seq_sb, SM.seq_seq, boolM_bl, bindM_some, bindS_some, iteM_t, iteM_f, brS_t, brS_f, ev_c, ev_v, ev_bin, ev_un, ev_chain, ev_and, ev_or, ev_ite, ev_tup, ev_lst, ev_call, ev_bi, ev_ix, ev_sl, ev_rev, ev_cmp', evs_nil, evs_star, ec_c, ec_v, ec_bin, ec_un, ec_chain, ec_and, ec_or, ec_ite, ec_tup, ec_lst, ec_call, ec_bi, ec_ix, ec_sl, ec_rev, ec_cmp, evO_none, evO_some, evT_none, evT_some, evI_rng, evI_rng2, evI_zip, evI_enm, evI_seq, ss_nil', ss_pass', ss_cont', ss_asg', ss_expr', ss_ite', ss_loop', ss_ret', ss_rais', ss_tr', slotM_sh, starM_lst, starM_tup, optI_int, loopM_nil, retM_rt, retM_nx, List.getElem?_cons_zero, List.getElem?_cons_succ, List.set_cons_zero, List.set_cons_succ, bindT, bindTs, wipeE, Tg.slots, Tg.slotss, startE, List.nil_append, List.cons_append, List.append_nil, List.map_cons, List.map_nil, List.length_cons, List.length_nil, List.replicate_succ, List.replicate_zero, Option.bind_some, Option.map_some, Nat.reduceAdd, Nat.reduceSub, Int.reduceEq, Int.reduceLT, Int.reduceLE, decide_true, decide_false, Bool.not_true, Bool.not_false, b_add_i, b_sub_i, b_lt_i, b_le_i, b_gt_i, b_ge_i, b_lt_s, b_eq_i, b_ne_i, b_eq_t0, b_eq_l0, b_ne_t0, b_ne_l0, b_in_1, b_nin_1, u_not, u_neg, bi_len_t, bi_len_l, bi_len_c, bi_tup_l, bi_tup_t, bi_lst_l, bi_lst_t, bi_int_i, bi_edict, bi_min_i, bi_all_map, bi_any_map, sq_l, sq_t, zp_t, zp_l, rv_t, rv_l, sl_t, sl_l, fit0, fit1, fit2, fit3, fit4, fit5, fit6, fit7, fit8, fit9, fit10, fit11, fit12, fit13, fit14, fit15, fit16, fit17, fit18, fit19, fit20, fit21, fit22, fit23, fit24, fit25, fit26, fit27, fit28, fit29, fit30, fit31, fit32, isin_str_non, isin_str_bl, isin_str_int, isin_str_str, isin_str_tup, isin_str_lst, isin_str_dct, isin_tuple_non, isin_tuple_bl, isin_tuple_int, isin_tuple_str, isin_tuple_tup, isin_tuple_lst, isin_tuple_dct, isin_int_non, isin_int_bl, isin_int_int, isin_int_str, isin_int_tup, isin_int_lst, isin_int_dct, isin_bool_non, isin_bool_bl, isin_bool_int, isin_bool_str, isin_bool_tup, isin_bool_lst, isin_bool_dct, isin_list_tuple_non, isin_list_tuple_bl, isin_list_tuple_int, isin_list_tuple_str, isin_list_tuple_tup, isin_list_tuple_lst, isin_list_tuple_dct, isin_tuple_list_non, isin_tuple_list_bl, isin_tuple_list_int, isin_tuple_list_str, isin_tuple_list_tup, isin_tuple_list_lst, isin_tuple_list_dct, isin_list_non, isin_list_bl, isin_list_int, isin_list_str, isin_list_tup, isin_list_lst, isin_list_dct, isin_dict_non, isin_dict_bl, isin_dict_int, isin_dict_str, isin_dict_tup, isin_dict_lst, isin_dict_dct, f_is_word, isWordD]; done)
    | (simp [D.good] at g; done)
    | skip
  rename_i x
  have hl := lim_of (good_str.mp g).1
  have hl2 : (x.cps.toList.map fun c => D.str ⟨#[c]⟩).length ≤ LIM := by simpa [Str.length] using hl
  simp only [M.ret_bind, M.bad_bind, M.bind_assoc, M.lift_some, M.lift_none, M.calm_ret, M.map_ret, M.exc_bind, SM.sb_exc, retM_xc, SM.sb_ret, SM.sb_bad, SM.sb_bind, SM.seq_nx, SM.seq_rt, SM.seq_ct, SM.seq_xc, SM.seq_bad, SM.seq_sb, SM.seq_seq, boolM_bl, bindM_some, bindS_some, iteM_t, iteM_f, brS_t, brS_f, ev_c, ev_v, ev_bin, ev_un, ev_chain, ev_and, ev_or, ev_ite, ev_tup, ev_lst, ev_call, ev_bi, ev_ix, ev_sl, ev_rev, ev_cmp', evs_nil, evs_star, ec_c, ec_v, ec_bin, ec_un, ec_chain, ec_and, ec_or, ec_ite, ec_tup, ec_lst, ec_call, ec_bi, ec_ix, ec_sl, ec_rev, ec_cmp, evO_none, evO_some, evT_none, evT_some, evI_rng, evI_rng2, evI_zip, evI_enm, evI_seq, ss_nil', ss_pass', ss_cont', ss_asg', ss_expr', ss_ite', ss_loop', ss_ret', ss_rais', ss_tr', slotM_sh, starM_lst, starM_tup, optI_int, loopM_nil, retM_rt, retM_nx, List.getElem?_cons_zero, List.getElem?_cons_succ, List.set_cons_zero, List.set_cons_succ, bindT, bindTs, wipeE, Tg.slots, Tg.slotss, startE, List.nil_append, List.cons_append, List.append_nil, List.map_cons, List.map_nil, List.length_cons, List.length_nil, List.replicate_succ, List.replicate_zero, Option.bind_some, Option.map_some, Nat.reduceAdd, Nat.reduceSub, Int.reduceEq, Int.reduceLT, Int.reduceLE, decide_true, decide_false, Bool.not_true, Bool.not_false, b_add_i, b_sub_i, b_lt_i, b_le_i, b_gt_i, b_ge_i, b_lt_s, b_eq_i, b_ne_i, b_eq_t0, b_eq_l0, b_ne_t0, b_ne_l0, b_in_1, b_nin_1, u_not, u_neg, bi_len_t, bi_len_l, bi_len_c, bi_tup_l, bi_tup_t, bi_lst_l, bi_lst_t, bi_int_i, bi_edict, bi_min_i, bi_all_map, bi_any_map, sq_l, sq_t, zp_t, zp_l, rv_t, rv_l, sl_t, sl_l, fit0, fit1, fit2, fit3, fit4, fit5, fit6, fit7, fit8, fit9, fit10, fit11, fit12, fit13, fit14, fit15, fit16, fit17, fit18, fit19, fit20, fit21, fit22, fit23, fit24, fit25, fit26, fit27, fit28, fit29, fit30, fit31, fit32, isin_str_non, isin_str_bl, isin_str_int, isin_str_str, isin_str_tup, isin_str_lst, isin_str_dct, isin_tuple_non, isin_tuple_bl, isin_tuple_int, isin_tuple_str, isin_tuple_tup, isin_tuple_lst, isin_tuple_dct, isin_int_non, isin_int_bl, isin_int_int, isin_int_str, isin_int_tup, isin_int_lst, isin_int_dct, isin_bool_non, isin_bool_bl, isin_bool_int, isin_bool_str, isin_bool_tup, isin_bool_lst, isin_bool_dct, isin_list_tuple_non, isin_list_tuple_bl, isin_list_tuple_int, isin_list_tuple_str, isin_list_tuple_tup, isin_list_tuple_lst, isin_list_tuple_dct, isin_tuple_list_non, isin_tuple_list_bl, isin_tuple_list_int, isin_tuple_list_str, isin_tuple_list_tup, isin_tuple_list_lst, isin_tuple_list_dct, isin_list_non, isin_list_bl, isin_list_int, isin_list_str, isin_list_tup, isin_list_lst, isin_list_dct, isin_dict_non, isin_dict_bl, isin_dict_int, isin_dict_str, isin_dict_tup, isin_dict_lst, isin_dict_dct, f_is_word, isWordD, bi_len_s hl, sq_s hl]
  have e : cmpM (x.cps.toList.map fun c => D.str ⟨#[c]⟩) (fun y => M.map some (M.lift (binD BOp.in_ y (D.str (Str.ofString "abcdefghijklmnopqrstuvwxyz"))))) = M.ret (.lst (x.cps.toList.map fun c => .bl (decide (c ∈ alphS.cps.toList)))) := by
    rw [cmpM_ret (fun y => binD .in_ y (.str (Str.ofString "abcdefghijklmnopqrstuvwxyz"))) ?_ hl2]
    · rw [List.filterMap_map]
      congr 2
      rw [← filterMap_some']
      congr 1
      funext c
      exact b_in_1 c
    · intro y hy
      obtain ⟨c, _, rfl⟩ := List.mem_map.mp hy
      rw [b_in_1]
      rfl
  simp only [e]
  unfold wordB
  by_cases h1 : (1 : Int) ≤ x.length
  · by_cases h2 : (x.length : Int) ≤ 8
    · have h1' : 1 ≤ x.length := by omega
      have h2' : x.length ≤ 8 := by omega
      simp only [h1, h2, h1', h2', decide_true, M.ret_bind, M.bad_bind, M.bind_assoc, M.lift_some, M.lift_none, M.calm_ret, M.map_ret, M.exc_bind, SM.sb_exc, retM_xc, SM.sb_ret, SM.sb_bad, SM.sb_bind, SM.seq_nx, SM.seq_rt, SM.seq_ct, SM.seq_xc, SM.seq_bad, SM.seq_sb, SM.seq_seq, boolM_bl, bindM_some, bindS_some, iteM_t, iteM_f, brS_t, brS_f, ev_c, ev_v, ev_bin, ev_un, ev_chain, ev_and, ev_or, ev_ite, ev_tup, ev_lst, ev_call, ev_bi, ev_ix, ev_sl, ev_rev, ev_cmp', evs_nil, evs_star, ec_c, ec_v, ec_bin, ec_un, ec_chain, ec_and, ec_or, ec_ite, ec_tup, ec_lst, ec_call, ec_bi, ec_ix, ec_sl, ec_rev, ec_cmp, evO_none, evO_some, evT_none, evT_some, evI_rng, evI_rng2, evI_zip, evI_enm, evI_seq, ss_nil', ss_pass', ss_cont', ss_asg', ss_expr', ss_ite', ss_loop', ss_ret', ss_rais', ss_tr', slotM_sh, starM_lst, starM_tup, optI_int, loopM_nil, retM_rt, retM_nx, List.getElem?_cons_zero, List.getElem?_cons_succ, List.set_cons_zero, List.set_cons_succ, bindT, bindTs, wipeE, Tg.slots, Tg.slotss, startE, List.nil_append, List.cons_append, List.append_nil, List.map_cons, List.map_nil, List.length_cons, List.length_nil, List.replicate_succ, List.replicate_zero, Option.bind_some, Option.map_some, Nat.reduceAdd, Nat.reduceSub, Int.reduceEq, Int.reduceLT, Int.reduceLE, decide_true, decide_false, Bool.not_true, Bool.not_false, b_add_i, b_sub_i, b_lt_i, b_le_i, b_gt_i, b_ge_i, b_lt_s, b_eq_i, b_ne_i, b_eq_t0, b_eq_l0, b_ne_t0, b_ne_l0, b_in_1, b_nin_1, u_not, u_neg, bi_len_t, bi_len_l, bi_len_c, bi_tup_l, bi_tup_t, bi_lst_l, bi_lst_t, bi_int_i, bi_edict, bi_min_i, bi_all_map, bi_any_map, sq_l, sq_t, zp_t, zp_l, rv_t, rv_l, sl_t, sl_l, fit0, fit1, fit2, fit3, fit4, fit5, fit6, fit7, fit8, fit9, fit10, fit11, fit12, fit13, fit14, fit15, fit16, fit17, fit18, fit19, fit20, fit21, fit22, fit23, fit24, fit25, fit26, fit27, fit28, fit29, fit30, fit31, fit32, isin_str_non, isin_str_bl, isin_str_int, isin_str_str, isin_str_tup, isin_str_lst, isin_str_dct, isin_tuple_non, isin_tuple_bl, isin_tuple_int, isin_tuple_str, isin_tuple_tup, isin_tuple_lst, isin_tuple_dct, isin_int_non, isin_int_bl, isin_int_int, isin_int_str, isin_int_tup, isin_int_lst, isin_int_dct, isin_bool_non, isin_bool_bl, isin_bool_int, isin_bool_str, isin_bool_tup, isin_bool_lst, isin_bool_dct, isin_list_tuple_non, isin_list_tuple_bl, isin_list_tuple_int, isin_list_tuple_str, isin_list_tuple_tup, isin_list_tuple_lst, isin_list_tuple_dct, isin_tuple_list_non, isin_tuple_list_bl, isin_tuple_list_int, isin_tuple_list_str, isin_tuple_list_tup, isin_tuple_list_lst, isin_tuple_list_dct, isin_list_non, isin_list_bl, isin_list_int, isin_list_str, isin_list_tup, isin_list_lst, isin_list_dct, isin_dict_non, isin_dict_bl, isin_dict_int, isin_dict_str, isin_dict_tup, isin_dict_lst, isin_dict_dct, Bool.true_and]
    · have h1' : 1 ≤ x.length := by omega
      have h2' : ¬ x.length ≤ 8 := by omega
      simp only [h1, h2, h1', h2', decide_true, decide_false, M.ret_bind, M.bad_bind, M.bind_assoc, M.lift_some, M.lift_none, M.calm_ret, M.map_ret, M.exc_bind, SM.sb_exc, retM_xc, SM.sb_ret, SM.sb_bad, SM.sb_bind, SM.seq_nx, SM.seq_rt, SM.seq_ct, SM.seq_xc, SM.seq_bad, SM.seq_sb, SM.seq_seq, boolM_bl, bindM_some, bindS_some, iteM_t, iteM_f, brS_t, brS_f, ev_c, ev_v, ev_bin, ev_un, ev_chain, ev_and, ev_or, ev_ite, ev_tup, ev_lst, ev_call, ev_bi, ev_ix, ev_sl, ev_rev, ev_cmp', evs_nil, evs_star, ec_c, ec_v, ec_bin, ec_un, ec_chain, ec_and, ec_or, ec_ite, ec_tup, ec_lst, ec_call, ec_bi, ec_ix, ec_sl, ec_rev, ec_cmp, evO_none, evO_some, evT_none, evT_some, evI_rng, evI_rng2, evI_zip, evI_enm, evI_seq, ss_nil', ss_pass', ss_cont', ss_asg', ss_expr', ss_ite', ss_loop', ss_ret', ss_rais', ss_tr', slotM_sh, starM_lst, starM_tup, optI_int, loopM_nil, retM_rt, retM_nx, List.getElem?_cons_zero, List.getElem?_cons_succ, List.set_cons_zero, List.set_cons_succ, bindT, bindTs, wipeE, Tg.slots, Tg.slotss, startE, List.nil_append, List.cons_append, List.append_nil, List.map_cons, List.map_nil, List.length_cons, List.length_nil, List.replicate_succ, List.replicate_zero, Option.bind_some, Option.map_some, Nat.reduceAdd, Nat.reduceSub, Int.reduceEq, Int.reduceLT, Int.reduceLE, decide_true, decide_false, Bool.not_true, Bool.not_false, b_add_i, b_sub_i, b_lt_i, b_le_i, b_gt_i, b_ge_i, b_lt_s, b_eq_i, b_ne_i, b_eq_t0, b_eq_l0, b_ne_t0, b_ne_l0, b_in_1, b_nin_1, u_not, u_neg, bi_len_t, bi_len_l, bi_len_c, bi_tup_l, bi_tup_t, bi_lst_l, bi_lst_t, bi_int_i, bi_edict, bi_min_i, bi_all_map, bi_any_map, sq_l, sq_t, zp_t, zp_l, rv_t, rv_l, sl_t, sl_l, fit0, fit1, fit2, fit3, fit4, fit5, fit6, fit7, fit8, fit9, fit10, fit11, fit12, fit13, fit14, fit15, fit16, fit17, fit18, fit19, fit20, fit21, fit22, fit23, fit24, fit25, fit26, fit27, fit28, fit29, fit30, fit31, fit32, isin_str_non, isin_str_bl, isin_str_int, isin_str_str, isin_str_tup, isin_str_lst, isin_str_dct, isin_tuple_non, isin_tuple_bl, isin_tuple_int, isin_tuple_str, isin_tuple_tup, isin_tuple_lst, isin_tuple_dct, isin_int_non, isin_int_bl, isin_int_int, isin_int_str, isin_int_tup, isin_int_lst, isin_int_dct, isin_bool_non, isin_bool_bl, isin_bool_int, isin_bool_str, isin_bool_tup, isin_bool_lst, isin_bool_dct, isin_list_tuple_non, isin_list_tuple_bl, isin_list_tuple_int, isin_list_tuple_str, isin_list_tuple_tup, isin_list_tuple_lst, isin_list_tuple_dct, isin_tuple_list_non, isin_tuple_list_bl, isin_tuple_list_int, isin_tuple_list_str, isin_tuple_list_tup, isin_tuple_list_lst, isin_tuple_list_dct, isin_list_non, isin_list_bl, isin_list_int, isin_list_str, isin_list_tup, isin_list_lst, isin_list_dct, isin_dict_non, isin_dict_bl, isin_dict_int, isin_dict_str, isin_dict_tup, isin_dict_lst, isin_dict_dct, Bool.true_and, Bool.false_and, Bool.and_false]
  · have h1' : ¬ 1 ≤ x.length := by omega
    simp only [h1, h1', decide_false, M.ret_bind, M.bad_bind, M.bind_assoc, M.lift_some, M.lift_none, M.calm_ret, M.map_ret, M.exc_bind, SM.sb_exc, retM_xc, SM.sb_ret, SM.sb_bad, SM.sb_bind, SM.seq_nx, SM.seq_rt, SM.seq_ct, SM.seq_xc, SM.seq_bad, SM.seq_sb, SM.seq_seq, boolM_bl, bindM_some, bindS_some, iteM_t, iteM_f, brS_t, brS_f, ev_c, ev_v, ev_bin, ev_un, ev_chain, ev_and, ev_or, ev_ite, ev_tup, ev_lst, ev_call, ev_bi, ev_ix, ev_sl, ev_rev, ev_cmp', evs_nil, evs_star, ec_c, ec_v, ec_bin, ec_un, ec_chain, ec_and, ec_or, ec_ite, ec_tup, ec_lst, ec_call, ec_bi, ec_ix, ec_sl, ec_rev, ec_cmp, evO_none, evO_some, evT_none, evT_some, evI_rng, evI_rng2, evI_zip, evI_enm, evI_seq, ss_nil', ss_pass', ss_cont', ss_asg', ss_expr', ss_ite', ss_loop', ss_ret', ss_rais', ss_tr', slotM_sh, starM_lst, starM_tup, optI_int, loopM_nil, retM_rt, retM_nx, List.getElem?_cons_zero, List.getElem?_cons_succ, List.set_cons_zero, List.set_cons_succ, bindT, bindTs, wipeE, Tg.slots, Tg.slotss, startE, List.nil_append, List.cons_append, List.append_nil, List.map_cons, List.map_nil, List.length_cons, List.length_nil, List.replicate_succ, List.replicate_zero, Option.bind_some, Option.map_some, Nat.reduceAdd, Nat.reduceSub, Int.reduceEq, Int.reduceLT, Int.reduceLE, decide_true, decide_false, Bool.not_true, Bool.not_false, b_add_i, b_sub_i, b_lt_i, b_le_i, b_gt_i, b_ge_i, b_lt_s, b_eq_i, b_ne_i, b_eq_t0, b_eq_l0, b_ne_t0, b_ne_l0, b_in_1, b_nin_1, u_not, u_neg, bi_len_t, bi_len_l, bi_len_c, bi_tup_l, bi_tup_t, bi_lst_l, bi_lst_t, bi_int_i, bi_edict, bi_min_i, bi_all_map, bi_any_map, sq_l, sq_t, zp_t, zp_l, rv_t, rv_l, sl_t, sl_l, fit0, fit1, fit2, fit3, fit4, fit5, fit6, fit7, fit8, fit9, fit10, fit11, fit12, fit13, fit14, fit15, fit16, fit17, fit18, fit19, fit20, fit21, fit22, fit23, fit24, fit25, fit26, fit27, fit28, fit29, fit30, fit31, fit32, isin_str_non, isin_str_bl, isin_str_int, isin_str_str, isin_str_tup, isin_str_lst, isin_str_dct, isin_tuple_non, isin_tuple_bl, isin_tuple_int, isin_tuple_str, isin_tuple_tup, isin_tuple_lst, isin_tuple_dct, isin_int_non, isin_int_bl, isin_int_int, isin_int_str, isin_int_tup, isin_int_lst, isin_int_dct, isin_bool_non, isin_bool_bl, isin_bool_int, isin_bool_str, isin_bool_tup, isin_bool_lst, isin_bool_dct, isin_list_tuple_non, isin_list_tuple_bl, isin_list_tuple_int, isin_list_tuple_str, isin_list_tuple_tup, isin_list_tuple_lst, isin_list_tuple_dct, isin_tuple_list_non, isin_tuple_list_bl, isin_tuple_list_int, isin_tuple_list_str, isin_tuple_list_tup, isin_tuple_list_lst, isin_tuple_list_dct, isin_list_non, isin_list_bl, isin_list_int, isin_list_str, isin_list_tup, isin_list_lst, isin_list_dct, isin_dict_non, isin_dict_bl, isin_dict_int, isin_dict_str, isin_dict_tup, isin_dict_lst, isin_dict_dct, Bool.false_and]
/-! ### ascending -/
def ltT (x y : Str) : Bool := ltS x.cps.toList y.cps.toList
def ascS (ss : List Str) : Bool := (ss.zip (ss.drop 1)).all fun p => ltT p.1 p.2
def ascD : D → Bool
  | .tup xs => match asStrs xs with
    | some ss => ss.all wordB && ascS ss
    | none => false
  | _ => false
theorem asStrs_map : ∀ ss : List Str, asStrs (ss.map D.str) = some ss
  | [] => rfl
  | x :: r => by simp only [List.map_cons, asStrs, asStrs_map r, Option.map_some]
theorem asStrs_eq : ∀ {xs : List D} {ss : List Str}, asStrs xs = some ss → xs = ss.map D.str
  | [], ss, h => by simp only [asStrs, Option.some.injEq] at h; subst h; rfl
  | d :: r, ss, h => by
    cases d <;> simp only [asStrs, reduceCtorEq] at h
    cases q : asStrs r with
    | none => rw [q] at h; cases h
    | some rs =>
      rw [q] at h
      cases h
      rw [asStrs_eq q]
      rfl
theorem words_strs : ∀ {xs : List D}, xs.all isWordD = true → ∃ ss : List Str, xs = ss.map D.str ∧ ss.all wordB = true
  | [], _ => ⟨[], rfl, rfl⟩
  | d :: r, h => by
    simp only [List.all_cons, Bool.and_eq_true] at h
    obtain ⟨ss, e, hw⟩ := words_strs h.2
    cases d <;> simp only [isWordD, Bool.false_eq_true, false_and] at h
    rename_i x
    exact ⟨x :: ss, by rw [e]; rfl, by simp [h.1, hw]⟩
theorem strs_words : ∀ {ss : List Str}, (ss.map D.str).all isWordD = ss.all wordB
  | [] => rfl
  | x :: r => by simp only [List.map_cons, List.all_cons, strs_words (ss := r), isWordD]
theorem asc_words {xs : List D} (h : xs.all isWordD = false) : ascD (.tup xs) = false := by
  simp only [ascD]
  cases q : asStrs xs with
  | none => rfl
  | some ss =>
    rw [asStrs_eq q, strs_words] at h
    simp [h]
theorem asc_strs (ss : List Str) : ascD (.tup (ss.map D.str)) = (ss.all wordB && ascS ss) := by
  simp only [ascD, asStrs_map]
theorem w_are_ascending (h1 : Has P "is_word" f_is_word) (h : Has P "are_ascending" f_are_ascending) {d : D} (g : d.good = true) : runF P pr up (k + 2) "are_ascending" [d] = M.ret (.bl (ascD d)) := by
  rw [run_def h rfl (by decide)]
  cases d <;> first
    | (simp only [M.ret_bind, M.bad_bind, M.bind_assoc, M.lift_some, M.lift_none, M.calm_ret, M.map_ret, M.exc_bind, SM.sb_exc, retM_xc, SM.sb_ret, SM.sb_bad, SM.sb_bind, SM.seq_nx, SM.seq_rt, SM.seq_ct, SM.seq_xc, SM.seq_bad, SM.seq_sb, SM.seq_seq, boolM_bl, bindM_some, bindS_some, iteM_t, iteM_f, brS_t, brS_f, ev_c, ev_v, ev_bin, ev_un, ev_chain, ev_and, ev_or, ev_ite, ev_tup, ev_lst, ev_call, ev_bi, ev_ix, ev_sl, ev_rev, ev_cmp', evs_nil, evs_star, ec_c, ec_v, ec_bin, ec_un, ec_chain, ec_and, ec_or, ec_ite, ec_tup, ec_lst, ec_call, ec_bi, ec_ix, ec_sl, ec_rev, ec_cmp, evO_none, evO_some, evT_none, evT_some, evI_rng, evI_rng2, evI_zip, evI_enm, evI_seq, ss_nil', ss_pass', ss_cont', ss_asg', ss_expr', ss_ite', ss_loop', ss_ret', ss_rais', ss_tr', slotM_sh, starM_lst, starM_tup, optI_int, loopM_nil, retM_rt, retM_nx, List.getElem?_cons_zero, List.getElem?_cons_succ, List.set_cons_zero, List.set_cons_succ, bindT, bindTs, wipeE, Tg.slots, Tg.slotss, startE, List.nil_append, List.cons_append, List.append_nil, List.map_cons, List.map_nil, List.length_cons, List.length_nil, List.replicate_succ, List.replicate_zero, Option.bind_some, Option.map_some, Nat.reduceAdd, Nat.reduceSub, Int.reduceEq, Int.reduceLT, Int.reduceLE, decide_true, decide_false, Bool.not_true, Bool.not_false, b_add_i, b_sub_i, b_lt_i, b_le_i, b_gt_i, b_ge_i, b_lt_s, b_eq_i, b_ne_i, b_eq_t0, b_eq_l0, b_ne_t0, b_ne_l0, b_in_1, b_nin_1, u_not, u_neg, bi_len_t, bi_len_l, bi_len_c, bi_tup_l, bi_tup_t, bi_lst_l, bi_lst_t, bi_int_i, bi_edict, bi_min_i, bi_all_map, bi_any_map, sq_l, sq_t, zp_t, zp_l, rv_t, rv_l, sl_t, sl_l, fit0, fit1, fit2, fit3, fit4, fit5, fit6, fit7, fit8, fit9, fit10, fit11, fit12, fit13, fit14, fit15, fit16, fit17, fit18, fit19, fit20, fit21, fit22, fit23, fit24, fit25, fit26, fit27, fit28, fit29, fit30, fit31, fit32, isin_str_non, isin_str_bl, isin_str_int, isin_str_str, isin_str_tup, isin_str_lst, isin_str_dct, isin_tuple_non, isin_tuple_bl, isin_tuple_int, isin_tuple_str, isin_tuple_tup, isin_tuple_lst, isin_tuple_dct, isin_int_non, isin_int_bl, isin_int_int, isin_int_str, isin_int_tup, isin_int_lst, isin_int_dct, isin_bool_non, isin_bool_bl, isin_bool_int, isin_bool_str, isin_bool_tup, isin_bool_lst, isin_bool_dct, isin_list_tuple_non, isin_list_tuple_bl, isin_list_tuple_int, isin_list_tuple_str, isin_list_tuple_tup, isin_list_tuple_lst, isin_list_tuple_dct, isin_tuple_list_non, isin_tuple_list_bl, isin_tuple_list_int, isin_tuple_list_str, isin_tuple_list_tup, isin_tuple_list_lst, isin_tuple_list_dct, isin_list_non, isin_list_bl, isin_list_int, isin_list_str, isin_list_tup, isin_list_lst, isin_list_dct, isin_dict_non, isin_dict_bl, isin_dict_int, isin_dict_str, isin_dict_tup, isin_dict_lst, isin_dict_dct, f_are_ascending, ascD, Bool.not_false, Bool.not_true]; done)
    | (simp [D.good] at g; done)
    | skip
  rename_i xs
  have gx := good_tup.mp g
  simp only [M.ret_bind, M.bad_bind, M.bind_assoc, M.lift_some, M.lift_none, M.calm_ret, M.map_ret, M.exc_bind, SM.sb_exc, retM_xc, SM.sb_ret, SM.sb_bad, SM.sb_bind, SM.seq_nx, SM.seq_rt, SM.seq_ct, SM.seq_xc, SM.seq_bad, SM.seq_sb, SM.seq_seq, boolM_bl, bindM_some, bindS_some, iteM_t, iteM_f, brS_t, brS_f, ev_c, ev_v, ev_bin, ev_un, ev_chain, ev_and, ev_or, ev_ite, ev_tup, ev_lst, ev_call, ev_bi, ev_ix, ev_sl, ev_rev, ev_cmp', evs_nil, evs_star, ec_c, ec_v, ec_bin, ec_un, ec_chain, ec_and, ec_or, ec_ite, ec_tup, ec_lst, ec_call, ec_bi, ec_ix, ec_sl, ec_rev, ec_cmp, evO_none, evO_some, evT_none, evT_some, evI_rng, evI_rng2, evI_zip, evI_enm, evI_seq, ss_nil', ss_pass', ss_cont', ss_asg', ss_expr', ss_ite', ss_loop', ss_ret', ss_rais', ss_tr', slotM_sh, starM_lst, starM_tup, optI_int, loopM_nil, retM_rt, retM_nx, List.getElem?_cons_zero, List.getElem?_cons_succ, List.set_cons_zero, List.set_cons_succ, bindT, bindTs, wipeE, Tg.slots, Tg.slotss, startE, List.nil_append, List.cons_append, List.append_nil, List.map_cons, List.map_nil, List.length_cons, List.length_nil, List.replicate_succ, List.replicate_zero, Option.bind_some, Option.map_some, Nat.reduceAdd, Nat.reduceSub, Int.reduceEq, Int.reduceLT, Int.reduceLE, decide_true, decide_false, Bool.not_true, Bool.not_false, b_add_i, b_sub_i, b_lt_i, b_le_i, b_gt_i, b_ge_i, b_lt_s, b_eq_i, b_ne_i, b_eq_t0, b_eq_l0, b_ne_t0, b_ne_l0, b_in_1, b_nin_1, u_not, u_neg, bi_len_t, bi_len_l, bi_len_c, bi_tup_l, bi_tup_t, bi_lst_l, bi_lst_t, bi_int_i, bi_edict, bi_min_i, bi_all_map, bi_any_map, sq_l, sq_t, zp_t, zp_l, rv_t, rv_l, sl_t, sl_l, fit0, fit1, fit2, fit3, fit4, fit5, fit6, fit7, fit8, fit9, fit10, fit11, fit12, fit13, fit14, fit15, fit16, fit17, fit18, fit19, fit20, fit21, fit22, fit23, fit24, fit25, fit26, fit27, fit28, fit29, fit30, fit31, fit32, isin_str_non, isin_str_bl, isin_str_int, isin_str_str, isin_str_tup, isin_str_lst, isin_str_dct, isin_tuple_non, isin_tuple_bl, isin_tuple_int, isin_tuple_str, isin_tuple_tup, isin_tuple_lst, isin_tuple_dct, isin_int_non, isin_int_bl, isin_int_int, isin_int_str, isin_int_tup, isin_int_lst, isin_int_dct, isin_bool_non, isin_bool_bl, isin_bool_int, isin_bool_str, isin_bool_tup, isin_bool_lst, isin_bool_dct, isin_list_tuple_non, isin_list_tuple_bl, isin_list_tuple_int, isin_list_tuple_str, isin_list_tuple_tup, isin_list_tuple_lst, isin_list_tuple_dct, isin_tuple_list_non, isin_tuple_list_bl, isin_tuple_list_int, isin_tuple_list_str, isin_tuple_list_tup, isin_tuple_list_lst, isin_tuple_list_dct, isin_list_non, isin_list_bl, isin_list_int, isin_list_str, isin_list_tup, isin_list_lst, isin_list_dct, isin_dict_non, isin_dict_bl, isin_dict_int, isin_dict_str, isin_dict_tup, isin_dict_lst, isin_dict_dct, f_are_ascending, Bool.not_false, Bool.not_true]
  rw [cmpM_map0 xs (fun x => .bl (isWordD x)) (fun x hx => by rw [w_is_word h1 (gx.2 x hx)]; rfl) (lim_of gx.1)]
  simp only [M.ret_bind, M.bad_bind, M.bind_assoc, M.lift_some, M.lift_none, M.calm_ret, M.map_ret, M.exc_bind, SM.sb_exc, retM_xc, SM.sb_ret, SM.sb_bad, SM.sb_bind, SM.seq_nx, SM.seq_rt, SM.seq_ct, SM.seq_xc, SM.seq_bad, SM.seq_sb, SM.seq_seq, boolM_bl, bindM_some, bindS_some, iteM_t, iteM_f, brS_t, brS_f, ev_c, ev_v, ev_bin, ev_un, ev_chain, ev_and, ev_or, ev_ite, ev_tup, ev_lst, ev_call, ev_bi, ev_ix, ev_sl, ev_rev, ev_cmp', evs_nil, evs_star, ec_c, ec_v, ec_bin, ec_un, ec_chain, ec_and, ec_or, ec_ite, ec_tup, ec_lst, ec_call, ec_bi, ec_ix, ec_sl, ec_rev, ec_cmp, evO_none, evO_some, evT_none, evT_some, evI_rng, evI_rng2, evI_zip, evI_enm, evI_seq, ss_nil', ss_pass', ss_cont', ss_asg', ss_expr', ss_ite', ss_loop', ss_ret', ss_rais', ss_tr', slotM_sh, starM_lst, starM_tup, optI_int, loopM_nil, retM_rt, retM_nx, List.getElem?_cons_zero, List.getElem?_cons_succ, List.set_cons_zero, List.set_cons_succ, bindT, bindTs, wipeE, Tg.slots, Tg.slotss, startE, List.nil_append, List.cons_append, List.append_nil, List.map_cons, List.map_nil, List.length_cons, List.length_nil, List.replicate_succ, List.replicate_zero, Option.bind_some, Option.map_some, Nat.reduceAdd, Nat.reduceSub, Int.reduceEq, Int.reduceLT, Int.reduceLE, decide_true, decide_false, Bool.not_true, Bool.not_false, b_add_i, b_sub_i, b_lt_i, b_le_i, b_gt_i, b_ge_i, b_lt_s, b_eq_i, b_ne_i, b_eq_t0, b_eq_l0, b_ne_t0, b_ne_l0, b_in_1, b_nin_1, u_not, u_neg, bi_len_t, bi_len_l, bi_len_c, bi_tup_l, bi_tup_t, bi_lst_l, bi_lst_t, bi_int_i, bi_edict, bi_min_i, bi_all_map, bi_any_map, sq_l, sq_t, zp_t, zp_l, rv_t, rv_l, sl_t, sl_l, fit0, fit1, fit2, fit3, fit4, fit5, fit6, fit7, fit8, fit9, fit10, fit11, fit12, fit13, fit14, fit15, fit16, fit17, fit18, fit19, fit20, fit21, fit22, fit23, fit24, fit25, fit26, fit27, fit28, fit29, fit30, fit31, fit32, isin_str_non, isin_str_bl, isin_str_int, isin_str_str, isin_str_tup, isin_str_lst, isin_str_dct, isin_tuple_non, isin_tuple_bl, isin_tuple_int, isin_tuple_str, isin_tuple_tup, isin_tuple_lst, isin_tuple_dct, isin_int_non, isin_int_bl, isin_int_int, isin_int_str, isin_int_tup, isin_int_lst, isin_int_dct, isin_bool_non, isin_bool_bl, isin_bool_int, isin_bool_str, isin_bool_tup, isin_bool_lst, isin_bool_dct, isin_list_tuple_non, isin_list_tuple_bl, isin_list_tuple_int, isin_list_tuple_str, isin_list_tuple_tup, isin_list_tuple_lst, isin_list_tuple_dct, isin_tuple_list_non, isin_tuple_list_bl, isin_tuple_list_int, isin_tuple_list_str, isin_tuple_list_tup, isin_tuple_list_lst, isin_tuple_list_dct, isin_list_non, isin_list_bl, isin_list_int, isin_list_str, isin_list_tup, isin_list_lst, isin_list_dct, isin_dict_non, isin_dict_bl, isin_dict_int, isin_dict_str, isin_dict_tup, isin_dict_lst, isin_dict_dct]
  cases hw : xs.all isWordD with
  | false =>
    simp only [M.ret_bind, M.bad_bind, M.bind_assoc, M.lift_some, M.lift_none, M.calm_ret, M.map_ret, M.exc_bind, SM.sb_exc, retM_xc, SM.sb_ret, SM.sb_bad, SM.sb_bind, SM.seq_nx, SM.seq_rt, SM.seq_ct, SM.seq_xc, SM.seq_bad, SM.seq_sb, SM.seq_seq, boolM_bl, bindM_some, bindS_some, iteM_t, iteM_f, brS_t, brS_f, ev_c, ev_v, ev_bin, ev_un, ev_chain, ev_and, ev_or, ev_ite, ev_tup, ev_lst, ev_call, ev_bi, ev_ix, ev_sl, ev_rev, ev_cmp', evs_nil, evs_star, ec_c, ec_v, ec_bin, ec_un, ec_chain, ec_and, ec_or, ec_ite, ec_tup, ec_lst, ec_call, ec_bi, ec_ix, ec_sl, ec_rev, ec_cmp, evO_none, evO_some, evT_none, evT_some, evI_rng, evI_rng2, evI_zip, evI_enm, evI_seq, ss_nil', ss_pass', ss_cont', ss_asg', ss_expr', ss_ite', ss_loop', ss_ret', ss_rais', ss_tr', slotM_sh, starM_lst, starM_tup, optI_int, loopM_nil, retM_rt, retM_nx, List.getElem?_cons_zero, List.getElem?_cons_succ, List.set_cons_zero, List.set_cons_succ, bindT, bindTs, wipeE, Tg.slots, Tg.slotss, startE, List.nil_append, List.cons_append, List.append_nil, List.map_cons, List.map_nil, List.length_cons, List.length_nil, List.replicate_succ, List.replicate_zero, Option.bind_some, Option.map_some, Nat.reduceAdd, Nat.reduceSub, Int.reduceEq, Int.reduceLT, Int.reduceLE, decide_true, decide_false, Bool.not_true, Bool.not_false, b_add_i, b_sub_i, b_lt_i, b_le_i, b_gt_i, b_ge_i, b_lt_s, b_eq_i, b_ne_i, b_eq_t0, b_eq_l0, b_ne_t0, b_ne_l0, b_in_1, b_nin_1, u_not, u_neg, bi_len_t, bi_len_l, bi_len_c, bi_tup_l, bi_tup_t, bi_lst_l, bi_lst_t, bi_int_i, bi_edict, bi_min_i, bi_all_map, bi_any_map, sq_l, sq_t, zp_t, zp_l, rv_t, rv_l, sl_t, sl_l, fit0, fit1, fit2, fit3, fit4, fit5, fit6, fit7, fit8, fit9, fit10, fit11, fit12, fit13, fit14, fit15, fit16, fit17, fit18, fit19, fit20, fit21, fit22, fit23, fit24, fit25, fit26, fit27, fit28, fit29, fit30, fit31, fit32, isin_str_non, isin_str_bl, isin_str_int, isin_str_str, isin_str_tup, isin_str_lst, isin_str_dct, isin_tuple_non, isin_tuple_bl, isin_tuple_int, isin_tuple_str, isin_tuple_tup, isin_tuple_lst, isin_tuple_dct, isin_int_non, isin_int_bl, isin_int_int, isin_int_str, isin_int_tup, isin_int_lst, isin_int_dct, isin_bool_non, isin_bool_bl, isin_bool_int, isin_bool_str, isin_bool_tup, isin_bool_lst, isin_bool_dct, isin_list_tuple_non, isin_list_tuple_bl, isin_list_tuple_int, isin_list_tuple_str, isin_list_tuple_tup, isin_list_tuple_lst, isin_list_tuple_dct, isin_tuple_list_non, isin_tuple_list_bl, isin_tuple_list_int, isin_tuple_list_str, isin_tuple_list_tup, isin_tuple_list_lst, isin_tuple_list_dct, isin_list_non, isin_list_bl, isin_list_int, isin_list_str, isin_list_tup, isin_list_lst, isin_list_dct, isin_dict_non, isin_dict_bl, isin_dict_int, isin_dict_str, isin_dict_tup, isin_dict_lst, isin_dict_dct, Bool.not_false]
    rw [asc_words hw]
  | true =>
    obtain ⟨ss, rfl, hss⟩ := words_strs hw
    simp only [M.ret_bind, M.bad_bind, M.bind_assoc, M.lift_some, M.lift_none, M.calm_ret, M.map_ret, M.exc_bind, SM.sb_exc, retM_xc, SM.sb_ret, SM.sb_bad, SM.sb_bind, SM.seq_nx, SM.seq_rt, SM.seq_ct, SM.seq_xc, SM.seq_bad, SM.seq_sb, SM.seq_seq, boolM_bl, bindM_some, bindS_some, iteM_t, iteM_f, brS_t, brS_f, ev_c, ev_v, ev_bin, ev_un, ev_chain, ev_and, ev_or, ev_ite, ev_tup, ev_lst, ev_call, ev_bi, ev_ix, ev_sl, ev_rev, ev_cmp', evs_nil, evs_star, ec_c, ec_v, ec_bin, ec_un, ec_chain, ec_and, ec_or, ec_ite, ec_tup, ec_lst, ec_call, ec_bi, ec_ix, ec_sl, ec_rev, ec_cmp, evO_none, evO_some, evT_none, evT_some, evI_rng, evI_rng2, evI_zip, evI_enm, evI_seq, ss_nil', ss_pass', ss_cont', ss_asg', ss_expr', ss_ite', ss_loop', ss_ret', ss_rais', ss_tr', slotM_sh, starM_lst, starM_tup, optI_int, loopM_nil, retM_rt, retM_nx, List.getElem?_cons_zero, List.getElem?_cons_succ, List.set_cons_zero, List.set_cons_succ, bindT, bindTs, wipeE, Tg.slots, Tg.slotss, startE, List.nil_append, List.cons_append, List.append_nil, List.map_cons, List.map_nil, List.length_cons, List.length_nil, List.replicate_succ, List.replicate_zero, Option.bind_some, Option.map_some, Nat.reduceAdd, Nat.reduceSub, Int.reduceEq, Int.reduceLT, Int.reduceLE, decide_true, decide_false, Bool.not_true, Bool.not_false, b_add_i, b_sub_i, b_lt_i, b_le_i, b_gt_i, b_ge_i, b_lt_s, b_eq_i, b_ne_i, b_eq_t0, b_eq_l0, b_ne_t0, b_ne_l0, b_in_1, b_nin_1, u_not, u_neg, bi_len_t, bi_len_l, bi_len_c, bi_tup_l, bi_tup_t, bi_lst_l, bi_lst_t, bi_int_i, bi_edict, bi_min_i, bi_all_map, bi_any_map, sq_l, sq_t, zp_t, zp_l, rv_t, rv_l, sl_t, sl_l, fit0, fit1, fit2, fit3, fit4, fit5, fit6, fit7, fit8, fit9, fit10, fit11, fit12, fit13, fit14, fit15, fit16, fit17, fit18, fit19, fit20, fit21, fit22, fit23, fit24, fit25, fit26, fit27, fit28, fit29, fit30, fit31, fit32, isin_str_non, isin_str_bl, isin_str_int, isin_str_str, isin_str_tup, isin_str_lst, isin_str_dct, isin_tuple_non, isin_tuple_bl, isin_tuple_int, isin_tuple_str, isin_tuple_tup, isin_tuple_lst, isin_tuple_dct, isin_int_non, isin_int_bl, isin_int_int, isin_int_str, isin_int_tup, isin_int_lst, isin_int_dct, isin_bool_non, isin_bool_bl, isin_bool_int, isin_bool_str, isin_bool_tup, isin_bool_lst, isin_bool_dct, isin_list_tuple_non, isin_list_tuple_bl, isin_list_tuple_int, isin_list_tuple_str, isin_list_tuple_tup, isin_list_tuple_lst, isin_list_tuple_dct, isin_tuple_list_non, isin_tuple_list_bl, isin_tuple_list_int, isin_tuple_list_str, isin_tuple_list_tup, isin_tuple_list_lst, isin_tuple_list_dct, isin_list_non, isin_list_bl, isin_list_int, isin_list_str, isin_list_tup, isin_list_lst, isin_list_dct, isin_dict_non, isin_dict_bl, isin_dict_int, isin_dict_str, isin_dict_tup, isin_dict_lst, isin_dict_dct, Bool.not_true]
    rw [cut_from _ (by decide)]
    have ez : zipD (ss.map D.str) ((ss.map D.str).drop (1 : Int).toNat) = (ss.zip (ss.drop 1)).map fun p => .tup [.str p.1, .str p.2] := by
      unfold zipD
      rw [← List.map_drop, List.zip_map, List.map_map]
      rfl
    rw [ez]
    rw [cmpM_map (ss.zip (ss.drop 1)) (fun p => .tup [.str p.1, .str p.2]) (fun p => .bl (ltT p.1 p.2)) (fun p _ => by simp only [M.ret_bind, M.bad_bind, M.bind_assoc, M.lift_some, M.lift_none, M.calm_ret, M.map_ret, M.exc_bind, SM.sb_exc, retM_xc, SM.sb_ret, SM.sb_bad, SM.sb_bind, SM.seq_nx, SM.seq_rt, SM.seq_ct, SM.seq_xc, SM.seq_bad, SM.seq_sb, SM.seq_seq, boolM_bl, bindM_some, bindS_some, iteM_t, iteM_f, brS_t, brS_f, ev_c, ev_v, ev_bin, ev_un, ev_chain, ev_and, ev_or, ev_ite, ev_tup, ev_lst, ev_call, ev_bi, ev_ix, ev_sl, ev_rev, ev_cmp', evs_nil, evs_star, ec_c, ec_v, ec_bin, ec_un, ec_chain, ec_and, ec_or, ec_ite, ec_tup, ec_lst, ec_call, ec_bi, ec_ix, ec_sl, ec_rev, ec_cmp, evO_none, evO_some, evT_none, evT_some, evI_rng, evI_rng2, evI_zip, evI_enm, evI_seq, ss_nil', ss_pass', ss_cont', ss_asg', ss_expr', ss_ite', ss_loop', ss_ret', ss_rais', ss_tr', slotM_sh, starM_lst, starM_tup, optI_int, loopM_nil, retM_rt, retM_nx, List.getElem?_cons_zero, List.getElem?_cons_succ, List.set_cons_zero, List.set_cons_succ, bindT, bindTs, wipeE, Tg.slots, Tg.slotss, startE, List.nil_append, List.cons_append, List.append_nil, List.map_cons, List.map_nil, List.length_cons, List.length_nil, List.replicate_succ, List.replicate_zero, Option.bind_some, Option.map_some, Nat.reduceAdd, Nat.reduceSub, Int.reduceEq, Int.reduceLT, Int.reduceLE, decide_true, decide_false, Bool.not_true, Bool.not_false, b_add_i, b_sub_i, b_lt_i, b_le_i, b_gt_i, b_ge_i, b_lt_s, b_eq_i, b_ne_i, b_eq_t0, b_eq_l0, b_ne_t0, b_ne_l0, b_in_1, b_nin_1, u_not, u_neg, bi_len_t, bi_len_l, bi_len_c, bi_tup_l, bi_tup_t, bi_lst_l, bi_lst_t, bi_int_i, bi_edict, bi_min_i, bi_all_map, bi_any_map, sq_l, sq_t, zp_t, zp_l, rv_t, rv_l, sl_t, sl_l, fit0, fit1, fit2, fit3, fit4, fit5, fit6, fit7, fit8, fit9, fit10, fit11, fit12, fit13, fit14, fit15, fit16, fit17, fit18, fit19, fit20, fit21, fit22, fit23, fit24, fit25, fit26, fit27, fit28, fit29, fit30, fit31, fit32, isin_str_non, isin_str_bl, isin_str_int, isin_str_str, isin_str_tup, isin_str_lst, isin_str_dct, isin_tuple_non, isin_tuple_bl, isin_tuple_int, isin_tuple_str, isin_tuple_tup, isin_tuple_lst, isin_tuple_dct, isin_int_non, isin_int_bl, isin_int_int, isin_int_str, isin_int_tup, isin_int_lst, isin_int_dct, isin_bool_non, isin_bool_bl, isin_bool_int, isin_bool_str, isin_bool_tup, isin_bool_lst, isin_bool_dct, isin_list_tuple_non, isin_list_tuple_bl, isin_list_tuple_int, isin_list_tuple_str, isin_list_tuple_tup, isin_list_tuple_lst, isin_list_tuple_dct, isin_tuple_list_non, isin_tuple_list_bl, isin_tuple_list_int, isin_tuple_list_str, isin_tuple_list_tup, isin_tuple_list_lst, isin_tuple_list_dct, isin_list_non, isin_list_bl, isin_list_int, isin_list_str, isin_list_tup, isin_list_lst, isin_list_dct, isin_dict_non, isin_dict_bl, isin_dict_int, isin_dict_str, isin_dict_tup, isin_dict_lst, isin_dict_dct]; rfl) (by have := gx.1; simp only [List.length_map] at this; rw [List.length_zip]; exact lim_of (by omega))]
    simp only [M.ret_bind, M.bad_bind, M.bind_assoc, M.lift_some, M.lift_none, M.calm_ret, M.map_ret, M.exc_bind, SM.sb_exc, retM_xc, SM.sb_ret, SM.sb_bad, SM.sb_bind, SM.seq_nx, SM.seq_rt, SM.seq_ct, SM.seq_xc, SM.seq_bad, SM.seq_sb, SM.seq_seq, boolM_bl, bindM_some, bindS_some, iteM_t, iteM_f, brS_t, brS_f, ev_c, ev_v, ev_bin, ev_un, ev_chain, ev_and, ev_or, ev_ite, ev_tup, ev_lst, ev_call, ev_bi, ev_ix, ev_sl, ev_rev, ev_cmp', evs_nil, evs_star, ec_c, ec_v, ec_bin, ec_un, ec_chain, ec_and, ec_or, ec_ite, ec_tup, ec_lst, ec_call, ec_bi, ec_ix, ec_sl, ec_rev, ec_cmp, evO_none, evO_some, evT_none, evT_some, evI_rng, evI_rng2, evI_zip, evI_enm, evI_seq, ss_nil', ss_pass', ss_cont', ss_asg', ss_expr', ss_ite', ss_loop', ss_ret', ss_rais', ss_tr', slotM_sh, starM_lst, starM_tup, optI_int, loopM_nil, retM_rt, retM_nx, List.getElem?_cons_zero, List.getElem?_cons_succ, List.set_cons_zero, List.set_cons_succ, bindT, bindTs, wipeE, Tg.slots, Tg.slotss, startE, List.nil_append, List.cons_append, List.append_nil, List.map_cons, List.map_nil, List.length_cons, List.length_nil, List.replicate_succ, List.replicate_zero, Option.bind_some, Option.map_some, Nat.reduceAdd, Nat.reduceSub, Int.reduceEq, Int.reduceLT, Int.reduceLE, decide_true, decide_false, Bool.not_true, Bool.not_false, b_add_i, b_sub_i, b_lt_i, b_le_i, b_gt_i, b_ge_i, b_lt_s, b_eq_i, b_ne_i, b_eq_t0, b_eq_l0, b_ne_t0, b_ne_l0, b_in_1, b_nin_1, u_not, u_neg, bi_len_t, bi_len_l, bi_len_c, bi_tup_l, bi_tup_t, bi_lst_l, bi_lst_t, bi_int_i, bi_edict, bi_min_i, bi_all_map, bi_any_map, sq_l, sq_t, zp_t, zp_l, rv_t, rv_l, sl_t, sl_l, fit0, fit1, fit2, fit3, fit4, fit5, fit6, fit7, fit8, fit9, fit10, fit11, fit12, fit13, fit14, fit15, fit16, fit17, fit18, fit19, fit20, fit21, fit22, fit23, fit24, fit25, fit26, fit27, fit28, fit29, fit30, fit31, fit32, isin_str_non, isin_str_bl, isin_str_int, isin_str_str, isin_str_tup, isin_str_lst, isin_str_dct, isin_tuple_non, isin_tuple_bl, isin_tuple_int, isin_tuple_str, isin_tuple_tup, isin_tuple_lst, isin_tuple_dct, isin_int_non, isin_int_bl, isin_int_int, isin_int_str, isin_int_tup, isin_int_lst, isin_int_dct, isin_bool_non, isin_bool_bl, isin_bool_int, isin_bool_str, isin_bool_tup, isin_bool_lst, isin_bool_dct, isin_list_tuple_non, isin_list_tuple_bl, isin_list_tuple_int, isin_list_tuple_str, isin_list_tuple_tup, isin_list_tuple_lst, isin_list_tuple_dct, isin_tuple_list_non, isin_tuple_list_bl, isin_tuple_list_int, isin_tuple_list_str, isin_tuple_list_tup, isin_tuple_list_lst, isin_tuple_list_dct, isin_list_non, isin_list_bl, isin_list_int, isin_list_str, isin_list_tup, isin_list_lst, isin_list_dct, isin_dict_non, isin_dict_bl, isin_dict_int, isin_dict_str, isin_dict_tup, isin_dict_lst, isin_dict_dct]
    rw [asc_strs, hss]
    rfl
def nThings : D → Bool
  | .tup xs => ascD (.tup xs) && (decide (1 ≤ xs.length) && decide (xs.length ≤ 5))
  | _ => false
theorem w_need_things (h1 : Has P "is_word" f_is_word) (h2 : Has P "are_ascending" f_are_ascending) (h : Has P "need_things" f_need_things) {d : D} (g : d.good = true) : runF P pr up (k + 3) "need_things" [d] = if nThings d = true then M.ret d else M.exc "BadThings" d := by
  rw [run_def h rfl (by decide)]
  have ha : runF P pr up (k + 2) "are_ascending" [d] = M.ret (.bl (ascD d)) := w_are_ascending h1 h2 g
  simp only [M.ret_bind, M.bad_bind, M.bind_assoc, M.lift_some, M.lift_none, M.calm_ret, M.map_ret, M.exc_bind, SM.sb_exc, retM_xc, SM.sb_ret, SM.sb_bad, SM.sb_bind, SM.seq_nx, SM.seq_rt, SM.seq_ct, SM.seq_xc, SM.seq_bad, SM.seq_sb, SM.seq_seq, boolM_bl, bindM_some, bindS_some, iteM_t, iteM_f, brS_t, brS_f, ev_c, ev_v, ev_bin, ev_un, ev_chain, ev_and, ev_or, ev_ite, ev_tup, ev_lst, ev_call, ev_bi, ev_ix, ev_sl, ev_rev, ev_cmp', evs_nil, evs_star, ec_c, ec_v, ec_bin, ec_un, ec_chain, ec_and, ec_or, ec_ite, ec_tup, ec_lst, ec_call, ec_bi, ec_ix, ec_sl, ec_rev, ec_cmp, evO_none, evO_some, evT_none, evT_some, evI_rng, evI_rng2, evI_zip, evI_enm, evI_seq, ss_nil', ss_pass', ss_cont', ss_asg', ss_expr', ss_ite', ss_loop', ss_ret', ss_rais', ss_tr', slotM_sh, starM_lst, starM_tup, optI_int, loopM_nil, retM_rt, retM_nx, List.getElem?_cons_zero, List.getElem?_cons_succ, List.set_cons_zero, List.set_cons_succ, bindT, bindTs, wipeE, Tg.slots, Tg.slotss, startE, List.nil_append, List.cons_append, List.append_nil, List.map_cons, List.map_nil, List.length_cons, List.length_nil, List.replicate_succ, List.replicate_zero, Option.bind_some, Option.map_some, Nat.reduceAdd, Nat.reduceSub, Int.reduceEq, Int.reduceLT, Int.reduceLE, decide_true, decide_false, Bool.not_true, Bool.not_false, b_add_i, b_sub_i, b_lt_i, b_le_i, b_gt_i, b_ge_i, b_lt_s, b_eq_i, b_ne_i, b_eq_t0, b_eq_l0, b_ne_t0, b_ne_l0, b_in_1, b_nin_1, u_not, u_neg, bi_len_t, bi_len_l, bi_len_c, bi_tup_l, bi_tup_t, bi_lst_l, bi_lst_t, bi_int_i, bi_edict, bi_min_i, bi_all_map, bi_any_map, sq_l, sq_t, zp_t, zp_l, rv_t, rv_l, sl_t, sl_l, fit0, fit1, fit2, fit3, fit4, fit5, fit6, fit7, fit8, fit9, fit10, fit11, fit12, fit13, fit14, fit15, fit16, fit17, fit18, fit19, fit20, fit21, fit22, fit23, fit24, fit25, fit26, fit27, fit28, fit29, fit30, fit31, fit32, isin_str_non, isin_str_bl, isin_str_int, isin_str_str, isin_str_tup, isin_str_lst, isin_str_dct, isin_tuple_non, isin_tuple_bl, isin_tuple_int, isin_tuple_str, isin_tuple_tup, isin_tuple_lst, isin_tuple_dct, isin_int_non, isin_int_bl, isin_int_int, isin_int_str, isin_int_tup, isin_int_lst, isin_int_dct, isin_bool_non, isin_bool_bl, isin_bool_int, isin_bool_str, isin_bool_tup, isin_bool_lst, isin_bool_dct, isin_list_tuple_non, isin_list_tuple_bl, isin_list_tuple_int, isin_list_tuple_str, isin_list_tuple_tup, isin_list_tuple_lst, isin_list_tuple_dct, isin_tuple_list_non, isin_tuple_list_bl, isin_tuple_list_int, isin_tuple_list_str, isin_tuple_list_tup, isin_tuple_list_lst, isin_tuple_list_dct, isin_list_non, isin_list_bl, isin_list_int, isin_list_str, isin_list_tup, isin_list_lst, isin_list_dct, isin_dict_non, isin_dict_bl, isin_dict_int, isin_dict_str, isin_dict_tup, isin_dict_lst, isin_dict_dct, f_need_things, ha]
  cases d <;> first
    | (simp only [M.ret_bind, M.bad_bind, M.bind_assoc, M.lift_some, M.lift_none, M.calm_ret, M.map_ret, M.exc_bind, SM.sb_exc, retM_xc, SM.sb_ret, SM.sb_bad, SM.sb_bind, SM.seq_nx, SM.seq_rt, SM.seq_ct, SM.seq_xc, SM.seq_bad, SM.seq_sb, SM.seq_seq, boolM_bl, bindM_some, bindS_some, iteM_t, iteM_f, brS_t, brS_f, ev_c, ev_v, ev_bin, ev_un, ev_chain, ev_and, ev_or, ev_ite, ev_tup, ev_lst, ev_call, ev_bi, ev_ix, ev_sl, ev_rev, ev_cmp', evs_nil, evs_star, ec_c, ec_v, ec_bin, ec_un, ec_chain, ec_and, ec_or, ec_ite, ec_tup, ec_lst, ec_call, ec_bi, ec_ix, ec_sl, ec_rev, ec_cmp, evO_none, evO_some, evT_none, evT_some, evI_rng, evI_rng2, evI_zip, evI_enm, evI_seq, ss_nil', ss_pass', ss_cont', ss_asg', ss_expr', ss_ite', ss_loop', ss_ret', ss_rais', ss_tr', slotM_sh, starM_lst, starM_tup, optI_int, loopM_nil, retM_rt, retM_nx, List.getElem?_cons_zero, List.getElem?_cons_succ, List.set_cons_zero, List.set_cons_succ, bindT, bindTs, wipeE, Tg.slots, Tg.slotss, startE, List.nil_append, List.cons_append, List.append_nil, List.map_cons, List.map_nil, List.length_cons, List.length_nil, List.replicate_succ, List.replicate_zero, Option.bind_some, Option.map_some, Nat.reduceAdd, Nat.reduceSub, Int.reduceEq, Int.reduceLT, Int.reduceLE, decide_true, decide_false, Bool.not_true, Bool.not_false, b_add_i, b_sub_i, b_lt_i, b_le_i, b_gt_i, b_ge_i, b_lt_s, b_eq_i, b_ne_i, b_eq_t0, b_eq_l0, b_ne_t0, b_ne_l0, b_in_1, b_nin_1, u_not, u_neg, bi_len_t, bi_len_l, bi_len_c, bi_tup_l, bi_tup_t, bi_lst_l, bi_lst_t, bi_int_i, bi_edict, bi_min_i, bi_all_map, bi_any_map, sq_l, sq_t, zp_t, zp_l, rv_t, rv_l, sl_t, sl_l, fit0, fit1, fit2, fit3, fit4, fit5, fit6, fit7, fit8, fit9, fit10, fit11, fit12, fit13, fit14, fit15, fit16, fit17, fit18, fit19, fit20, fit21, fit22, fit23, fit24, fit25, fit26, fit27, fit28, fit29, fit30, fit31, fit32, isin_str_non, isin_str_bl, isin_str_int, isin_str_str, isin_str_tup, isin_str_lst, isin_str_dct, isin_tuple_non, isin_tuple_bl, isin_tuple_int, isin_tuple_str, isin_tuple_tup, isin_tuple_lst, isin_tuple_dct, isin_int_non, isin_int_bl, isin_int_int, isin_int_str, isin_int_tup, isin_int_lst, isin_int_dct, isin_bool_non, isin_bool_bl, isin_bool_int, isin_bool_str, isin_bool_tup, isin_bool_lst, isin_bool_dct, isin_list_tuple_non, isin_list_tuple_bl, isin_list_tuple_int, isin_list_tuple_str, isin_list_tuple_tup, isin_list_tuple_lst, isin_list_tuple_dct, isin_tuple_list_non, isin_tuple_list_bl, isin_tuple_list_int, isin_tuple_list_str, isin_tuple_list_tup, isin_tuple_list_lst, isin_tuple_list_dct, isin_list_non, isin_list_bl, isin_list_int, isin_list_str, isin_list_tup, isin_list_lst, isin_list_dct, isin_dict_non, isin_dict_bl, isin_dict_int, isin_dict_str, isin_dict_tup, isin_dict_lst, isin_dict_dct, ascD, nThings, Bool.not_false, Bool.false_eq_true, if_false]; done)
    | (simp [D.good] at g; done)
    | skip
  rename_i xs
  simp only [nThings]
  rcases Bool.eq_false_or_eq_true (ascD (.tup xs)) with hx | hx
  · simp only [hx, M.ret_bind, M.bad_bind, M.bind_assoc, M.lift_some, M.lift_none, M.calm_ret, M.map_ret, M.exc_bind, SM.sb_exc, retM_xc, SM.sb_ret, SM.sb_bad, SM.sb_bind, SM.seq_nx, SM.seq_rt, SM.seq_ct, SM.seq_xc, SM.seq_bad, SM.seq_sb, SM.seq_seq, boolM_bl, bindM_some, bindS_some, iteM_t, iteM_f, brS_t, brS_f, ev_c, ev_v, ev_bin, ev_un, ev_chain, ev_and, ev_or, ev_ite, ev_tup, ev_lst, ev_call, ev_bi, ev_ix, ev_sl, ev_rev, ev_cmp', evs_nil, evs_star, ec_c, ec_v, ec_bin, ec_un, ec_chain, ec_and, ec_or, ec_ite, ec_tup, ec_lst, ec_call, ec_bi, ec_ix, ec_sl, ec_rev, ec_cmp, evO_none, evO_some, evT_none, evT_some, evI_rng, evI_rng2, evI_zip, evI_enm, evI_seq, ss_nil', ss_pass', ss_cont', ss_asg', ss_expr', ss_ite', ss_loop', ss_ret', ss_rais', ss_tr', slotM_sh, starM_lst, starM_tup, optI_int, loopM_nil, retM_rt, retM_nx, List.getElem?_cons_zero, List.getElem?_cons_succ, List.set_cons_zero, List.set_cons_succ, bindT, bindTs, wipeE, Tg.slots, Tg.slotss, startE, List.nil_append, List.cons_append, List.append_nil, List.map_cons, List.map_nil, List.length_cons, List.length_nil, List.replicate_succ, List.replicate_zero, Option.bind_some, Option.map_some, Nat.reduceAdd, Nat.reduceSub, Int.reduceEq, Int.reduceLT, Int.reduceLE, decide_true, decide_false, Bool.not_true, Bool.not_false, b_add_i, b_sub_i, b_lt_i, b_le_i, b_gt_i, b_ge_i, b_lt_s, b_eq_i, b_ne_i, b_eq_t0, b_eq_l0, b_ne_t0, b_ne_l0, b_in_1, b_nin_1, u_not, u_neg, bi_len_t, bi_len_l, bi_len_c, bi_tup_l, bi_tup_t, bi_lst_l, bi_lst_t, bi_int_i, bi_edict, bi_min_i, bi_all_map, bi_any_map, sq_l, sq_t, zp_t, zp_l, rv_t, rv_l, sl_t, sl_l, fit0, fit1, fit2, fit3, fit4, fit5, fit6, fit7, fit8, fit9, fit10, fit11, fit12, fit13, fit14, fit15, fit16, fit17, fit18, fit19, fit20, fit21, fit22, fit23, fit24, fit25, fit26, fit27, fit28, fit29, fit30, fit31, fit32, isin_str_non, isin_str_bl, isin_str_int, isin_str_str, isin_str_tup, isin_str_lst, isin_str_dct, isin_tuple_non, isin_tuple_bl, isin_tuple_int, isin_tuple_str, isin_tuple_tup, isin_tuple_lst, isin_tuple_dct, isin_int_non, isin_int_bl, isin_int_int, isin_int_str, isin_int_tup, isin_int_lst, isin_int_dct, isin_bool_non, isin_bool_bl, isin_bool_int, isin_bool_str, isin_bool_tup, isin_bool_lst, isin_bool_dct, isin_list_tuple_non, isin_list_tuple_bl, isin_list_tuple_int, isin_list_tuple_str, isin_list_tuple_tup, isin_list_tuple_lst, isin_list_tuple_dct, isin_tuple_list_non, isin_tuple_list_bl, isin_tuple_list_int, isin_tuple_list_str, isin_tuple_list_tup, isin_tuple_list_lst, isin_tuple_list_dct, isin_list_non, isin_list_bl, isin_list_int, isin_list_str, isin_list_tup, isin_list_lst, isin_list_dct, isin_dict_non, isin_dict_bl, isin_dict_int, isin_dict_str, isin_dict_tup, isin_dict_lst, isin_dict_dct, Bool.not_true, Bool.true_and]
    by_cases c1 : (1 : Int) ≤ xs.length
    · by_cases c2 : (xs.length : Int) ≤ 5
      · have c1' : 1 ≤ xs.length := by omega
        have c2' : xs.length ≤ 5 := by omega
        simp only [c1, c2, c1', c2', decide_true, M.ret_bind, M.bad_bind, M.bind_assoc, M.lift_some, M.lift_none, M.calm_ret, M.map_ret, M.exc_bind, SM.sb_exc, retM_xc, SM.sb_ret, SM.sb_bad, SM.sb_bind, SM.seq_nx, SM.seq_rt, SM.seq_ct, SM.seq_xc, SM.seq_bad, SM.seq_sb, SM.seq_seq, boolM_bl, bindM_some, bindS_some, iteM_t, iteM_f, brS_t, brS_f, ev_c, ev_v, ev_bin, ev_un, ev_chain, ev_and, ev_or, ev_ite, ev_tup, ev_lst, ev_call, ev_bi, ev_ix, ev_sl, ev_rev, ev_cmp', evs_nil, evs_star, ec_c, ec_v, ec_bin, ec_un, ec_chain, ec_and, ec_or, ec_ite, ec_tup, ec_lst, ec_call, ec_bi, ec_ix, ec_sl, ec_rev, ec_cmp, evO_none, evO_some, evT_none, evT_some, evI_rng, evI_rng2, evI_zip, evI_enm, evI_seq, ss_nil', ss_pass', ss_cont', ss_asg', ss_expr', ss_ite', ss_loop', ss_ret', ss_rais', ss_tr', slotM_sh, starM_lst, starM_tup, optI_int, loopM_nil, retM_rt, retM_nx, List.getElem?_cons_zero, List.getElem?_cons_succ, List.set_cons_zero, List.set_cons_succ, bindT, bindTs, wipeE, Tg.slots, Tg.slotss, startE, List.nil_append, List.cons_append, List.append_nil, List.map_cons, List.map_nil, List.length_cons, List.length_nil, List.replicate_succ, List.replicate_zero, Option.bind_some, Option.map_some, Nat.reduceAdd, Nat.reduceSub, Int.reduceEq, Int.reduceLT, Int.reduceLE, decide_true, decide_false, Bool.not_true, Bool.not_false, b_add_i, b_sub_i, b_lt_i, b_le_i, b_gt_i, b_ge_i, b_lt_s, b_eq_i, b_ne_i, b_eq_t0, b_eq_l0, b_ne_t0, b_ne_l0, b_in_1, b_nin_1, u_not, u_neg, bi_len_t, bi_len_l, bi_len_c, bi_tup_l, bi_tup_t, bi_lst_l, bi_lst_t, bi_int_i, bi_edict, bi_min_i, bi_all_map, bi_any_map, sq_l, sq_t, zp_t, zp_l, rv_t, rv_l, sl_t, sl_l, fit0, fit1, fit2, fit3, fit4, fit5, fit6, fit7, fit8, fit9, fit10, fit11, fit12, fit13, fit14, fit15, fit16, fit17, fit18, fit19, fit20, fit21, fit22, fit23, fit24, fit25, fit26, fit27, fit28, fit29, fit30, fit31, fit32, isin_str_non, isin_str_bl, isin_str_int, isin_str_str, isin_str_tup, isin_str_lst, isin_str_dct, isin_tuple_non, isin_tuple_bl, isin_tuple_int, isin_tuple_str, isin_tuple_tup, isin_tuple_lst, isin_tuple_dct, isin_int_non, isin_int_bl, isin_int_int, isin_int_str, isin_int_tup, isin_int_lst, isin_int_dct, isin_bool_non, isin_bool_bl, isin_bool_int, isin_bool_str, isin_bool_tup, isin_bool_lst, isin_bool_dct, isin_list_tuple_non, isin_list_tuple_bl, isin_list_tuple_int, isin_list_tuple_str, isin_list_tuple_tup, isin_list_tuple_lst, isin_list_tuple_dct, isin_tuple_list_non, isin_tuple_list_bl, isin_tuple_list_int, isin_tuple_list_str, isin_tuple_list_tup, isin_tuple_list_lst, isin_tuple_list_dct, isin_list_non, isin_list_bl, isin_list_int, isin_list_str, isin_list_tup, isin_list_lst, isin_list_dct, isin_dict_non, isin_dict_bl, isin_dict_int, isin_dict_str, isin_dict_tup, isin_dict_lst, isin_dict_dct, Bool.not_true, Bool.and_self, if_true]
      · have c2' : ¬ xs.length ≤ 5 := by omega
        simp only [c1, c2, c2', decide_true, decide_false, M.ret_bind, M.bad_bind, M.bind_assoc, M.lift_some, M.lift_none, M.calm_ret, M.map_ret, M.exc_bind, SM.sb_exc, retM_xc, SM.sb_ret, SM.sb_bad, SM.sb_bind, SM.seq_nx, SM.seq_rt, SM.seq_ct, SM.seq_xc, SM.seq_bad, SM.seq_sb, SM.seq_seq, boolM_bl, bindM_some, bindS_some, iteM_t, iteM_f, brS_t, brS_f, ev_c, ev_v, ev_bin, ev_un, ev_chain, ev_and, ev_or, ev_ite, ev_tup, ev_lst, ev_call, ev_bi, ev_ix, ev_sl, ev_rev, ev_cmp', evs_nil, evs_star, ec_c, ec_v, ec_bin, ec_un, ec_chain, ec_and, ec_or, ec_ite, ec_tup, ec_lst, ec_call, ec_bi, ec_ix, ec_sl, ec_rev, ec_cmp, evO_none, evO_some, evT_none, evT_some, evI_rng, evI_rng2, evI_zip, evI_enm, evI_seq, ss_nil', ss_pass', ss_cont', ss_asg', ss_expr', ss_ite', ss_loop', ss_ret', ss_rais', ss_tr', slotM_sh, starM_lst, starM_tup, optI_int, loopM_nil, retM_rt, retM_nx, List.getElem?_cons_zero, List.getElem?_cons_succ, List.set_cons_zero, List.set_cons_succ, bindT, bindTs, wipeE, Tg.slots, Tg.slotss, startE, List.nil_append, List.cons_append, List.append_nil, List.map_cons, List.map_nil, List.length_cons, List.length_nil, List.replicate_succ, List.replicate_zero, Option.bind_some, Option.map_some, Nat.reduceAdd, Nat.reduceSub, Int.reduceEq, Int.reduceLT, Int.reduceLE, decide_true, decide_false, Bool.not_true, Bool.not_false, b_add_i, b_sub_i, b_lt_i, b_le_i, b_gt_i, b_ge_i, b_lt_s, b_eq_i, b_ne_i, b_eq_t0, b_eq_l0, b_ne_t0, b_ne_l0, b_in_1, b_nin_1, u_not, u_neg, bi_len_t, bi_len_l, bi_len_c, bi_tup_l, bi_tup_t, bi_lst_l, bi_lst_t, bi_int_i, bi_edict, bi_min_i, bi_all_map, bi_any_map, sq_l, sq_t, zp_t, zp_l, rv_t, rv_l, sl_t, sl_l, fit0, fit1, fit2, fit3, fit4, fit5, fit6, fit7, fit8, fit9, fit10, fit11, fit12, fit13, fit14, fit15, fit16, fit17, fit18, fit19, fit20, fit21, fit22, fit23, fit24, fit25, fit26, fit27, fit28, fit29, fit30, fit31, fit32, isin_str_non, isin_str_bl, isin_str_int, isin_str_str, isin_str_tup, isin_str_lst, isin_str_dct, isin_tuple_non, isin_tuple_bl, isin_tuple_int, isin_tuple_str, isin_tuple_tup, isin_tuple_lst, isin_tuple_dct, isin_int_non, isin_int_bl, isin_int_int, isin_int_str, isin_int_tup, isin_int_lst, isin_int_dct, isin_bool_non, isin_bool_bl, isin_bool_int, isin_bool_str, isin_bool_tup, isin_bool_lst, isin_bool_dct, isin_list_tuple_non, isin_list_tuple_bl, isin_list_tuple_int, isin_list_tuple_str, isin_list_tuple_tup, isin_list_tuple_lst, isin_list_tuple_dct, isin_tuple_list_non, isin_tuple_list_bl, isin_tuple_list_int, isin_tuple_list_str, isin_tuple_list_tup, isin_tuple_list_lst, isin_tuple_list_dct, isin_list_non, isin_list_bl, isin_list_int, isin_list_str, isin_list_tup, isin_list_lst, isin_list_dct, isin_dict_non, isin_dict_bl, isin_dict_int, isin_dict_str, isin_dict_tup, isin_dict_lst, isin_dict_dct, Bool.not_false, Bool.and_false, Bool.false_eq_true, if_false]
    · have c1' : ¬ 1 ≤ xs.length := by omega
      simp only [c1, c1', decide_false, M.ret_bind, M.bad_bind, M.bind_assoc, M.lift_some, M.lift_none, M.calm_ret, M.map_ret, M.exc_bind, SM.sb_exc, retM_xc, SM.sb_ret, SM.sb_bad, SM.sb_bind, SM.seq_nx, SM.seq_rt, SM.seq_ct, SM.seq_xc, SM.seq_bad, SM.seq_sb, SM.seq_seq, boolM_bl, bindM_some, bindS_some, iteM_t, iteM_f, brS_t, brS_f, ev_c, ev_v, ev_bin, ev_un, ev_chain, ev_and, ev_or, ev_ite, ev_tup, ev_lst, ev_call, ev_bi, ev_ix, ev_sl, ev_rev, ev_cmp', evs_nil, evs_star, ec_c, ec_v, ec_bin, ec_un, ec_chain, ec_and, ec_or, ec_ite, ec_tup, ec_lst, ec_call, ec_bi, ec_ix, ec_sl, ec_rev, ec_cmp, evO_none, evO_some, evT_none, evT_some, evI_rng, evI_rng2, evI_zip, evI_enm, evI_seq, ss_nil', ss_pass', ss_cont', ss_asg', ss_expr', ss_ite', ss_loop', ss_ret', ss_rais', ss_tr', slotM_sh, starM_lst, starM_tup, optI_int, loopM_nil, retM_rt, retM_nx, List.getElem?_cons_zero, List.getElem?_cons_succ, List.set_cons_zero, List.set_cons_succ, bindT, bindTs, wipeE, Tg.slots, Tg.slotss, startE, List.nil_append, List.cons_append, List.append_nil, List.map_cons, List.map_nil, List.length_cons, List.length_nil, List.replicate_succ, List.replicate_zero, Option.bind_some, Option.map_some, Nat.reduceAdd, Nat.reduceSub, Int.reduceEq, Int.reduceLT, Int.reduceLE, decide_true, decide_false, Bool.not_true, Bool.not_false, b_add_i, b_sub_i, b_lt_i, b_le_i, b_gt_i, b_ge_i, b_lt_s, b_eq_i, b_ne_i, b_eq_t0, b_eq_l0, b_ne_t0, b_ne_l0, b_in_1, b_nin_1, u_not, u_neg, bi_len_t, bi_len_l, bi_len_c, bi_tup_l, bi_tup_t, bi_lst_l, bi_lst_t, bi_int_i, bi_edict, bi_min_i, bi_all_map, bi_any_map, sq_l, sq_t, zp_t, zp_l, rv_t, rv_l, sl_t, sl_l, fit0, fit1, fit2, fit3, fit4, fit5, fit6, fit7, fit8, fit9, fit10, fit11, fit12, fit13, fit14, fit15, fit16, fit17, fit18, fit19, fit20, fit21, fit22, fit23, fit24, fit25, fit26, fit27, fit28, fit29, fit30, fit31, fit32, isin_str_non, isin_str_bl, isin_str_int, isin_str_str, isin_str_tup, isin_str_lst, isin_str_dct, isin_tuple_non, isin_tuple_bl, isin_tuple_int, isin_tuple_str, isin_tuple_tup, isin_tuple_lst, isin_tuple_dct, isin_int_non, isin_int_bl, isin_int_int, isin_int_str, isin_int_tup, isin_int_lst, isin_int_dct, isin_bool_non, isin_bool_bl, isin_bool_int, isin_bool_str, isin_bool_tup, isin_bool_lst, isin_bool_dct, isin_list_tuple_non, isin_list_tuple_bl, isin_list_tuple_int, isin_list_tuple_str, isin_list_tuple_tup, isin_list_tuple_lst, isin_list_tuple_dct, isin_tuple_list_non, isin_tuple_list_bl, isin_tuple_list_int, isin_tuple_list_str, isin_tuple_list_tup, isin_tuple_list_lst, isin_tuple_list_dct, isin_list_non, isin_list_bl, isin_list_int, isin_list_str, isin_list_tup, isin_list_lst, isin_list_dct, isin_dict_non, isin_dict_bl, isin_dict_int, isin_dict_str, isin_dict_tup, isin_dict_lst, isin_dict_dct, Bool.not_false, Bool.false_and, Bool.false_eq_true, if_false]
  · simp only [hx, M.ret_bind, M.bad_bind, M.bind_assoc, M.lift_some, M.lift_none, M.calm_ret, M.map_ret, M.exc_bind, SM.sb_exc, retM_xc, SM.sb_ret, SM.sb_bad, SM.sb_bind, SM.seq_nx, SM.seq_rt, SM.seq_ct, SM.seq_xc, SM.seq_bad, SM.seq_sb, SM.seq_seq, boolM_bl, bindM_some, bindS_some, iteM_t, iteM_f, brS_t, brS_f, ev_c, ev_v, ev_bin, ev_un, ev_chain, ev_and, ev_or, ev_ite, ev_tup, ev_lst, ev_call, ev_bi, ev_ix, ev_sl, ev_rev, ev_cmp', evs_nil, evs_star, ec_c, ec_v, ec_bin, ec_un, ec_chain, ec_and, ec_or, ec_ite, ec_tup, ec_lst, ec_call, ec_bi, ec_ix, ec_sl, ec_rev, ec_cmp, evO_none, evO_some, evT_none, evT_some, evI_rng, evI_rng2, evI_zip, evI_enm, evI_seq, ss_nil', ss_pass', ss_cont', ss_asg', ss_expr', ss_ite', ss_loop', ss_ret', ss_rais', ss_tr', slotM_sh, starM_lst, starM_tup, optI_int, loopM_nil, retM_rt, retM_nx, List.getElem?_cons_zero, List.getElem?_cons_succ, List.set_cons_zero, List.set_cons_succ, bindT, bindTs, wipeE, Tg.slots, Tg.slotss, startE, List.nil_append, List.cons_append, List.append_nil, List.map_cons, List.map_nil, List.length_cons, List.length_nil, List.replicate_succ, List.replicate_zero, Option.bind_some, Option.map_some, Nat.reduceAdd, Nat.reduceSub, Int.reduceEq, Int.reduceLT, Int.reduceLE, decide_true, decide_false, Bool.not_true, Bool.not_false, b_add_i, b_sub_i, b_lt_i, b_le_i, b_gt_i, b_ge_i, b_lt_s, b_eq_i, b_ne_i, b_eq_t0, b_eq_l0, b_ne_t0, b_ne_l0, b_in_1, b_nin_1, u_not, u_neg, bi_len_t, bi_len_l, bi_len_c, bi_tup_l, bi_tup_t, bi_lst_l, bi_lst_t, bi_int_i, bi_edict, bi_min_i, bi_all_map, bi_any_map, sq_l, sq_t, zp_t, zp_l, rv_t, rv_l, sl_t, sl_l, fit0, fit1, fit2, fit3, fit4, fit5, fit6, fit7, fit8, fit9, fit10, fit11, fit12, fit13, fit14, fit15, fit16, fit17, fit18, fit19, fit20, fit21, fit22, fit23, fit24, fit25, fit26, fit27, fit28, fit29, fit30, fit31, fit32, isin_str_non, isin_str_bl, isin_str_int, isin_str_str, isin_str_tup, isin_str_lst, isin_str_dct, isin_tuple_non, isin_tuple_bl, isin_tuple_int, isin_tuple_str, isin_tuple_tup, isin_tuple_lst, isin_tuple_dct, isin_int_non, isin_int_bl, isin_int_int, isin_int_str, isin_int_tup, isin_int_lst, isin_int_dct, isin_bool_non, isin_bool_bl, isin_bool_int, isin_bool_str, isin_bool_tup, isin_bool_lst, isin_bool_dct, isin_list_tuple_non, isin_list_tuple_bl, isin_list_tuple_int, isin_list_tuple_str, isin_list_tuple_tup, isin_list_tuple_lst, isin_list_tuple_dct, isin_tuple_list_non, isin_tuple_list_bl, isin_tuple_list_int, isin_tuple_list_str, isin_tuple_list_tup, isin_tuple_list_lst, isin_tuple_list_dct, isin_list_non, isin_list_bl, isin_list_int, isin_list_str, isin_list_tup, isin_list_lst, isin_list_dct, isin_dict_non, isin_dict_bl, isin_dict_int, isin_dict_str, isin_dict_tup, isin_dict_lst, isin_dict_dct, Bool.not_false, Bool.false_and, Bool.false_eq_true, if_false]
/-! ### lots -/
def tupS (l : List Str) : D := .tup (l.map D.str)
theorem plains_strs : ∀ {ss : List Str}, (∀ x ∈ ss, PyData.strOk x = true) → D.plains (ss.map D.str) = true
  | [], _ => rfl
  | x :: r, h => by
    simp only [List.map_cons, D.plains, D.plain, Bool.and_eq_true]
    exact ⟨h x List.mem_cons_self, plains_strs fun y hy => h y (List.mem_cons_of_mem _ hy)⟩
theorem depth_strs : ∀ ss : List Str, PyData.depthAll (D.pys (ss.map D.str)) = 0
  | [] => rfl
  | x :: r => by simp [D.pys, D.py, PyData.depthAll, PyData.depth, depth_strs r]
theorem eqok_strs {ss : List Str} (h : ∀ x ∈ ss, PyData.strOk x = true) : (D.lst (ss.map D.str)).eqok = true := by
  unfold D.eqok
  simp only [D.plain, plains_strs h, Bool.true_and, decide_eq_true_eq, D.py, PyData.depth, depth_strs]
  decide
theorem eqok_tupS {ss : List Str} (h : ∀ x ∈ ss, PyData.strOk x = true) : (tupS ss).eqok = true := by
  unfold D.eqok tupS
  simp only [D.plain, plains_strs h, Bool.true_and, decide_eq_true_eq, D.py, PyData.depth, depth_strs]
  decide
theorem eqok_str {x : Str} (h : PyData.strOk x = true) : (D.str x).eqok = true := by
  unfold D.eqok
  simp only [D.plain, h, Bool.true_and, decide_eq_true_eq, D.py, PyData.depth]
  decide
theorem any_strs (x : Str) : ∀ ss : List Str, ((ss.map D.str).any fun z => PyData.eqv z.py (D.str x).py) = decide (x ∈ ss)
  | [] => rfl
  | y :: r => by
    rw [List.map_cons, List.any_cons, any_strs x r]
    simp only [D.py, PyData.eqv, List.mem_cons]
    by_cases e : y = x
    · subst e; simp
    · have e2 : ¬ x = y := fun z => e z.symm
      simp [e, e2]
theorem b_in_strs {x : Str} {ss : List Str} (hx : PyData.strOk x = true) (h : ∀ x ∈ ss, PyData.strOk x = true) : binD .in_ (.str x) (.tup (ss.map D.str)) = some (.bl (decide (x ∈ ss))) := by
  show (inB _ _).map D.bl = _
  simp only [inB, eqok_str hx, eqok_strs h, Bool.and_self, if_true, any_strs, Option.map_some]
theorem b_nin_strs {x : Str} {ss : List Str} (hx : PyData.strOk x = true) (h : ∀ x ∈ ss, PyData.strOk x = true) : binD .notin (.str x) (.tup (ss.map D.str)) = some (.bl (!decide (x ∈ ss))) := by
  show (inB _ _).map (fun b => D.bl (!b)) = _
  simp only [inB, eqok_str hx, eqok_strs h, Bool.and_self, if_true, any_strs, Option.map_some]
def isLotD (ts : List Str) : D → Bool
  | .tup xs => ascD (.tup xs) && match asStrs xs with
    | some ss => ss.all fun x => decide (x ∈ ts)
    | none => false
  | _ => false
theorem w_is_lot (h1 : Has P "is_word" f_is_word) (h2 : Has P "are_ascending" f_are_ascending) (h : Has P "is_lot" f_is_lot) {ts : List Str} (ht : ∀ x ∈ ts, PyData.strOk x = true) {d : D} (g : d.good = true) : runF P pr up (k + 3) "is_lot" [.tup (ts.map D.str), d] = M.ret (.bl (isLotD ts d)) := by
  rw [run_def h rfl (by decide)]
  have ha : runF P pr up (k + 2) "are_ascending" [d] = M.ret (.bl (ascD d)) := w_are_ascending h1 h2 g
  simp only [M.ret_bind, M.bad_bind, M.bind_assoc, M.lift_some, M.lift_none, M.calm_ret, M.map_ret, M.exc_bind, SM.sb_exc, retM_xc, SM.sb_ret, SM.sb_bad, SM.sb_bind, SM.seq_nx, SM.seq_rt, SM.seq_ct, SM.seq_xc, SM.seq_bad, SM.seq_sb, SM.seq_seq, boolM_bl, bindM_some, bindS_some, iteM_t, iteM_f, brS_t, brS_f, ev_c, ev_v, ev_bin, ev_un, ev_chain, ev_and, ev_or, ev_ite, ev_tup, ev_lst, ev_call, ev_bi, ev_ix, ev_sl, ev_rev, ev_cmp', evs_nil, evs_star, ec_c, ec_v, ec_bin, ec_un, ec_chain, ec_and, ec_or, ec_ite, ec_tup, ec_lst, ec_call, ec_bi, ec_ix, ec_sl, ec_rev, ec_cmp, evO_none, evO_some, evT_none, evT_some, evI_rng, evI_rng2, evI_zip, evI_enm, evI_seq, ss_nil', ss_pass', ss_cont', ss_asg', ss_expr', ss_ite', ss_loop', ss_ret', ss_rais', ss_tr', slotM_sh, starM_lst, starM_tup, optI_int, loopM_nil, retM_rt, retM_nx, List.getElem?_cons_zero, List.getElem?_cons_succ, List.set_cons_zero, List.set_cons_succ, bindT, bindTs, wipeE, Tg.slots, Tg.slotss, startE, List.nil_append, List.cons_append, List.append_nil, List.map_cons, List.map_nil, List.length_cons, List.length_nil, List.replicate_succ, List.replicate_zero, Option.bind_some, Option.map_some, Nat.reduceAdd, Nat.reduceSub, Int.reduceEq, Int.reduceLT, Int.reduceLE, decide_true, decide_false, Bool.not_true, Bool.not_false, b_add_i, b_sub_i, b_lt_i, b_le_i, b_gt_i, b_ge_i, b_lt_s, b_eq_i, b_ne_i, b_eq_t0, b_eq_l0, b_ne_t0, b_ne_l0, b_in_1, b_nin_1, u_not, u_neg, bi_len_t, bi_len_l, bi_len_c, bi_tup_l, bi_tup_t, bi_lst_l, bi_lst_t, bi_int_i, bi_edict, bi_min_i, bi_all_map, bi_any_map, sq_l, sq_t, zp_t, zp_l, rv_t, rv_l, sl_t, sl_l, fit0, fit1, fit2, fit3, fit4, fit5, fit6, fit7, fit8, fit9, fit10, fit11, fit12, fit13, fit14, fit15, fit16, fit17, fit18, fit19, fit20, fit21, fit22, fit23, fit24, fit25, fit26, fit27, fit28, fit29, fit30, fit31, fit32, isin_str_non, isin_str_bl, isin_str_int, isin_str_str, isin_str_tup, isin_str_lst, isin_str_dct, isin_tuple_non, isin_tuple_bl, isin_tuple_int, isin_tuple_str, isin_tuple_tup, isin_tuple_lst, isin_tuple_dct, isin_int_non, isin_int_bl, isin_int_int, isin_int_str, isin_int_tup, isin_int_lst, isin_int_dct, isin_bool_non, isin_bool_bl, isin_bool_int, isin_bool_str, isin_bool_tup, isin_bool_lst, isin_bool_dct, isin_list_tuple_non, isin_list_tuple_bl, isin_list_tuple_int, isin_list_tuple_str, isin_list_tuple_tup, isin_list_tuple_lst, isin_list_tuple_dct, isin_tuple_list_non, isin_tuple_list_bl, isin_tuple_list_int, isin_tuple_list_str, isin_tuple_list_tup, isin_tuple_list_lst, isin_tuple_list_dct, isin_list_non, isin_list_bl, isin_list_int, isin_list_str, isin_list_tup, isin_list_lst, isin_list_dct, isin_dict_non, isin_dict_bl, isin_dict_int, isin_dict_str, isin_dict_tup, isin_dict_lst, isin_dict_dct, f_is_lot, ha]
  cases d <;> first
    | (simp only [M.ret_bind, M.bad_bind, M.bind_assoc, M.lift_some, M.lift_none, M.calm_ret, M.map_ret, M.exc_bind, SM.sb_exc, retM_xc, SM.sb_ret, SM.sb_bad, SM.sb_bind, SM.seq_nx, SM.seq_rt, SM.seq_ct, SM.seq_xc, SM.seq_bad, SM.seq_sb, SM.seq_seq, boolM_bl, bindM_some, bindS_some, iteM_t, iteM_f, brS_t, brS_f, ev_c, ev_v, ev_bin, ev_un, ev_chain, ev_and, ev_or, ev_ite, ev_tup, ev_lst, ev_call, ev_bi, ev_ix, ev_sl, ev_rev, ev_cmp', evs_nil, evs_star, ec_c, ec_v, ec_bin, ec_un, ec_chain, ec_and, ec_or, ec_ite, ec_tup, ec_lst, ec_call, ec_bi, ec_ix, ec_sl, ec_rev, ec_cmp, evO_none, evO_some, evT_none, evT_some, evI_rng, evI_rng2, evI_zip, evI_enm, evI_seq, ss_nil', ss_pass', ss_cont', ss_asg', ss_expr', ss_ite', ss_loop', ss_ret', ss_rais', ss_tr', slotM_sh, starM_lst, starM_tup, optI_int, loopM_nil, retM_rt, retM_nx, List.getElem?_cons_zero, List.getElem?_cons_succ, List.set_cons_zero, List.set_cons_succ, bindT, bindTs, wipeE, Tg.slots, Tg.slotss, startE, List.nil_append, List.cons_append, List.append_nil, List.map_cons, List.map_nil, List.length_cons, List.length_nil, List.replicate_succ, List.replicate_zero, Option.bind_some, Option.map_some, Nat.reduceAdd, Nat.reduceSub, Int.reduceEq, Int.reduceLT, Int.reduceLE, decide_true, decide_false, Bool.not_true, Bool.not_false, b_add_i, b_sub_i, b_lt_i, b_le_i, b_gt_i, b_ge_i, b_lt_s, b_eq_i, b_ne_i, b_eq_t0, b_eq_l0, b_ne_t0, b_ne_l0, b_in_1, b_nin_1, u_not, u_neg, bi_len_t, bi_len_l, bi_len_c, bi_tup_l, bi_tup_t, bi_lst_l, bi_lst_t, bi_int_i, bi_edict, bi_min_i, bi_all_map, bi_any_map, sq_l, sq_t, zp_t, zp_l, rv_t, rv_l, sl_t, sl_l, fit0, fit1, fit2, fit3, fit4, fit5, fit6, fit7, fit8, fit9, fit10, fit11, fit12, fit13, fit14, fit15, fit16, fit17, fit18, fit19, fit20, fit21, fit22, fit23, fit24, fit25, fit26, fit27, fit28, fit29, fit30, fit31, fit32, isin_str_non, isin_str_bl, isin_str_int, isin_str_str, isin_str_tup, isin_str_lst, isin_str_dct, isin_tuple_non, isin_tuple_bl, isin_tuple_int, isin_tuple_str, isin_tuple_tup, isin_tuple_lst, isin_tuple_dct, isin_int_non, isin_int_bl, isin_int_int, isin_int_str, isin_int_tup, isin_int_lst, isin_int_dct, isin_bool_non, isin_bool_bl, isin_bool_int, isin_bool_str, isin_bool_tup, isin_bool_lst, isin_bool_dct, isin_list_tuple_non, isin_list_tuple_bl, isin_list_tuple_int, isin_list_tuple_str, isin_list_tuple_tup, isin_list_tuple_lst, isin_list_tuple_dct, isin_tuple_list_non, isin_tuple_list_bl, isin_tuple_list_int, isin_tuple_list_str, isin_tuple_list_tup, isin_tuple_list_lst, isin_tuple_list_dct, isin_list_non, isin_list_bl, isin_list_int, isin_list_str, isin_list_tup, isin_list_lst, isin_list_dct, isin_dict_non, isin_dict_bl, isin_dict_int, isin_dict_str, isin_dict_tup, isin_dict_lst, isin_dict_dct, ascD, isLotD, Bool.false_and]; done)
    | (simp [D.good] at g; done)
    | skip
  rename_i xs
  simp only [isLotD]
  cases hx : ascD (.tup xs) with
  | false => simp only [M.ret_bind, M.bad_bind, M.bind_assoc, M.lift_some, M.lift_none, M.calm_ret, M.map_ret, M.exc_bind, SM.sb_exc, retM_xc, SM.sb_ret, SM.sb_bad, SM.sb_bind, SM.seq_nx, SM.seq_rt, SM.seq_ct, SM.seq_xc, SM.seq_bad, SM.seq_sb, SM.seq_seq, boolM_bl, bindM_some, bindS_some, iteM_t, iteM_f, brS_t, brS_f, ev_c, ev_v, ev_bin, ev_un, ev_chain, ev_and, ev_or, ev_ite, ev_tup, ev_lst, ev_call, ev_bi, ev_ix, ev_sl, ev_rev, ev_cmp', evs_nil, evs_star, ec_c, ec_v, ec_bin, ec_un, ec_chain, ec_and, ec_or, ec_ite, ec_tup, ec_lst, ec_call, ec_bi, ec_ix, ec_sl, ec_rev, ec_cmp, evO_none, evO_some, evT_none, evT_some, evI_rng, evI_rng2, evI_zip, evI_enm, evI_seq, ss_nil', ss_pass', ss_cont', ss_asg', ss_expr', ss_ite', ss_loop', ss_ret', ss_rais', ss_tr', slotM_sh, starM_lst, starM_tup, optI_int, loopM_nil, retM_rt, retM_nx, List.getElem?_cons_zero, List.getElem?_cons_succ, List.set_cons_zero, List.set_cons_succ, bindT, bindTs, wipeE, Tg.slots, Tg.slotss, startE, List.nil_append, List.cons_append, List.append_nil, List.map_cons, List.map_nil, List.length_cons, List.length_nil, List.replicate_succ, List.replicate_zero, Option.bind_some, Option.map_some, Nat.reduceAdd, Nat.reduceSub, Int.reduceEq, Int.reduceLT, Int.reduceLE, decide_true, decide_false, Bool.not_true, Bool.not_false, b_add_i, b_sub_i, b_lt_i, b_le_i, b_gt_i, b_ge_i, b_lt_s, b_eq_i, b_ne_i, b_eq_t0, b_eq_l0, b_ne_t0, b_ne_l0, b_in_1, b_nin_1, u_not, u_neg, bi_len_t, bi_len_l, bi_len_c, bi_tup_l, bi_tup_t, bi_lst_l, bi_lst_t, bi_int_i, bi_edict, bi_min_i, bi_all_map, bi_any_map, sq_l, sq_t, zp_t, zp_l, rv_t, rv_l, sl_t, sl_l, fit0, fit1, fit2, fit3, fit4, fit5, fit6, fit7, fit8, fit9, fit10, fit11, fit12, fit13, fit14, fit15, fit16, fit17, fit18, fit19, fit20, fit21, fit22, fit23, fit24, fit25, fit26, fit27, fit28, fit29, fit30, fit31, fit32, isin_str_non, isin_str_bl, isin_str_int, isin_str_str, isin_str_tup, isin_str_lst, isin_str_dct, isin_tuple_non, isin_tuple_bl, isin_tuple_int, isin_tuple_str, isin_tuple_tup, isin_tuple_lst, isin_tuple_dct, isin_int_non, isin_int_bl, isin_int_int, isin_int_str, isin_int_tup, isin_int_lst, isin_int_dct, isin_bool_non, isin_bool_bl, isin_bool_int, isin_bool_str, isin_bool_tup, isin_bool_lst, isin_bool_dct, isin_list_tuple_non, isin_list_tuple_bl, isin_list_tuple_int, isin_list_tuple_str, isin_list_tuple_tup, isin_list_tuple_lst, isin_list_tuple_dct, isin_tuple_list_non, isin_tuple_list_bl, isin_tuple_list_int, isin_tuple_list_str, isin_tuple_list_tup, isin_tuple_list_lst, isin_tuple_list_dct, isin_list_non, isin_list_bl, isin_list_int, isin_list_str, isin_list_tup, isin_list_lst, isin_list_dct, isin_dict_non, isin_dict_bl, isin_dict_int, isin_dict_str, isin_dict_tup, isin_dict_lst, isin_dict_dct, Bool.false_and]
  | true =>
    simp only [M.ret_bind, M.bad_bind, M.bind_assoc, M.lift_some, M.lift_none, M.calm_ret, M.map_ret, M.exc_bind, SM.sb_exc, retM_xc, SM.sb_ret, SM.sb_bad, SM.sb_bind, SM.seq_nx, SM.seq_rt, SM.seq_ct, SM.seq_xc, SM.seq_bad, SM.seq_sb, SM.seq_seq, boolM_bl, bindM_some, bindS_some, iteM_t, iteM_f, brS_t, brS_f, ev_c, ev_v, ev_bin, ev_un, ev_chain, ev_and, ev_or, ev_ite, ev_tup, ev_lst, ev_call, ev_bi, ev_ix, ev_sl, ev_rev, ev_cmp', evs_nil, evs_star, ec_c, ec_v, ec_bin, ec_un, ec_chain, ec_and, ec_or, ec_ite, ec_tup, ec_lst, ec_call, ec_bi, ec_ix, ec_sl, ec_rev, ec_cmp, evO_none, evO_some, evT_none, evT_some, evI_rng, evI_rng2, evI_zip, evI_enm, evI_seq, ss_nil', ss_pass', ss_cont', ss_asg', ss_expr', ss_ite', ss_loop', ss_ret', ss_rais', ss_tr', slotM_sh, starM_lst, starM_tup, optI_int, loopM_nil, retM_rt, retM_nx, List.getElem?_cons_zero, List.getElem?_cons_succ, List.set_cons_zero, List.set_cons_succ, bindT, bindTs, wipeE, Tg.slots, Tg.slotss, startE, List.nil_append, List.cons_append, List.append_nil, List.map_cons, List.map_nil, List.length_cons, List.length_nil, List.replicate_succ, List.replicate_zero, Option.bind_some, Option.map_some, Nat.reduceAdd, Nat.reduceSub, Int.reduceEq, Int.reduceLT, Int.reduceLE, decide_true, decide_false, Bool.not_true, Bool.not_false, b_add_i, b_sub_i, b_lt_i, b_le_i, b_gt_i, b_ge_i, b_lt_s, b_eq_i, b_ne_i, b_eq_t0, b_eq_l0, b_ne_t0, b_ne_l0, b_in_1, b_nin_1, u_not, u_neg, bi_len_t, bi_len_l, bi_len_c, bi_tup_l, bi_tup_t, bi_lst_l, bi_lst_t, bi_int_i, bi_edict, bi_min_i, bi_all_map, bi_any_map, sq_l, sq_t, zp_t, zp_l, rv_t, rv_l, sl_t, sl_l, fit0, fit1, fit2, fit3, fit4, fit5, fit6, fit7, fit8, fit9, fit10, fit11, fit12, fit13, fit14, fit15, fit16, fit17, fit18, fit19, fit20, fit21, fit22, fit23, fit24, fit25, fit26, fit27, fit28, fit29, fit30, fit31, fit32, isin_str_non, isin_str_bl, isin_str_int, isin_str_str, isin_str_tup, isin_str_lst, isin_str_dct, isin_tuple_non, isin_tuple_bl, isin_tuple_int, isin_tuple_str, isin_tuple_tup, isin_tuple_lst, isin_tuple_dct, isin_int_non, isin_int_bl, isin_int_int, isin_int_str, isin_int_tup, isin_int_lst, isin_int_dct, isin_bool_non, isin_bool_bl, isin_bool_int, isin_bool_str, isin_bool_tup, isin_bool_lst, isin_bool_dct, isin_list_tuple_non, isin_list_tuple_bl, isin_list_tuple_int, isin_list_tuple_str, isin_list_tuple_tup, isin_list_tuple_lst, isin_list_tuple_dct, isin_tuple_list_non, isin_tuple_list_bl, isin_tuple_list_int, isin_tuple_list_str, isin_tuple_list_tup, isin_tuple_list_lst, isin_tuple_list_dct, isin_list_non, isin_list_bl, isin_list_int, isin_list_str, isin_list_tup, isin_list_lst, isin_list_dct, isin_dict_non, isin_dict_bl, isin_dict_int, isin_dict_str, isin_dict_tup, isin_dict_lst, isin_dict_dct, Bool.true_and]
    have gx := good_tup.mp g
    simp only [ascD] at hx
    cases q : asStrs xs with
    | none => rw [q] at hx; cases hx
    | some ss =>
      obtain rfl := asStrs_eq q
      rw [cmpM_map ss D.str (fun x => .bl (decide (x ∈ ts))) (fun x hx => ?_) (by have := gx.1; simp only [List.length_map] at this; exact lim_of this)]
      · simp only [M.ret_bind, M.bad_bind, M.bind_assoc, M.lift_some, M.lift_none, M.calm_ret, M.map_ret, M.exc_bind, SM.sb_exc, retM_xc, SM.sb_ret, SM.sb_bad, SM.sb_bind, SM.seq_nx, SM.seq_rt, SM.seq_ct, SM.seq_xc, SM.seq_bad, SM.seq_sb, SM.seq_seq, boolM_bl, bindM_some, bindS_some, iteM_t, iteM_f, brS_t, brS_f, ev_c, ev_v, ev_bin, ev_un, ev_chain, ev_and, ev_or, ev_ite, ev_tup, ev_lst, ev_call, ev_bi, ev_ix, ev_sl, ev_rev, ev_cmp', evs_nil, evs_star, ec_c, ec_v, ec_bin, ec_un, ec_chain, ec_and, ec_or, ec_ite, ec_tup, ec_lst, ec_call, ec_bi, ec_ix, ec_sl, ec_rev, ec_cmp, evO_none, evO_some, evT_none, evT_some, evI_rng, evI_rng2, evI_zip, evI_enm, evI_seq, ss_nil', ss_pass', ss_cont', ss_asg', ss_expr', ss_ite', ss_loop', ss_ret', ss_rais', ss_tr', slotM_sh, starM_lst, starM_tup, optI_int, loopM_nil, retM_rt, retM_nx, List.getElem?_cons_zero, List.getElem?_cons_succ, List.set_cons_zero, List.set_cons_succ, bindT, bindTs, wipeE, Tg.slots, Tg.slotss, startE, List.nil_append, List.cons_append, List.append_nil, List.map_cons, List.map_nil, List.length_cons, List.length_nil, List.replicate_succ, List.replicate_zero, Option.bind_some, Option.map_some, Nat.reduceAdd, Nat.reduceSub, Int.reduceEq, Int.reduceLT, Int.reduceLE, decide_true, decide_false, Bool.not_true, Bool.not_false, b_add_i, b_sub_i, b_lt_i, b_le_i, b_gt_i, b_ge_i, b_lt_s, b_eq_i, b_ne_i, b_eq_t0, b_eq_l0, b_ne_t0, b_ne_l0, b_in_1, b_nin_1, u_not, u_neg, bi_len_t, bi_len_l, bi_len_c, bi_tup_l, bi_tup_t, bi_lst_l, bi_lst_t, bi_int_i, bi_edict, bi_min_i, bi_all_map, bi_any_map, sq_l, sq_t, zp_t, zp_l, rv_t, rv_l, sl_t, sl_l, fit0, fit1, fit2, fit3, fit4, fit5, fit6, fit7, fit8, fit9, fit10, fit11, fit12, fit13, fit14, fit15, fit16, fit17, fit18, fit19, fit20, fit21, fit22, fit23, fit24, fit25, fit26, fit27, fit28, fit29, fit30, fit31, fit32, isin_str_non, isin_str_bl, isin_str_int, isin_str_str, isin_str_tup, isin_str_lst, isin_str_dct, isin_tuple_non, isin_tuple_bl, isin_tuple_int, isin_tuple_str, isin_tuple_tup, isin_tuple_lst, isin_tuple_dct, isin_int_non, isin_int_bl, isin_int_int, isin_int_str, isin_int_tup, isin_int_lst, isin_int_dct, isin_bool_non, isin_bool_bl, isin_bool_int, isin_bool_str, isin_bool_tup, isin_bool_lst, isin_bool_dct, isin_list_tuple_non, isin_list_tuple_bl, isin_list_tuple_int, isin_list_tuple_str, isin_list_tuple_tup, isin_list_tuple_lst, isin_list_tuple_dct, isin_tuple_list_non, isin_tuple_list_bl, isin_tuple_list_int, isin_tuple_list_str, isin_tuple_list_tup, isin_tuple_list_lst, isin_tuple_list_dct, isin_list_non, isin_list_bl, isin_list_int, isin_list_str, isin_list_tup, isin_list_lst, isin_list_dct, isin_dict_non, isin_dict_bl, isin_dict_int, isin_dict_str, isin_dict_tup, isin_dict_lst, isin_dict_dct]
      · rw [b_in_strs (good_str.mp (gx.2 (.str x) (List.mem_map.mpr ⟨x, hx, rfl⟩))).2 ht]
        rfl
/-- all lots, as the program lists them -/
def lotStep (x : Str) (f : List (List Str)) : List (List Str) := [] :: (f.map (x :: ·) ++ f.drop 1)
def lotsS : List Str → List (List Str)
  | [] => [[]]
  | x :: r => lotStep x (lotsS r)
theorem lotsS_fold (ts : List Str) : ts.reverse.foldl (fun s a => lotStep a s) [[]] = lotsS ts := by
  rw [List.foldl_reverse]
  induction ts with
  | nil => rfl
  | cons x r ih => rw [List.foldr_cons, ih]; rfl
theorem lotStep_len (x : Str) (f : List (List Str)) : (lotStep x f).length ≤ 2 * f.length + 1 := by
  unfold lotStep
  simp only [List.length_cons, List.length_append, List.length_map, List.length_drop]
  omega
theorem lotsS_len : ∀ ts : List Str, (lotsS ts).length + 1 ≤ 2 ^ (ts.length + 1)
  | [] => by simp [lotsS]
  | x :: r => by
    have h1 := lotStep_len x (lotsS r)
    have h2 := lotsS_len r
    simp only [lotsS, List.length_cons]
    rw [Nat.pow_succ]
    omega
theorem w_all_lots (h : Has P "all_lots" f_all_lots) {ts : List Str} (ht : ts.length ≤ 9) : runF P pr up (k + 1) "all_lots" [.tup (ts.map D.str)] = M.ret (.tup ((lotsS ts).map tupS)) := by
  rw [run_def h rfl (by decide)]
  simp only [M.ret_bind, M.bad_bind, M.bind_assoc, M.lift_some, M.lift_none, M.calm_ret, M.map_ret, M.exc_bind, SM.sb_exc, retM_xc, SM.sb_ret, SM.sb_bad, SM.sb_bind, SM.seq_nx, SM.seq_rt, SM.seq_ct, SM.seq_xc, SM.seq_bad, SM.seq_sb, SM.seq_seq, boolM_bl, bindM_some, bindS_some, iteM_t, iteM_f, brS_t, brS_f, ev_c, ev_v, ev_bin, ev_un, ev_chain, ev_and, ev_or, ev_ite, ev_tup, ev_lst, ev_call, ev_bi, ev_ix, ev_sl, ev_rev, ev_cmp', evs_nil, evs_star, ec_c, ec_v, ec_bin, ec_un, ec_chain, ec_and, ec_or, ec_ite, ec_tup, ec_lst, ec_call, ec_bi, ec_ix, ec_sl, ec_rev, ec_cmp, evO_none, evO_some, evT_none, evT_some, evI_rng, evI_rng2, evI_zip, evI_enm, evI_seq, ss_nil', ss_pass', ss_cont', ss_asg', ss_expr', ss_ite', ss_loop', ss_ret', ss_rais', ss_tr', slotM_sh, starM_lst, starM_tup, optI_int, loopM_nil, retM_rt, retM_nx, List.getElem?_cons_zero, List.getElem?_cons_succ, List.set_cons_zero, List.set_cons_succ, bindT, bindTs, wipeE, Tg.slots, Tg.slotss, startE, List.nil_append, List.cons_append, List.append_nil, List.map_cons, List.map_nil, List.length_cons, List.length_nil, List.replicate_succ, List.replicate_zero, Option.bind_some, Option.map_some, Nat.reduceAdd, Nat.reduceSub, Int.reduceEq, Int.reduceLT, Int.reduceLE, decide_true, decide_false, Bool.not_true, Bool.not_false, b_add_i, b_sub_i, b_lt_i, b_le_i, b_gt_i, b_ge_i, b_lt_s, b_eq_i, b_ne_i, b_eq_t0, b_eq_l0, b_ne_t0, b_ne_l0, b_in_1, b_nin_1, u_not, u_neg, bi_len_t, bi_len_l, bi_len_c, bi_tup_l, bi_tup_t, bi_lst_l, bi_lst_t, bi_int_i, bi_edict, bi_min_i, bi_all_map, bi_any_map, sq_l, sq_t, zp_t, zp_l, rv_t, rv_l, sl_t, sl_l, fit0, fit1, fit2, fit3, fit4, fit5, fit6, fit7, fit8, fit9, fit10, fit11, fit12, fit13, fit14, fit15, fit16, fit17, fit18, fit19, fit20, fit21, fit22, fit23, fit24, fit25, fit26, fit27, fit28, fit29, fit30, fit31, fit32, isin_str_non, isin_str_bl, isin_str_int, isin_str_str, isin_str_tup, isin_str_lst, isin_str_dct, isin_tuple_non, isin_tuple_bl, isin_tuple_int, isin_tuple_str, isin_tuple_tup, isin_tuple_lst, isin_tuple_dct, isin_int_non, isin_int_bl, isin_int_int, isin_int_str, isin_int_tup, isin_int_lst, isin_int_dct, isin_bool_non, isin_bool_bl, isin_bool_int, isin_bool_str, isin_bool_tup, isin_bool_lst, isin_bool_dct, isin_list_tuple_non, isin_list_tuple_bl, isin_list_tuple_int, isin_list_tuple_str, isin_list_tuple_tup, isin_list_tuple_lst, isin_list_tuple_dct, isin_tuple_list_non, isin_tuple_list_bl, isin_tuple_list_int, isin_tuple_list_str, isin_tuple_list_tup, isin_tuple_list_lst, isin_tuple_list_dct, isin_list_non, isin_list_bl, isin_list_int, isin_list_str, isin_list_tup, isin_list_lst, isin_list_dct, isin_dict_non, isin_dict_bl, isin_dict_int, isin_dict_str, isin_dict_tup, isin_dict_lst, isin_dict_dct, f_all_lots, fitM_ok (show ([] : List D).length ≤ LIM by decide), fitM_ok (show ([D.tup []] : List D).length ≤ LIM by decide)]
  have hf := loop_fold (α := Str) (σ := List (List Str)) (J := Slot) (fun f j => [.sh (.tup (ts.map D.str)), .sh (.lst (f.map tupS)), j, .no]) lotStep (fun r f => r.length ≤ 9 ∧ f.length + 1 ≤ 2 ^ (10 - r.length) ∧ ∀ l ∈ f, l.length ≤ 9 - r.length) (tg := .v 2)
    (f := fun e => exSs (runF P pr up k) up [Sm.asg (Tg.v 1) (Ex.lst [Ex.tup [], ((Ex.tup [Ex.v 2, (Ex.v 3).star]).cmp (Tg.v 3) (It.seq (Ex.v 1)) none).star, ((Ex.v 1).sl (some (Ex.c (D.int 1))) none).star])] e) (h := D.str) ?_ ts.reverse [[]] .no ?_
  · obtain ⟨_, j', e⟩ := hf
    rw [lotsS_fold] at e
    rw [← List.map_reverse]
    have e0 : (D.tup [] :: List.map tupS []) = List.map tupS [[]] := rfl
    refine Eq.trans (congrArg retM (congrArg (fun z => SM.seq z _) e)) ?_
    simp only [M.ret_bind, M.bad_bind, M.bind_assoc, M.lift_some, M.lift_none, M.calm_ret, M.map_ret, M.exc_bind, SM.sb_exc, retM_xc, SM.sb_ret, SM.sb_bad, SM.sb_bind, SM.seq_nx, SM.seq_rt, SM.seq_ct, SM.seq_xc, SM.seq_bad, SM.seq_sb, SM.seq_seq, boolM_bl, bindM_some, bindS_some, iteM_t, iteM_f, brS_t, brS_f, ev_c, ev_v, ev_bin, ev_un, ev_chain, ev_and, ev_or, ev_ite, ev_tup, ev_lst, ev_call, ev_bi, ev_ix, ev_sl, ev_rev, ev_cmp', evs_nil, evs_star, ec_c, ec_v, ec_bin, ec_un, ec_chain, ec_and, ec_or, ec_ite, ec_tup, ec_lst, ec_call, ec_bi, ec_ix, ec_sl, ec_rev, ec_cmp, evO_none, evO_some, evT_none, evT_some, evI_rng, evI_rng2, evI_zip, evI_enm, evI_seq, ss_nil', ss_pass', ss_cont', ss_asg', ss_expr', ss_ite', ss_loop', ss_ret', ss_rais', ss_tr', slotM_sh, starM_lst, starM_tup, optI_int, loopM_nil, retM_rt, retM_nx, List.getElem?_cons_zero, List.getElem?_cons_succ, List.set_cons_zero, List.set_cons_succ, bindT, bindTs, wipeE, Tg.slots, Tg.slotss, startE, List.nil_append, List.cons_append, List.append_nil, List.map_cons, List.map_nil, List.length_cons, List.length_nil, List.replicate_succ, List.replicate_zero, Option.bind_some, Option.map_some, Nat.reduceAdd, Nat.reduceSub, Int.reduceEq, Int.reduceLT, Int.reduceLE, decide_true, decide_false, Bool.not_true, Bool.not_false, b_add_i, b_sub_i, b_lt_i, b_le_i, b_gt_i, b_ge_i, b_lt_s, b_eq_i, b_ne_i, b_eq_t0, b_eq_l0, b_ne_t0, b_ne_l0, b_in_1, b_nin_1, u_not, u_neg, bi_len_t, bi_len_l, bi_len_c, bi_tup_l, bi_tup_t, bi_lst_l, bi_lst_t, bi_int_i, bi_edict, bi_min_i, bi_all_map, bi_any_map, sq_l, sq_t, zp_t, zp_l, rv_t, rv_l, sl_t, sl_l, fit0, fit1, fit2, fit3, fit4, fit5, fit6, fit7, fit8, fit9, fit10, fit11, fit12, fit13, fit14, fit15, fit16, fit17, fit18, fit19, fit20, fit21, fit22, fit23, fit24, fit25, fit26, fit27, fit28, fit29, fit30, fit31, fit32, isin_str_non, isin_str_bl, isin_str_int, isin_str_str, isin_str_tup, isin_str_lst, isin_str_dct, isin_tuple_non, isin_tuple_bl, isin_tuple_int, isin_tuple_str, isin_tuple_tup, isin_tuple_lst, isin_tuple_dct, isin_int_non, isin_int_bl, isin_int_int, isin_int_str, isin_int_tup, isin_int_lst, isin_int_dct, isin_bool_non, isin_bool_bl, isin_bool_int, isin_bool_str, isin_bool_tup, isin_bool_lst, isin_bool_dct, isin_list_tuple_non, isin_list_tuple_bl, isin_list_tuple_int, isin_list_tuple_str, isin_list_tuple_tup, isin_list_tuple_lst, isin_list_tuple_dct, isin_tuple_list_non, isin_tuple_list_bl, isin_tuple_list_int, isin_tuple_list_str, isin_tuple_list_tup, isin_tuple_list_lst, isin_tuple_list_dct, isin_list_non, isin_list_bl, isin_list_int, isin_list_str, isin_list_tup, isin_list_lst, isin_list_dct, isin_dict_non, isin_dict_bl, isin_dict_int, isin_dict_str, isin_dict_tup, isin_dict_lst, isin_dict_dct]
  · intro x r f j ⟨i1, i2, i3⟩
    have i1 : r.length + 1 ≤ 9 := i1
    have i2 : f.length + 1 ≤ 2 ^ (10 - (r.length + 1)) := i2
    have i3 : ∀ l ∈ f, l.length ≤ 9 - (r.length + 1) := i3
    have p1 : 2 ^ (10 - r.length) = 2 * 2 ^ (10 - (r.length + 1)) := by
      rw [show 10 - r.length = (10 - (r.length + 1)) + 1 by omega, Nat.pow_succ]; omega
    have p2 : 2 ^ (10 - (r.length + 1)) ≤ 2 ^ 9 := Nat.pow_le_pow_right (by decide) (by omega)
    have hl := lotStep_len x f
    refine ⟨⟨by omega, by omega, fun l hl => ?_⟩, _, .sh (.str x), by simp only [M.ret_bind, M.bad_bind, M.bind_assoc, M.lift_some, M.lift_none, M.calm_ret, M.map_ret, M.exc_bind, SM.sb_exc, retM_xc, SM.sb_ret, SM.sb_bad, SM.sb_bind, SM.seq_nx, SM.seq_rt, SM.seq_ct, SM.seq_xc, SM.seq_bad, SM.seq_sb, SM.seq_seq, boolM_bl, bindM_some, bindS_some, iteM_t, iteM_f, brS_t, brS_f, ev_c, ev_v, ev_bin, ev_un, ev_chain, ev_and, ev_or, ev_ite, ev_tup, ev_lst, ev_call, ev_bi, ev_ix, ev_sl, ev_rev, ev_cmp', evs_nil, evs_star, ec_c, ec_v, ec_bin, ec_un, ec_chain, ec_and, ec_or, ec_ite, ec_tup, ec_lst, ec_call, ec_bi, ec_ix, ec_sl, ec_rev, ec_cmp, evO_none, evO_some, evT_none, evT_some, evI_rng, evI_rng2, evI_zip, evI_enm, evI_seq, ss_nil', ss_pass', ss_cont', ss_asg', ss_expr', ss_ite', ss_loop', ss_ret', ss_rais', ss_tr', slotM_sh, starM_lst, starM_tup, optI_int, loopM_nil, retM_rt, retM_nx, List.getElem?_cons_zero, List.getElem?_cons_succ, List.set_cons_zero, List.set_cons_succ, bindT, bindTs, wipeE, Tg.slots, Tg.slotss, startE, List.nil_append, List.cons_append, List.append_nil, List.map_cons, List.map_nil, List.length_cons, List.length_nil, List.replicate_succ, List.replicate_zero, Option.bind_some, Option.map_some, Nat.reduceAdd, Nat.reduceSub, Int.reduceEq, Int.reduceLT, Int.reduceLE, decide_true, decide_false, Bool.not_true, Bool.not_false]; rfl, ?_⟩
    · unfold lotStep at hl
      rcases List.mem_cons.mp hl with rfl | hl
      · simp
      · rcases List.mem_append.mp hl with hl | hl
        · obtain ⟨l', h', rfl⟩ := List.mem_map.mp hl
          have := i3 l' h'
          simp only [List.length_cons]
          omega
        · have := i3 l (List.mem_of_mem_drop hl)
          omega
    · simp only [M.ret_bind, M.bad_bind, M.bind_assoc, M.lift_some, M.lift_none, M.calm_ret, M.map_ret, M.exc_bind, SM.sb_exc, retM_xc, SM.sb_ret, SM.sb_bad, SM.sb_bind, SM.seq_nx, SM.seq_rt, SM.seq_ct, SM.seq_xc, SM.seq_bad, SM.seq_sb, SM.seq_seq, boolM_bl, bindM_some, bindS_some, iteM_t, iteM_f, brS_t, brS_f, ev_c, ev_v, ev_bin, ev_un, ev_chain, ev_and, ev_or, ev_ite, ev_tup, ev_lst, ev_call, ev_bi, ev_ix, ev_sl, ev_rev, ev_cmp', evs_nil, evs_star, ec_c, ec_v, ec_bin, ec_un, ec_chain, ec_and, ec_or, ec_ite, ec_tup, ec_lst, ec_call, ec_bi, ec_ix, ec_sl, ec_rev, ec_cmp, evO_none, evO_some, evT_none, evT_some, evI_rng, evI_rng2, evI_zip, evI_enm, evI_seq, ss_nil', ss_pass', ss_cont', ss_asg', ss_expr', ss_ite', ss_loop', ss_ret', ss_rais', ss_tr', slotM_sh, starM_lst, starM_tup, optI_int, loopM_nil, retM_rt, retM_nx, List.getElem?_cons_zero, List.getElem?_cons_succ, List.set_cons_zero, List.set_cons_succ, bindT, bindTs, wipeE, Tg.slots, Tg.slotss, startE, List.nil_append, List.cons_append, List.append_nil, List.map_cons, List.map_nil, List.length_cons, List.length_nil, List.replicate_succ, List.replicate_zero, Option.bind_some, Option.map_some, Nat.reduceAdd, Nat.reduceSub, Int.reduceEq, Int.reduceLT, Int.reduceLE, decide_true, decide_false, Bool.not_true, Bool.not_false, b_add_i, b_sub_i, b_lt_i, b_le_i, b_gt_i, b_ge_i, b_lt_s, b_eq_i, b_ne_i, b_eq_t0, b_eq_l0, b_ne_t0, b_ne_l0, b_in_1, b_nin_1, u_not, u_neg, bi_len_t, bi_len_l, bi_len_c, bi_tup_l, bi_tup_t, bi_lst_l, bi_lst_t, bi_int_i, bi_edict, bi_min_i, bi_all_map, bi_any_map, sq_l, sq_t, zp_t, zp_l, rv_t, rv_l, sl_t, sl_l, fit0, fit1, fit2, fit3, fit4, fit5, fit6, fit7, fit8, fit9, fit10, fit11, fit12, fit13, fit14, fit15, fit16, fit17, fit18, fit19, fit20, fit21, fit22, fit23, fit24, fit25, fit26, fit27, fit28, fit29, fit30, fit31, fit32, isin_str_non, isin_str_bl, isin_str_int, isin_str_str, isin_str_tup, isin_str_lst, isin_str_dct, isin_tuple_non, isin_tuple_bl, isin_tuple_int, isin_tuple_str, isin_tuple_tup, isin_tuple_lst, isin_tuple_dct, isin_int_non, isin_int_bl, isin_int_int, isin_int_str, isin_int_tup, isin_int_lst, isin_int_dct, isin_bool_non, isin_bool_bl, isin_bool_int, isin_bool_str, isin_bool_tup, isin_bool_lst, isin_bool_dct, isin_list_tuple_non, isin_list_tuple_bl, isin_list_tuple_int, isin_list_tuple_str, isin_list_tuple_tup, isin_list_tuple_lst, isin_list_tuple_dct, isin_tuple_list_non, isin_tuple_list_bl, isin_tuple_list_int, isin_tuple_list_str, isin_tuple_list_tup, isin_tuple_list_lst, isin_tuple_list_dct, isin_list_non, isin_list_bl, isin_list_int, isin_list_str, isin_list_tup, isin_list_lst, isin_list_dct, isin_dict_non, isin_dict_bl, isin_dict_int, isin_dict_str, isin_dict_tup, isin_dict_lst, isin_dict_dct]
      rw [cmpM_map f tupS (fun l => tupS (x :: l)) (fun l hl => ?_) (by unfold LIM; omega)]
      · simp only [M.ret_bind, M.bad_bind, M.bind_assoc, M.lift_some, M.lift_none, M.calm_ret, M.map_ret, M.exc_bind, SM.sb_exc, retM_xc, SM.sb_ret, SM.sb_bad, SM.sb_bind, SM.seq_nx, SM.seq_rt, SM.seq_ct, SM.seq_xc, SM.seq_bad, SM.seq_sb, SM.seq_seq, boolM_bl, bindM_some, bindS_some, iteM_t, iteM_f, brS_t, brS_f, ev_c, ev_v, ev_bin, ev_un, ev_chain, ev_and, ev_or, ev_ite, ev_tup, ev_lst, ev_call, ev_bi, ev_ix, ev_sl, ev_rev, ev_cmp', evs_nil, evs_star, ec_c, ec_v, ec_bin, ec_un, ec_chain, ec_and, ec_or, ec_ite, ec_tup, ec_lst, ec_call, ec_bi, ec_ix, ec_sl, ec_rev, ec_cmp, evO_none, evO_some, evT_none, evT_some, evI_rng, evI_rng2, evI_zip, evI_enm, evI_seq, ss_nil', ss_pass', ss_cont', ss_asg', ss_expr', ss_ite', ss_loop', ss_ret', ss_rais', ss_tr', slotM_sh, starM_lst, starM_tup, optI_int, loopM_nil, retM_rt, retM_nx, List.getElem?_cons_zero, List.getElem?_cons_succ, List.set_cons_zero, List.set_cons_succ, bindT, bindTs, wipeE, Tg.slots, Tg.slotss, startE, List.nil_append, List.cons_append, List.append_nil, List.map_cons, List.map_nil, List.length_cons, List.length_nil, List.replicate_succ, List.replicate_zero, Option.bind_some, Option.map_some, Nat.reduceAdd, Nat.reduceSub, Int.reduceEq, Int.reduceLT, Int.reduceLE, decide_true, decide_false, Bool.not_true, Bool.not_false, b_add_i, b_sub_i, b_lt_i, b_le_i, b_gt_i, b_ge_i, b_lt_s, b_eq_i, b_ne_i, b_eq_t0, b_eq_l0, b_ne_t0, b_ne_l0, b_in_1, b_nin_1, u_not, u_neg, bi_len_t, bi_len_l, bi_len_c, bi_tup_l, bi_tup_t, bi_lst_l, bi_lst_t, bi_int_i, bi_edict, bi_min_i, bi_all_map, bi_any_map, sq_l, sq_t, zp_t, zp_l, rv_t, rv_l, sl_t, sl_l, fit0, fit1, fit2, fit3, fit4, fit5, fit6, fit7, fit8, fit9, fit10, fit11, fit12, fit13, fit14, fit15, fit16, fit17, fit18, fit19, fit20, fit21, fit22, fit23, fit24, fit25, fit26, fit27, fit28, fit29, fit30, fit31, fit32, isin_str_non, isin_str_bl, isin_str_int, isin_str_str, isin_str_tup, isin_str_lst, isin_str_dct, isin_tuple_non, isin_tuple_bl, isin_tuple_int, isin_tuple_str, isin_tuple_tup, isin_tuple_lst, isin_tuple_dct, isin_int_non, isin_int_bl, isin_int_int, isin_int_str, isin_int_tup, isin_int_lst, isin_int_dct, isin_bool_non, isin_bool_bl, isin_bool_int, isin_bool_str, isin_bool_tup, isin_bool_lst, isin_bool_dct, isin_list_tuple_non, isin_list_tuple_bl, isin_list_tuple_int, isin_list_tuple_str, isin_list_tuple_tup, isin_list_tuple_lst, isin_list_tuple_dct, isin_tuple_list_non, isin_tuple_list_bl, isin_tuple_list_int, isin_tuple_list_str, isin_tuple_list_tup, isin_tuple_list_lst, isin_tuple_list_dct, isin_list_non, isin_list_bl, isin_list_int, isin_list_str, isin_list_tup, isin_list_lst, isin_list_dct, isin_dict_non, isin_dict_bl, isin_dict_int, isin_dict_str, isin_dict_tup, isin_dict_lst, isin_dict_dct, fitM_ok (show ([] : List D).length ≤ LIM by decide), cut_from _ (show (0 : Int) ≤ 1 by decide)]
        rw [fitM_ok]
        · simp only [M.ret_bind, M.bad_bind, M.bind_assoc, M.lift_some, M.lift_none, M.calm_ret, M.map_ret, M.exc_bind, SM.sb_exc, retM_xc, SM.sb_ret, SM.sb_bad, SM.sb_bind, SM.seq_nx, SM.seq_rt, SM.seq_ct, SM.seq_xc, SM.seq_bad, SM.seq_sb, SM.seq_seq, boolM_bl, bindM_some, bindS_some, iteM_t, iteM_f, brS_t, brS_f, ev_c, ev_v, ev_bin, ev_un, ev_chain, ev_and, ev_or, ev_ite, ev_tup, ev_lst, ev_call, ev_bi, ev_ix, ev_sl, ev_rev, ev_cmp', evs_nil, evs_star, ec_c, ec_v, ec_bin, ec_un, ec_chain, ec_and, ec_or, ec_ite, ec_tup, ec_lst, ec_call, ec_bi, ec_ix, ec_sl, ec_rev, ec_cmp, evO_none, evO_some, evT_none, evT_some, evI_rng, evI_rng2, evI_zip, evI_enm, evI_seq, ss_nil', ss_pass', ss_cont', ss_asg', ss_expr', ss_ite', ss_loop', ss_ret', ss_rais', ss_tr', slotM_sh, starM_lst, starM_tup, optI_int, loopM_nil, retM_rt, retM_nx, List.getElem?_cons_zero, List.getElem?_cons_succ, List.set_cons_zero, List.set_cons_succ, bindT, bindTs, wipeE, Tg.slots, Tg.slotss, startE, List.nil_append, List.cons_append, List.append_nil, List.map_cons, List.map_nil, List.length_cons, List.length_nil, List.replicate_succ, List.replicate_zero, Option.bind_some, Option.map_some, Nat.reduceAdd, Nat.reduceSub, Int.reduceEq, Int.reduceLT, Int.reduceLE, decide_true, decide_false, Bool.not_true, Bool.not_false, lotStep, List.map_append, List.map_map, List.map_drop]
          rfl
        · have e1 := lotStep_len x f
          simp only [List.length_cons, List.length_append, List.length_map, List.length_drop]
          unfold LIM
          omega
      · have := i3 l hl
        unfold tupS
        simp only [M.ret_bind, M.bad_bind, M.bind_assoc, M.lift_some, M.lift_none, M.calm_ret, M.map_ret, M.exc_bind, SM.sb_exc, retM_xc, SM.sb_ret, SM.sb_bad, SM.sb_bind, SM.seq_nx, SM.seq_rt, SM.seq_ct, SM.seq_xc, SM.seq_bad, SM.seq_sb, SM.seq_seq, boolM_bl, bindM_some, bindS_some, iteM_t, iteM_f, brS_t, brS_f, ev_c, ev_v, ev_bin, ev_un, ev_chain, ev_and, ev_or, ev_ite, ev_tup, ev_lst, ev_call, ev_bi, ev_ix, ev_sl, ev_rev, ev_cmp', evs_nil, evs_star, ec_c, ec_v, ec_bin, ec_un, ec_chain, ec_and, ec_or, ec_ite, ec_tup, ec_lst, ec_call, ec_bi, ec_ix, ec_sl, ec_rev, ec_cmp, evO_none, evO_some, evT_none, evT_some, evI_rng, evI_rng2, evI_zip, evI_enm, evI_seq, ss_nil', ss_pass', ss_cont', ss_asg', ss_expr', ss_ite', ss_loop', ss_ret', ss_rais', ss_tr', slotM_sh, starM_lst, starM_tup, optI_int, loopM_nil, retM_rt, retM_nx, List.getElem?_cons_zero, List.getElem?_cons_succ, List.set_cons_zero, List.set_cons_succ, bindT, bindTs, wipeE, Tg.slots, Tg.slotss, startE, List.nil_append, List.cons_append, List.append_nil, List.map_cons, List.map_nil, List.length_cons, List.length_nil, List.replicate_succ, List.replicate_zero, Option.bind_some, Option.map_some, Nat.reduceAdd, Nat.reduceSub, Int.reduceEq, Int.reduceLT, Int.reduceLE, decide_true, decide_false, Bool.not_true, Bool.not_false]
        rw [fitM_ok]
        · simp only [M.ret_bind, M.bad_bind, M.bind_assoc, M.lift_some, M.lift_none, M.calm_ret, M.map_ret, M.exc_bind, SM.sb_exc, retM_xc, SM.sb_ret, SM.sb_bad, SM.sb_bind, SM.seq_nx, SM.seq_rt, SM.seq_ct, SM.seq_xc, SM.seq_bad, SM.seq_sb, SM.seq_seq, boolM_bl, bindM_some, bindS_some, iteM_t, iteM_f, brS_t, brS_f, ev_c, ev_v, ev_bin, ev_un, ev_chain, ev_and, ev_or, ev_ite, ev_tup, ev_lst, ev_call, ev_bi, ev_ix, ev_sl, ev_rev, ev_cmp', evs_nil, evs_star, ec_c, ec_v, ec_bin, ec_un, ec_chain, ec_and, ec_or, ec_ite, ec_tup, ec_lst, ec_call, ec_bi, ec_ix, ec_sl, ec_rev, ec_cmp, evO_none, evO_some, evT_none, evT_some, evI_rng, evI_rng2, evI_zip, evI_enm, evI_seq, ss_nil', ss_pass', ss_cont', ss_asg', ss_expr', ss_ite', ss_loop', ss_ret', ss_rais', ss_tr', slotM_sh, starM_lst, starM_tup, optI_int, loopM_nil, retM_rt, retM_nx, List.getElem?_cons_zero, List.getElem?_cons_succ, List.set_cons_zero, List.set_cons_succ, bindT, bindTs, wipeE, Tg.slots, Tg.slotss, startE, List.nil_append, List.cons_append, List.append_nil, List.map_cons, List.map_nil, List.length_cons, List.length_nil, List.replicate_succ, List.replicate_zero, Option.bind_some, Option.map_some, Nat.reduceAdd, Nat.reduceSub, Int.reduceEq, Int.reduceLT, Int.reduceLE, decide_true, decide_false, Bool.not_true, Bool.not_false]
        · simp only [List.length_cons, List.length_map]
          unfold LIM
          omega
  · refine ⟨by simpa using ht, ?_, ?_⟩
    · simp only [List.length_cons, List.length_nil]
      exact Nat.pow_le_pow_right (show 2 > 0 by decide) (show 1 ≤ 10 - ts.reverse.length by simp; omega)
    · simp
end
end Ev
set_option Elab.async false
set_option linter.all false
set_option maxRecDepth 100000
set_option maxHeartbeats 1000000
/-! Pl4: lots in their order. -/
namespace Ev
open PySem
open PySem.W (dataLt keyToksAll)
open PyProof.Rows (itemOrd)
def keyL (a : List Str) : List (List Nat) := a.map fun x => x.cps.toList
theorem keyL_cons (x : Str) (a : List Str) : keyL (x :: a) = x.cps.toList :: keyL a := rfl
theorem keyL_inj : ∀ {a b : List Str}, keyL a = keyL b → a = b
  | [], [], _ => rfl
  | [], _ :: _, h => by simp [keyL] at h
  | _ :: _, [], h => by simp [keyL] at h
  | x :: a, y :: b, h => by
    simp only [keyL, List.map_cons, List.cons.injEq] at h
    rw [PySem.W.str_of_cps h.1, keyL_inj (a := a) (b := b) h.2]
theorem pys_strs : ∀ a : List Str, D.pys (a.map D.str) = a.map PyData.str
  | [] => rfl
  | x :: a => by simp [D.pys, D.py, pys_strs a]
theorem lt_strs : ∀ a b : List Str, PyProof.Rows.lexLt itemOrd (keyToksAll (a.map PyData.str)) (keyToksAll (b.map PyData.str)) = decide (keyL a < keyL b)
  | [], [] => by
    have e := PyProof.Rows.lex_irrefl (O := itemOrd) (keyToksAll [])
    simp only [List.map_nil]
    rw [e]
    simp [keyL]
  | [], y :: b => by
    simp only [List.map_nil, List.map_cons]
    rw [PySem.W.toks_all_cons]
    simp only [keyToksAll]
    rw [PyProof.Rows.lex_diff (O := itemOrd) (by simp)]
    simp [keyL]
    rfl
  | x :: a, [] => by
    simp only [List.map_nil, List.map_cons]
    rw [PySem.W.toks_all_cons]
    simp only [keyToksAll]
    rw [PyProof.Rows.lex_diff (O := itemOrd) (by simp)]
    simp [keyL]
    rfl
  | x :: a, y :: b => by
    simp only [List.map_cons]
    rw [PySem.W.dataLt_cons (by simp [PySem.W.alike]), PySem.W.dataLt_str, lt_strs a b]
    simp only [PyData.eqv, beq_iff_eq]
    by_cases h : x = y
    · rw [if_pos h]
      subst h
      rw [decide_eq_decide, keyL_cons, keyL_cons, List.cons_lt_cons_iff]
      exact ⟨fun z => .inr ⟨rfl, z⟩, fun z => z.elim (fun q => absurd q Std.lt_irrefl) (·.2)⟩
    · rw [if_neg h]
      rw [decide_eq_decide, keyL_cons, keyL_cons, List.cons_lt_cons_iff]
      exact ⟨.inl, fun z => z.elim id fun q => absurd (PySem.W.str_of_cps q.1) h⟩
theorem lt_tupS (a b : List Str) : dataLt (tupS a).py (tupS b).py = decide (keyL a < keyL b) := by
  show dataLt (.tuple (D.pys (a.map D.str))) (.tuple (D.pys (b.map D.str))) = _
  rw [PySem.W.dataLt_tuple, pys_strs, pys_strs, lt_strs]
theorem le_tupS (a b : List Str) : sortLe (tupS a) (tupS b) = decide (keyL a ≤ keyL b) := by
  unfold sortLe
  rw [lt_tupS]
  rw [← decide_not, decide_eq_decide]
  exact Std.not_lt
def leK (a b : List Str) : Bool := decide (keyL a ≤ keyL b)
theorem leK_trans (a b c : List Str) (h1 : leK a b = true) (h2 : leK b c = true) : leK a c = true := by
  unfold leK at *
  rw [decide_eq_true_eq] at *
  exact Std.le_trans h1 h2
theorem leK_total (a b : List Str) : (leK a b || leK b a) = true := by
  unfold leK
  rw [Bool.or_eq_true, decide_eq_true_eq, decide_eq_true_eq]
  exact Std.le_total
theorem leK_anti {a b : List Str} (h1 : leK a b = true) (h2 : leK b a = true) : a = b := by
  unfold leK at *
  rw [decide_eq_true_eq] at *
  exact keyL_inj (Std.le_antisymm h1 h2)
theorem sort_tups (rows : List (List Str)) : (rows.map tupS).mergeSort sortLe = (rows.mergeSort leK).map tupS := by
  refine (List.map_mergeSort (r := leK) (s := sortLe) (f := tupS) (fun a _ b _ => ?_)).symm
  rw [le_tupS]
  rfl
/-- a row in its order is what sorting makes of any order of it -/
theorem sortK_eq {rows out : List (List Str)} (hp : out.Perm rows) (hs : out.Pairwise fun a b => leK a b = true) : rows.mergeSort leK = out :=
  List.Perm.eq_of_pairwise (le := fun a b => leK a b = true) (fun a b _ _ h1 h2 => leK_anti h1 h2) (List.pairwise_mergeSort leK_trans leK_total rows) hs ((List.mergeSort_perm _ _).trans hp.symm)
/-! ### ascending texts -/
theorem ltT_iff {x y : Str} : ltT x y = true ↔ x.cps.toList < y.cps.toList := by
  unfold ltT ltS
  exact decide_eq_true_iff
theorem ltT_trans {x y z : Str} (h1 : ltT x y = true) (h2 : ltT y z = true) : ltT x z = true := by
  rw [ltT_iff] at *
  exact Std.lt_trans h1 h2
theorem ltT_irrefl (x : Str) : ltT x x = false := by
  cases h : ltT x x with
  | false => rfl
  | true => exact absurd (ltT_iff.mp h) (Std.lt_irrefl)
theorem ascS_pw : ∀ {ts : List Str}, ascS ts = true → ts.Pairwise fun x y => ltT x y = true
  | [], _ => .nil
  | [x], _ => List.pairwise_singleton _ _
  | x :: y :: r, h => by
    have h : (ltT x y && ascS (y :: r)) = true := h
    rw [Bool.and_eq_true] at h
    have ih := ascS_pw (ts := y :: r) h.2
    refine List.pairwise_cons.mpr ⟨fun z hz => ?_, ih⟩
    rcases List.mem_cons.mp hz with rfl | hz
    · exact h.1
    · exact ltT_trans h.1 ((List.pairwise_cons.mp ih).1 z hz)
theorem pw_ascS : ∀ {ts : List Str}, (ts.Pairwise fun x y => ltT x y = true) → ascS ts = true
  | [], _ => rfl
  | [x], _ => rfl
  | x :: y :: r, h => by
    show (ltT x y && ascS (y :: r)) = true
    rw [Bool.and_eq_true]
    exact ⟨(List.pairwise_cons.mp h).1 y List.mem_cons_self, pw_ascS (List.pairwise_cons.mp h).2⟩
abbrev Asc (ts : List Str) : Prop := ts.Pairwise fun x y => ltT x y = true
theorem Asc.nodup {ts : List Str} (h : Asc ts) : ts.Nodup := List.Pairwise.imp (fun {a b} h e => by rw [e, ltT_irrefl] at h; cases h) h
/-! ### lotsS -/
theorem lotsS_cons (ts : List Str) : ∃ r, lotsS ts = [] :: r := by
  cases ts with
  | nil => exact ⟨[], rfl⟩
  | cons x r => exact ⟨_, rfl⟩
theorem lotsS_length : ∀ ts : List Str, (lotsS ts).length = 2 ^ ts.length
  | [] => rfl
  | x :: r => by
    obtain ⟨q, e⟩ := lotsS_cons r
    have ih := lotsS_length r
    simp only [lotsS, lotStep, List.length_cons, List.length_append, List.length_map, List.length_drop, Nat.pow_succ]
    rw [e] at ih ⊢
    simp only [List.length_cons] at ih ⊢
    omega
theorem lotsS_mem : ∀ {ts l : List Str}, l ∈ lotsS ts ↔ l.Sublist ts
  | [], l => by simp [lotsS]
  | x :: r, l => by
    obtain ⟨q, e⟩ := lotsS_cons r
    have hd : ∀ l, l ∈ (lotsS r).drop 1 ∨ l = [] ↔ l.Sublist r := fun l => by
      rw [← lotsS_mem (ts := r) (l := l), e]
      simp only [List.drop_succ_cons, List.drop_zero, List.mem_cons]
      exact Or.comm
    simp only [lotsS, lotStep, List.mem_cons, List.mem_append, List.mem_map]
    constructor
    · rintro (rfl | ⟨l', h', rfl⟩ | h')
      · exact List.nil_sublist _
      · exact (lotsS_mem.mp h').cons_cons _
      · exact ((hd l).mp (.inl h')).cons _
    · intro h
      cases h with
      | cons _ h =>
        rcases (hd l).mpr h with z | z
        · exact .inr (.inr z)
        · exact .inl z
      | cons_cons _ h => exact .inr (.inl ⟨_, lotsS_mem.mpr h, rfl⟩)
theorem lotsS_tail {ts l : List Str} (h : l ∈ (lotsS ts).drop 1) (nd : (lotsS ts).Nodup) : ∃ y l', l = y :: l' ∧ y ∈ ts := by
  obtain ⟨q, e⟩ := lotsS_cons ts
  rw [e] at h nd
  simp only [List.drop_succ_cons, List.drop_zero] at h
  cases l with
  | nil => exact absurd h (List.nodup_cons.mp nd).1
  | cons y l' => exact ⟨y, l', rfl, (lotsS_mem.mp (by rw [e]; exact List.mem_cons_of_mem _ h) : (y :: l').Sublist ts).subset List.mem_cons_self⟩
theorem lt_cons_cons {x y : Str} {a b : List Str} (h : ltT x y = true) : keyL (x :: a) < keyL (y :: b) := by
  simp only [keyL, List.map_cons]
  rw [List.cons_lt_cons_iff]
  exact .inl (ltT_iff.mp h)
theorem lt_same {x : Str} {a b : List Str} (h : keyL a < keyL b) : keyL (x :: a) < keyL (x :: b) := by
  simp only [keyL, List.map_cons] at *
  rw [List.cons_lt_cons_iff]
  exact .inr ⟨rfl, h⟩
theorem nil_lt {y : Str} {b : List Str} : keyL [] < keyL (y :: b) := by simp [keyL]
theorem pw_nodup {l : List (List Str)} (h : l.Pairwise fun a b => keyL a < keyL b) : l.Nodup := List.Pairwise.imp (fun {a b} h e => by rw [e] at h; exact Std.lt_irrefl h) h
theorem lotsS_pw : ∀ {ts : List Str}, Asc ts → (lotsS ts).Pairwise fun a b => keyL a < keyL b
  | [], _ => List.pairwise_singleton _ _
  | x :: r, h => by
    have hx := (List.pairwise_cons.mp h).1
    have ih := lotsS_pw (List.pairwise_cons.mp h).2
    have nd := pw_nodup ih
    simp only [lotsS, lotStep]
    refine List.pairwise_cons.mpr ⟨fun l hl => ?_, List.pairwise_append.mpr ⟨?_, ih.drop, fun a ha b hb => ?_⟩⟩
    · rcases List.mem_append.mp hl with hl | hl
      · obtain ⟨l', _, rfl⟩ := List.mem_map.mp hl
        exact nil_lt
      · obtain ⟨y, l', rfl, _⟩ := lotsS_tail hl nd
        exact nil_lt
    · exact List.pairwise_map.mpr (ih.imp fun h => lt_same h)
    · obtain ⟨a', _, rfl⟩ := List.mem_map.mp ha
      obtain ⟨y, l', rfl, hy⟩ := lotsS_tail hb nd
      exact lt_cons_cons (hx y hy)
/-! ### the law's rows -/
def rowStep (rows : List (List Str)) (x : Str) : List (List Str) := rows ++ rows.map (· ++ [x])
def rowsL (ts : List Str) : List (List Str) := ts.foldl rowStep [[]]
theorem rowsL_snoc (ts : List Str) (x : Str) : rowsL (ts ++ [x]) = rowStep (rowsL ts) x := by
  unfold rowsL
  rw [List.foldl_append]
  rfl
theorem snoc_ind {p : List Str → Prop} (h0 : p []) (h1 : ∀ r x, p r → p (r ++ [x])) (l : List Str) : p l := by
  have : ∀ l : List Str, p l.reverse := fun l => by
    induction l with
    | nil => exact h0
    | cons x r ih => rw [List.reverse_cons]; exact h1 _ _ ih
  have z := this l.reverse
  rwa [List.reverse_reverse] at z
theorem rowsL_mem (ts : List Str) : ∀ l, l ∈ rowsL ts ↔ l.Sublist ts := by
  induction ts using snoc_ind with
  | h0 => intro l; simp [rowsL]
  | h1 r x ih =>
    intro l
    rw [rowsL_snoc]
    unfold rowStep
    rw [List.mem_append, List.mem_map, List.sublist_append_iff]
    constructor
    · rintro (h | ⟨l', h', rfl⟩)
      · exact ⟨l, [], by simp, (ih l).mp h, List.nil_sublist _⟩
      · exact ⟨l', [x], rfl, (ih l').mp h', List.Sublist.refl _⟩
    · rintro ⟨l1, l2, rfl, h1, h2⟩
      have h3 : l2 = [] ∨ l2 = [x] := by
        cases h2 with
        | cons _ h => exact .inl (List.sublist_nil.mp h)
        | cons_cons _ h => exact .inr (by rw [List.sublist_nil.mp h])
      rcases h3 with rfl | rfl
      · exact .inl (by rw [List.append_nil]; exact (ih l1).mpr h1)
      · exact .inr ⟨l1, (ih l1).mpr h1, rfl⟩
theorem rowsL_nodup (ts : List Str) (h : ts.Nodup) : (rowsL ts).Nodup := by
  induction ts using snoc_ind with
  | h0 => simp [rowsL]
  | h1 r x ih =>
    have hr : r.Nodup := (List.nodup_append.mp h).1
    have hx : x ∉ r := fun hx => (List.nodup_append.mp h).2.2 x hx x (List.mem_singleton.mpr rfl) rfl
    have ih := ih hr
    rw [rowsL_snoc]
    unfold rowStep
    refine List.nodup_append.mpr ⟨ih, ?_, ?_⟩
    · exact List.pairwise_map.mpr (List.Pairwise.imp (fun {a b} hne e => hne (List.append_cancel_right e)) ih)
    · intro a ha b hb e
      obtain ⟨l', _, rfl⟩ := List.mem_map.mp hb
      subst e
      exact hx (((rowsL_mem r _).mp ha).subset (List.mem_append_right _ (List.mem_singleton.mpr rfl)))
theorem rowsL_length (ts : List Str) : (rowsL ts).length = 2 ^ ts.length := by
  induction ts using snoc_ind with
  | h0 => rfl
  | h1 r x ih =>
    rw [rowsL_snoc]
    unfold rowStep
    rw [List.length_append, List.length_map, ih, List.length_append, List.length_singleton, Nat.pow_succ]
    omega
theorem rowsL_head (ts : List Str) : ∃ r, rowsL ts = [] :: r := by
  induction ts using snoc_ind with
  | h0 => exact ⟨[], rfl⟩
  | h1 r x ih =>
    obtain ⟨q, e⟩ := ih
    rw [rowsL_snoc, e]
    exact ⟨_, rfl⟩
theorem rows_sorted {ts : List Str} (h : Asc ts) : (rowsL ts).mergeSort leK = lotsS ts := by
  have pw := lotsS_pw h
  refine sortK_eq ((List.perm_ext_iff_of_nodup (pw_nodup pw) (rowsL_nodup ts h.nodup)).mpr fun l => by rw [lotsS_mem, rowsL_mem]) (pw.imp fun h => ?_)
  unfold leK
  rw [decide_eq_true_eq]
  exact Std.le_of_lt h
end Ev
set_option Elab.async false
set_option linter.all false
set_option maxRecDepth 100000
set_option maxHeartbeats 1000000
/-! Pl5: what is sorted; joined lots; the law's lots. -/
namespace Ev
open PySem
theorem alike_strs : ∀ a b : List Str, PySem.W.alikeAll (a.map PyData.str) (b.map PyData.str) = true
  | [], _ => by simp [PySem.W.alikeAll]
  | _ :: _, [] => by simp [PySem.W.alikeAll]
  | x :: a, y :: b => by simp [PySem.W.alikeAll, PySem.W.alike, alike_strs a b]
def sortS (ss : List Str) : List Str := ss.mergeSort (PySem.W.dataLe false PyData.str)
theorem bi_sorted_strs {ss : List Str} (h : ∀ x ∈ ss, PyData.strOk x = true) (hl : ss.length ≤ LIM) : biD .sorted [.lst (ss.map D.str)] = some (.lst ((sortS ss).map D.str)) := by
  show sortedD _ = _
  unfold sortedD
  rw [if_pos, map_sort]
  · rfl
  · unfold sortOk
    simp only [Bool.and_eq_true, List.all_eq_true, decide_eq_true_eq, Bool.or_eq_true, List.length_map]
    refine ⟨⟨⟨⟨fun d hd => ?_, hl⟩, fun d hd => ?_⟩, fun d hd e he => ?_⟩, .inl (.inr fun d hd => ?_)⟩
    · obtain ⟨x, hx, rfl⟩ := List.mem_map.mp hd
      exact h x hx
    · obtain ⟨x, hx, rfl⟩ := List.mem_map.mp hd
      show 0 ≤ 64
      decide
    · obtain ⟨x, hx, rfl⟩ := List.mem_map.mp hd
      obtain ⟨y, hy, rfl⟩ := List.mem_map.mp he
      rfl
    · obtain ⟨x, hx, rfl⟩ := List.mem_map.mp hd
      exact ⟨rfl, rfl⟩
theorem bi_sorted_rows {rows : List (List Str)} (h : ∀ l ∈ rows, ∀ x ∈ l, PyData.strOk x = true) (hl : rows.length ≤ LIM) (h0 : ∃ r, rows = [] :: r) : biD .sorted [.lst (rows.map tupS)] = some (.lst ((rows.mergeSort leK).map tupS)) := by
  show sortedD _ = _
  unfold sortedD
  rw [if_pos, sort_tups]
  unfold sortOk
  simp only [Bool.and_eq_true, List.all_eq_true, decide_eq_true_eq, Bool.or_eq_true, List.length_map]
  refine ⟨⟨⟨⟨fun d hd => ?_, hl⟩, fun d hd => ?_⟩, fun d hd e he => ?_⟩, .inr ⟨?_, fun d hd => ?_⟩⟩
  · obtain ⟨x, hx, rfl⟩ := List.mem_map.mp hd
    exact plains_strs (h x hx)
  · obtain ⟨x, hx, rfl⟩ := List.mem_map.mp hd
    show PyData.depth (.tuple (D.pys (x.map D.str))) ≤ 64
    simp only [PyData.depth, depth_strs]
    decide
  · obtain ⟨x, hx, rfl⟩ := List.mem_map.mp hd
    obtain ⟨y, hy, rfl⟩ := List.mem_map.mp he
    show PySem.W.alike (.tuple (D.pys (x.map D.str))) (.tuple (D.pys (y.map D.str))) = true
    simp only [PySem.W.alike, pys_strs, alike_strs]
  · obtain ⟨r, rfl⟩ := h0
    rfl
  · obtain ⟨x, hx, rfl⟩ := List.mem_map.mp hd
    rfl
theorem bi_sset {ss : List Str} (hl : ss.length < 64) : biD .sortedset [.tup (ss.map D.str)] = some (.lst ((sortS (dedupS ss)).map D.str)) := by
  show (asStrs _).bind _ = _
  rw [asStrs_map]
  simp only [Option.bind_some, hl, if_true, map_sort]
  rfl
section
variable {P : List (Str × Fn)} {pr : FT} {up : List (Str × Str)} {k : Nat}
def joinS (a b : List Str) : List Str := sortS (a ++ b.filter fun x => !decide (x ∈ a))
theorem w_joined (h : Has P "joined" f_joined) {a b : List Str} (ha : ∀ x ∈ a, PyData.strOk x = true) (hb : ∀ x ∈ b, PyData.strOk x = true) (la : a.length ≤ 1000) (lb : b.length ≤ 1000) : runF P pr up (k + 1) "joined" [.tup (a.map D.str), .tup (b.map D.str)] = M.ret (.tup ((joinS a b).map D.str)) := by
  rw [run_def h rfl (by decide)]
  simp only [M.ret_bind, M.bad_bind, M.bind_assoc, M.lift_some, M.lift_none, M.calm_ret, M.map_ret, M.exc_bind, SM.sb_exc, retM_xc, SM.sb_ret, SM.sb_bad, SM.sb_bind, SM.seq_nx, SM.seq_rt, SM.seq_ct, SM.seq_xc, SM.seq_bad, SM.seq_sb, SM.seq_seq, boolM_bl, bindM_some, bindS_some, iteM_t, iteM_f, brS_t, brS_f, ev_c, ev_v, ev_bin, ev_un, ev_chain, ev_and, ev_or, ev_ite, ev_tup, ev_lst, ev_call, ev_bi, ev_ix, ev_sl, ev_rev, ev_cmp', evs_nil, evs_star, ec_c, ec_v, ec_bin, ec_un, ec_chain, ec_and, ec_or, ec_ite, ec_tup, ec_lst, ec_call, ec_bi, ec_ix, ec_sl, ec_rev, ec_cmp, evO_none, evO_some, evT_none, evT_some, evI_rng, evI_rng2, evI_zip, evI_enm, evI_seq, ss_nil', ss_pass', ss_cont', ss_asg', ss_expr', ss_ite', ss_loop', ss_ret', ss_rais', ss_tr', slotM_sh, starM_lst, starM_tup, optI_int, loopM_nil, retM_rt, retM_nx, List.getElem?_cons_zero, List.getElem?_cons_succ, List.set_cons_zero, List.set_cons_succ, bindT, bindTs, wipeE, Tg.slots, Tg.slotss, startE, List.nil_append, List.cons_append, List.append_nil, List.map_cons, List.map_nil, List.length_cons, List.length_nil, List.replicate_succ, List.replicate_zero, Option.bind_some, Option.map_some, Nat.reduceAdd, Nat.reduceSub, Int.reduceEq, Int.reduceLT, Int.reduceLE, decide_true, decide_false, Bool.not_true, Bool.not_false, b_add_i, b_sub_i, b_lt_i, b_le_i, b_gt_i, b_ge_i, b_lt_s, b_eq_i, b_ne_i, b_eq_t0, b_eq_l0, b_ne_t0, b_ne_l0, b_in_1, b_nin_1, u_not, u_neg, bi_len_t, bi_len_l, bi_len_c, bi_tup_l, bi_tup_t, bi_lst_l, bi_lst_t, bi_int_i, bi_edict, bi_min_i, bi_all_map, bi_any_map, sq_l, sq_t, zp_t, zp_l, rv_t, rv_l, sl_t, sl_l, fit0, fit1, fit2, fit3, fit4, fit5, fit6, fit7, fit8, fit9, fit10, fit11, fit12, fit13, fit14, fit15, fit16, fit17, fit18, fit19, fit20, fit21, fit22, fit23, fit24, fit25, fit26, fit27, fit28, fit29, fit30, fit31, fit32, isin_str_non, isin_str_bl, isin_str_int, isin_str_str, isin_str_tup, isin_str_lst, isin_str_dct, isin_tuple_non, isin_tuple_bl, isin_tuple_int, isin_tuple_str, isin_tuple_tup, isin_tuple_lst, isin_tuple_dct, isin_int_non, isin_int_bl, isin_int_int, isin_int_str, isin_int_tup, isin_int_lst, isin_int_dct, isin_bool_non, isin_bool_bl, isin_bool_int, isin_bool_str, isin_bool_tup, isin_bool_lst, isin_bool_dct, isin_list_tuple_non, isin_list_tuple_bl, isin_list_tuple_int, isin_list_tuple_str, isin_list_tuple_tup, isin_list_tuple_lst, isin_list_tuple_dct, isin_tuple_list_non, isin_tuple_list_bl, isin_tuple_list_int, isin_tuple_list_str, isin_tuple_list_tup, isin_tuple_list_lst, isin_tuple_list_dct, isin_list_non, isin_list_bl, isin_list_int, isin_list_str, isin_list_tup, isin_list_lst, isin_list_dct, isin_dict_non, isin_dict_bl, isin_dict_int, isin_dict_str, isin_dict_tup, isin_dict_lst, isin_dict_dct, f_joined]
  have hf : (b.filter fun x => !decide (x ∈ a)).length ≤ 1000 := Nat.le_trans (List.length_filter_le _ _) lb
  rw [cmpM_filter b D.str (fun x => !decide (x ∈ a)) D.str (fun x hx => ?_) (lim_of lb)]
  · simp only [M.ret_bind, M.bad_bind, M.bind_assoc, M.lift_some, M.lift_none, M.calm_ret, M.map_ret, M.exc_bind, SM.sb_exc, retM_xc, SM.sb_ret, SM.sb_bad, SM.sb_bind, SM.seq_nx, SM.seq_rt, SM.seq_ct, SM.seq_xc, SM.seq_bad, SM.seq_sb, SM.seq_seq, boolM_bl, bindM_some, bindS_some, iteM_t, iteM_f, brS_t, brS_f, ev_c, ev_v, ev_bin, ev_un, ev_chain, ev_and, ev_or, ev_ite, ev_tup, ev_lst, ev_call, ev_bi, ev_ix, ev_sl, ev_rev, ev_cmp', evs_nil, evs_star, ec_c, ec_v, ec_bin, ec_un, ec_chain, ec_and, ec_or, ec_ite, ec_tup, ec_lst, ec_call, ec_bi, ec_ix, ec_sl, ec_rev, ec_cmp, evO_none, evO_some, evT_none, evT_some, evI_rng, evI_rng2, evI_zip, evI_enm, evI_seq, ss_nil', ss_pass', ss_cont', ss_asg', ss_expr', ss_ite', ss_loop', ss_ret', ss_rais', ss_tr', slotM_sh, starM_lst, starM_tup, optI_int, loopM_nil, retM_rt, retM_nx, List.getElem?_cons_zero, List.getElem?_cons_succ, List.set_cons_zero, List.set_cons_succ, bindT, bindTs, wipeE, Tg.slots, Tg.slotss, startE, List.nil_append, List.cons_append, List.append_nil, List.map_cons, List.map_nil, List.length_cons, List.length_nil, List.replicate_succ, List.replicate_zero, Option.bind_some, Option.map_some, Nat.reduceAdd, Nat.reduceSub, Int.reduceEq, Int.reduceLT, Int.reduceLE, decide_true, decide_false, Bool.not_true, Bool.not_false, b_add_i, b_sub_i, b_lt_i, b_le_i, b_gt_i, b_ge_i, b_lt_s, b_eq_i, b_ne_i, b_eq_t0, b_eq_l0, b_ne_t0, b_ne_l0, b_in_1, b_nin_1, u_not, u_neg, bi_len_t, bi_len_l, bi_len_c, bi_tup_l, bi_tup_t, bi_lst_l, bi_lst_t, bi_int_i, bi_edict, bi_min_i, bi_all_map, bi_any_map, sq_l, sq_t, zp_t, zp_l, rv_t, rv_l, sl_t, sl_l, fit0, fit1, fit2, fit3, fit4, fit5, fit6, fit7, fit8, fit9, fit10, fit11, fit12, fit13, fit14, fit15, fit16, fit17, fit18, fit19, fit20, fit21, fit22, fit23, fit24, fit25, fit26, fit27, fit28, fit29, fit30, fit31, fit32, isin_str_non, isin_str_bl, isin_str_int, isin_str_str, isin_str_tup, isin_str_lst, isin_str_dct, isin_tuple_non, isin_tuple_bl, isin_tuple_int, isin_tuple_str, isin_tuple_tup, isin_tuple_lst, isin_tuple_dct, isin_int_non, isin_int_bl, isin_int_int, isin_int_str, isin_int_tup, isin_int_lst, isin_int_dct, isin_bool_non, isin_bool_bl, isin_bool_int, isin_bool_str, isin_bool_tup, isin_bool_lst, isin_bool_dct, isin_list_tuple_non, isin_list_tuple_bl, isin_list_tuple_int, isin_list_tuple_str, isin_list_tuple_tup, isin_list_tuple_lst, isin_list_tuple_dct, isin_tuple_list_non, isin_tuple_list_bl, isin_tuple_list_int, isin_tuple_list_str, isin_tuple_list_tup, isin_tuple_list_lst, isin_tuple_list_dct, isin_list_non, isin_list_bl, isin_list_int, isin_list_str, isin_list_tup, isin_list_lst, isin_list_dct, isin_dict_non, isin_dict_bl, isin_dict_int, isin_dict_str, isin_dict_tup, isin_dict_lst, isin_dict_dct]
    rw [← List.map_append, fitM_ok (by rw [List.length_map, List.length_append]; unfold LIM; omega)]
    simp only [M.ret_bind, M.bad_bind, M.bind_assoc, M.lift_some, M.lift_none, M.calm_ret, M.map_ret, M.exc_bind, SM.sb_exc, retM_xc, SM.sb_ret, SM.sb_bad, SM.sb_bind, SM.seq_nx, SM.seq_rt, SM.seq_ct, SM.seq_xc, SM.seq_bad, SM.seq_sb, SM.seq_seq, boolM_bl, bindM_some, bindS_some, iteM_t, iteM_f, brS_t, brS_f, ev_c, ev_v, ev_bin, ev_un, ev_chain, ev_and, ev_or, ev_ite, ev_tup, ev_lst, ev_call, ev_bi, ev_ix, ev_sl, ev_rev, ev_cmp', evs_nil, evs_star, ec_c, ec_v, ec_bin, ec_un, ec_chain, ec_and, ec_or, ec_ite, ec_tup, ec_lst, ec_call, ec_bi, ec_ix, ec_sl, ec_rev, ec_cmp, evO_none, evO_some, evT_none, evT_some, evI_rng, evI_rng2, evI_zip, evI_enm, evI_seq, ss_nil', ss_pass', ss_cont', ss_asg', ss_expr', ss_ite', ss_loop', ss_ret', ss_rais', ss_tr', slotM_sh, starM_lst, starM_tup, optI_int, loopM_nil, retM_rt, retM_nx, List.getElem?_cons_zero, List.getElem?_cons_succ, List.set_cons_zero, List.set_cons_succ, bindT, bindTs, wipeE, Tg.slots, Tg.slotss, startE, List.nil_append, List.cons_append, List.append_nil, List.map_cons, List.map_nil, List.length_cons, List.length_nil, List.replicate_succ, List.replicate_zero, Option.bind_some, Option.map_some, Nat.reduceAdd, Nat.reduceSub, Int.reduceEq, Int.reduceLT, Int.reduceLE, decide_true, decide_false, Bool.not_true, Bool.not_false]
    rw [bi_sorted_strs (fun x hx => ?_) (by rw [List.length_append]; unfold LIM; omega)]
    · simp only [M.ret_bind, M.bad_bind, M.bind_assoc, M.lift_some, M.lift_none, M.calm_ret, M.map_ret, M.exc_bind, SM.sb_exc, retM_xc, SM.sb_ret, SM.sb_bad, SM.sb_bind, SM.seq_nx, SM.seq_rt, SM.seq_ct, SM.seq_xc, SM.seq_bad, SM.seq_sb, SM.seq_seq, boolM_bl, bindM_some, bindS_some, iteM_t, iteM_f, brS_t, brS_f, ev_c, ev_v, ev_bin, ev_un, ev_chain, ev_and, ev_or, ev_ite, ev_tup, ev_lst, ev_call, ev_bi, ev_ix, ev_sl, ev_rev, ev_cmp', evs_nil, evs_star, ec_c, ec_v, ec_bin, ec_un, ec_chain, ec_and, ec_or, ec_ite, ec_tup, ec_lst, ec_call, ec_bi, ec_ix, ec_sl, ec_rev, ec_cmp, evO_none, evO_some, evT_none, evT_some, evI_rng, evI_rng2, evI_zip, evI_enm, evI_seq, ss_nil', ss_pass', ss_cont', ss_asg', ss_expr', ss_ite', ss_loop', ss_ret', ss_rais', ss_tr', slotM_sh, starM_lst, starM_tup, optI_int, loopM_nil, retM_rt, retM_nx, List.getElem?_cons_zero, List.getElem?_cons_succ, List.set_cons_zero, List.set_cons_succ, bindT, bindTs, wipeE, Tg.slots, Tg.slotss, startE, List.nil_append, List.cons_append, List.append_nil, List.map_cons, List.map_nil, List.length_cons, List.length_nil, List.replicate_succ, List.replicate_zero, Option.bind_some, Option.map_some, Nat.reduceAdd, Nat.reduceSub, Int.reduceEq, Int.reduceLT, Int.reduceLE, decide_true, decide_false, Bool.not_true, Bool.not_false, b_add_i, b_sub_i, b_lt_i, b_le_i, b_gt_i, b_ge_i, b_lt_s, b_eq_i, b_ne_i, b_eq_t0, b_eq_l0, b_ne_t0, b_ne_l0, b_in_1, b_nin_1, u_not, u_neg, bi_len_t, bi_len_l, bi_len_c, bi_tup_l, bi_tup_t, bi_lst_l, bi_lst_t, bi_int_i, bi_edict, bi_min_i, bi_all_map, bi_any_map, sq_l, sq_t, zp_t, zp_l, rv_t, rv_l, sl_t, sl_l, fit0, fit1, fit2, fit3, fit4, fit5, fit6, fit7, fit8, fit9, fit10, fit11, fit12, fit13, fit14, fit15, fit16, fit17, fit18, fit19, fit20, fit21, fit22, fit23, fit24, fit25, fit26, fit27, fit28, fit29, fit30, fit31, fit32, isin_str_non, isin_str_bl, isin_str_int, isin_str_str, isin_str_tup, isin_str_lst, isin_str_dct, isin_tuple_non, isin_tuple_bl, isin_tuple_int, isin_tuple_str, isin_tuple_tup, isin_tuple_lst, isin_tuple_dct, isin_int_non, isin_int_bl, isin_int_int, isin_int_str, isin_int_tup, isin_int_lst, isin_int_dct, isin_bool_non, isin_bool_bl, isin_bool_int, isin_bool_str, isin_bool_tup, isin_bool_lst, isin_bool_dct, isin_list_tuple_non, isin_list_tuple_bl, isin_list_tuple_int, isin_list_tuple_str, isin_list_tuple_tup, isin_list_tuple_lst, isin_list_tuple_dct, isin_tuple_list_non, isin_tuple_list_bl, isin_tuple_list_int, isin_tuple_list_str, isin_tuple_list_tup, isin_tuple_list_lst, isin_tuple_list_dct, isin_list_non, isin_list_bl, isin_list_int, isin_list_str, isin_list_tup, isin_list_lst, isin_list_dct, isin_dict_non, isin_dict_bl, isin_dict_int, isin_dict_str, isin_dict_tup, isin_dict_lst, isin_dict_dct]
      rfl
    · rcases List.mem_append.mp hx with hx | hx
      · exact ha x hx
      · exact hb x (List.mem_filter.mp hx).1
  · rw [b_nin_strs (hb x hx) ha]
    simp only [M.ret_bind, M.bad_bind, M.bind_assoc, M.lift_some, M.lift_none, M.calm_ret, M.map_ret, M.exc_bind, SM.sb_exc, retM_xc, SM.sb_ret, SM.sb_bad, SM.sb_bind, SM.seq_nx, SM.seq_rt, SM.seq_ct, SM.seq_xc, SM.seq_bad, SM.seq_sb, SM.seq_seq, boolM_bl, bindM_some, bindS_some, iteM_t, iteM_f, brS_t, brS_f, ev_c, ev_v, ev_bin, ev_un, ev_chain, ev_and, ev_or, ev_ite, ev_tup, ev_lst, ev_call, ev_bi, ev_ix, ev_sl, ev_rev, ev_cmp', evs_nil, evs_star, ec_c, ec_v, ec_bin, ec_un, ec_chain, ec_and, ec_or, ec_ite, ec_tup, ec_lst, ec_call, ec_bi, ec_ix, ec_sl, ec_rev, ec_cmp, evO_none, evO_some, evT_none, evT_some, evI_rng, evI_rng2, evI_zip, evI_enm, evI_seq, ss_nil', ss_pass', ss_cont', ss_asg', ss_expr', ss_ite', ss_loop', ss_ret', ss_rais', ss_tr', slotM_sh, starM_lst, starM_tup, optI_int, loopM_nil, retM_rt, retM_nx, List.getElem?_cons_zero, List.getElem?_cons_succ, List.set_cons_zero, List.set_cons_succ, bindT, bindTs, wipeE, Tg.slots, Tg.slotss, startE, List.nil_append, List.cons_append, List.append_nil, List.map_cons, List.map_nil, List.length_cons, List.length_nil, List.replicate_succ, List.replicate_zero, Option.bind_some, Option.map_some, Nat.reduceAdd, Nat.reduceSub, Int.reduceEq, Int.reduceLT, Int.reduceLE, decide_true, decide_false, Bool.not_true, Bool.not_false]
    cases decide (x ∈ a) <;> rfl
def bothS (a b : List Str) : List Str := sortS (dedupS (a ++ b))
theorem w_law_both (h : Has P "_law_both" f_law_both) {a b : List Str} (hl : a.length + b.length < 64) : runF P pr up (k + 1) "_law_both" [.tup (a.map D.str), .tup (b.map D.str)] = M.ret (.tup ((bothS a b).map D.str)) := by
  rw [run_def h rfl (by decide)]
  simp only [M.ret_bind, M.bad_bind, M.bind_assoc, M.lift_some, M.lift_none, M.calm_ret, M.map_ret, M.exc_bind, SM.sb_exc, retM_xc, SM.sb_ret, SM.sb_bad, SM.sb_bind, SM.seq_nx, SM.seq_rt, SM.seq_ct, SM.seq_xc, SM.seq_bad, SM.seq_sb, SM.seq_seq, boolM_bl, bindM_some, bindS_some, iteM_t, iteM_f, brS_t, brS_f, ev_c, ev_v, ev_bin, ev_un, ev_chain, ev_and, ev_or, ev_ite, ev_tup, ev_lst, ev_call, ev_bi, ev_ix, ev_sl, ev_rev, ev_cmp', evs_nil, evs_star, ec_c, ec_v, ec_bin, ec_un, ec_chain, ec_and, ec_or, ec_ite, ec_tup, ec_lst, ec_call, ec_bi, ec_ix, ec_sl, ec_rev, ec_cmp, evO_none, evO_some, evT_none, evT_some, evI_rng, evI_rng2, evI_zip, evI_enm, evI_seq, ss_nil', ss_pass', ss_cont', ss_asg', ss_expr', ss_ite', ss_loop', ss_ret', ss_rais', ss_tr', slotM_sh, starM_lst, starM_tup, optI_int, loopM_nil, retM_rt, retM_nx, List.getElem?_cons_zero, List.getElem?_cons_succ, List.set_cons_zero, List.set_cons_succ, bindT, bindTs, wipeE, Tg.slots, Tg.slotss, startE, List.nil_append, List.cons_append, List.append_nil, List.map_cons, List.map_nil, List.length_cons, List.length_nil, List.replicate_succ, List.replicate_zero, Option.bind_some, Option.map_some, Nat.reduceAdd, Nat.reduceSub, Int.reduceEq, Int.reduceLT, Int.reduceLE, decide_true, decide_false, Bool.not_true, Bool.not_false, b_add_i, b_sub_i, b_lt_i, b_le_i, b_gt_i, b_ge_i, b_lt_s, b_eq_i, b_ne_i, b_eq_t0, b_eq_l0, b_ne_t0, b_ne_l0, b_in_1, b_nin_1, u_not, u_neg, bi_len_t, bi_len_l, bi_len_c, bi_tup_l, bi_tup_t, bi_lst_l, bi_lst_t, bi_int_i, bi_edict, bi_min_i, bi_all_map, bi_any_map, sq_l, sq_t, zp_t, zp_l, rv_t, rv_l, sl_t, sl_l, fit0, fit1, fit2, fit3, fit4, fit5, fit6, fit7, fit8, fit9, fit10, fit11, fit12, fit13, fit14, fit15, fit16, fit17, fit18, fit19, fit20, fit21, fit22, fit23, fit24, fit25, fit26, fit27, fit28, fit29, fit30, fit31, fit32, isin_str_non, isin_str_bl, isin_str_int, isin_str_str, isin_str_tup, isin_str_lst, isin_str_dct, isin_tuple_non, isin_tuple_bl, isin_tuple_int, isin_tuple_str, isin_tuple_tup, isin_tuple_lst, isin_tuple_dct, isin_int_non, isin_int_bl, isin_int_int, isin_int_str, isin_int_tup, isin_int_lst, isin_int_dct, isin_bool_non, isin_bool_bl, isin_bool_int, isin_bool_str, isin_bool_tup, isin_bool_lst, isin_bool_dct, isin_list_tuple_non, isin_list_tuple_bl, isin_list_tuple_int, isin_list_tuple_str, isin_list_tuple_tup, isin_list_tuple_lst, isin_list_tuple_dct, isin_tuple_list_non, isin_tuple_list_bl, isin_tuple_list_int, isin_tuple_list_str, isin_tuple_list_tup, isin_tuple_list_lst, isin_tuple_list_dct, isin_list_non, isin_list_bl, isin_list_int, isin_list_str, isin_list_tup, isin_list_lst, isin_list_dct, isin_dict_non, isin_dict_bl, isin_dict_int, isin_dict_str, isin_dict_tup, isin_dict_lst, isin_dict_dct, f_law_both]
  rw [b_add_t (by simp only [List.length_append, List.length_map]; unfold LIM; omega)]
  simp only [M.ret_bind, M.bad_bind, M.bind_assoc, M.lift_some, M.lift_none, M.calm_ret, M.map_ret, M.exc_bind, SM.sb_exc, retM_xc, SM.sb_ret, SM.sb_bad, SM.sb_bind, SM.seq_nx, SM.seq_rt, SM.seq_ct, SM.seq_xc, SM.seq_bad, SM.seq_sb, SM.seq_seq, boolM_bl, bindM_some, bindS_some, iteM_t, iteM_f, brS_t, brS_f, ev_c, ev_v, ev_bin, ev_un, ev_chain, ev_and, ev_or, ev_ite, ev_tup, ev_lst, ev_call, ev_bi, ev_ix, ev_sl, ev_rev, ev_cmp', evs_nil, evs_star, ec_c, ec_v, ec_bin, ec_un, ec_chain, ec_and, ec_or, ec_ite, ec_tup, ec_lst, ec_call, ec_bi, ec_ix, ec_sl, ec_rev, ec_cmp, evO_none, evO_some, evT_none, evT_some, evI_rng, evI_rng2, evI_zip, evI_enm, evI_seq, ss_nil', ss_pass', ss_cont', ss_asg', ss_expr', ss_ite', ss_loop', ss_ret', ss_rais', ss_tr', slotM_sh, starM_lst, starM_tup, optI_int, loopM_nil, retM_rt, retM_nx, List.getElem?_cons_zero, List.getElem?_cons_succ, List.set_cons_zero, List.set_cons_succ, bindT, bindTs, wipeE, Tg.slots, Tg.slotss, startE, List.nil_append, List.cons_append, List.append_nil, List.map_cons, List.map_nil, List.length_cons, List.length_nil, List.replicate_succ, List.replicate_zero, Option.bind_some, Option.map_some, Nat.reduceAdd, Nat.reduceSub, Int.reduceEq, Int.reduceLT, Int.reduceLE, decide_true, decide_false, Bool.not_true, Bool.not_false]
  rw [← List.map_append, bi_sset (by rw [List.length_append]; exact hl)]
  simp only [M.ret_bind, M.bad_bind, M.bind_assoc, M.lift_some, M.lift_none, M.calm_ret, M.map_ret, M.exc_bind, SM.sb_exc, retM_xc, SM.sb_ret, SM.sb_bad, SM.sb_bind, SM.seq_nx, SM.seq_rt, SM.seq_ct, SM.seq_xc, SM.seq_bad, SM.seq_sb, SM.seq_seq, boolM_bl, bindM_some, bindS_some, iteM_t, iteM_f, brS_t, brS_f, ev_c, ev_v, ev_bin, ev_un, ev_chain, ev_and, ev_or, ev_ite, ev_tup, ev_lst, ev_call, ev_bi, ev_ix, ev_sl, ev_rev, ev_cmp', evs_nil, evs_star, ec_c, ec_v, ec_bin, ec_un, ec_chain, ec_and, ec_or, ec_ite, ec_tup, ec_lst, ec_call, ec_bi, ec_ix, ec_sl, ec_rev, ec_cmp, evO_none, evO_some, evT_none, evT_some, evI_rng, evI_rng2, evI_zip, evI_enm, evI_seq, ss_nil', ss_pass', ss_cont', ss_asg', ss_expr', ss_ite', ss_loop', ss_ret', ss_rais', ss_tr', slotM_sh, starM_lst, starM_tup, optI_int, loopM_nil, retM_rt, retM_nx, List.getElem?_cons_zero, List.getElem?_cons_succ, List.set_cons_zero, List.set_cons_succ, bindT, bindTs, wipeE, Tg.slots, Tg.slotss, startE, List.nil_append, List.cons_append, List.append_nil, List.map_cons, List.map_nil, List.length_cons, List.length_nil, List.replicate_succ, List.replicate_zero, Option.bind_some, Option.map_some, Nat.reduceAdd, Nat.reduceSub, Int.reduceEq, Int.reduceLT, Int.reduceLE, decide_true, decide_false, Bool.not_true, Bool.not_false, b_add_i, b_sub_i, b_lt_i, b_le_i, b_gt_i, b_ge_i, b_lt_s, b_eq_i, b_ne_i, b_eq_t0, b_eq_l0, b_ne_t0, b_ne_l0, b_in_1, b_nin_1, u_not, u_neg, bi_len_t, bi_len_l, bi_len_c, bi_tup_l, bi_tup_t, bi_lst_l, bi_lst_t, bi_int_i, bi_edict, bi_min_i, bi_all_map, bi_any_map, sq_l, sq_t, zp_t, zp_l, rv_t, rv_l, sl_t, sl_l, fit0, fit1, fit2, fit3, fit4, fit5, fit6, fit7, fit8, fit9, fit10, fit11, fit12, fit13, fit14, fit15, fit16, fit17, fit18, fit19, fit20, fit21, fit22, fit23, fit24, fit25, fit26, fit27, fit28, fit29, fit30, fit31, fit32, isin_str_non, isin_str_bl, isin_str_int, isin_str_str, isin_str_tup, isin_str_lst, isin_str_dct, isin_tuple_non, isin_tuple_bl, isin_tuple_int, isin_tuple_str, isin_tuple_tup, isin_tuple_lst, isin_tuple_dct, isin_int_non, isin_int_bl, isin_int_int, isin_int_str, isin_int_tup, isin_int_lst, isin_int_dct, isin_bool_non, isin_bool_bl, isin_bool_int, isin_bool_str, isin_bool_tup, isin_bool_lst, isin_bool_dct, isin_list_tuple_non, isin_list_tuple_bl, isin_list_tuple_int, isin_list_tuple_str, isin_list_tuple_tup, isin_list_tuple_lst, isin_list_tuple_dct, isin_tuple_list_non, isin_tuple_list_bl, isin_tuple_list_int, isin_tuple_list_str, isin_tuple_list_tup, isin_tuple_list_lst, isin_tuple_list_dct, isin_list_non, isin_list_bl, isin_list_int, isin_list_str, isin_list_tup, isin_list_lst, isin_list_dct, isin_dict_non, isin_dict_bl, isin_dict_int, isin_dict_str, isin_dict_tup, isin_dict_lst, isin_dict_dct]
  rfl
theorem join_both {a b : List Str} (ha : a.Nodup) (hb : b.Nodup) : joinS a b = bothS a b := by
  refine sort_perm ((List.perm_ext_iff_of_nodup ?_ (nodup_dedupS _)).mpr fun x => ?_)
  · refine List.nodup_append.mpr ⟨ha, List.Pairwise.filter _ hb, fun x hx y hy e => ?_⟩
    have := (List.mem_filter.mp hy).2
    subst e
    simp [hx] at this
  · rw [mem_dedupS, List.mem_append, List.mem_append, List.mem_filter]
    simp only [Bool.not_eq_true', decide_eq_false_iff_not]
    constructor
    · exact fun z => z.imp id (·.1)
    · intro z
      by_cases hx : x ∈ a
      · exact .inl hx
      · exact .inr ⟨z.resolve_left hx, hx⟩
theorem w_law_lots (h : Has P "_law_lots" f_law_lots) {ts : List Str} (ht : ts.length ≤ 9) (hok : ∀ x ∈ ts, PyData.strOk x = true) : runF P pr up (k + 1) "_law_lots" [.tup (ts.map D.str)] = M.ret (.lst (((rowsL ts).mergeSort leK).map tupS)) := by
  rw [run_def h rfl (by decide)]
  simp only [M.ret_bind, M.bad_bind, M.bind_assoc, M.lift_some, M.lift_none, M.calm_ret, M.map_ret, M.exc_bind, SM.sb_exc, retM_xc, SM.sb_ret, SM.sb_bad, SM.sb_bind, SM.seq_nx, SM.seq_rt, SM.seq_ct, SM.seq_xc, SM.seq_bad, SM.seq_sb, SM.seq_seq, boolM_bl, bindM_some, bindS_some, iteM_t, iteM_f, brS_t, brS_f, ev_c, ev_v, ev_bin, ev_un, ev_chain, ev_and, ev_or, ev_ite, ev_tup, ev_lst, ev_call, ev_bi, ev_ix, ev_sl, ev_rev, ev_cmp', evs_nil, evs_star, ec_c, ec_v, ec_bin, ec_un, ec_chain, ec_and, ec_or, ec_ite, ec_tup, ec_lst, ec_call, ec_bi, ec_ix, ec_sl, ec_rev, ec_cmp, evO_none, evO_some, evT_none, evT_some, evI_rng, evI_rng2, evI_zip, evI_enm, evI_seq, ss_nil', ss_pass', ss_cont', ss_asg', ss_expr', ss_ite', ss_loop', ss_ret', ss_rais', ss_tr', slotM_sh, starM_lst, starM_tup, optI_int, loopM_nil, retM_rt, retM_nx, List.getElem?_cons_zero, List.getElem?_cons_succ, List.set_cons_zero, List.set_cons_succ, bindT, bindTs, wipeE, Tg.slots, Tg.slotss, startE, List.nil_append, List.cons_append, List.append_nil, List.map_cons, List.map_nil, List.length_cons, List.length_nil, List.replicate_succ, List.replicate_zero, Option.bind_some, Option.map_some, Nat.reduceAdd, Nat.reduceSub, Int.reduceEq, Int.reduceLT, Int.reduceLE, decide_true, decide_false, Bool.not_true, Bool.not_false, b_add_i, b_sub_i, b_lt_i, b_le_i, b_gt_i, b_ge_i, b_lt_s, b_eq_i, b_ne_i, b_eq_t0, b_eq_l0, b_ne_t0, b_ne_l0, b_in_1, b_nin_1, u_not, u_neg, bi_len_t, bi_len_l, bi_len_c, bi_tup_l, bi_tup_t, bi_lst_l, bi_lst_t, bi_int_i, bi_edict, bi_min_i, bi_all_map, bi_any_map, sq_l, sq_t, zp_t, zp_l, rv_t, rv_l, sl_t, sl_l, fit0, fit1, fit2, fit3, fit4, fit5, fit6, fit7, fit8, fit9, fit10, fit11, fit12, fit13, fit14, fit15, fit16, fit17, fit18, fit19, fit20, fit21, fit22, fit23, fit24, fit25, fit26, fit27, fit28, fit29, fit30, fit31, fit32, isin_str_non, isin_str_bl, isin_str_int, isin_str_str, isin_str_tup, isin_str_lst, isin_str_dct, isin_tuple_non, isin_tuple_bl, isin_tuple_int, isin_tuple_str, isin_tuple_tup, isin_tuple_lst, isin_tuple_dct, isin_int_non, isin_int_bl, isin_int_int, isin_int_str, isin_int_tup, isin_int_lst, isin_int_dct, isin_bool_non, isin_bool_bl, isin_bool_int, isin_bool_str, isin_bool_tup, isin_bool_lst, isin_bool_dct, isin_list_tuple_non, isin_list_tuple_bl, isin_list_tuple_int, isin_list_tuple_str, isin_list_tuple_tup, isin_list_tuple_lst, isin_list_tuple_dct, isin_tuple_list_non, isin_tuple_list_bl, isin_tuple_list_int, isin_tuple_list_str, isin_tuple_list_tup, isin_tuple_list_lst, isin_tuple_list_dct, isin_list_non, isin_list_bl, isin_list_int, isin_list_str, isin_list_tup, isin_list_lst, isin_list_dct, isin_dict_non, isin_dict_bl, isin_dict_int, isin_dict_str, isin_dict_tup, isin_dict_lst, isin_dict_dct, f_law_lots, fitM_ok (show ([] : List D).length ≤ LIM by decide), fitM_ok (show ([D.tup []] : List D).length ≤ LIM by decide)]
  have hf := loop_fold (α := Str) (σ := List (List Str)) (J := Slot) (fun f j => [.sh (.tup (ts.map D.str)), .sh (.lst (f.map tupS)), j, .no]) (fun x rows => rowStep rows x) (fun r f => r.length ≤ 9 ∧ f.length ≤ 2 ^ (9 - r.length) ∧ ∀ l ∈ f, l.length ≤ 9 - r.length) (tg := .v 2)
    (f := fun e => exSs (runF P pr up k) up [Sm.asg (Tg.v 1) (Ex.bin BOp.add (Ex.v 1) ((Ex.bin BOp.add (Ex.v 3) (Ex.tup [Ex.v 2])).cmp (Tg.v 3) (It.seq (Ex.v 1)) none))] e) (h := D.str) ?_ ts [[]] .no ?_
  · obtain ⟨_, j', e⟩ := hf
    have e2 : ts.foldl (fun s a => rowStep s a) [[]] = rowsL ts := rfl
    rw [e2] at e
    refine Eq.trans (congrArg retM (congrArg (fun z => SM.seq z _) e)) ?_
    simp only [M.ret_bind, M.bad_bind, M.bind_assoc, M.lift_some, M.lift_none, M.calm_ret, M.map_ret, M.exc_bind, SM.sb_exc, retM_xc, SM.sb_ret, SM.sb_bad, SM.sb_bind, SM.seq_nx, SM.seq_rt, SM.seq_ct, SM.seq_xc, SM.seq_bad, SM.seq_sb, SM.seq_seq, boolM_bl, bindM_some, bindS_some, iteM_t, iteM_f, brS_t, brS_f, ev_c, ev_v, ev_bin, ev_un, ev_chain, ev_and, ev_or, ev_ite, ev_tup, ev_lst, ev_call, ev_bi, ev_ix, ev_sl, ev_rev, ev_cmp', evs_nil, evs_star, ec_c, ec_v, ec_bin, ec_un, ec_chain, ec_and, ec_or, ec_ite, ec_tup, ec_lst, ec_call, ec_bi, ec_ix, ec_sl, ec_rev, ec_cmp, evO_none, evO_some, evT_none, evT_some, evI_rng, evI_rng2, evI_zip, evI_enm, evI_seq, ss_nil', ss_pass', ss_cont', ss_asg', ss_expr', ss_ite', ss_loop', ss_ret', ss_rais', ss_tr', slotM_sh, starM_lst, starM_tup, optI_int, loopM_nil, retM_rt, retM_nx, List.getElem?_cons_zero, List.getElem?_cons_succ, List.set_cons_zero, List.set_cons_succ, bindT, bindTs, wipeE, Tg.slots, Tg.slotss, startE, List.nil_append, List.cons_append, List.append_nil, List.map_cons, List.map_nil, List.length_cons, List.length_nil, List.replicate_succ, List.replicate_zero, Option.bind_some, Option.map_some, Nat.reduceAdd, Nat.reduceSub, Int.reduceEq, Int.reduceLT, Int.reduceLE, decide_true, decide_false, Bool.not_true, Bool.not_false, b_add_i, b_sub_i, b_lt_i, b_le_i, b_gt_i, b_ge_i, b_lt_s, b_eq_i, b_ne_i, b_eq_t0, b_eq_l0, b_ne_t0, b_ne_l0, b_in_1, b_nin_1, u_not, u_neg, bi_len_t, bi_len_l, bi_len_c, bi_tup_l, bi_tup_t, bi_lst_l, bi_lst_t, bi_int_i, bi_edict, bi_min_i, bi_all_map, bi_any_map, sq_l, sq_t, zp_t, zp_l, rv_t, rv_l, sl_t, sl_l, fit0, fit1, fit2, fit3, fit4, fit5, fit6, fit7, fit8, fit9, fit10, fit11, fit12, fit13, fit14, fit15, fit16, fit17, fit18, fit19, fit20, fit21, fit22, fit23, fit24, fit25, fit26, fit27, fit28, fit29, fit30, fit31, fit32, isin_str_non, isin_str_bl, isin_str_int, isin_str_str, isin_str_tup, isin_str_lst, isin_str_dct, isin_tuple_non, isin_tuple_bl, isin_tuple_int, isin_tuple_str, isin_tuple_tup, isin_tuple_lst, isin_tuple_dct, isin_int_non, isin_int_bl, isin_int_int, isin_int_str, isin_int_tup, isin_int_lst, isin_int_dct, isin_bool_non, isin_bool_bl, isin_bool_int, isin_bool_str, isin_bool_tup, isin_bool_lst, isin_bool_dct, isin_list_tuple_non, isin_list_tuple_bl, isin_list_tuple_int, isin_list_tuple_str, isin_list_tuple_tup, isin_list_tuple_lst, isin_list_tuple_dct, isin_tuple_list_non, isin_tuple_list_bl, isin_tuple_list_int, isin_tuple_list_str, isin_tuple_list_tup, isin_tuple_list_lst, isin_tuple_list_dct, isin_list_non, isin_list_bl, isin_list_int, isin_list_str, isin_list_tup, isin_list_lst, isin_list_dct, isin_dict_non, isin_dict_bl, isin_dict_int, isin_dict_str, isin_dict_tup, isin_dict_lst, isin_dict_dct]
    rw [bi_sorted_rows (fun l hl x hx => hok x (((rowsL_mem ts l).mp hl).subset hx)) (by rw [rowsL_length]; exact Nat.le_trans (Nat.pow_le_pow_right (by decide) ht) (by decide)) (rowsL_head ts)]
    simp only [M.ret_bind, M.bad_bind, M.bind_assoc, M.lift_some, M.lift_none, M.calm_ret, M.map_ret, M.exc_bind, SM.sb_exc, retM_xc, SM.sb_ret, SM.sb_bad, SM.sb_bind, SM.seq_nx, SM.seq_rt, SM.seq_ct, SM.seq_xc, SM.seq_bad, SM.seq_sb, SM.seq_seq, boolM_bl, bindM_some, bindS_some, iteM_t, iteM_f, brS_t, brS_f, ev_c, ev_v, ev_bin, ev_un, ev_chain, ev_and, ev_or, ev_ite, ev_tup, ev_lst, ev_call, ev_bi, ev_ix, ev_sl, ev_rev, ev_cmp', evs_nil, evs_star, ec_c, ec_v, ec_bin, ec_un, ec_chain, ec_and, ec_or, ec_ite, ec_tup, ec_lst, ec_call, ec_bi, ec_ix, ec_sl, ec_rev, ec_cmp, evO_none, evO_some, evT_none, evT_some, evI_rng, evI_rng2, evI_zip, evI_enm, evI_seq, ss_nil', ss_pass', ss_cont', ss_asg', ss_expr', ss_ite', ss_loop', ss_ret', ss_rais', ss_tr', slotM_sh, starM_lst, starM_tup, optI_int, loopM_nil, retM_rt, retM_nx, List.getElem?_cons_zero, List.getElem?_cons_succ, List.set_cons_zero, List.set_cons_succ, bindT, bindTs, wipeE, Tg.slots, Tg.slotss, startE, List.nil_append, List.cons_append, List.append_nil, List.map_cons, List.map_nil, List.length_cons, List.length_nil, List.replicate_succ, List.replicate_zero, Option.bind_some, Option.map_some, Nat.reduceAdd, Nat.reduceSub, Int.reduceEq, Int.reduceLT, Int.reduceLE, decide_true, decide_false, Bool.not_true, Bool.not_false]
  · intro x r f j ⟨i1, i2, i3⟩
    have i1 : r.length + 1 ≤ 9 := i1
    have i2 : f.length ≤ 2 ^ (9 - (r.length + 1)) := i2
    have i3 : ∀ l ∈ f, l.length ≤ 9 - (r.length + 1) := i3
    have p1 : 2 ^ (9 - r.length) = 2 * 2 ^ (9 - (r.length + 1)) := by
      rw [show 9 - r.length = (9 - (r.length + 1)) + 1 by omega, Nat.pow_succ]; omega
    have p2 : 2 ^ (9 - (r.length + 1)) ≤ 2 ^ 8 := Nat.pow_le_pow_right (by decide) (by omega)
    have hl : (rowStep f x).length = f.length + f.length := by
      unfold rowStep
      rw [List.length_append, List.length_map]
    refine ⟨⟨by omega, by omega, fun l hl => ?_⟩, _, .sh (.str x), by simp only [M.ret_bind, M.bad_bind, M.bind_assoc, M.lift_some, M.lift_none, M.calm_ret, M.map_ret, M.exc_bind, SM.sb_exc, retM_xc, SM.sb_ret, SM.sb_bad, SM.sb_bind, SM.seq_nx, SM.seq_rt, SM.seq_ct, SM.seq_xc, SM.seq_bad, SM.seq_sb, SM.seq_seq, boolM_bl, bindM_some, bindS_some, iteM_t, iteM_f, brS_t, brS_f, ev_c, ev_v, ev_bin, ev_un, ev_chain, ev_and, ev_or, ev_ite, ev_tup, ev_lst, ev_call, ev_bi, ev_ix, ev_sl, ev_rev, ev_cmp', evs_nil, evs_star, ec_c, ec_v, ec_bin, ec_un, ec_chain, ec_and, ec_or, ec_ite, ec_tup, ec_lst, ec_call, ec_bi, ec_ix, ec_sl, ec_rev, ec_cmp, evO_none, evO_some, evT_none, evT_some, evI_rng, evI_rng2, evI_zip, evI_enm, evI_seq, ss_nil', ss_pass', ss_cont', ss_asg', ss_expr', ss_ite', ss_loop', ss_ret', ss_rais', ss_tr', slotM_sh, starM_lst, starM_tup, optI_int, loopM_nil, retM_rt, retM_nx, List.getElem?_cons_zero, List.getElem?_cons_succ, List.set_cons_zero, List.set_cons_succ, bindT, bindTs, wipeE, Tg.slots, Tg.slotss, startE, List.nil_append, List.cons_append, List.append_nil, List.map_cons, List.map_nil, List.length_cons, List.length_nil, List.replicate_succ, List.replicate_zero, Option.bind_some, Option.map_some, Nat.reduceAdd, Nat.reduceSub, Int.reduceEq, Int.reduceLT, Int.reduceLE, decide_true, decide_false, Bool.not_true, Bool.not_false]; rfl, ?_⟩
    · unfold rowStep at hl
      rcases List.mem_append.mp hl with hl | hl
      · have := i3 l hl
        omega
      · obtain ⟨l', h', rfl⟩ := List.mem_map.mp hl
        have := i3 l' h'
        simp only [List.length_append, List.length_cons, List.length_nil]
        omega
    · simp only [M.ret_bind, M.bad_bind, M.bind_assoc, M.lift_some, M.lift_none, M.calm_ret, M.map_ret, M.exc_bind, SM.sb_exc, retM_xc, SM.sb_ret, SM.sb_bad, SM.sb_bind, SM.seq_nx, SM.seq_rt, SM.seq_ct, SM.seq_xc, SM.seq_bad, SM.seq_sb, SM.seq_seq, boolM_bl, bindM_some, bindS_some, iteM_t, iteM_f, brS_t, brS_f, ev_c, ev_v, ev_bin, ev_un, ev_chain, ev_and, ev_or, ev_ite, ev_tup, ev_lst, ev_call, ev_bi, ev_ix, ev_sl, ev_rev, ev_cmp', evs_nil, evs_star, ec_c, ec_v, ec_bin, ec_un, ec_chain, ec_and, ec_or, ec_ite, ec_tup, ec_lst, ec_call, ec_bi, ec_ix, ec_sl, ec_rev, ec_cmp, evO_none, evO_some, evT_none, evT_some, evI_rng, evI_rng2, evI_zip, evI_enm, evI_seq, ss_nil', ss_pass', ss_cont', ss_asg', ss_expr', ss_ite', ss_loop', ss_ret', ss_rais', ss_tr', slotM_sh, starM_lst, starM_tup, optI_int, loopM_nil, retM_rt, retM_nx, List.getElem?_cons_zero, List.getElem?_cons_succ, List.set_cons_zero, List.set_cons_succ, bindT, bindTs, wipeE, Tg.slots, Tg.slotss, startE, List.nil_append, List.cons_append, List.append_nil, List.map_cons, List.map_nil, List.length_cons, List.length_nil, List.replicate_succ, List.replicate_zero, Option.bind_some, Option.map_some, Nat.reduceAdd, Nat.reduceSub, Int.reduceEq, Int.reduceLT, Int.reduceLE, decide_true, decide_false, Bool.not_true, Bool.not_false, b_add_i, b_sub_i, b_lt_i, b_le_i, b_gt_i, b_ge_i, b_lt_s, b_eq_i, b_ne_i, b_eq_t0, b_eq_l0, b_ne_t0, b_ne_l0, b_in_1, b_nin_1, u_not, u_neg, bi_len_t, bi_len_l, bi_len_c, bi_tup_l, bi_tup_t, bi_lst_l, bi_lst_t, bi_int_i, bi_edict, bi_min_i, bi_all_map, bi_any_map, sq_l, sq_t, zp_t, zp_l, rv_t, rv_l, sl_t, sl_l, fit0, fit1, fit2, fit3, fit4, fit5, fit6, fit7, fit8, fit9, fit10, fit11, fit12, fit13, fit14, fit15, fit16, fit17, fit18, fit19, fit20, fit21, fit22, fit23, fit24, fit25, fit26, fit27, fit28, fit29, fit30, fit31, fit32, isin_str_non, isin_str_bl, isin_str_int, isin_str_str, isin_str_tup, isin_str_lst, isin_str_dct, isin_tuple_non, isin_tuple_bl, isin_tuple_int, isin_tuple_str, isin_tuple_tup, isin_tuple_lst, isin_tuple_dct, isin_int_non, isin_int_bl, isin_int_int, isin_int_str, isin_int_tup, isin_int_lst, isin_int_dct, isin_bool_non, isin_bool_bl, isin_bool_int, isin_bool_str, isin_bool_tup, isin_bool_lst, isin_bool_dct, isin_list_tuple_non, isin_list_tuple_bl, isin_list_tuple_int, isin_list_tuple_str, isin_list_tuple_tup, isin_list_tuple_lst, isin_list_tuple_dct, isin_tuple_list_non, isin_tuple_list_bl, isin_tuple_list_int, isin_tuple_list_str, isin_tuple_list_tup, isin_tuple_list_lst, isin_tuple_list_dct, isin_list_non, isin_list_bl, isin_list_int, isin_list_str, isin_list_tup, isin_list_lst, isin_list_dct, isin_dict_non, isin_dict_bl, isin_dict_int, isin_dict_str, isin_dict_tup, isin_dict_lst, isin_dict_dct]
      rw [cmpM_map f tupS (fun l => tupS (l ++ [x])) (fun l hl => ?_) (by unfold LIM; omega)]
      · simp only [M.ret_bind, M.bad_bind, M.bind_assoc, M.lift_some, M.lift_none, M.calm_ret, M.map_ret, M.exc_bind, SM.sb_exc, retM_xc, SM.sb_ret, SM.sb_bad, SM.sb_bind, SM.seq_nx, SM.seq_rt, SM.seq_ct, SM.seq_xc, SM.seq_bad, SM.seq_sb, SM.seq_seq, boolM_bl, bindM_some, bindS_some, iteM_t, iteM_f, brS_t, brS_f, ev_c, ev_v, ev_bin, ev_un, ev_chain, ev_and, ev_or, ev_ite, ev_tup, ev_lst, ev_call, ev_bi, ev_ix, ev_sl, ev_rev, ev_cmp', evs_nil, evs_star, ec_c, ec_v, ec_bin, ec_un, ec_chain, ec_and, ec_or, ec_ite, ec_tup, ec_lst, ec_call, ec_bi, ec_ix, ec_sl, ec_rev, ec_cmp, evO_none, evO_some, evT_none, evT_some, evI_rng, evI_rng2, evI_zip, evI_enm, evI_seq, ss_nil', ss_pass', ss_cont', ss_asg', ss_expr', ss_ite', ss_loop', ss_ret', ss_rais', ss_tr', slotM_sh, starM_lst, starM_tup, optI_int, loopM_nil, retM_rt, retM_nx, List.getElem?_cons_zero, List.getElem?_cons_succ, List.set_cons_zero, List.set_cons_succ, bindT, bindTs, wipeE, Tg.slots, Tg.slotss, startE, List.nil_append, List.cons_append, List.append_nil, List.map_cons, List.map_nil, List.length_cons, List.length_nil, List.replicate_succ, List.replicate_zero, Option.bind_some, Option.map_some, Nat.reduceAdd, Nat.reduceSub, Int.reduceEq, Int.reduceLT, Int.reduceLE, decide_true, decide_false, Bool.not_true, Bool.not_false]
        rw [b_add_l (by simp only [List.length_append, List.length_map]; unfold LIM; omega)]
        simp only [M.ret_bind, M.bad_bind, M.bind_assoc, M.lift_some, M.lift_none, M.calm_ret, M.map_ret, M.exc_bind, SM.sb_exc, retM_xc, SM.sb_ret, SM.sb_bad, SM.sb_bind, SM.seq_nx, SM.seq_rt, SM.seq_ct, SM.seq_xc, SM.seq_bad, SM.seq_sb, SM.seq_seq, boolM_bl, bindM_some, bindS_some, iteM_t, iteM_f, brS_t, brS_f, ev_c, ev_v, ev_bin, ev_un, ev_chain, ev_and, ev_or, ev_ite, ev_tup, ev_lst, ev_call, ev_bi, ev_ix, ev_sl, ev_rev, ev_cmp', evs_nil, evs_star, ec_c, ec_v, ec_bin, ec_un, ec_chain, ec_and, ec_or, ec_ite, ec_tup, ec_lst, ec_call, ec_bi, ec_ix, ec_sl, ec_rev, ec_cmp, evO_none, evO_some, evT_none, evT_some, evI_rng, evI_rng2, evI_zip, evI_enm, evI_seq, ss_nil', ss_pass', ss_cont', ss_asg', ss_expr', ss_ite', ss_loop', ss_ret', ss_rais', ss_tr', slotM_sh, starM_lst, starM_tup, optI_int, loopM_nil, retM_rt, retM_nx, List.getElem?_cons_zero, List.getElem?_cons_succ, List.set_cons_zero, List.set_cons_succ, bindT, bindTs, wipeE, Tg.slots, Tg.slotss, startE, List.nil_append, List.cons_append, List.append_nil, List.map_cons, List.map_nil, List.length_cons, List.length_nil, List.replicate_succ, List.replicate_zero, Option.bind_some, Option.map_some, Nat.reduceAdd, Nat.reduceSub, Int.reduceEq, Int.reduceLT, Int.reduceLE, decide_true, decide_false, Bool.not_true, Bool.not_false, rowStep, List.map_append, List.map_map]
        rfl
      · have := i3 l hl
        unfold tupS
        try simp only [M.ret_bind, M.bad_bind, M.bind_assoc, M.lift_some, M.lift_none, M.calm_ret, M.map_ret, M.exc_bind, SM.sb_exc, retM_xc, SM.sb_ret, SM.sb_bad, SM.sb_bind, SM.seq_nx, SM.seq_rt, SM.seq_ct, SM.seq_xc, SM.seq_bad, SM.seq_sb, SM.seq_seq, boolM_bl, bindM_some, bindS_some, iteM_t, iteM_f, brS_t, brS_f, ev_c, ev_v, ev_bin, ev_un, ev_chain, ev_and, ev_or, ev_ite, ev_tup, ev_lst, ev_call, ev_bi, ev_ix, ev_sl, ev_rev, ev_cmp', evs_nil, evs_star, ec_c, ec_v, ec_bin, ec_un, ec_chain, ec_and, ec_or, ec_ite, ec_tup, ec_lst, ec_call, ec_bi, ec_ix, ec_sl, ec_rev, ec_cmp, evO_none, evO_some, evT_none, evT_some, evI_rng, evI_rng2, evI_zip, evI_enm, evI_seq, ss_nil', ss_pass', ss_cont', ss_asg', ss_expr', ss_ite', ss_loop', ss_ret', ss_rais', ss_tr', slotM_sh, starM_lst, starM_tup, optI_int, loopM_nil, retM_rt, retM_nx, List.getElem?_cons_zero, List.getElem?_cons_succ, List.set_cons_zero, List.set_cons_succ, bindT, bindTs, wipeE, Tg.slots, Tg.slotss, startE, List.nil_append, List.cons_append, List.append_nil, List.map_cons, List.map_nil, List.length_cons, List.length_nil, List.replicate_succ, List.replicate_zero, Option.bind_some, Option.map_some, Nat.reduceAdd, Nat.reduceSub, Int.reduceEq, Int.reduceLT, Int.reduceLE, decide_true, decide_false, Bool.not_true, Bool.not_false, b_add_i, b_sub_i, b_lt_i, b_le_i, b_gt_i, b_ge_i, b_lt_s, b_eq_i, b_ne_i, b_eq_t0, b_eq_l0, b_ne_t0, b_ne_l0, b_in_1, b_nin_1, u_not, u_neg, bi_len_t, bi_len_l, bi_len_c, bi_tup_l, bi_tup_t, bi_lst_l, bi_lst_t, bi_int_i, bi_edict, bi_min_i, bi_all_map, bi_any_map, sq_l, sq_t, zp_t, zp_l, rv_t, rv_l, sl_t, sl_l, fit0, fit1, fit2, fit3, fit4, fit5, fit6, fit7, fit8, fit9, fit10, fit11, fit12, fit13, fit14, fit15, fit16, fit17, fit18, fit19, fit20, fit21, fit22, fit23, fit24, fit25, fit26, fit27, fit28, fit29, fit30, fit31, fit32, isin_str_non, isin_str_bl, isin_str_int, isin_str_str, isin_str_tup, isin_str_lst, isin_str_dct, isin_tuple_non, isin_tuple_bl, isin_tuple_int, isin_tuple_str, isin_tuple_tup, isin_tuple_lst, isin_tuple_dct, isin_int_non, isin_int_bl, isin_int_int, isin_int_str, isin_int_tup, isin_int_lst, isin_int_dct, isin_bool_non, isin_bool_bl, isin_bool_int, isin_bool_str, isin_bool_tup, isin_bool_lst, isin_bool_dct, isin_list_tuple_non, isin_list_tuple_bl, isin_list_tuple_int, isin_list_tuple_str, isin_list_tuple_tup, isin_list_tuple_lst, isin_list_tuple_dct, isin_tuple_list_non, isin_tuple_list_bl, isin_tuple_list_int, isin_tuple_list_str, isin_tuple_list_tup, isin_tuple_list_lst, isin_tuple_list_dct, isin_list_non, isin_list_bl, isin_list_int, isin_list_str, isin_list_tup, isin_list_lst, isin_list_dct, isin_dict_non, isin_dict_bl, isin_dict_int, isin_dict_str, isin_dict_tup, isin_dict_lst, isin_dict_dct]
        rw [b_add_t (by simp only [List.length_append, List.length_map, List.length_cons, List.length_nil]; unfold LIM; omega)]
        simp only [M.ret_bind, M.bad_bind, M.bind_assoc, M.lift_some, M.lift_none, M.calm_ret, M.map_ret, M.exc_bind, SM.sb_exc, retM_xc, SM.sb_ret, SM.sb_bad, SM.sb_bind, SM.seq_nx, SM.seq_rt, SM.seq_ct, SM.seq_xc, SM.seq_bad, SM.seq_sb, SM.seq_seq, boolM_bl, bindM_some, bindS_some, iteM_t, iteM_f, brS_t, brS_f, ev_c, ev_v, ev_bin, ev_un, ev_chain, ev_and, ev_or, ev_ite, ev_tup, ev_lst, ev_call, ev_bi, ev_ix, ev_sl, ev_rev, ev_cmp', evs_nil, evs_star, ec_c, ec_v, ec_bin, ec_un, ec_chain, ec_and, ec_or, ec_ite, ec_tup, ec_lst, ec_call, ec_bi, ec_ix, ec_sl, ec_rev, ec_cmp, evO_none, evO_some, evT_none, evT_some, evI_rng, evI_rng2, evI_zip, evI_enm, evI_seq, ss_nil', ss_pass', ss_cont', ss_asg', ss_expr', ss_ite', ss_loop', ss_ret', ss_rais', ss_tr', slotM_sh, starM_lst, starM_tup, optI_int, loopM_nil, retM_rt, retM_nx, List.getElem?_cons_zero, List.getElem?_cons_succ, List.set_cons_zero, List.set_cons_succ, bindT, bindTs, wipeE, Tg.slots, Tg.slotss, startE, List.nil_append, List.cons_append, List.append_nil, List.map_cons, List.map_nil, List.length_cons, List.length_nil, List.replicate_succ, List.replicate_zero, Option.bind_some, Option.map_some, Nat.reduceAdd, Nat.reduceSub, Int.reduceEq, Int.reduceLT, Int.reduceLE, decide_true, decide_false, Bool.not_true, Bool.not_false, List.map_append]
  · refine ⟨ht, ?_, ?_⟩
    · simp only [List.length_cons, List.length_nil]
      exact Nat.one_le_two_pow
    · simp
end
end Ev
set_option Elab.async false
set_option linter.all false
set_option maxRecDepth 100000
set_option maxHeartbeats 1000000
/-! Pl6: what draws. -/
namespace Ev
open PySem
/-- a machine that can draw n times more -/
def MOk (n : Nat) (m : Option MSt) : Prop := ∃ s, m = some s ∧ 0 ≤ s.at_ ∧ s.at_ + n ≤ 1000000000 ∧ s.cells.length ≤ LIM
theorem MOk.le {n n' : Nat} {m : Option MSt} (h : MOk n m) (l : n' ≤ n) : MOk n' m := by
  obtain ⟨s, a, b, c, d⟩ := h
  exact ⟨s, a, b, by omega, d⟩
/-- x ends well, draws at most c times, and tells what Q says -/
def Tr {α : Type} (c : Nat) (x : M α) (Q : α → Prop) : Prop := ∀ n m, MOk (n + c) m → ∃ a m', x m = .ok a m' ∧ MOk n m' ∧ Q a
namespace Tr
variable {α β : Type} {c c' c1 c2 : Nat} {x : M α} {f : α → M β} {P : α → Prop} {Q : β → Prop}
theorem ret {a : β} (h : Q a) : Tr c (M.ret a) Q := fun n m hm => ⟨a, m, rfl, hm.le (by omega), h⟩
theorem le (h : Tr c x P) (l : c ≤ c') : Tr c' x P := fun n m hm => h n m (hm.le (by omega))
theorem mono {P' : α → Prop} (h : Tr c x P) (i : ∀ a, P a → P' a) : Tr c x P' := fun n m hm => by
  obtain ⟨a, m', h1, h2, h3⟩ := h n m hm
  exact ⟨a, m', h1, h2, i a h3⟩
theorem bind (c2 : Nat) (h : Tr c1 x P) (g : ∀ a, P a → Tr c2 (f a) Q) (hc : c1 + c2 ≤ c := by omega) : Tr c (M.bind x f) Q := fun n m hm => by
  obtain ⟨a, m', h1, h2, h3⟩ := h (n + c2) m (hm.le (by omega))
  obtain ⟨b, m2, g1, g2, g3⟩ := g a h3 n m' h2
  refine ⟨b, m2, ?_, g2, g3⟩
  unfold M.bind
  rw [h1]
  exact g1
theorem of_eq {y : M α} (e : x = y) (h : Tr c y P) : Tr c x P := e ▸ h
theorem pure {a : α} (e : x = M.ret a) (h : P a) : Tr c x P := e ▸ ret h
end Tr
/-- the same of statements -/
def TrS (c : Nat) (x : SM) (N : Env → Prop) (R : D → Prop) : Prop := ∀ n m, MOk (n + c) m → (∃ e m', x m = .nx e m' ∧ MOk n m' ∧ N e) ∨ (∃ d m', x m = .rt d m' ∧ MOk n m' ∧ R d)
namespace TrS
variable {α : Type} {c c' c1 c2 : Nat} {N N' : Env → Prop} {R R' : D → Prop} {env : Env}
theorem nx (h : N env) : TrS c (SM.nx env) N R := fun n m hm => .inl ⟨env, m, rfl, hm.le (by omega), h⟩
theorem rt {d : D} (h : R d) : TrS c (SM.rt d) N R := fun n m hm => .inr ⟨d, m, rfl, hm.le (by omega), h⟩
theorem le {x : SM} (h : TrS c x N R) (l : c ≤ c') : TrS c' x N R := fun n m hm => h n m (hm.le (by omega))
theorem mono {x : SM} (h : TrS c x N R) (i : ∀ e, N e → N' e) (j : ∀ d, R d → R' d) : TrS c x N' R' := fun n m hm => by
  rcases h n m hm with ⟨e, m', h1, h2, h3⟩ | ⟨d, m', h1, h2, h3⟩
  · exact .inl ⟨e, m', h1, h2, i e h3⟩
  · exact .inr ⟨d, m', h1, h2, j d h3⟩
theorem sb (c2 : Nat) {x : M α} {k : α → SM} {P : α → Prop} (h : Tr c1 x P) (g : ∀ a, P a → TrS c2 (k a) N R) (hc : c1 + c2 ≤ c := by omega) : TrS c (SM.sb x env k) N R := fun n m hm => by
  obtain ⟨a, m', h1, h2, h3⟩ := h (n + c2) m (hm.le (by omega))
  have z := g a h3 n m' h2
  unfold SM.sb onO
  rw [h1]
  exact z
theorem seq (c2 : Nat) {x : SM} {k : Env → SM} (h : TrS c1 x N' R) (g : ∀ e, N' e → TrS c2 (k e) N R) (hc : c1 + c2 ≤ c := by omega) : TrS c (SM.seq x k) N R := fun n m hm => by
  rcases h (n + c2) m (hm.le (by omega)) with ⟨e, m', h1, h2, h3⟩ | ⟨d, m', h1, h2, h3⟩
  · have z := g e h3 n m' h2
    unfold SM.seq SOut.seq
    rw [h1]
    exact z
  · refine .inr ⟨d, m', ?_, h2.le (by omega), h3⟩
    unfold SM.seq SOut.seq
    rw [h1]
/-- a loop by an invariant of what is left -/
theorem loop {tg : Tg} {f : Env → SM} (I : List D → Env → Prop) (h : ∀ x r e, I (x :: r) e → ∃ e1, bindT tg x e = some e1 ∧ TrS c (f e1) (I r) R) : ∀ (xs : List D) (env : Env), I xs env → TrS (xs.length * c) (loopM tg f xs env) (I []) R
  | [], env, i => fun n m hm => .inl ⟨env, m, rfl, hm.le (by omega), i⟩
  | x :: r, env, i => fun n m hm => by
    obtain ⟨e1, b, t⟩ := h x r env i
    have hm : MOk (n + (r.length + 1) * c) m := hm
    rw [Nat.add_mul, Nat.one_mul, ← Nat.add_assoc] at hm
    unfold loopM
    simp only [loopS, b]
    rcases t (n + r.length * c) m hm with ⟨e, m', h1, h2, h3⟩ | ⟨d, m', h1, h2, h3⟩
    · rw [h1]
      exact loop I h r e h3 n m' h2
    · rw [h1]
      exact .inr ⟨d, m', rfl, h2.le (by omega), h3⟩
theorem of_eq {x y : SM} (e : x = y) (h : TrS c y N R) : TrS c x N R := e ▸ h
theorem ret {x : SM} {Q : D → Prop} (h : TrS c x N Q) (i : ∀ e, N e → Q .non) : Tr c (retM x) Q := fun n m hm => by
  unfold retM
  rcases h n m hm with ⟨e, m', h1, h2, h3⟩ | ⟨d, m', h1, h2, h3⟩
  · rw [h1]
    exact ⟨.non, m', rfl, h2, i e h3⟩
  · rw [h1]
    exact ⟨d, m', rfl, h2, h3⟩
end TrS
theorem nextV_mod (cells : List Int) (a k : Int) (h : 0 < k) : 0 ≤ nextV cells a k ∧ nextV cells a k < k := ⟨Int.emod_nonneg _ (by omega), Int.emod_lt_of_pos _ h⟩
theorem tr_next {k : Int} (h0 : 0 < k) (h1 : k ≤ 1000000) : Tr 1 (nextM [.mm, .int k]) fun d => ∃ v : Int, d = .int v ∧ 0 ≤ v ∧ v < k := fun n m hm => by
  obtain ⟨s, rfl, a, b, c⟩ := hm
  simp only [nextM]
  rw [if_pos ⟨h0, h1, a, by omega, c⟩]
  cases s.left.dropWhile (· == 0) with
  | nil => exact ⟨_, _, rfl, ⟨_, rfl, by dsimp only; omega, by dsimp only; omega, c⟩, _, rfl, nextV_mod _ _ _ h0⟩
  | cons r rest => exact ⟨_, _, rfl, ⟨_, rfl, a, by dsimp only; omega, c⟩, _, rfl, Int.emod_nonneg _ (by omega), Int.emod_lt_of_pos _ h0⟩
section
variable {P : List (Str × Fn)} {pr : FT} {up : List (Str × Str)} {k : Nat}
theorem t_next (h : HasNo P "_law_next") (hp : pr "_law_next" = nextM) {i : Int} (h0 : 0 < i) (h1 : i ≤ 1000000) : Tr 1 (runF P pr up (k + 1) "_law_next" [.mm, .int i]) fun d => ∃ v : Int, d = .int v ∧ 0 ≤ v ∧ v < i := by
  rw [run_prim h, hp]
  exact tr_next h0 h1
end
/-! ### texts by their signs -/
def mkS (l : List Nat) : Str := ⟨l.toArray⟩
theorem mkS_of (x : Str) : mkS x.cps.toList = x := by cases x; rfl
theorem mkS_list (l : List Nat) : (mkS l).cps.toList = l := by simp [mkS]
theorem mkS_len (l : List Nat) : (mkS l).length = l.length := by simp [mkS, Str.length]
theorem mkS_app (a b : List Nat) : mkS a ++ mkS b = mkS (a ++ b) := by
  apply PySem.W.str_of_cps
  show ((mkS a).cps ++ (mkS b).cps).toList = _
  simp [mkS]
theorem mkS_cut (l : List Nat) (lo hi : Option Int) : L2.cutS (mkS l) lo hi = mkS (cutL l lo hi) := by
  unfold L2.cutS cutL
  rw [mkS_list, mkS_len]
  rfl
theorem mkS_one (c : Nat) : (⟨#[c]⟩ : Str) = mkS [c] := rfl
theorem mkS_ok {l : List Nat} (h : ∀ c ∈ l, c < 0x110000) : PyData.strOk (mkS l) = true := by
  unfold PyData.strOk mkS
  simp
  exact h
theorem mkS_word (l : List Nat) : wordB (mkS l) = (decide (1 ≤ l.length) && decide (l.length ≤ 8) && l.all fun c => decide (c ∈ alphS.cps.toList)) := by
  unfold wordB
  rw [mkS_list, mkS_len]
def Alpha (l : List Nat) : Prop := ∀ c ∈ l, 97 ≤ c ∧ c ≤ 122
theorem alph_mem {c : Nat} : c ∈ alphS.cps.toList ↔ 97 ≤ c ∧ c ≤ 122 := by
  have e : alphS.cps.toList = List.range' 97 26 := by decide +kernel
  rw [e, List.mem_range'_1]
  omega
theorem mkS_inj {a b : List Nat} (h : mkS a = mkS b) : a = b := by rw [← mkS_list a, h, mkS_list]
theorem word_of {l : List Nat} (h : Alpha l) (h1 : 1 ≤ l.length) (h2 : l.length ≤ 8) : wordB (mkS l) = true := by
  rw [mkS_word]
  simp only [h1, h2, decide_true, Bool.true_and, List.all_eq_true, decide_eq_true_eq]
  exact fun c hc => alph_mem.mpr (h c hc)
theorem of_word {x : Str} (h : wordB x = true) : ∃ l, x = mkS l ∧ Alpha l ∧ 1 ≤ l.length ∧ l.length ≤ 8 := by
  refine ⟨x.cps.toList, (mkS_of x).symm, ?_⟩
  rw [← mkS_of x, mkS_word] at h
  simp only [Bool.and_eq_true, decide_eq_true_eq, List.all_eq_true] at h
  exact ⟨fun c hc => alph_mem.mp (h.2 c hc), h.1.1, h.1.2⟩
theorem word_ok {x : Str} (h : wordB x = true) : PyData.strOk x = true := by
  obtain ⟨l, rfl, ha, _⟩ := of_word h
  exact mkS_ok fun c hc => by have := (ha c hc).2; omega
theorem word_good {x : Str} (h : wordB x = true) : (D.str x).good = true := by
  obtain ⟨l, rfl, ha, h1, h2⟩ := of_word h
  rw [good_str, mkS_len]
  exact ⟨by omega, word_ok h⟩
end Ev
set_option Elab.async false
set_option linter.all false
set_option maxRecDepth 100000
set_option maxHeartbeats 2000000
/-! Pl7: the law's drawn names. -/
namespace Ev
open PySem
theorem ltr_at {v : Int} (h0 : 0 ≤ v) (h1 : v < 26) : ixD (.str (Str.ofString "abcdefghijklmnopqrstuvwxyz")) (.int v) = some (.str (mkS [97 + v.toNat])) := by
  have e : ∀ n : Nat, n < 26 → L2.atI (Str.ofString "abcdefghijklmnopqrstuvwxyz").cps.toList (n : Int) = some (97 + n) := by decide +kernel
  have z := e v.toNat (by omega)
  rw [Int.toNat_of_nonneg h0] at z
  simp only [ixD]
  rw [if_pos (by decide +kernel), z]
  rfl
def rep8 (c : Nat) : List Nat := List.replicate 8 c
theorem rep8_len (c : Nat) : (rep8 c).length = 8 := List.length_replicate
theorem mul8 (c : Nat) : binD .mul (.str (mkS [c])) (.int 8) = some (.str (mkS (rep8 c))) := by rfl
section
variable {P : List (Str × Fn)} {pr : FT} {up : List (Str × Str)} {k : Nat}
def IsNames (n : Nat) (d : D) : Prop := ∃ ss : List Str, d = .lst (ss.map D.str) ∧ ss.length = n ∧ ss.Nodup ∧ ∀ x ∈ ss, wordB x = true
theorem names_of {n : Nat} {f : Nat → List Nat} (hw : ∀ i, i < n → Alpha (f i) ∧ 1 ≤ (f i).length ∧ (f i).length ≤ 8) (hi : ∀ i j, i < j → j < n → f i ≠ f j) : IsNames n (.lst ((List.range n).map fun i => .str (mkS (f i)))) := by
  refine ⟨(List.range n).map fun i => mkS (f i), by rw [List.map_map]; rfl, by simp, ?_, fun x hx => ?_⟩
  · refine List.pairwise_map.mpr (List.Pairwise.imp_of_mem (fun {a b} ha hb h e => ?_) List.pairwise_lt_range)
    exact hi a b h (List.mem_range.mp hb) (mkS_inj e)
  · obtain ⟨i, hi', rfl⟩ := List.mem_map.mp hx
    obtain ⟨a, b, c⟩ := hw i (List.mem_range.mp hi')
    exact word_of a b c
theorem t_names (hn : HasNo P "_law_next") (hp : pr "_law_next" = nextM) (h : Has P "_law_names" f_law_names) {n : Nat} (hn8 : n ≤ 8) : Tr 11 (runF P pr up (k + 2) "_law_names" [.mm, .int n]) (IsNames n) := by
  rw [run_def h rfl (by decide)]
  refine TrS.ret (N := fun _ => False) ?_ (fun _ z => z.elim)
  simp only [M.ret_bind, M.bad_bind, M.bind_assoc, M.lift_some, M.lift_none, M.calm_ret, M.map_ret, M.exc_bind, SM.sb_exc, retM_xc, SM.sb_ret, SM.sb_bad, SM.sb_bind, SM.seq_nx, SM.seq_rt, SM.seq_ct, SM.seq_xc, SM.seq_bad, SM.seq_sb, SM.seq_seq, boolM_bl, bindM_some, bindS_some, iteM_t, iteM_f, brS_t, brS_f, ev_c, ev_v, ev_bin, ev_un, ev_chain, ev_and, ev_or, ev_ite, ev_tup, ev_lst, ev_call, ev_bi, ev_ix, ev_sl, ev_rev, ev_cmp', evs_nil, evs_star, ec_c, ec_v, ec_bin, ec_un, ec_chain, ec_and, ec_or, ec_ite, ec_tup, ec_lst, ec_call, ec_bi, ec_ix, ec_sl, ec_rev, ec_cmp, evO_none, evO_some, evT_none, evT_some, evI_rng, evI_rng2, evI_zip, evI_enm, evI_seq, ss_nil', ss_pass', ss_cont', ss_asg', ss_expr', ss_ite', ss_loop', ss_ret', ss_rais', ss_tr', slotM_sh, starM_lst, starM_tup, optI_int, loopM_nil, retM_rt, retM_nx, List.getElem?_cons_zero, List.getElem?_cons_succ, List.set_cons_zero, List.set_cons_succ, bindT, bindTs, wipeE, Tg.slots, Tg.slotss, startE, List.nil_append, List.cons_append, List.append_nil, List.map_cons, List.map_nil, List.length_cons, List.length_nil, List.replicate_succ, List.replicate_zero, Option.bind_some, Option.map_some, Nat.reduceAdd, Nat.reduceSub, Int.reduceEq, Int.reduceLT, Int.reduceLE, decide_true, decide_false, Bool.not_true, Bool.not_false, b_add_i, b_sub_i, b_lt_i, b_le_i, b_gt_i, b_ge_i, b_lt_s, b_eq_i, b_ne_i, b_eq_t0, b_eq_l0, b_ne_t0, b_ne_l0, b_in_1, b_nin_1, u_not, u_neg, bi_len_t, bi_len_l, bi_len_c, bi_tup_l, bi_tup_t, bi_lst_l, bi_lst_t, bi_int_i, bi_edict, bi_min_i, bi_all_map, bi_any_map, sq_l, sq_t, zp_t, zp_l, rv_t, rv_l, sl_t, sl_l, fit0, fit1, fit2, fit3, fit4, fit5, fit6, fit7, fit8, fit9, fit10, fit11, fit12, fit13, fit14, fit15, fit16, fit17, fit18, fit19, fit20, fit21, fit22, fit23, fit24, fit25, fit26, fit27, fit28, fit29, fit30, fit31, fit32, isin_str_non, isin_str_bl, isin_str_int, isin_str_str, isin_str_tup, isin_str_lst, isin_str_dct, isin_tuple_non, isin_tuple_bl, isin_tuple_int, isin_tuple_str, isin_tuple_tup, isin_tuple_lst, isin_tuple_dct, isin_int_non, isin_int_bl, isin_int_int, isin_int_str, isin_int_tup, isin_int_lst, isin_int_dct, isin_bool_non, isin_bool_bl, isin_bool_int, isin_bool_str, isin_bool_tup, isin_bool_lst, isin_bool_dct, isin_list_tuple_non, isin_list_tuple_bl, isin_list_tuple_int, isin_list_tuple_str, isin_list_tuple_tup, isin_list_tuple_lst, isin_list_tuple_dct, isin_tuple_list_non, isin_tuple_list_bl, isin_tuple_list_int, isin_tuple_list_str, isin_tuple_list_tup, isin_tuple_list_lst, isin_tuple_list_dct, isin_list_non, isin_list_bl, isin_list_int, isin_list_str, isin_list_tup, isin_list_lst, isin_list_dct, isin_dict_non, isin_dict_bl, isin_dict_int, isin_dict_str, isin_dict_tup, isin_dict_lst, isin_dict_dct, f_law_names]
  refine TrS.sb 10 (t_next hn hp (i := 8) (by decide) (by decide)) fun d ⟨v, e, v0, v1⟩ => ?_
  subst e
  simp only [M.ret_bind, M.bad_bind, M.bind_assoc, M.lift_some, M.lift_none, M.calm_ret, M.map_ret, M.exc_bind, SM.sb_exc, retM_xc, SM.sb_ret, SM.sb_bad, SM.sb_bind, SM.seq_nx, SM.seq_rt, SM.seq_ct, SM.seq_xc, SM.seq_bad, SM.seq_sb, SM.seq_seq, boolM_bl, bindM_some, bindS_some, iteM_t, iteM_f, brS_t, brS_f, ev_c, ev_v, ev_bin, ev_un, ev_chain, ev_and, ev_or, ev_ite, ev_tup, ev_lst, ev_call, ev_bi, ev_ix, ev_sl, ev_rev, ev_cmp', evs_nil, evs_star, ec_c, ec_v, ec_bin, ec_un, ec_chain, ec_and, ec_or, ec_ite, ec_tup, ec_lst, ec_call, ec_bi, ec_ix, ec_sl, ec_rev, ec_cmp, evO_none, evO_some, evT_none, evT_some, evI_rng, evI_rng2, evI_zip, evI_enm, evI_seq, ss_nil', ss_pass', ss_cont', ss_asg', ss_expr', ss_ite', ss_loop', ss_ret', ss_rais', ss_tr', slotM_sh, starM_lst, starM_tup, optI_int, loopM_nil, retM_rt, retM_nx, List.getElem?_cons_zero, List.getElem?_cons_succ, List.set_cons_zero, List.set_cons_succ, bindT, bindTs, wipeE, Tg.slots, Tg.slotss, startE, List.nil_append, List.cons_append, List.append_nil, List.map_cons, List.map_nil, List.length_cons, List.length_nil, List.replicate_succ, List.replicate_zero, Option.bind_some, Option.map_some, Nat.reduceAdd, Nat.reduceSub, Int.reduceEq, Int.reduceLT, Int.reduceLE, decide_true, decide_false, Bool.not_true, Bool.not_false, b_add_i, b_sub_i, b_lt_i, b_le_i, b_gt_i, b_ge_i, b_lt_s, b_eq_i, b_ne_i, b_eq_t0, b_eq_l0, b_ne_t0, b_ne_l0, b_in_1, b_nin_1, u_not, u_neg, bi_len_t, bi_len_l, bi_len_c, bi_tup_l, bi_tup_t, bi_lst_l, bi_lst_t, bi_int_i, bi_edict, bi_min_i, bi_all_map, bi_any_map, sq_l, sq_t, zp_t, zp_l, rv_t, rv_l, sl_t, sl_l, fit0, fit1, fit2, fit3, fit4, fit5, fit6, fit7, fit8, fit9, fit10, fit11, fit12, fit13, fit14, fit15, fit16, fit17, fit18, fit19, fit20, fit21, fit22, fit23, fit24, fit25, fit26, fit27, fit28, fit29, fit30, fit31, fit32, isin_str_non, isin_str_bl, isin_str_int, isin_str_str, isin_str_tup, isin_str_lst, isin_str_dct, isin_tuple_non, isin_tuple_bl, isin_tuple_int, isin_tuple_str, isin_tuple_tup, isin_tuple_lst, isin_tuple_dct, isin_int_non, isin_int_bl, isin_int_int, isin_int_str, isin_int_tup, isin_int_lst, isin_int_dct, isin_bool_non, isin_bool_bl, isin_bool_int, isin_bool_str, isin_bool_tup, isin_bool_lst, isin_bool_dct, isin_list_tuple_non, isin_list_tuple_bl, isin_list_tuple_int, isin_list_tuple_str, isin_list_tuple_tup, isin_list_tuple_lst, isin_list_tuple_dct, isin_tuple_list_non, isin_tuple_list_bl, isin_tuple_list_int, isin_tuple_list_str, isin_tuple_list_tup, isin_tuple_list_lst, isin_tuple_list_dct, isin_list_non, isin_list_bl, isin_list_int, isin_list_str, isin_list_tup, isin_list_lst, isin_list_dct, isin_dict_non, isin_dict_bl, isin_dict_int, isin_dict_str, isin_dict_tup, isin_dict_lst, isin_dict_dct, rng0 v0 (by omega : v ≤ 100000)]
  refine TrS.seq 3 (c1 := 7) (N' := fun e => ∃ l j, e = [.sh .mm, .sh (.int n), j, .no, .sh (.str (Str.ofString "abcdefghijklmnopqrstuvwxyz")), .sh (.str (mkS l)), .no, .no, .no] ∧ Alpha l ∧ l.length ≤ 7) (TrS.mono (R := fun _ => False) (TrS.le (TrS.loop (c := 1) (fun r e => ∃ l j, e = [.sh .mm, .sh (.int n), j, .no, .sh (.str (Str.ofString "abcdefghijklmnopqrstuvwxyz")), .sh (.str (mkS l)), .no, .no, .no] ∧ Alpha l ∧ l.length + r.length ≤ 7) ?_ _ _ ?_) ?_) ?_ (fun _ z => z.elim)) ?_
  · rintro x r e ⟨l, j, rfl, ha, hl⟩
    refine ⟨_, by simp only [M.ret_bind, M.bad_bind, M.bind_assoc, M.lift_some, M.lift_none, M.calm_ret, M.map_ret, M.exc_bind, SM.sb_exc, retM_xc, SM.sb_ret, SM.sb_bad, SM.sb_bind, SM.seq_nx, SM.seq_rt, SM.seq_ct, SM.seq_xc, SM.seq_bad, SM.seq_sb, SM.seq_seq, boolM_bl, bindM_some, bindS_some, iteM_t, iteM_f, brS_t, brS_f, ev_c, ev_v, ev_bin, ev_un, ev_chain, ev_and, ev_or, ev_ite, ev_tup, ev_lst, ev_call, ev_bi, ev_ix, ev_sl, ev_rev, ev_cmp', evs_nil, evs_star, ec_c, ec_v, ec_bin, ec_un, ec_chain, ec_and, ec_or, ec_ite, ec_tup, ec_lst, ec_call, ec_bi, ec_ix, ec_sl, ec_rev, ec_cmp, evO_none, evO_some, evT_none, evT_some, evI_rng, evI_rng2, evI_zip, evI_enm, evI_seq, ss_nil', ss_pass', ss_cont', ss_asg', ss_expr', ss_ite', ss_loop', ss_ret', ss_rais', ss_tr', slotM_sh, starM_lst, starM_tup, optI_int, loopM_nil, retM_rt, retM_nx, List.getElem?_cons_zero, List.getElem?_cons_succ, List.set_cons_zero, List.set_cons_succ, bindT, bindTs, wipeE, Tg.slots, Tg.slotss, startE, List.nil_append, List.cons_append, List.append_nil, List.map_cons, List.map_nil, List.length_cons, List.length_nil, List.replicate_succ, List.replicate_zero, Option.bind_some, Option.map_some, Nat.reduceAdd, Nat.reduceSub, Int.reduceEq, Int.reduceLT, Int.reduceLE, decide_true, decide_false, Bool.not_true, Bool.not_false]; rfl, ?_⟩
    simp only [M.ret_bind, M.bad_bind, M.bind_assoc, M.lift_some, M.lift_none, M.calm_ret, M.map_ret, M.exc_bind, SM.sb_exc, retM_xc, SM.sb_ret, SM.sb_bad, SM.sb_bind, SM.seq_nx, SM.seq_rt, SM.seq_ct, SM.seq_xc, SM.seq_bad, SM.seq_sb, SM.seq_seq, boolM_bl, bindM_some, bindS_some, iteM_t, iteM_f, brS_t, brS_f, ev_c, ev_v, ev_bin, ev_un, ev_chain, ev_and, ev_or, ev_ite, ev_tup, ev_lst, ev_call, ev_bi, ev_ix, ev_sl, ev_rev, ev_cmp', evs_nil, evs_star, ec_c, ec_v, ec_bin, ec_un, ec_chain, ec_and, ec_or, ec_ite, ec_tup, ec_lst, ec_call, ec_bi, ec_ix, ec_sl, ec_rev, ec_cmp, evO_none, evO_some, evT_none, evT_some, evI_rng, evI_rng2, evI_zip, evI_enm, evI_seq, ss_nil', ss_pass', ss_cont', ss_asg', ss_expr', ss_ite', ss_loop', ss_ret', ss_rais', ss_tr', slotM_sh, starM_lst, starM_tup, optI_int, loopM_nil, retM_rt, retM_nx, List.getElem?_cons_zero, List.getElem?_cons_succ, List.set_cons_zero, List.set_cons_succ, bindT, bindTs, wipeE, Tg.slots, Tg.slotss, startE, List.nil_append, List.cons_append, List.append_nil, List.map_cons, List.map_nil, List.length_cons, List.length_nil, List.replicate_succ, List.replicate_zero, Option.bind_some, Option.map_some, Nat.reduceAdd, Nat.reduceSub, Int.reduceEq, Int.reduceLT, Int.reduceLE, decide_true, decide_false, Bool.not_true, Bool.not_false, b_add_i, b_sub_i, b_lt_i, b_le_i, b_gt_i, b_ge_i, b_lt_s, b_eq_i, b_ne_i, b_eq_t0, b_eq_l0, b_ne_t0, b_ne_l0, b_in_1, b_nin_1, u_not, u_neg, bi_len_t, bi_len_l, bi_len_c, bi_tup_l, bi_tup_t, bi_lst_l, bi_lst_t, bi_int_i, bi_edict, bi_min_i, bi_all_map, bi_any_map, sq_l, sq_t, zp_t, zp_l, rv_t, rv_l, sl_t, sl_l, fit0, fit1, fit2, fit3, fit4, fit5, fit6, fit7, fit8, fit9, fit10, fit11, fit12, fit13, fit14, fit15, fit16, fit17, fit18, fit19, fit20, fit21, fit22, fit23, fit24, fit25, fit26, fit27, fit28, fit29, fit30, fit31, fit32, isin_str_non, isin_str_bl, isin_str_int, isin_str_str, isin_str_tup, isin_str_lst, isin_str_dct, isin_tuple_non, isin_tuple_bl, isin_tuple_int, isin_tuple_str, isin_tuple_tup, isin_tuple_lst, isin_tuple_dct, isin_int_non, isin_int_bl, isin_int_int, isin_int_str, isin_int_tup, isin_int_lst, isin_int_dct, isin_bool_non, isin_bool_bl, isin_bool_int, isin_bool_str, isin_bool_tup, isin_bool_lst, isin_bool_dct, isin_list_tuple_non, isin_list_tuple_bl, isin_list_tuple_int, isin_list_tuple_str, isin_list_tuple_tup, isin_list_tuple_lst, isin_list_tuple_dct, isin_tuple_list_non, isin_tuple_list_bl, isin_tuple_list_int, isin_tuple_list_str, isin_tuple_list_tup, isin_tuple_list_lst, isin_tuple_list_dct, isin_list_non, isin_list_bl, isin_list_int, isin_list_str, isin_list_tup, isin_list_lst, isin_list_dct, isin_dict_non, isin_dict_bl, isin_dict_int, isin_dict_str, isin_dict_tup, isin_dict_lst, isin_dict_dct]
    refine TrS.sb 0 (t_next hn hp (i := 26) (by decide) (by decide)) fun d ⟨v, e, v0, v1⟩ => ?_
    subst e
    have hl : l.length + (r.length + 1) ≤ 7 := hl
    simp only [M.ret_bind, M.bad_bind, M.bind_assoc, M.lift_some, M.lift_none, M.calm_ret, M.map_ret, M.exc_bind, SM.sb_exc, retM_xc, SM.sb_ret, SM.sb_bad, SM.sb_bind, SM.seq_nx, SM.seq_rt, SM.seq_ct, SM.seq_xc, SM.seq_bad, SM.seq_sb, SM.seq_seq, boolM_bl, bindM_some, bindS_some, iteM_t, iteM_f, brS_t, brS_f, ev_c, ev_v, ev_bin, ev_un, ev_chain, ev_and, ev_or, ev_ite, ev_tup, ev_lst, ev_call, ev_bi, ev_ix, ev_sl, ev_rev, ev_cmp', evs_nil, evs_star, ec_c, ec_v, ec_bin, ec_un, ec_chain, ec_and, ec_or, ec_ite, ec_tup, ec_lst, ec_call, ec_bi, ec_ix, ec_sl, ec_rev, ec_cmp, evO_none, evO_some, evT_none, evT_some, evI_rng, evI_rng2, evI_zip, evI_enm, evI_seq, ss_nil', ss_pass', ss_cont', ss_asg', ss_expr', ss_ite', ss_loop', ss_ret', ss_rais', ss_tr', slotM_sh, starM_lst, starM_tup, optI_int, loopM_nil, retM_rt, retM_nx, List.getElem?_cons_zero, List.getElem?_cons_succ, List.set_cons_zero, List.set_cons_succ, bindT, bindTs, wipeE, Tg.slots, Tg.slotss, startE, List.nil_append, List.cons_append, List.append_nil, List.map_cons, List.map_nil, List.length_cons, List.length_nil, List.replicate_succ, List.replicate_zero, Option.bind_some, Option.map_some, Nat.reduceAdd, Nat.reduceSub, Int.reduceEq, Int.reduceLT, Int.reduceLE, decide_true, decide_false, Bool.not_true, Bool.not_false, b_add_i, b_sub_i, b_lt_i, b_le_i, b_gt_i, b_ge_i, b_lt_s, b_eq_i, b_ne_i, b_eq_t0, b_eq_l0, b_ne_t0, b_ne_l0, b_in_1, b_nin_1, u_not, u_neg, bi_len_t, bi_len_l, bi_len_c, bi_tup_l, bi_tup_t, bi_lst_l, bi_lst_t, bi_int_i, bi_edict, bi_min_i, bi_all_map, bi_any_map, sq_l, sq_t, zp_t, zp_l, rv_t, rv_l, sl_t, sl_l, fit0, fit1, fit2, fit3, fit4, fit5, fit6, fit7, fit8, fit9, fit10, fit11, fit12, fit13, fit14, fit15, fit16, fit17, fit18, fit19, fit20, fit21, fit22, fit23, fit24, fit25, fit26, fit27, fit28, fit29, fit30, fit31, fit32, isin_str_non, isin_str_bl, isin_str_int, isin_str_str, isin_str_tup, isin_str_lst, isin_str_dct, isin_tuple_non, isin_tuple_bl, isin_tuple_int, isin_tuple_str, isin_tuple_tup, isin_tuple_lst, isin_tuple_dct, isin_int_non, isin_int_bl, isin_int_int, isin_int_str, isin_int_tup, isin_int_lst, isin_int_dct, isin_bool_non, isin_bool_bl, isin_bool_int, isin_bool_str, isin_bool_tup, isin_bool_lst, isin_bool_dct, isin_list_tuple_non, isin_list_tuple_bl, isin_list_tuple_int, isin_list_tuple_str, isin_list_tuple_tup, isin_list_tuple_lst, isin_list_tuple_dct, isin_tuple_list_non, isin_tuple_list_bl, isin_tuple_list_int, isin_tuple_list_str, isin_tuple_list_tup, isin_tuple_list_lst, isin_tuple_list_dct, isin_list_non, isin_list_bl, isin_list_int, isin_list_str, isin_list_tup, isin_list_lst, isin_list_dct, isin_dict_non, isin_dict_bl, isin_dict_int, isin_dict_str, isin_dict_tup, isin_dict_lst, isin_dict_dct, ltr_at v0 v1]
    rw [b_add_s (by rw [mkS_len, mkS_len]; unfold LIM; simp; omega), mkS_app]
    simp only [M.ret_bind, M.bad_bind, M.bind_assoc, M.lift_some, M.lift_none, M.calm_ret, M.map_ret, M.exc_bind, SM.sb_exc, retM_xc, SM.sb_ret, SM.sb_bad, SM.sb_bind, SM.seq_nx, SM.seq_rt, SM.seq_ct, SM.seq_xc, SM.seq_bad, SM.seq_sb, SM.seq_seq, boolM_bl, bindM_some, bindS_some, iteM_t, iteM_f, brS_t, brS_f, ev_c, ev_v, ev_bin, ev_un, ev_chain, ev_and, ev_or, ev_ite, ev_tup, ev_lst, ev_call, ev_bi, ev_ix, ev_sl, ev_rev, ev_cmp', evs_nil, evs_star, ec_c, ec_v, ec_bin, ec_un, ec_chain, ec_and, ec_or, ec_ite, ec_tup, ec_lst, ec_call, ec_bi, ec_ix, ec_sl, ec_rev, ec_cmp, evO_none, evO_some, evT_none, evT_some, evI_rng, evI_rng2, evI_zip, evI_enm, evI_seq, ss_nil', ss_pass', ss_cont', ss_asg', ss_expr', ss_ite', ss_loop', ss_ret', ss_rais', ss_tr', slotM_sh, starM_lst, starM_tup, optI_int, loopM_nil, retM_rt, retM_nx, List.getElem?_cons_zero, List.getElem?_cons_succ, List.set_cons_zero, List.set_cons_succ, bindT, bindTs, wipeE, Tg.slots, Tg.slotss, startE, List.nil_append, List.cons_append, List.append_nil, List.map_cons, List.map_nil, List.length_cons, List.length_nil, List.replicate_succ, List.replicate_zero, Option.bind_some, Option.map_some, Nat.reduceAdd, Nat.reduceSub, Int.reduceEq, Int.reduceLT, Int.reduceLE, decide_true, decide_false, Bool.not_true, Bool.not_false]
    refine TrS.nx ⟨_, _, rfl, fun c hc => ?_, by simp only [List.length_append, List.length_cons, List.length_nil]; omega⟩
    rcases List.mem_append.mp hc with hc | hc
    · exact ha c hc
    · rw [List.mem_singleton] at hc
      omega
  · exact ⟨[], .no, rfl, by simp [Alpha], by simp; omega⟩
  · simp; omega
  · rintro e ⟨l, j, rfl, ha, hl⟩
    exact ⟨l, j, rfl, ha, hl⟩
  · rintro e ⟨l, j, rfl, ha, hl⟩
    have hL : (mkS l).length ≤ LIM := by rw [mkS_len]; unfold LIM; omega
    simp only [M.ret_bind, M.bad_bind, M.bind_assoc, M.lift_some, M.lift_none, M.calm_ret, M.map_ret, M.exc_bind, SM.sb_exc, retM_xc, SM.sb_ret, SM.sb_bad, SM.sb_bind, SM.seq_nx, SM.seq_rt, SM.seq_ct, SM.seq_xc, SM.seq_bad, SM.seq_sb, SM.seq_seq, boolM_bl, bindM_some, bindS_some, iteM_t, iteM_f, brS_t, brS_f, ev_c, ev_v, ev_bin, ev_un, ev_chain, ev_and, ev_or, ev_ite, ev_tup, ev_lst, ev_call, ev_bi, ev_ix, ev_sl, ev_rev, ev_cmp', evs_nil, evs_star, ec_c, ec_v, ec_bin, ec_un, ec_chain, ec_and, ec_or, ec_ite, ec_tup, ec_lst, ec_call, ec_bi, ec_ix, ec_sl, ec_rev, ec_cmp, evO_none, evO_some, evT_none, evT_some, evI_rng, evI_rng2, evI_zip, evI_enm, evI_seq, ss_nil', ss_pass', ss_cont', ss_asg', ss_expr', ss_ite', ss_loop', ss_ret', ss_rais', ss_tr', slotM_sh, starM_lst, starM_tup, optI_int, loopM_nil, retM_rt, retM_nx, List.getElem?_cons_zero, List.getElem?_cons_succ, List.set_cons_zero, List.set_cons_succ, bindT, bindTs, wipeE, Tg.slots, Tg.slotss, startE, List.nil_append, List.cons_append, List.append_nil, List.map_cons, List.map_nil, List.length_cons, List.length_nil, List.replicate_succ, List.replicate_zero, Option.bind_some, Option.map_some, Nat.reduceAdd, Nat.reduceSub, Int.reduceEq, Int.reduceLT, Int.reduceLE, decide_true, decide_false, Bool.not_true, Bool.not_false, b_add_i, b_sub_i, b_lt_i, b_le_i, b_gt_i, b_ge_i, b_lt_s, b_eq_i, b_ne_i, b_eq_t0, b_eq_l0, b_ne_t0, b_ne_l0, b_in_1, b_nin_1, u_not, u_neg, bi_len_t, bi_len_l, bi_len_c, bi_tup_l, bi_tup_t, bi_lst_l, bi_lst_t, bi_int_i, bi_edict, bi_min_i, bi_all_map, bi_any_map, sq_l, sq_t, zp_t, zp_l, rv_t, rv_l, sl_t, sl_l, fit0, fit1, fit2, fit3, fit4, fit5, fit6, fit7, fit8, fit9, fit10, fit11, fit12, fit13, fit14, fit15, fit16, fit17, fit18, fit19, fit20, fit21, fit22, fit23, fit24, fit25, fit26, fit27, fit28, fit29, fit30, fit31, fit32, isin_str_non, isin_str_bl, isin_str_int, isin_str_str, isin_str_tup, isin_str_lst, isin_str_dct, isin_tuple_non, isin_tuple_bl, isin_tuple_int, isin_tuple_str, isin_tuple_tup, isin_tuple_lst, isin_tuple_dct, isin_int_non, isin_int_bl, isin_int_int, isin_int_str, isin_int_tup, isin_int_lst, isin_int_dct, isin_bool_non, isin_bool_bl, isin_bool_int, isin_bool_str, isin_bool_tup, isin_bool_lst, isin_bool_dct, isin_list_tuple_non, isin_list_tuple_bl, isin_list_tuple_int, isin_list_tuple_str, isin_list_tuple_tup, isin_list_tuple_lst, isin_list_tuple_dct, isin_tuple_list_non, isin_tuple_list_bl, isin_tuple_list_int, isin_tuple_list_str, isin_tuple_list_tup, isin_tuple_list_lst, isin_tuple_list_dct, isin_list_non, isin_list_bl, isin_list_int, isin_list_str, isin_list_tup, isin_list_lst, isin_list_dct, isin_dict_non, isin_dict_bl, isin_dict_int, isin_dict_str, isin_dict_tup, isin_dict_lst, isin_dict_dct, bi_len_s hL]
    refine TrS.sb 2 (t_next hn hp (i := (mkS l).length + 1) (by omega) (by rw [mkS_len]; omega)) fun d ⟨at_, e, a0, a1⟩ => ?_
    subst e
    rw [mkS_len] at a1
    try simp only [M.ret_bind, M.bad_bind, M.bind_assoc, M.lift_some, M.lift_none, M.calm_ret, M.map_ret, M.exc_bind, SM.sb_exc, retM_xc, SM.sb_ret, SM.sb_bad, SM.sb_bind, SM.seq_nx, SM.seq_rt, SM.seq_ct, SM.seq_xc, SM.seq_bad, SM.seq_sb, SM.seq_seq, boolM_bl, bindM_some, bindS_some, iteM_t, iteM_f, brS_t, brS_f, ev_c, ev_v, ev_bin, ev_un, ev_chain, ev_and, ev_or, ev_ite, ev_tup, ev_lst, ev_call, ev_bi, ev_ix, ev_sl, ev_rev, ev_cmp', evs_nil, evs_star, ec_c, ec_v, ec_bin, ec_un, ec_chain, ec_and, ec_or, ec_ite, ec_tup, ec_lst, ec_call, ec_bi, ec_ix, ec_sl, ec_rev, ec_cmp, evO_none, evO_some, evT_none, evT_some, evI_rng, evI_rng2, evI_zip, evI_enm, evI_seq, ss_nil', ss_pass', ss_cont', ss_asg', ss_expr', ss_ite', ss_loop', ss_ret', ss_rais', ss_tr', slotM_sh, starM_lst, starM_tup, optI_int, loopM_nil, retM_rt, retM_nx, List.getElem?_cons_zero, List.getElem?_cons_succ, List.set_cons_zero, List.set_cons_succ, bindT, bindTs, wipeE, Tg.slots, Tg.slotss, startE, List.nil_append, List.cons_append, List.append_nil, List.map_cons, List.map_nil, List.length_cons, List.length_nil, List.replicate_succ, List.replicate_zero, Option.bind_some, Option.map_some, Nat.reduceAdd, Nat.reduceSub, Int.reduceEq, Int.reduceLT, Int.reduceLE, decide_true, decide_false, Bool.not_true, Bool.not_false, b_add_i, b_sub_i, b_lt_i, b_le_i, b_gt_i, b_ge_i, b_lt_s, b_eq_i, b_ne_i, b_eq_t0, b_eq_l0, b_ne_t0, b_ne_l0, b_in_1, b_nin_1, u_not, u_neg, bi_len_t, bi_len_l, bi_len_c, bi_tup_l, bi_tup_t, bi_lst_l, bi_lst_t, bi_int_i, bi_edict, bi_min_i, bi_all_map, bi_any_map, sq_l, sq_t, zp_t, zp_l, rv_t, rv_l, sl_t, sl_l, fit0, fit1, fit2, fit3, fit4, fit5, fit6, fit7, fit8, fit9, fit10, fit11, fit12, fit13, fit14, fit15, fit16, fit17, fit18, fit19, fit20, fit21, fit22, fit23, fit24, fit25, fit26, fit27, fit28, fit29, fit30, fit31, fit32, isin_str_non, isin_str_bl, isin_str_int, isin_str_str, isin_str_tup, isin_str_lst, isin_str_dct, isin_tuple_non, isin_tuple_bl, isin_tuple_int, isin_tuple_str, isin_tuple_tup, isin_tuple_lst, isin_tuple_dct, isin_int_non, isin_int_bl, isin_int_int, isin_int_str, isin_int_tup, isin_int_lst, isin_int_dct, isin_bool_non, isin_bool_bl, isin_bool_int, isin_bool_str, isin_bool_tup, isin_bool_lst, isin_bool_dct, isin_list_tuple_non, isin_list_tuple_bl, isin_list_tuple_int, isin_list_tuple_str, isin_list_tuple_tup, isin_list_tuple_lst, isin_list_tuple_dct, isin_tuple_list_non, isin_tuple_list_bl, isin_tuple_list_int, isin_tuple_list_str, isin_tuple_list_tup, isin_tuple_list_lst, isin_tuple_list_dct, isin_list_non, isin_list_bl, isin_list_int, isin_list_str, isin_list_tup, isin_list_lst, isin_list_dct, isin_dict_non, isin_dict_bl, isin_dict_int, isin_dict_str, isin_dict_tup, isin_dict_lst, isin_dict_dct]
    refine TrS.sb 1 (t_next hn hp (i := 26) (by decide) (by decide)) fun d ⟨f, e, f0, f1⟩ => ?_
    subst e
    try simp only [M.ret_bind, M.bad_bind, M.bind_assoc, M.lift_some, M.lift_none, M.calm_ret, M.map_ret, M.exc_bind, SM.sb_exc, retM_xc, SM.sb_ret, SM.sb_bad, SM.sb_bind, SM.seq_nx, SM.seq_rt, SM.seq_ct, SM.seq_xc, SM.seq_bad, SM.seq_sb, SM.seq_seq, boolM_bl, bindM_some, bindS_some, iteM_t, iteM_f, brS_t, brS_f, ev_c, ev_v, ev_bin, ev_un, ev_chain, ev_and, ev_or, ev_ite, ev_tup, ev_lst, ev_call, ev_bi, ev_ix, ev_sl, ev_rev, ev_cmp', evs_nil, evs_star, ec_c, ec_v, ec_bin, ec_un, ec_chain, ec_and, ec_or, ec_ite, ec_tup, ec_lst, ec_call, ec_bi, ec_ix, ec_sl, ec_rev, ec_cmp, evO_none, evO_some, evT_none, evT_some, evI_rng, evI_rng2, evI_zip, evI_enm, evI_seq, ss_nil', ss_pass', ss_cont', ss_asg', ss_expr', ss_ite', ss_loop', ss_ret', ss_rais', ss_tr', slotM_sh, starM_lst, starM_tup, optI_int, loopM_nil, retM_rt, retM_nx, List.getElem?_cons_zero, List.getElem?_cons_succ, List.set_cons_zero, List.set_cons_succ, bindT, bindTs, wipeE, Tg.slots, Tg.slotss, startE, List.nil_append, List.cons_append, List.append_nil, List.map_cons, List.map_nil, List.length_cons, List.length_nil, List.replicate_succ, List.replicate_zero, Option.bind_some, Option.map_some, Nat.reduceAdd, Nat.reduceSub, Int.reduceEq, Int.reduceLT, Int.reduceLE, decide_true, decide_false, Bool.not_true, Bool.not_false, b_add_i, b_sub_i, b_lt_i, b_le_i, b_gt_i, b_ge_i, b_lt_s, b_eq_i, b_ne_i, b_eq_t0, b_eq_l0, b_ne_t0, b_ne_l0, b_in_1, b_nin_1, u_not, u_neg, bi_len_t, bi_len_l, bi_len_c, bi_tup_l, bi_tup_t, bi_lst_l, bi_lst_t, bi_int_i, bi_edict, bi_min_i, bi_all_map, bi_any_map, sq_l, sq_t, zp_t, zp_l, rv_t, rv_l, sl_t, sl_l, fit0, fit1, fit2, fit3, fit4, fit5, fit6, fit7, fit8, fit9, fit10, fit11, fit12, fit13, fit14, fit15, fit16, fit17, fit18, fit19, fit20, fit21, fit22, fit23, fit24, fit25, fit26, fit27, fit28, fit29, fit30, fit31, fit32, isin_str_non, isin_str_bl, isin_str_int, isin_str_str, isin_str_tup, isin_str_lst, isin_str_dct, isin_tuple_non, isin_tuple_bl, isin_tuple_int, isin_tuple_str, isin_tuple_tup, isin_tuple_lst, isin_tuple_dct, isin_int_non, isin_int_bl, isin_int_int, isin_int_str, isin_int_tup, isin_int_lst, isin_int_dct, isin_bool_non, isin_bool_bl, isin_bool_int, isin_bool_str, isin_bool_tup, isin_bool_lst, isin_bool_dct, isin_list_tuple_non, isin_list_tuple_bl, isin_list_tuple_int, isin_list_tuple_str, isin_list_tuple_tup, isin_list_tuple_lst, isin_list_tuple_dct, isin_tuple_list_non, isin_tuple_list_bl, isin_tuple_list_int, isin_tuple_list_str, isin_tuple_list_tup, isin_tuple_list_lst, isin_tuple_list_dct, isin_list_non, isin_list_bl, isin_list_int, isin_list_str, isin_list_tup, isin_list_lst, isin_list_dct, isin_dict_non, isin_dict_bl, isin_dict_int, isin_dict_str, isin_dict_tup, isin_dict_lst, isin_dict_dct]
    refine TrS.sb 0 (t_next hn hp (i := 6) (by decide) (by decide)) fun d ⟨w, e, w0, w1⟩ => ?_
    subst e
    obtain ⟨b, hb, hx⟩ : ∃ b : Int, (b = 1 ∨ b = 3 ∨ b = 5 ∨ b = 7 ∨ b = 9 ∨ b = 11) ∧ ixD (.lst [.int 1, .int 3, .int 5, .int 7, .int 9, .int 11]) (.int w) = some (.int b) := by
      obtain ⟨d, hd, e⟩ := ix_l (xs := [.int 1, .int 3, .int 5, .int 7, .int 9, .int 11]) w0 (by simpa using w1)
      simp only [List.mem_cons, List.not_mem_nil, or_false] at hd
      rcases hd with rfl | rfl | rfl | rfl | rfl | rfl
      · exact ⟨1, by simp, e⟩
      · exact ⟨3, by simp, e⟩
      · exact ⟨5, by simp, e⟩
      · exact ⟨7, by simp, e⟩
      · exact ⟨9, by simp, e⟩
      · exact ⟨11, by simp, e⟩
    simp only [M.ret_bind, M.bad_bind, M.bind_assoc, M.lift_some, M.lift_none, M.calm_ret, M.map_ret, M.exc_bind, SM.sb_exc, retM_xc, SM.sb_ret, SM.sb_bad, SM.sb_bind, SM.seq_nx, SM.seq_rt, SM.seq_ct, SM.seq_xc, SM.seq_bad, SM.seq_sb, SM.seq_seq, boolM_bl, bindM_some, bindS_some, iteM_t, iteM_f, brS_t, brS_f, ev_c, ev_v, ev_bin, ev_un, ev_chain, ev_and, ev_or, ev_ite, ev_tup, ev_lst, ev_call, ev_bi, ev_ix, ev_sl, ev_rev, ev_cmp', evs_nil, evs_star, ec_c, ec_v, ec_bin, ec_un, ec_chain, ec_and, ec_or, ec_ite, ec_tup, ec_lst, ec_call, ec_bi, ec_ix, ec_sl, ec_rev, ec_cmp, evO_none, evO_some, evT_none, evT_some, evI_rng, evI_rng2, evI_zip, evI_enm, evI_seq, ss_nil', ss_pass', ss_cont', ss_asg', ss_expr', ss_ite', ss_loop', ss_ret', ss_rais', ss_tr', slotM_sh, starM_lst, starM_tup, optI_int, loopM_nil, retM_rt, retM_nx, List.getElem?_cons_zero, List.getElem?_cons_succ, List.set_cons_zero, List.set_cons_succ, bindT, bindTs, wipeE, Tg.slots, Tg.slotss, startE, List.nil_append, List.cons_append, List.append_nil, List.map_cons, List.map_nil, List.length_cons, List.length_nil, List.replicate_succ, List.replicate_zero, Option.bind_some, Option.map_some, Nat.reduceAdd, Nat.reduceSub, Int.reduceEq, Int.reduceLT, Int.reduceLE, decide_true, decide_false, Bool.not_true, Bool.not_false, b_add_i, b_sub_i, b_lt_i, b_le_i, b_gt_i, b_ge_i, b_lt_s, b_eq_i, b_ne_i, b_eq_t0, b_eq_l0, b_ne_t0, b_ne_l0, b_in_1, b_nin_1, u_not, u_neg, bi_len_t, bi_len_l, bi_len_c, bi_tup_l, bi_tup_t, bi_lst_l, bi_lst_t, bi_int_i, bi_edict, bi_min_i, bi_all_map, bi_any_map, sq_l, sq_t, zp_t, zp_l, rv_t, rv_l, sl_t, sl_l, fit0, fit1, fit2, fit3, fit4, fit5, fit6, fit7, fit8, fit9, fit10, fit11, fit12, fit13, fit14, fit15, fit16, fit17, fit18, fit19, fit20, fit21, fit22, fit23, fit24, fit25, fit26, fit27, fit28, fit29, fit30, fit31, fit32, isin_str_non, isin_str_bl, isin_str_int, isin_str_str, isin_str_tup, isin_str_lst, isin_str_dct, isin_tuple_non, isin_tuple_bl, isin_tuple_int, isin_tuple_str, isin_tuple_tup, isin_tuple_lst, isin_tuple_dct, isin_int_non, isin_int_bl, isin_int_int, isin_int_str, isin_int_tup, isin_int_lst, isin_int_dct, isin_bool_non, isin_bool_bl, isin_bool_int, isin_bool_str, isin_bool_tup, isin_bool_lst, isin_bool_dct, isin_list_tuple_non, isin_list_tuple_bl, isin_list_tuple_int, isin_list_tuple_str, isin_list_tuple_tup, isin_list_tuple_lst, isin_list_tuple_dct, isin_tuple_list_non, isin_tuple_list_bl, isin_tuple_list_int, isin_tuple_list_str, isin_tuple_list_tup, isin_tuple_list_lst, isin_tuple_list_dct, isin_list_non, isin_list_bl, isin_list_int, isin_list_str, isin_list_tup, isin_list_lst, isin_list_dct, isin_dict_non, isin_dict_bl, isin_dict_int, isin_dict_str, isin_dict_tup, isin_dict_lst, isin_dict_dct, hx, ltr_at f0 f1, mul8]
    rw [b_add_s (by rw [mkS_len, mkS_len, rep8_len]; unfold LIM; omega), mkS_app]
    simp only [M.ret_bind, M.bad_bind, M.bind_assoc, M.lift_some, M.lift_none, M.calm_ret, M.map_ret, M.exc_bind, SM.sb_exc, retM_xc, SM.sb_ret, SM.sb_bad, SM.sb_bind, SM.seq_nx, SM.seq_rt, SM.seq_ct, SM.seq_xc, SM.seq_bad, SM.seq_sb, SM.seq_seq, boolM_bl, bindM_some, bindS_some, iteM_t, iteM_f, brS_t, brS_f, ev_c, ev_v, ev_bin, ev_un, ev_chain, ev_and, ev_or, ev_ite, ev_tup, ev_lst, ev_call, ev_bi, ev_ix, ev_sl, ev_rev, ev_cmp', evs_nil, evs_star, ec_c, ec_v, ec_bin, ec_un, ec_chain, ec_and, ec_or, ec_ite, ec_tup, ec_lst, ec_call, ec_bi, ec_ix, ec_sl, ec_rev, ec_cmp, evO_none, evO_some, evT_none, evT_some, evI_rng, evI_rng2, evI_zip, evI_enm, evI_seq, ss_nil', ss_pass', ss_cont', ss_asg', ss_expr', ss_ite', ss_loop', ss_ret', ss_rais', ss_tr', slotM_sh, starM_lst, starM_tup, optI_int, loopM_nil, retM_rt, retM_nx, List.getElem?_cons_zero, List.getElem?_cons_succ, List.set_cons_zero, List.set_cons_succ, bindT, bindTs, wipeE, Tg.slots, Tg.slotss, startE, List.nil_append, List.cons_append, List.append_nil, List.map_cons, List.map_nil, List.length_cons, List.length_nil, List.replicate_succ, List.replicate_zero, Option.bind_some, Option.map_some, Nat.reduceAdd, Nat.reduceSub, Int.reduceEq, Int.reduceLT, Int.reduceLE, decide_true, decide_false, Bool.not_true, Bool.not_false]
    rw [sl_s _ _ (by rw [mkS_len, List.length_append, rep8_len]; unfold LIM; omega), mkS_cut, cut_to _ (by decide)]
    simp only [M.ret_bind, M.bad_bind, M.bind_assoc, M.lift_some, M.lift_none, M.calm_ret, M.map_ret, M.exc_bind, SM.sb_exc, retM_xc, SM.sb_ret, SM.sb_bad, SM.sb_bind, SM.seq_nx, SM.seq_rt, SM.seq_ct, SM.seq_xc, SM.seq_bad, SM.seq_sb, SM.seq_seq, boolM_bl, bindM_some, bindS_some, iteM_t, iteM_f, brS_t, brS_f, ev_c, ev_v, ev_bin, ev_un, ev_chain, ev_and, ev_or, ev_ite, ev_tup, ev_lst, ev_call, ev_bi, ev_ix, ev_sl, ev_rev, ev_cmp', evs_nil, evs_star, ec_c, ec_v, ec_bin, ec_un, ec_chain, ec_and, ec_or, ec_ite, ec_tup, ec_lst, ec_call, ec_bi, ec_ix, ec_sl, ec_rev, ec_cmp, evO_none, evO_some, evT_none, evT_some, evI_rng, evI_rng2, evI_zip, evI_enm, evI_seq, ss_nil', ss_pass', ss_cont', ss_asg', ss_expr', ss_ite', ss_loop', ss_ret', ss_rais', ss_tr', slotM_sh, starM_lst, starM_tup, optI_int, loopM_nil, retM_rt, retM_nx, List.getElem?_cons_zero, List.getElem?_cons_succ, List.set_cons_zero, List.set_cons_succ, bindT, bindTs, wipeE, Tg.slots, Tg.slotss, startE, List.nil_append, List.cons_append, List.append_nil, List.map_cons, List.map_nil, List.length_cons, List.length_nil, List.replicate_succ, List.replicate_zero, Option.bind_some, Option.map_some, Nat.reduceAdd, Nat.reduceSub, Int.reduceEq, Int.reduceLT, Int.reduceLE, decide_true, decide_false, Bool.not_true, Bool.not_false, b_add_i, b_sub_i, b_lt_i, b_le_i, b_gt_i, b_ge_i, b_lt_s, b_eq_i, b_ne_i, b_eq_t0, b_eq_l0, b_ne_t0, b_ne_l0, b_in_1, b_nin_1, u_not, u_neg, bi_len_t, bi_len_l, bi_len_c, bi_tup_l, bi_tup_t, bi_lst_l, bi_lst_t, bi_int_i, bi_edict, bi_min_i, bi_all_map, bi_any_map, sq_l, sq_t, zp_t, zp_l, rv_t, rv_l, sl_t, sl_l, fit0, fit1, fit2, fit3, fit4, fit5, fit6, fit7, fit8, fit9, fit10, fit11, fit12, fit13, fit14, fit15, fit16, fit17, fit18, fit19, fit20, fit21, fit22, fit23, fit24, fit25, fit26, fit27, fit28, fit29, fit30, fit31, fit32, isin_str_non, isin_str_bl, isin_str_int, isin_str_str, isin_str_tup, isin_str_lst, isin_str_dct, isin_tuple_non, isin_tuple_bl, isin_tuple_int, isin_tuple_str, isin_tuple_tup, isin_tuple_lst, isin_tuple_dct, isin_int_non, isin_int_bl, isin_int_int, isin_int_str, isin_int_tup, isin_int_lst, isin_int_dct, isin_bool_non, isin_bool_bl, isin_bool_int, isin_bool_str, isin_bool_tup, isin_bool_lst, isin_bool_dct, isin_list_tuple_non, isin_list_tuple_bl, isin_list_tuple_int, isin_list_tuple_str, isin_list_tuple_tup, isin_list_tuple_lst, isin_list_tuple_dct, isin_tuple_list_non, isin_tuple_list_bl, isin_tuple_list_int, isin_tuple_list_str, isin_tuple_list_tup, isin_tuple_list_lst, isin_tuple_list_dct, isin_list_non, isin_list_bl, isin_list_int, isin_list_str, isin_list_tup, isin_list_lst, isin_list_dct, isin_dict_non, isin_dict_bl, isin_dict_int, isin_dict_str, isin_dict_tup, isin_dict_lst, isin_dict_dct]
    generalize hw : (l ++ rep8 (97 + f.toNat)).take (8 : Int).toNat = wd
    have wl : wd.length = 8 := by rw [← hw, List.length_take, List.length_append, rep8_len]; show min 8 _ = 8; omega
    have wa : Alpha wd := fun c hc => by
      rw [← hw] at hc
      rcases List.mem_append.mp (List.mem_of_mem_take hc) with hc | hc
      · exact ha c hc
      · rw [List.eq_of_mem_replicate hc]
        omega
    have wL : (mkS wd).length ≤ LIM := by rw [mkS_len, wl]; decide
    by_cases hb5 : (5 : Int) < b
    · have hn9 : (n : Int) < 9 := by omega
      simp only [hb5, hn9, decide_true, M.ret_bind, M.bad_bind, M.bind_assoc, M.lift_some, M.lift_none, M.calm_ret, M.map_ret, M.exc_bind, SM.sb_exc, retM_xc, SM.sb_ret, SM.sb_bad, SM.sb_bind, SM.seq_nx, SM.seq_rt, SM.seq_ct, SM.seq_xc, SM.seq_bad, SM.seq_sb, SM.seq_seq, boolM_bl, bindM_some, bindS_some, iteM_t, iteM_f, brS_t, brS_f, ev_c, ev_v, ev_bin, ev_un, ev_chain, ev_and, ev_or, ev_ite, ev_tup, ev_lst, ev_call, ev_bi, ev_ix, ev_sl, ev_rev, ev_cmp', evs_nil, evs_star, ec_c, ec_v, ec_bin, ec_un, ec_chain, ec_and, ec_or, ec_ite, ec_tup, ec_lst, ec_call, ec_bi, ec_ix, ec_sl, ec_rev, ec_cmp, evO_none, evO_some, evT_none, evT_some, evI_rng, evI_rng2, evI_zip, evI_enm, evI_seq, ss_nil', ss_pass', ss_cont', ss_asg', ss_expr', ss_ite', ss_loop', ss_ret', ss_rais', ss_tr', slotM_sh, starM_lst, starM_tup, optI_int, loopM_nil, retM_rt, retM_nx, List.getElem?_cons_zero, List.getElem?_cons_succ, List.set_cons_zero, List.set_cons_succ, bindT, bindTs, wipeE, Tg.slots, Tg.slotss, startE, List.nil_append, List.cons_append, List.append_nil, List.map_cons, List.map_nil, List.length_cons, List.length_nil, List.replicate_succ, List.replicate_zero, Option.bind_some, Option.map_some, Nat.reduceAdd, Nat.reduceSub, Int.reduceEq, Int.reduceLT, Int.reduceLE, decide_true, decide_false, Bool.not_true, Bool.not_false, b_add_i, b_sub_i, b_lt_i, b_le_i, b_gt_i, b_ge_i, b_lt_s, b_eq_i, b_ne_i, b_eq_t0, b_eq_l0, b_ne_t0, b_ne_l0, b_in_1, b_nin_1, u_not, u_neg, bi_len_t, bi_len_l, bi_len_c, bi_tup_l, bi_tup_t, bi_lst_l, bi_lst_t, bi_int_i, bi_edict, bi_min_i, bi_all_map, bi_any_map, sq_l, sq_t, zp_t, zp_l, rv_t, rv_l, sl_t, sl_l, fit0, fit1, fit2, fit3, fit4, fit5, fit6, fit7, fit8, fit9, fit10, fit11, fit12, fit13, fit14, fit15, fit16, fit17, fit18, fit19, fit20, fit21, fit22, fit23, fit24, fit25, fit26, fit27, fit28, fit29, fit30, fit31, fit32, isin_str_non, isin_str_bl, isin_str_int, isin_str_str, isin_str_tup, isin_str_lst, isin_str_dct, isin_tuple_non, isin_tuple_bl, isin_tuple_int, isin_tuple_str, isin_tuple_tup, isin_tuple_lst, isin_tuple_dct, isin_int_non, isin_int_bl, isin_int_int, isin_int_str, isin_int_tup, isin_int_lst, isin_int_dct, isin_bool_non, isin_bool_bl, isin_bool_int, isin_bool_str, isin_bool_tup, isin_bool_lst, isin_bool_dct, isin_list_tuple_non, isin_list_tuple_bl, isin_list_tuple_int, isin_list_tuple_str, isin_list_tuple_tup, isin_list_tuple_lst, isin_list_tuple_dct, isin_tuple_list_non, isin_tuple_list_bl, isin_tuple_list_int, isin_tuple_list_str, isin_tuple_list_tup, isin_tuple_list_lst, isin_tuple_list_dct, isin_list_non, isin_list_bl, isin_list_int, isin_list_str, isin_list_tup, isin_list_lst, isin_list_dct, isin_dict_non, isin_dict_bl, isin_dict_int, isin_dict_str, isin_dict_tup, isin_dict_lst, isin_dict_dct, rng0 (show (0 : Int) ≤ n by omega) (show (n : Int) ≤ 100000 by omega), Int.toNat_natCast]
      by_cases hb7 : (7 : Int) < b
      · simp only [hb7, decide_true, M.ret_bind, M.bad_bind, M.bind_assoc, M.lift_some, M.lift_none, M.calm_ret, M.map_ret, M.exc_bind, SM.sb_exc, retM_xc, SM.sb_ret, SM.sb_bad, SM.sb_bind, SM.seq_nx, SM.seq_rt, SM.seq_ct, SM.seq_xc, SM.seq_bad, SM.seq_sb, SM.seq_seq, boolM_bl, bindM_some, bindS_some, iteM_t, iteM_f, brS_t, brS_f, ev_c, ev_v, ev_bin, ev_un, ev_chain, ev_and, ev_or, ev_ite, ev_tup, ev_lst, ev_call, ev_bi, ev_ix, ev_sl, ev_rev, ev_cmp', evs_nil, evs_star, ec_c, ec_v, ec_bin, ec_un, ec_chain, ec_and, ec_or, ec_ite, ec_tup, ec_lst, ec_call, ec_bi, ec_ix, ec_sl, ec_rev, ec_cmp, evO_none, evO_some, evT_none, evT_some, evI_rng, evI_rng2, evI_zip, evI_enm, evI_seq, ss_nil', ss_pass', ss_cont', ss_asg', ss_expr', ss_ite', ss_loop', ss_ret', ss_rais', ss_tr', slotM_sh, starM_lst, starM_tup, optI_int, loopM_nil, retM_rt, retM_nx, List.getElem?_cons_zero, List.getElem?_cons_succ, List.set_cons_zero, List.set_cons_succ, bindT, bindTs, wipeE, Tg.slots, Tg.slotss, startE, List.nil_append, List.cons_append, List.append_nil, List.map_cons, List.map_nil, List.length_cons, List.length_nil, List.replicate_succ, List.replicate_zero, Option.bind_some, Option.map_some, Nat.reduceAdd, Nat.reduceSub, Int.reduceEq, Int.reduceLT, Int.reduceLE, decide_true, decide_false, Bool.not_true, Bool.not_false, b_add_i, b_sub_i, b_lt_i, b_le_i, b_gt_i, b_ge_i, b_lt_s, b_eq_i, b_ne_i, b_eq_t0, b_eq_l0, b_ne_t0, b_ne_l0, b_in_1, b_nin_1, u_not, u_neg, bi_len_t, bi_len_l, bi_len_c, bi_tup_l, bi_tup_t, bi_lst_l, bi_lst_t, bi_int_i, bi_edict, bi_min_i, bi_all_map, bi_any_map, sq_l, sq_t, zp_t, zp_l, rv_t, rv_l, sl_t, sl_l, fit0, fit1, fit2, fit3, fit4, fit5, fit6, fit7, fit8, fit9, fit10, fit11, fit12, fit13, fit14, fit15, fit16, fit17, fit18, fit19, fit20, fit21, fit22, fit23, fit24, fit25, fit26, fit27, fit28, fit29, fit30, fit31, fit32, isin_str_non, isin_str_bl, isin_str_int, isin_str_str, isin_str_tup, isin_str_lst, isin_str_dct, isin_tuple_non, isin_tuple_bl, isin_tuple_int, isin_tuple_str, isin_tuple_tup, isin_tuple_lst, isin_tuple_dct, isin_int_non, isin_int_bl, isin_int_int, isin_int_str, isin_int_tup, isin_int_lst, isin_int_dct, isin_bool_non, isin_bool_bl, isin_bool_int, isin_bool_str, isin_bool_tup, isin_bool_lst, isin_bool_dct, isin_list_tuple_non, isin_list_tuple_bl, isin_list_tuple_int, isin_list_tuple_str, isin_list_tuple_tup, isin_list_tuple_lst, isin_list_tuple_dct, isin_tuple_list_non, isin_tuple_list_bl, isin_tuple_list_int, isin_tuple_list_str, isin_tuple_list_tup, isin_tuple_list_lst, isin_tuple_list_dct, isin_list_non, isin_list_bl, isin_list_int, isin_list_str, isin_list_tup, isin_list_lst, isin_list_dct, isin_dict_non, isin_dict_bl, isin_dict_int, isin_dict_str, isin_dict_tup, isin_dict_lst, isin_dict_dct]
        rw [cmpM_map (List.range n) (fun i => .int (i : Int)) (fun i => .str (mkS (wd.drop i))) (fun i hi => ?_) (by simp; unfold LIM; omega)]
        · simp only [M.ret_bind, M.bad_bind, M.bind_assoc, M.lift_some, M.lift_none, M.calm_ret, M.map_ret, M.exc_bind, SM.sb_exc, retM_xc, SM.sb_ret, SM.sb_bad, SM.sb_bind, SM.seq_nx, SM.seq_rt, SM.seq_ct, SM.seq_xc, SM.seq_bad, SM.seq_sb, SM.seq_seq, boolM_bl, bindM_some, bindS_some, iteM_t, iteM_f, brS_t, brS_f, ev_c, ev_v, ev_bin, ev_un, ev_chain, ev_and, ev_or, ev_ite, ev_tup, ev_lst, ev_call, ev_bi, ev_ix, ev_sl, ev_rev, ev_cmp', evs_nil, evs_star, ec_c, ec_v, ec_bin, ec_un, ec_chain, ec_and, ec_or, ec_ite, ec_tup, ec_lst, ec_call, ec_bi, ec_ix, ec_sl, ec_rev, ec_cmp, evO_none, evO_some, evT_none, evT_some, evI_rng, evI_rng2, evI_zip, evI_enm, evI_seq, ss_nil', ss_pass', ss_cont', ss_asg', ss_expr', ss_ite', ss_loop', ss_ret', ss_rais', ss_tr', slotM_sh, starM_lst, starM_tup, optI_int, loopM_nil, retM_rt, retM_nx, List.getElem?_cons_zero, List.getElem?_cons_succ, List.set_cons_zero, List.set_cons_succ, bindT, bindTs, wipeE, Tg.slots, Tg.slotss, startE, List.nil_append, List.cons_append, List.append_nil, List.map_cons, List.map_nil, List.length_cons, List.length_nil, List.replicate_succ, List.replicate_zero, Option.bind_some, Option.map_some, Nat.reduceAdd, Nat.reduceSub, Int.reduceEq, Int.reduceLT, Int.reduceLE, decide_true, decide_false, Bool.not_true, Bool.not_false]
          refine TrS.rt (names_of (f := fun i => wd.drop i) (fun i hi => ⟨fun c hc => wa c (List.mem_of_mem_drop hc), by rw [List.length_drop]; omega, by rw [List.length_drop]; omega⟩) fun i j hij hj e => ?_)
          have := congrArg List.length e
          simp only [List.length_drop] at this
          omega
        · try simp only [M.ret_bind, M.bad_bind, M.bind_assoc, M.lift_some, M.lift_none, M.calm_ret, M.map_ret, M.exc_bind, SM.sb_exc, retM_xc, SM.sb_ret, SM.sb_bad, SM.sb_bind, SM.seq_nx, SM.seq_rt, SM.seq_ct, SM.seq_xc, SM.seq_bad, SM.seq_sb, SM.seq_seq, boolM_bl, bindM_some, bindS_some, iteM_t, iteM_f, brS_t, brS_f, ev_c, ev_v, ev_bin, ev_un, ev_chain, ev_and, ev_or, ev_ite, ev_tup, ev_lst, ev_call, ev_bi, ev_ix, ev_sl, ev_rev, ev_cmp', evs_nil, evs_star, ec_c, ec_v, ec_bin, ec_un, ec_chain, ec_and, ec_or, ec_ite, ec_tup, ec_lst, ec_call, ec_bi, ec_ix, ec_sl, ec_rev, ec_cmp, evO_none, evO_some, evT_none, evT_some, evI_rng, evI_rng2, evI_zip, evI_enm, evI_seq, ss_nil', ss_pass', ss_cont', ss_asg', ss_expr', ss_ite', ss_loop', ss_ret', ss_rais', ss_tr', slotM_sh, starM_lst, starM_tup, optI_int, loopM_nil, retM_rt, retM_nx, List.getElem?_cons_zero, List.getElem?_cons_succ, List.set_cons_zero, List.set_cons_succ, bindT, bindTs, wipeE, Tg.slots, Tg.slotss, startE, List.nil_append, List.cons_append, List.append_nil, List.map_cons, List.map_nil, List.length_cons, List.length_nil, List.replicate_succ, List.replicate_zero, Option.bind_some, Option.map_some, Nat.reduceAdd, Nat.reduceSub, Int.reduceEq, Int.reduceLT, Int.reduceLE, decide_true, decide_false, Bool.not_true, Bool.not_false]
          rw [sl_s _ _ wL, mkS_cut, cut_from _ (by omega)]
          simp only [M.ret_bind, M.bad_bind, M.bind_assoc, M.lift_some, M.lift_none, M.calm_ret, M.map_ret, M.exc_bind, SM.sb_exc, retM_xc, SM.sb_ret, SM.sb_bad, SM.sb_bind, SM.seq_nx, SM.seq_rt, SM.seq_ct, SM.seq_xc, SM.seq_bad, SM.seq_sb, SM.seq_seq, boolM_bl, bindM_some, bindS_some, iteM_t, iteM_f, brS_t, brS_f, ev_c, ev_v, ev_bin, ev_un, ev_chain, ev_and, ev_or, ev_ite, ev_tup, ev_lst, ev_call, ev_bi, ev_ix, ev_sl, ev_rev, ev_cmp', evs_nil, evs_star, ec_c, ec_v, ec_bin, ec_un, ec_chain, ec_and, ec_or, ec_ite, ec_tup, ec_lst, ec_call, ec_bi, ec_ix, ec_sl, ec_rev, ec_cmp, evO_none, evO_some, evT_none, evT_some, evI_rng, evI_rng2, evI_zip, evI_enm, evI_seq, ss_nil', ss_pass', ss_cont', ss_asg', ss_expr', ss_ite', ss_loop', ss_ret', ss_rais', ss_tr', slotM_sh, starM_lst, starM_tup, optI_int, loopM_nil, retM_rt, retM_nx, List.getElem?_cons_zero, List.getElem?_cons_succ, List.set_cons_zero, List.set_cons_succ, bindT, bindTs, wipeE, Tg.slots, Tg.slotss, startE, List.nil_append, List.cons_append, List.append_nil, List.map_cons, List.map_nil, List.length_cons, List.length_nil, List.replicate_succ, List.replicate_zero, Option.bind_some, Option.map_some, Nat.reduceAdd, Nat.reduceSub, Int.reduceEq, Int.reduceLT, Int.reduceLE, decide_true, decide_false, Bool.not_true, Bool.not_false, Int.toNat_natCast]
      · simp only [hb7, decide_false, M.ret_bind, M.bad_bind, M.bind_assoc, M.lift_some, M.lift_none, M.calm_ret, M.map_ret, M.exc_bind, SM.sb_exc, retM_xc, SM.sb_ret, SM.sb_bad, SM.sb_bind, SM.seq_nx, SM.seq_rt, SM.seq_ct, SM.seq_xc, SM.seq_bad, SM.seq_sb, SM.seq_seq, boolM_bl, bindM_some, bindS_some, iteM_t, iteM_f, brS_t, brS_f, ev_c, ev_v, ev_bin, ev_un, ev_chain, ev_and, ev_or, ev_ite, ev_tup, ev_lst, ev_call, ev_bi, ev_ix, ev_sl, ev_rev, ev_cmp', evs_nil, evs_star, ec_c, ec_v, ec_bin, ec_un, ec_chain, ec_and, ec_or, ec_ite, ec_tup, ec_lst, ec_call, ec_bi, ec_ix, ec_sl, ec_rev, ec_cmp, evO_none, evO_some, evT_none, evT_some, evI_rng, evI_rng2, evI_zip, evI_enm, evI_seq, ss_nil', ss_pass', ss_cont', ss_asg', ss_expr', ss_ite', ss_loop', ss_ret', ss_rais', ss_tr', slotM_sh, starM_lst, starM_tup, optI_int, loopM_nil, retM_rt, retM_nx, List.getElem?_cons_zero, List.getElem?_cons_succ, List.set_cons_zero, List.set_cons_succ, bindT, bindTs, wipeE, Tg.slots, Tg.slotss, startE, List.nil_append, List.cons_append, List.append_nil, List.map_cons, List.map_nil, List.length_cons, List.length_nil, List.replicate_succ, List.replicate_zero, Option.bind_some, Option.map_some, Nat.reduceAdd, Nat.reduceSub, Int.reduceEq, Int.reduceLT, Int.reduceLE, decide_true, decide_false, Bool.not_true, Bool.not_false, b_add_i, b_sub_i, b_lt_i, b_le_i, b_gt_i, b_ge_i, b_lt_s, b_eq_i, b_ne_i, b_eq_t0, b_eq_l0, b_ne_t0, b_ne_l0, b_in_1, b_nin_1, u_not, u_neg, bi_len_t, bi_len_l, bi_len_c, bi_tup_l, bi_tup_t, bi_lst_l, bi_lst_t, bi_int_i, bi_edict, bi_min_i, bi_all_map, bi_any_map, sq_l, sq_t, zp_t, zp_l, rv_t, rv_l, sl_t, sl_l, fit0, fit1, fit2, fit3, fit4, fit5, fit6, fit7, fit8, fit9, fit10, fit11, fit12, fit13, fit14, fit15, fit16, fit17, fit18, fit19, fit20, fit21, fit22, fit23, fit24, fit25, fit26, fit27, fit28, fit29, fit30, fit31, fit32, isin_str_non, isin_str_bl, isin_str_int, isin_str_str, isin_str_tup, isin_str_lst, isin_str_dct, isin_tuple_non, isin_tuple_bl, isin_tuple_int, isin_tuple_str, isin_tuple_tup, isin_tuple_lst, isin_tuple_dct, isin_int_non, isin_int_bl, isin_int_int, isin_int_str, isin_int_tup, isin_int_lst, isin_int_dct, isin_bool_non, isin_bool_bl, isin_bool_int, isin_bool_str, isin_bool_tup, isin_bool_lst, isin_bool_dct, isin_list_tuple_non, isin_list_tuple_bl, isin_list_tuple_int, isin_list_tuple_str, isin_list_tuple_tup, isin_list_tuple_lst, isin_list_tuple_dct, isin_tuple_list_non, isin_tuple_list_bl, isin_tuple_list_int, isin_tuple_list_str, isin_tuple_list_tup, isin_tuple_list_lst, isin_tuple_list_dct, isin_list_non, isin_list_bl, isin_list_int, isin_list_str, isin_list_tup, isin_list_lst, isin_list_dct, isin_dict_non, isin_dict_bl, isin_dict_int, isin_dict_str, isin_dict_tup, isin_dict_lst, isin_dict_dct]
        rw [cmpM_map (List.range n) (fun i => .int (i : Int)) (fun i => .str (mkS (wd.take (i + 9 - n)))) (fun i hi => ?_) (by simp; unfold LIM; omega)]
        · simp only [M.ret_bind, M.bad_bind, M.bind_assoc, M.lift_some, M.lift_none, M.calm_ret, M.map_ret, M.exc_bind, SM.sb_exc, retM_xc, SM.sb_ret, SM.sb_bad, SM.sb_bind, SM.seq_nx, SM.seq_rt, SM.seq_ct, SM.seq_xc, SM.seq_bad, SM.seq_sb, SM.seq_seq, boolM_bl, bindM_some, bindS_some, iteM_t, iteM_f, brS_t, brS_f, ev_c, ev_v, ev_bin, ev_un, ev_chain, ev_and, ev_or, ev_ite, ev_tup, ev_lst, ev_call, ev_bi, ev_ix, ev_sl, ev_rev, ev_cmp', evs_nil, evs_star, ec_c, ec_v, ec_bin, ec_un, ec_chain, ec_and, ec_or, ec_ite, ec_tup, ec_lst, ec_call, ec_bi, ec_ix, ec_sl, ec_rev, ec_cmp, evO_none, evO_some, evT_none, evT_some, evI_rng, evI_rng2, evI_zip, evI_enm, evI_seq, ss_nil', ss_pass', ss_cont', ss_asg', ss_expr', ss_ite', ss_loop', ss_ret', ss_rais', ss_tr', slotM_sh, starM_lst, starM_tup, optI_int, loopM_nil, retM_rt, retM_nx, List.getElem?_cons_zero, List.getElem?_cons_succ, List.set_cons_zero, List.set_cons_succ, bindT, bindTs, wipeE, Tg.slots, Tg.slotss, startE, List.nil_append, List.cons_append, List.append_nil, List.map_cons, List.map_nil, List.length_cons, List.length_nil, List.replicate_succ, List.replicate_zero, Option.bind_some, Option.map_some, Nat.reduceAdd, Nat.reduceSub, Int.reduceEq, Int.reduceLT, Int.reduceLE, decide_true, decide_false, Bool.not_true, Bool.not_false]
          refine TrS.rt (names_of (f := fun i => wd.take (i + 9 - n)) (fun i hi => ⟨fun c hc => wa c (List.mem_of_mem_take hc), by rw [List.length_take]; omega, by rw [List.length_take]; omega⟩) fun i j hij hj e => ?_)
          have := congrArg List.length e
          simp only [List.length_take] at this
          omega
        · try simp only [M.ret_bind, M.bad_bind, M.bind_assoc, M.lift_some, M.lift_none, M.calm_ret, M.map_ret, M.exc_bind, SM.sb_exc, retM_xc, SM.sb_ret, SM.sb_bad, SM.sb_bind, SM.seq_nx, SM.seq_rt, SM.seq_ct, SM.seq_xc, SM.seq_bad, SM.seq_sb, SM.seq_seq, boolM_bl, bindM_some, bindS_some, iteM_t, iteM_f, brS_t, brS_f, ev_c, ev_v, ev_bin, ev_un, ev_chain, ev_and, ev_or, ev_ite, ev_tup, ev_lst, ev_call, ev_bi, ev_ix, ev_sl, ev_rev, ev_cmp', evs_nil, evs_star, ec_c, ec_v, ec_bin, ec_un, ec_chain, ec_and, ec_or, ec_ite, ec_tup, ec_lst, ec_call, ec_bi, ec_ix, ec_sl, ec_rev, ec_cmp, evO_none, evO_some, evT_none, evT_some, evI_rng, evI_rng2, evI_zip, evI_enm, evI_seq, ss_nil', ss_pass', ss_cont', ss_asg', ss_expr', ss_ite', ss_loop', ss_ret', ss_rais', ss_tr', slotM_sh, starM_lst, starM_tup, optI_int, loopM_nil, retM_rt, retM_nx, List.getElem?_cons_zero, List.getElem?_cons_succ, List.set_cons_zero, List.set_cons_succ, bindT, bindTs, wipeE, Tg.slots, Tg.slotss, startE, List.nil_append, List.cons_append, List.append_nil, List.map_cons, List.map_nil, List.length_cons, List.length_nil, List.replicate_succ, List.replicate_zero, Option.bind_some, Option.map_some, Nat.reduceAdd, Nat.reduceSub, Int.reduceEq, Int.reduceLT, Int.reduceLE, decide_true, decide_false, Bool.not_true, Bool.not_false, b_add_i, b_sub_i, b_lt_i, b_le_i, b_gt_i, b_ge_i, b_lt_s, b_eq_i, b_ne_i, b_eq_t0, b_eq_l0, b_ne_t0, b_ne_l0, b_in_1, b_nin_1, u_not, u_neg, bi_len_t, bi_len_l, bi_len_c, bi_tup_l, bi_tup_t, bi_lst_l, bi_lst_t, bi_int_i, bi_edict, bi_min_i, bi_all_map, bi_any_map, sq_l, sq_t, zp_t, zp_l, rv_t, rv_l, sl_t, sl_l, fit0, fit1, fit2, fit3, fit4, fit5, fit6, fit7, fit8, fit9, fit10, fit11, fit12, fit13, fit14, fit15, fit16, fit17, fit18, fit19, fit20, fit21, fit22, fit23, fit24, fit25, fit26, fit27, fit28, fit29, fit30, fit31, fit32, isin_str_non, isin_str_bl, isin_str_int, isin_str_str, isin_str_tup, isin_str_lst, isin_str_dct, isin_tuple_non, isin_tuple_bl, isin_tuple_int, isin_tuple_str, isin_tuple_tup, isin_tuple_lst, isin_tuple_dct, isin_int_non, isin_int_bl, isin_int_int, isin_int_str, isin_int_tup, isin_int_lst, isin_int_dct, isin_bool_non, isin_bool_bl, isin_bool_int, isin_bool_str, isin_bool_tup, isin_bool_lst, isin_bool_dct, isin_list_tuple_non, isin_list_tuple_bl, isin_list_tuple_int, isin_list_tuple_str, isin_list_tuple_tup, isin_list_tuple_lst, isin_list_tuple_dct, isin_tuple_list_non, isin_tuple_list_bl, isin_tuple_list_int, isin_tuple_list_str, isin_tuple_list_tup, isin_tuple_list_lst, isin_tuple_list_dct, isin_list_non, isin_list_bl, isin_list_int, isin_list_str, isin_list_tup, isin_list_lst, isin_list_dct, isin_dict_non, isin_dict_bl, isin_dict_int, isin_dict_str, isin_dict_tup, isin_dict_lst, isin_dict_dct]
          rw [sl_s _ _ wL, mkS_cut, cut_to _ (by omega)]
          have e2 : ((i : Int) + 9 - (n : Int)).toNat = i + 9 - n := by omega
          simp only [M.ret_bind, M.bad_bind, M.bind_assoc, M.lift_some, M.lift_none, M.calm_ret, M.map_ret, M.exc_bind, SM.sb_exc, retM_xc, SM.sb_ret, SM.sb_bad, SM.sb_bind, SM.seq_nx, SM.seq_rt, SM.seq_ct, SM.seq_xc, SM.seq_bad, SM.seq_sb, SM.seq_seq, boolM_bl, bindM_some, bindS_some, iteM_t, iteM_f, brS_t, brS_f, ev_c, ev_v, ev_bin, ev_un, ev_chain, ev_and, ev_or, ev_ite, ev_tup, ev_lst, ev_call, ev_bi, ev_ix, ev_sl, ev_rev, ev_cmp', evs_nil, evs_star, ec_c, ec_v, ec_bin, ec_un, ec_chain, ec_and, ec_or, ec_ite, ec_tup, ec_lst, ec_call, ec_bi, ec_ix, ec_sl, ec_rev, ec_cmp, evO_none, evO_some, evT_none, evT_some, evI_rng, evI_rng2, evI_zip, evI_enm, evI_seq, ss_nil', ss_pass', ss_cont', ss_asg', ss_expr', ss_ite', ss_loop', ss_ret', ss_rais', ss_tr', slotM_sh, starM_lst, starM_tup, optI_int, loopM_nil, retM_rt, retM_nx, List.getElem?_cons_zero, List.getElem?_cons_succ, List.set_cons_zero, List.set_cons_succ, bindT, bindTs, wipeE, Tg.slots, Tg.slotss, startE, List.nil_append, List.cons_append, List.append_nil, List.map_cons, List.map_nil, List.length_cons, List.length_nil, List.replicate_succ, List.replicate_zero, Option.bind_some, Option.map_some, Nat.reduceAdd, Nat.reduceSub, Int.reduceEq, Int.reduceLT, Int.reduceLE, decide_true, decide_false, Bool.not_true, Bool.not_false, e2]
    · have hb1 : b = 1 ∨ b = 3 ∨ b = 5 := by omega
      simp only [hb5, decide_false, M.ret_bind, M.bad_bind, M.bind_assoc, M.lift_some, M.lift_none, M.calm_ret, M.map_ret, M.exc_bind, SM.sb_exc, retM_xc, SM.sb_ret, SM.sb_bad, SM.sb_bind, SM.seq_nx, SM.seq_rt, SM.seq_ct, SM.seq_xc, SM.seq_bad, SM.seq_sb, SM.seq_seq, boolM_bl, bindM_some, bindS_some, iteM_t, iteM_f, brS_t, brS_f, ev_c, ev_v, ev_bin, ev_un, ev_chain, ev_and, ev_or, ev_ite, ev_tup, ev_lst, ev_call, ev_bi, ev_ix, ev_sl, ev_rev, ev_cmp', evs_nil, evs_star, ec_c, ec_v, ec_bin, ec_un, ec_chain, ec_and, ec_or, ec_ite, ec_tup, ec_lst, ec_call, ec_bi, ec_ix, ec_sl, ec_rev, ec_cmp, evO_none, evO_some, evT_none, evT_some, evI_rng, evI_rng2, evI_zip, evI_enm, evI_seq, ss_nil', ss_pass', ss_cont', ss_asg', ss_expr', ss_ite', ss_loop', ss_ret', ss_rais', ss_tr', slotM_sh, starM_lst, starM_tup, optI_int, loopM_nil, retM_rt, retM_nx, List.getElem?_cons_zero, List.getElem?_cons_succ, List.set_cons_zero, List.set_cons_succ, bindT, bindTs, wipeE, Tg.slots, Tg.slotss, startE, List.nil_append, List.cons_append, List.append_nil, List.map_cons, List.map_nil, List.length_cons, List.length_nil, List.replicate_succ, List.replicate_zero, Option.bind_some, Option.map_some, Nat.reduceAdd, Nat.reduceSub, Int.reduceEq, Int.reduceLT, Int.reduceLE, decide_true, decide_false, Bool.not_true, Bool.not_false, b_add_i, b_sub_i, b_lt_i, b_le_i, b_gt_i, b_ge_i, b_lt_s, b_eq_i, b_ne_i, b_eq_t0, b_eq_l0, b_ne_t0, b_ne_l0, b_in_1, b_nin_1, u_not, u_neg, bi_len_t, bi_len_l, bi_len_c, bi_tup_l, bi_tup_t, bi_lst_l, bi_lst_t, bi_int_i, bi_edict, bi_min_i, bi_all_map, bi_any_map, sq_l, sq_t, zp_t, zp_l, rv_t, rv_l, sl_t, sl_l, fit0, fit1, fit2, fit3, fit4, fit5, fit6, fit7, fit8, fit9, fit10, fit11, fit12, fit13, fit14, fit15, fit16, fit17, fit18, fit19, fit20, fit21, fit22, fit23, fit24, fit25, fit26, fit27, fit28, fit29, fit30, fit31, fit32, isin_str_non, isin_str_bl, isin_str_int, isin_str_str, isin_str_tup, isin_str_lst, isin_str_dct, isin_tuple_non, isin_tuple_bl, isin_tuple_int, isin_tuple_str, isin_tuple_tup, isin_tuple_lst, isin_tuple_dct, isin_int_non, isin_int_bl, isin_int_int, isin_int_str, isin_int_tup, isin_int_lst, isin_int_dct, isin_bool_non, isin_bool_bl, isin_bool_int, isin_bool_str, isin_bool_tup, isin_bool_lst, isin_bool_dct, isin_list_tuple_non, isin_list_tuple_bl, isin_list_tuple_int, isin_list_tuple_str, isin_list_tuple_tup, isin_list_tuple_lst, isin_list_tuple_dct, isin_tuple_list_non, isin_tuple_list_bl, isin_tuple_list_int, isin_tuple_list_str, isin_tuple_list_tup, isin_tuple_list_lst, isin_tuple_list_dct, isin_list_non, isin_list_bl, isin_list_int, isin_list_str, isin_list_tup, isin_list_lst, isin_list_dct, isin_dict_non, isin_dict_bl, isin_dict_int, isin_dict_str, isin_dict_tup, isin_dict_lst, isin_dict_dct, rng0 (show (0 : Int) ≤ n by omega) (show (n : Int) ≤ 100000 by omega), Int.toNat_natCast]
      rw [cmpM_map (List.range n) (fun i => .int (i : Int)) (fun i => .str (mkS (l.take at_.toNat ++ [97 + ((f + b * i) % 26).toNat] ++ l.drop at_.toNat))) (fun i hi => ?_) (by simp; unfold LIM; omega)]
      · simp only [M.ret_bind, M.bad_bind, M.bind_assoc, M.lift_some, M.lift_none, M.calm_ret, M.map_ret, M.exc_bind, SM.sb_exc, retM_xc, SM.sb_ret, SM.sb_bad, SM.sb_bind, SM.seq_nx, SM.seq_rt, SM.seq_ct, SM.seq_xc, SM.seq_bad, SM.seq_sb, SM.seq_seq, boolM_bl, bindM_some, bindS_some, iteM_t, iteM_f, brS_t, brS_f, ev_c, ev_v, ev_bin, ev_un, ev_chain, ev_and, ev_or, ev_ite, ev_tup, ev_lst, ev_call, ev_bi, ev_ix, ev_sl, ev_rev, ev_cmp', evs_nil, evs_star, ec_c, ec_v, ec_bin, ec_un, ec_chain, ec_and, ec_or, ec_ite, ec_tup, ec_lst, ec_call, ec_bi, ec_ix, ec_sl, ec_rev, ec_cmp, evO_none, evO_some, evT_none, evT_some, evI_rng, evI_rng2, evI_zip, evI_enm, evI_seq, ss_nil', ss_pass', ss_cont', ss_asg', ss_expr', ss_ite', ss_loop', ss_ret', ss_rais', ss_tr', slotM_sh, starM_lst, starM_tup, optI_int, loopM_nil, retM_rt, retM_nx, List.getElem?_cons_zero, List.getElem?_cons_succ, List.set_cons_zero, List.set_cons_succ, bindT, bindTs, wipeE, Tg.slots, Tg.slotss, startE, List.nil_append, List.cons_append, List.append_nil, List.map_cons, List.map_nil, List.length_cons, List.length_nil, List.replicate_succ, List.replicate_zero, Option.bind_some, Option.map_some, Nat.reduceAdd, Nat.reduceSub, Int.reduceEq, Int.reduceLT, Int.reduceLE, decide_true, decide_false, Bool.not_true, Bool.not_false]
        refine TrS.rt (names_of (f := fun i => l.take at_.toNat ++ [97 + ((f + b * i) % 26).toNat] ++ l.drop at_.toNat) (fun i hi => ⟨fun c hc => ?_, ?_, ?_⟩) fun i j hij hj e => ?_)
        · rcases List.mem_append.mp hc with hc | hc
          · rcases List.mem_append.mp hc with hc | hc
            · exact ha c (List.mem_of_mem_take hc)
            · rw [List.mem_singleton] at hc
              have := Int.emod_nonneg (f + b * i) (show (26 : Int) ≠ 0 by decide)
              have := Int.emod_lt_of_pos (f + b * i) (show (0 : Int) < 26 by decide)
              omega
          · exact ha c (List.mem_of_mem_drop hc)
        · simp only [List.length_append, List.length_cons, List.length_nil]; omega
        · simp only [List.length_append, List.length_cons, List.length_nil, List.length_take, List.length_drop]; omega
        · have e2 := List.append_cancel_left (List.append_cancel_right e)
          simp only [List.cons.injEq, and_true] at e2
          have hj' : j ≤ 8 := by omega
          rcases hb1 with rfl | rfl | rfl <;> omega
      · have hi := List.mem_range.mp hi
        try simp only [M.ret_bind, M.bad_bind, M.bind_assoc, M.lift_some, M.lift_none, M.calm_ret, M.map_ret, M.exc_bind, SM.sb_exc, retM_xc, SM.sb_ret, SM.sb_bad, SM.sb_bind, SM.seq_nx, SM.seq_rt, SM.seq_ct, SM.seq_xc, SM.seq_bad, SM.seq_sb, SM.seq_seq, boolM_bl, bindM_some, bindS_some, iteM_t, iteM_f, brS_t, brS_f, ev_c, ev_v, ev_bin, ev_un, ev_chain, ev_and, ev_or, ev_ite, ev_tup, ev_lst, ev_call, ev_bi, ev_ix, ev_sl, ev_rev, ev_cmp', evs_nil, evs_star, ec_c, ec_v, ec_bin, ec_un, ec_chain, ec_and, ec_or, ec_ite, ec_tup, ec_lst, ec_call, ec_bi, ec_ix, ec_sl, ec_rev, ec_cmp, evO_none, evO_some, evT_none, evT_some, evI_rng, evI_rng2, evI_zip, evI_enm, evI_seq, ss_nil', ss_pass', ss_cont', ss_asg', ss_expr', ss_ite', ss_loop', ss_ret', ss_rais', ss_tr', slotM_sh, starM_lst, starM_tup, optI_int, loopM_nil, retM_rt, retM_nx, List.getElem?_cons_zero, List.getElem?_cons_succ, List.set_cons_zero, List.set_cons_succ, bindT, bindTs, wipeE, Tg.slots, Tg.slotss, startE, List.nil_append, List.cons_append, List.append_nil, List.map_cons, List.map_nil, List.length_cons, List.length_nil, List.replicate_succ, List.replicate_zero, Option.bind_some, Option.map_some, Nat.reduceAdd, Nat.reduceSub, Int.reduceEq, Int.reduceLT, Int.reduceLE, decide_true, decide_false, Bool.not_true, Bool.not_false, b_add_i, b_sub_i, b_lt_i, b_le_i, b_gt_i, b_ge_i, b_lt_s, b_eq_i, b_ne_i, b_eq_t0, b_eq_l0, b_ne_t0, b_ne_l0, b_in_1, b_nin_1, u_not, u_neg, bi_len_t, bi_len_l, bi_len_c, bi_tup_l, bi_tup_t, bi_lst_l, bi_lst_t, bi_int_i, bi_edict, bi_min_i, bi_all_map, bi_any_map, sq_l, sq_t, zp_t, zp_l, rv_t, rv_l, sl_t, sl_l, fit0, fit1, fit2, fit3, fit4, fit5, fit6, fit7, fit8, fit9, fit10, fit11, fit12, fit13, fit14, fit15, fit16, fit17, fit18, fit19, fit20, fit21, fit22, fit23, fit24, fit25, fit26, fit27, fit28, fit29, fit30, fit31, fit32, isin_str_non, isin_str_bl, isin_str_int, isin_str_str, isin_str_tup, isin_str_lst, isin_str_dct, isin_tuple_non, isin_tuple_bl, isin_tuple_int, isin_tuple_str, isin_tuple_tup, isin_tuple_lst, isin_tuple_dct, isin_int_non, isin_int_bl, isin_int_int, isin_int_str, isin_int_tup, isin_int_lst, isin_int_dct, isin_bool_non, isin_bool_bl, isin_bool_int, isin_bool_str, isin_bool_tup, isin_bool_lst, isin_bool_dct, isin_list_tuple_non, isin_list_tuple_bl, isin_list_tuple_int, isin_list_tuple_str, isin_list_tuple_tup, isin_list_tuple_lst, isin_list_tuple_dct, isin_tuple_list_non, isin_tuple_list_bl, isin_tuple_list_int, isin_tuple_list_str, isin_tuple_list_tup, isin_tuple_list_lst, isin_tuple_list_dct, isin_list_non, isin_list_bl, isin_list_int, isin_list_str, isin_list_tup, isin_list_lst, isin_list_dct, isin_dict_non, isin_dict_bl, isin_dict_int, isin_dict_str, isin_dict_tup, isin_dict_lst, isin_dict_dct]
        rw [sl_s _ _ hL, mkS_cut, cut_to _ a0]
        simp only [M.ret_bind, M.bad_bind, M.bind_assoc, M.lift_some, M.lift_none, M.calm_ret, M.map_ret, M.exc_bind, SM.sb_exc, retM_xc, SM.sb_ret, SM.sb_bad, SM.sb_bind, SM.seq_nx, SM.seq_rt, SM.seq_ct, SM.seq_xc, SM.seq_bad, SM.seq_sb, SM.seq_seq, boolM_bl, bindM_some, bindS_some, iteM_t, iteM_f, brS_t, brS_f, ev_c, ev_v, ev_bin, ev_un, ev_chain, ev_and, ev_or, ev_ite, ev_tup, ev_lst, ev_call, ev_bi, ev_ix, ev_sl, ev_rev, ev_cmp', evs_nil, evs_star, ec_c, ec_v, ec_bin, ec_un, ec_chain, ec_and, ec_or, ec_ite, ec_tup, ec_lst, ec_call, ec_bi, ec_ix, ec_sl, ec_rev, ec_cmp, evO_none, evO_some, evT_none, evT_some, evI_rng, evI_rng2, evI_zip, evI_enm, evI_seq, ss_nil', ss_pass', ss_cont', ss_asg', ss_expr', ss_ite', ss_loop', ss_ret', ss_rais', ss_tr', slotM_sh, starM_lst, starM_tup, optI_int, loopM_nil, retM_rt, retM_nx, List.getElem?_cons_zero, List.getElem?_cons_succ, List.set_cons_zero, List.set_cons_succ, bindT, bindTs, wipeE, Tg.slots, Tg.slotss, startE, List.nil_append, List.cons_append, List.append_nil, List.map_cons, List.map_nil, List.length_cons, List.length_nil, List.replicate_succ, List.replicate_zero, Option.bind_some, Option.map_some, Nat.reduceAdd, Nat.reduceSub, Int.reduceEq, Int.reduceLT, Int.reduceLE, decide_true, decide_false, Bool.not_true, Bool.not_false]
        rw [b_mul_i (mul_l (by omega) (by omega))]
        simp only [M.ret_bind, M.bad_bind, M.bind_assoc, M.lift_some, M.lift_none, M.calm_ret, M.map_ret, M.exc_bind, SM.sb_exc, retM_xc, SM.sb_ret, SM.sb_bad, SM.sb_bind, SM.seq_nx, SM.seq_rt, SM.seq_ct, SM.seq_xc, SM.seq_bad, SM.seq_sb, SM.seq_seq, boolM_bl, bindM_some, bindS_some, iteM_t, iteM_f, brS_t, brS_f, ev_c, ev_v, ev_bin, ev_un, ev_chain, ev_and, ev_or, ev_ite, ev_tup, ev_lst, ev_call, ev_bi, ev_ix, ev_sl, ev_rev, ev_cmp', evs_nil, evs_star, ec_c, ec_v, ec_bin, ec_un, ec_chain, ec_and, ec_or, ec_ite, ec_tup, ec_lst, ec_call, ec_bi, ec_ix, ec_sl, ec_rev, ec_cmp, evO_none, evO_some, evT_none, evT_some, evI_rng, evI_rng2, evI_zip, evI_enm, evI_seq, ss_nil', ss_pass', ss_cont', ss_asg', ss_expr', ss_ite', ss_loop', ss_ret', ss_rais', ss_tr', slotM_sh, starM_lst, starM_tup, optI_int, loopM_nil, retM_rt, retM_nx, List.getElem?_cons_zero, List.getElem?_cons_succ, List.set_cons_zero, List.set_cons_succ, bindT, bindTs, wipeE, Tg.slots, Tg.slotss, startE, List.nil_append, List.cons_append, List.append_nil, List.map_cons, List.map_nil, List.length_cons, List.length_nil, List.replicate_succ, List.replicate_zero, Option.bind_some, Option.map_some, Nat.reduceAdd, Nat.reduceSub, Int.reduceEq, Int.reduceLT, Int.reduceLE, decide_true, decide_false, Bool.not_true, Bool.not_false, b_add_i, b_sub_i, b_lt_i, b_le_i, b_gt_i, b_ge_i, b_lt_s, b_eq_i, b_ne_i, b_eq_t0, b_eq_l0, b_ne_t0, b_ne_l0, b_in_1, b_nin_1, u_not, u_neg, bi_len_t, bi_len_l, bi_len_c, bi_tup_l, bi_tup_t, bi_lst_l, bi_lst_t, bi_int_i, bi_edict, bi_min_i, bi_all_map, bi_any_map, sq_l, sq_t, zp_t, zp_l, rv_t, rv_l, sl_t, sl_l, fit0, fit1, fit2, fit3, fit4, fit5, fit6, fit7, fit8, fit9, fit10, fit11, fit12, fit13, fit14, fit15, fit16, fit17, fit18, fit19, fit20, fit21, fit22, fit23, fit24, fit25, fit26, fit27, fit28, fit29, fit30, fit31, fit32, isin_str_non, isin_str_bl, isin_str_int, isin_str_str, isin_str_tup, isin_str_lst, isin_str_dct, isin_tuple_non, isin_tuple_bl, isin_tuple_int, isin_tuple_str, isin_tuple_tup, isin_tuple_lst, isin_tuple_dct, isin_int_non, isin_int_bl, isin_int_int, isin_int_str, isin_int_tup, isin_int_lst, isin_int_dct, isin_bool_non, isin_bool_bl, isin_bool_int, isin_bool_str, isin_bool_tup, isin_bool_lst, isin_bool_dct, isin_list_tuple_non, isin_list_tuple_bl, isin_list_tuple_int, isin_list_tuple_str, isin_list_tuple_tup, isin_list_tuple_lst, isin_list_tuple_dct, isin_tuple_list_non, isin_tuple_list_bl, isin_tuple_list_int, isin_tuple_list_str, isin_tuple_list_tup, isin_tuple_list_lst, isin_tuple_list_dct, isin_list_non, isin_list_bl, isin_list_int, isin_list_str, isin_list_tup, isin_list_lst, isin_list_dct, isin_dict_non, isin_dict_bl, isin_dict_int, isin_dict_str, isin_dict_tup, isin_dict_lst, isin_dict_dct]
        rw [b_mod_i (by decide)]
        have m0 := Int.emod_nonneg (f + b * i) (show (26 : Int) ≠ 0 by decide)
        have m1 := Int.emod_lt_of_pos (f + b * i) (show (0 : Int) < 26 by decide)
        simp only [M.ret_bind, M.bad_bind, M.bind_assoc, M.lift_some, M.lift_none, M.calm_ret, M.map_ret, M.exc_bind, SM.sb_exc, retM_xc, SM.sb_ret, SM.sb_bad, SM.sb_bind, SM.seq_nx, SM.seq_rt, SM.seq_ct, SM.seq_xc, SM.seq_bad, SM.seq_sb, SM.seq_seq, boolM_bl, bindM_some, bindS_some, iteM_t, iteM_f, brS_t, brS_f, ev_c, ev_v, ev_bin, ev_un, ev_chain, ev_and, ev_or, ev_ite, ev_tup, ev_lst, ev_call, ev_bi, ev_ix, ev_sl, ev_rev, ev_cmp', evs_nil, evs_star, ec_c, ec_v, ec_bin, ec_un, ec_chain, ec_and, ec_or, ec_ite, ec_tup, ec_lst, ec_call, ec_bi, ec_ix, ec_sl, ec_rev, ec_cmp, evO_none, evO_some, evT_none, evT_some, evI_rng, evI_rng2, evI_zip, evI_enm, evI_seq, ss_nil', ss_pass', ss_cont', ss_asg', ss_expr', ss_ite', ss_loop', ss_ret', ss_rais', ss_tr', slotM_sh, starM_lst, starM_tup, optI_int, loopM_nil, retM_rt, retM_nx, List.getElem?_cons_zero, List.getElem?_cons_succ, List.set_cons_zero, List.set_cons_succ, bindT, bindTs, wipeE, Tg.slots, Tg.slotss, startE, List.nil_append, List.cons_append, List.append_nil, List.map_cons, List.map_nil, List.length_cons, List.length_nil, List.replicate_succ, List.replicate_zero, Option.bind_some, Option.map_some, Nat.reduceAdd, Nat.reduceSub, Int.reduceEq, Int.reduceLT, Int.reduceLE, decide_true, decide_false, Bool.not_true, Bool.not_false, b_add_i, b_sub_i, b_lt_i, b_le_i, b_gt_i, b_ge_i, b_lt_s, b_eq_i, b_ne_i, b_eq_t0, b_eq_l0, b_ne_t0, b_ne_l0, b_in_1, b_nin_1, u_not, u_neg, bi_len_t, bi_len_l, bi_len_c, bi_tup_l, bi_tup_t, bi_lst_l, bi_lst_t, bi_int_i, bi_edict, bi_min_i, bi_all_map, bi_any_map, sq_l, sq_t, zp_t, zp_l, rv_t, rv_l, sl_t, sl_l, fit0, fit1, fit2, fit3, fit4, fit5, fit6, fit7, fit8, fit9, fit10, fit11, fit12, fit13, fit14, fit15, fit16, fit17, fit18, fit19, fit20, fit21, fit22, fit23, fit24, fit25, fit26, fit27, fit28, fit29, fit30, fit31, fit32, isin_str_non, isin_str_bl, isin_str_int, isin_str_str, isin_str_tup, isin_str_lst, isin_str_dct, isin_tuple_non, isin_tuple_bl, isin_tuple_int, isin_tuple_str, isin_tuple_tup, isin_tuple_lst, isin_tuple_dct, isin_int_non, isin_int_bl, isin_int_int, isin_int_str, isin_int_tup, isin_int_lst, isin_int_dct, isin_bool_non, isin_bool_bl, isin_bool_int, isin_bool_str, isin_bool_tup, isin_bool_lst, isin_bool_dct, isin_list_tuple_non, isin_list_tuple_bl, isin_list_tuple_int, isin_list_tuple_str, isin_list_tuple_tup, isin_list_tuple_lst, isin_list_tuple_dct, isin_tuple_list_non, isin_tuple_list_bl, isin_tuple_list_int, isin_tuple_list_str, isin_tuple_list_tup, isin_tuple_list_lst, isin_tuple_list_dct, isin_list_non, isin_list_bl, isin_list_int, isin_list_str, isin_list_tup, isin_list_lst, isin_list_dct, isin_dict_non, isin_dict_bl, isin_dict_int, isin_dict_str, isin_dict_tup, isin_dict_lst, isin_dict_dct, ltr_at m0 m1]
        rw [b_add_s (by rw [mkS_len, mkS_len]; simp only [List.length_take, List.length_cons, List.length_nil]; unfold LIM; omega), mkS_app]
        simp only [M.ret_bind, M.bad_bind, M.bind_assoc, M.lift_some, M.lift_none, M.calm_ret, M.map_ret, M.exc_bind, SM.sb_exc, retM_xc, SM.sb_ret, SM.sb_bad, SM.sb_bind, SM.seq_nx, SM.seq_rt, SM.seq_ct, SM.seq_xc, SM.seq_bad, SM.seq_sb, SM.seq_seq, boolM_bl, bindM_some, bindS_some, iteM_t, iteM_f, brS_t, brS_f, ev_c, ev_v, ev_bin, ev_un, ev_chain, ev_and, ev_or, ev_ite, ev_tup, ev_lst, ev_call, ev_bi, ev_ix, ev_sl, ev_rev, ev_cmp', evs_nil, evs_star, ec_c, ec_v, ec_bin, ec_un, ec_chain, ec_and, ec_or, ec_ite, ec_tup, ec_lst, ec_call, ec_bi, ec_ix, ec_sl, ec_rev, ec_cmp, evO_none, evO_some, evT_none, evT_some, evI_rng, evI_rng2, evI_zip, evI_enm, evI_seq, ss_nil', ss_pass', ss_cont', ss_asg', ss_expr', ss_ite', ss_loop', ss_ret', ss_rais', ss_tr', slotM_sh, starM_lst, starM_tup, optI_int, loopM_nil, retM_rt, retM_nx, List.getElem?_cons_zero, List.getElem?_cons_succ, List.set_cons_zero, List.set_cons_succ, bindT, bindTs, wipeE, Tg.slots, Tg.slotss, startE, List.nil_append, List.cons_append, List.append_nil, List.map_cons, List.map_nil, List.length_cons, List.length_nil, List.replicate_succ, List.replicate_zero, Option.bind_some, Option.map_some, Nat.reduceAdd, Nat.reduceSub, Int.reduceEq, Int.reduceLT, Int.reduceLE, decide_true, decide_false, Bool.not_true, Bool.not_false]
        rw [sl_s _ _ hL, mkS_cut, cut_from _ a0]
        simp only [M.ret_bind, M.bad_bind, M.bind_assoc, M.lift_some, M.lift_none, M.calm_ret, M.map_ret, M.exc_bind, SM.sb_exc, retM_xc, SM.sb_ret, SM.sb_bad, SM.sb_bind, SM.seq_nx, SM.seq_rt, SM.seq_ct, SM.seq_xc, SM.seq_bad, SM.seq_sb, SM.seq_seq, boolM_bl, bindM_some, bindS_some, iteM_t, iteM_f, brS_t, brS_f, ev_c, ev_v, ev_bin, ev_un, ev_chain, ev_and, ev_or, ev_ite, ev_tup, ev_lst, ev_call, ev_bi, ev_ix, ev_sl, ev_rev, ev_cmp', evs_nil, evs_star, ec_c, ec_v, ec_bin, ec_un, ec_chain, ec_and, ec_or, ec_ite, ec_tup, ec_lst, ec_call, ec_bi, ec_ix, ec_sl, ec_rev, ec_cmp, evO_none, evO_some, evT_none, evT_some, evI_rng, evI_rng2, evI_zip, evI_enm, evI_seq, ss_nil', ss_pass', ss_cont', ss_asg', ss_expr', ss_ite', ss_loop', ss_ret', ss_rais', ss_tr', slotM_sh, starM_lst, starM_tup, optI_int, loopM_nil, retM_rt, retM_nx, List.getElem?_cons_zero, List.getElem?_cons_succ, List.set_cons_zero, List.set_cons_succ, bindT, bindTs, wipeE, Tg.slots, Tg.slotss, startE, List.nil_append, List.cons_append, List.append_nil, List.map_cons, List.map_nil, List.length_cons, List.length_nil, List.replicate_succ, List.replicate_zero, Option.bind_some, Option.map_some, Nat.reduceAdd, Nat.reduceSub, Int.reduceEq, Int.reduceLT, Int.reduceLE, decide_true, decide_false, Bool.not_true, Bool.not_false]
        rw [b_add_s (by rw [mkS_len, mkS_len]; simp only [List.length_append, List.length_take, List.length_drop, List.length_cons, List.length_nil]; unfold LIM; omega), mkS_app]
        simp only [M.ret_bind, M.bad_bind, M.bind_assoc, M.lift_some, M.lift_none, M.calm_ret, M.map_ret, M.exc_bind, SM.sb_exc, retM_xc, SM.sb_ret, SM.sb_bad, SM.sb_bind, SM.seq_nx, SM.seq_rt, SM.seq_ct, SM.seq_xc, SM.seq_bad, SM.seq_sb, SM.seq_seq, boolM_bl, bindM_some, bindS_some, iteM_t, iteM_f, brS_t, brS_f, ev_c, ev_v, ev_bin, ev_un, ev_chain, ev_and, ev_or, ev_ite, ev_tup, ev_lst, ev_call, ev_bi, ev_ix, ev_sl, ev_rev, ev_cmp', evs_nil, evs_star, ec_c, ec_v, ec_bin, ec_un, ec_chain, ec_and, ec_or, ec_ite, ec_tup, ec_lst, ec_call, ec_bi, ec_ix, ec_sl, ec_rev, ec_cmp, evO_none, evO_some, evT_none, evT_some, evI_rng, evI_rng2, evI_zip, evI_enm, evI_seq, ss_nil', ss_pass', ss_cont', ss_asg', ss_expr', ss_ite', ss_loop', ss_ret', ss_rais', ss_tr', slotM_sh, starM_lst, starM_tup, optI_int, loopM_nil, retM_rt, retM_nx, List.getElem?_cons_zero, List.getElem?_cons_succ, List.set_cons_zero, List.set_cons_succ, bindT, bindTs, wipeE, Tg.slots, Tg.slotss, startE, List.nil_append, List.cons_append, List.append_nil, List.map_cons, List.map_nil, List.length_cons, List.length_nil, List.replicate_succ, List.replicate_zero, Option.bind_some, Option.map_some, Nat.reduceAdd, Nat.reduceSub, Int.reduceEq, Int.reduceLT, Int.reduceLE, decide_true, decide_false, Bool.not_true, Bool.not_false]
end
end Ev
set_option Elab.async false
set_option linter.all false
set_option maxRecDepth 100000
set_option maxHeartbeats 2000000
/-! Pl8: drawn things; odd and bent data. -/
namespace Ev
open PySem
theorem sortS_perm (ss : List Str) : (sortS ss).Perm ss := List.mergeSort_perm _ _
theorem sortS_pw (ss : List Str) : (sortS ss).Pairwise fun a b => a.cps.toList ≤ b.cps.toList := by
  unfold sortS
  have e : (PySem.W.dataLe false PyData.str : Str → Str → Bool) = fun a b => decide (a.cps.toList ≤ b.cps.toList) := PySem.W.dataLe_str (fun x : Str => x)
  rw [e]
  have z := List.pairwise_mergeSort (le := fun a b : Str => decide (a.cps.toList ≤ b.cps.toList)) (fun a b c h1 h2 => by rw [decide_eq_true_eq] at *; exact Std.le_trans h1 h2) (fun a b => by rw [Bool.or_eq_true, decide_eq_true_eq, decide_eq_true_eq]; exact Std.le_total) ss
  exact z.imp fun h => by rwa [decide_eq_true_eq] at h
theorem sortS_asc {ss : List Str} (h : ss.Nodup) : Asc (sortS ss) := by
  have nd : (sortS ss).Nodup := (sortS_perm ss).nodup_iff.mpr h
  refine List.Pairwise.imp₂ (fun {a b} h1 h2 => ?_) (sortS_pw ss) nd
  rw [ltT_iff]
  rcases Std.le_iff_lt_or_eq.mp h1 with z | z
  · exact z
  · exact absurd (PySem.W.str_of_cps z) h2
section
variable {P : List (Str × Fn)} {pr : FT} {up : List (Str × Str)} {k : Nat}
/-- things: an ascending row of words -/
structure Things (most : Nat) (ts : List Str) : Prop where
  asc : Asc ts
  pos : 1 ≤ ts.length
  le : ts.length ≤ most
  wd : ∀ x ∈ ts, wordB x = true
theorem Things.ok {most : Nat} {ts : List Str} (h : Things most ts) : ∀ x ∈ ts, PyData.strOk x = true := fun x hx => word_ok (h.wd x hx)
theorem sort_names {n : Nat} {d : D} (h : IsNames n d) (hn : n ≤ 8) : ∃ ts, biD .sorted [d] = some (.lst (ts.map D.str)) ∧ Asc ts ∧ ts.length = n ∧ ∀ x ∈ ts, wordB x = true := by
  obtain ⟨ss, rfl, hl, nd, hw⟩ := h
  refine ⟨sortS ss, bi_sorted_strs (fun x hx => word_ok (hw x hx)) (by unfold LIM; omega), sortS_asc nd, by rw [(sortS_perm ss).length_eq, hl], fun x hx => hw x ((sortS_perm ss).mem_iff.mp hx)⟩
theorem t_things (hn : HasNo P "_law_next") (hp : pr "_law_next" = nextM) (h1 : Has P "_law_names" f_law_names) (h : Has P "_law_things" f_law_things) {n : Nat} (hn0 : 1 ≤ n) (hn8 : n ≤ 8) : Tr 12 (runF P pr up (k + 3) "_law_things" [.mm, .int n]) fun d => ∃ ts, d = tupS ts ∧ Things n ts := by
  rw [run_def h rfl (by decide)]
  refine TrS.ret (N := fun _ => False) ?_ (fun _ z => z.elim)
  simp only [M.ret_bind, M.bad_bind, M.bind_assoc, M.lift_some, M.lift_none, M.calm_ret, M.map_ret, M.exc_bind, SM.sb_exc, retM_xc, SM.sb_ret, SM.sb_bad, SM.sb_bind, SM.seq_nx, SM.seq_rt, SM.seq_ct, SM.seq_xc, SM.seq_bad, SM.seq_sb, SM.seq_seq, boolM_bl, bindM_some, bindS_some, iteM_t, iteM_f, brS_t, brS_f, ev_c, ev_v, ev_bin, ev_un, ev_chain, ev_and, ev_or, ev_ite, ev_tup, ev_lst, ev_call, ev_bi, ev_ix, ev_sl, ev_rev, ev_cmp', evs_nil, evs_star, ec_c, ec_v, ec_bin, ec_un, ec_chain, ec_and, ec_or, ec_ite, ec_tup, ec_lst, ec_call, ec_bi, ec_ix, ec_sl, ec_rev, ec_cmp, evO_none, evO_some, evT_none, evT_some, evI_rng, evI_rng2, evI_zip, evI_enm, evI_seq, ss_nil', ss_pass', ss_cont', ss_asg', ss_expr', ss_ite', ss_loop', ss_ret', ss_rais', ss_tr', slotM_sh, starM_lst, starM_tup, optI_int, loopM_nil, retM_rt, retM_nx, List.getElem?_cons_zero, List.getElem?_cons_succ, List.set_cons_zero, List.set_cons_succ, bindT, bindTs, wipeE, Tg.slots, Tg.slotss, startE, List.nil_append, List.cons_append, List.append_nil, List.map_cons, List.map_nil, List.length_cons, List.length_nil, List.replicate_succ, List.replicate_zero, Option.bind_some, Option.map_some, Nat.reduceAdd, Nat.reduceSub, Int.reduceEq, Int.reduceLT, Int.reduceLE, decide_true, decide_false, Bool.not_true, Bool.not_false, b_add_i, b_sub_i, b_lt_i, b_le_i, b_gt_i, b_ge_i, b_lt_s, b_eq_i, b_ne_i, b_eq_t0, b_eq_l0, b_ne_t0, b_ne_l0, b_in_1, b_nin_1, u_not, u_neg, bi_len_t, bi_len_l, bi_len_c, bi_tup_l, bi_tup_t, bi_lst_l, bi_lst_t, bi_int_i, bi_edict, bi_min_i, bi_all_map, bi_any_map, sq_l, sq_t, zp_t, zp_l, rv_t, rv_l, sl_t, sl_l, fit0, fit1, fit2, fit3, fit4, fit5, fit6, fit7, fit8, fit9, fit10, fit11, fit12, fit13, fit14, fit15, fit16, fit17, fit18, fit19, fit20, fit21, fit22, fit23, fit24, fit25, fit26, fit27, fit28, fit29, fit30, fit31, fit32, isin_str_non, isin_str_bl, isin_str_int, isin_str_str, isin_str_tup, isin_str_lst, isin_str_dct, isin_tuple_non, isin_tuple_bl, isin_tuple_int, isin_tuple_str, isin_tuple_tup, isin_tuple_lst, isin_tuple_dct, isin_int_non, isin_int_bl, isin_int_int, isin_int_str, isin_int_tup, isin_int_lst, isin_int_dct, isin_bool_non, isin_bool_bl, isin_bool_int, isin_bool_str, isin_bool_tup, isin_bool_lst, isin_bool_dct, isin_list_tuple_non, isin_list_tuple_bl, isin_list_tuple_int, isin_list_tuple_str, isin_list_tuple_tup, isin_list_tuple_lst, isin_list_tuple_dct, isin_tuple_list_non, isin_tuple_list_bl, isin_tuple_list_int, isin_tuple_list_str, isin_tuple_list_tup, isin_tuple_list_lst, isin_tuple_list_dct, isin_list_non, isin_list_bl, isin_list_int, isin_list_str, isin_list_tup, isin_list_lst, isin_list_dct, isin_dict_non, isin_dict_bl, isin_dict_int, isin_dict_str, isin_dict_tup, isin_dict_lst, isin_dict_dct, f_law_things]
  refine TrS.sb 11 (t_next hn hp (i := n) (by omega) (by omega)) fun d ⟨v, e, v0, v1⟩ => ?_
  subst e
  try simp only [M.ret_bind, M.bad_bind, M.bind_assoc, M.lift_some, M.lift_none, M.calm_ret, M.map_ret, M.exc_bind, SM.sb_exc, retM_xc, SM.sb_ret, SM.sb_bad, SM.sb_bind, SM.seq_nx, SM.seq_rt, SM.seq_ct, SM.seq_xc, SM.seq_bad, SM.seq_sb, SM.seq_seq, boolM_bl, bindM_some, bindS_some, iteM_t, iteM_f, brS_t, brS_f, ev_c, ev_v, ev_bin, ev_un, ev_chain, ev_and, ev_or, ev_ite, ev_tup, ev_lst, ev_call, ev_bi, ev_ix, ev_sl, ev_rev, ev_cmp', evs_nil, evs_star, ec_c, ec_v, ec_bin, ec_un, ec_chain, ec_and, ec_or, ec_ite, ec_tup, ec_lst, ec_call, ec_bi, ec_ix, ec_sl, ec_rev, ec_cmp, evO_none, evO_some, evT_none, evT_some, evI_rng, evI_rng2, evI_zip, evI_enm, evI_seq, ss_nil', ss_pass', ss_cont', ss_asg', ss_expr', ss_ite', ss_loop', ss_ret', ss_rais', ss_tr', slotM_sh, starM_lst, starM_tup, optI_int, loopM_nil, retM_rt, retM_nx, List.getElem?_cons_zero, List.getElem?_cons_succ, List.set_cons_zero, List.set_cons_succ, bindT, bindTs, wipeE, Tg.slots, Tg.slotss, startE, List.nil_append, List.cons_append, List.append_nil, List.map_cons, List.map_nil, List.length_cons, List.length_nil, List.replicate_succ, List.replicate_zero, Option.bind_some, Option.map_some, Nat.reduceAdd, Nat.reduceSub, Int.reduceEq, Int.reduceLT, Int.reduceLE, decide_true, decide_false, Bool.not_true, Bool.not_false, b_add_i, b_sub_i, b_lt_i, b_le_i, b_gt_i, b_ge_i, b_lt_s, b_eq_i, b_ne_i, b_eq_t0, b_eq_l0, b_ne_t0, b_ne_l0, b_in_1, b_nin_1, u_not, u_neg, bi_len_t, bi_len_l, bi_len_c, bi_tup_l, bi_tup_t, bi_lst_l, bi_lst_t, bi_int_i, bi_edict, bi_min_i, bi_all_map, bi_any_map, sq_l, sq_t, zp_t, zp_l, rv_t, rv_l, sl_t, sl_l, fit0, fit1, fit2, fit3, fit4, fit5, fit6, fit7, fit8, fit9, fit10, fit11, fit12, fit13, fit14, fit15, fit16, fit17, fit18, fit19, fit20, fit21, fit22, fit23, fit24, fit25, fit26, fit27, fit28, fit29, fit30, fit31, fit32, isin_str_non, isin_str_bl, isin_str_int, isin_str_str, isin_str_tup, isin_str_lst, isin_str_dct, isin_tuple_non, isin_tuple_bl, isin_tuple_int, isin_tuple_str, isin_tuple_tup, isin_tuple_lst, isin_tuple_dct, isin_int_non, isin_int_bl, isin_int_int, isin_int_str, isin_int_tup, isin_int_lst, isin_int_dct, isin_bool_non, isin_bool_bl, isin_bool_int, isin_bool_str, isin_bool_tup, isin_bool_lst, isin_bool_dct, isin_list_tuple_non, isin_list_tuple_bl, isin_list_tuple_int, isin_list_tuple_str, isin_list_tuple_tup, isin_list_tuple_lst, isin_list_tuple_dct, isin_tuple_list_non, isin_tuple_list_bl, isin_tuple_list_int, isin_tuple_list_str, isin_tuple_list_tup, isin_tuple_list_lst, isin_tuple_list_dct, isin_list_non, isin_list_bl, isin_list_int, isin_list_str, isin_list_tup, isin_list_lst, isin_list_dct, isin_dict_non, isin_dict_bl, isin_dict_int, isin_dict_str, isin_dict_tup, isin_dict_lst, isin_dict_dct]
  have e1 : (1 : Int) + v = ((1 + v.toNat : Nat) : Int) := by omega
  rw [e1]
  refine TrS.sb 0 (t_names hn hp h1 (n := 1 + v.toNat) (by omega)) fun d hd => ?_
  obtain ⟨ts, e2, a1, a2, a3⟩ := sort_names hd (by omega)
  rw [e2]
  simp only [M.ret_bind, M.bad_bind, M.bind_assoc, M.lift_some, M.lift_none, M.calm_ret, M.map_ret, M.exc_bind, SM.sb_exc, retM_xc, SM.sb_ret, SM.sb_bad, SM.sb_bind, SM.seq_nx, SM.seq_rt, SM.seq_ct, SM.seq_xc, SM.seq_bad, SM.seq_sb, SM.seq_seq, boolM_bl, bindM_some, bindS_some, iteM_t, iteM_f, brS_t, brS_f, ev_c, ev_v, ev_bin, ev_un, ev_chain, ev_and, ev_or, ev_ite, ev_tup, ev_lst, ev_call, ev_bi, ev_ix, ev_sl, ev_rev, ev_cmp', evs_nil, evs_star, ec_c, ec_v, ec_bin, ec_un, ec_chain, ec_and, ec_or, ec_ite, ec_tup, ec_lst, ec_call, ec_bi, ec_ix, ec_sl, ec_rev, ec_cmp, evO_none, evO_some, evT_none, evT_some, evI_rng, evI_rng2, evI_zip, evI_enm, evI_seq, ss_nil', ss_pass', ss_cont', ss_asg', ss_expr', ss_ite', ss_loop', ss_ret', ss_rais', ss_tr', slotM_sh, starM_lst, starM_tup, optI_int, loopM_nil, retM_rt, retM_nx, List.getElem?_cons_zero, List.getElem?_cons_succ, List.set_cons_zero, List.set_cons_succ, bindT, bindTs, wipeE, Tg.slots, Tg.slotss, startE, List.nil_append, List.cons_append, List.append_nil, List.map_cons, List.map_nil, List.length_cons, List.length_nil, List.replicate_succ, List.replicate_zero, Option.bind_some, Option.map_some, Nat.reduceAdd, Nat.reduceSub, Int.reduceEq, Int.reduceLT, Int.reduceLE, decide_true, decide_false, Bool.not_true, Bool.not_false, b_add_i, b_sub_i, b_lt_i, b_le_i, b_gt_i, b_ge_i, b_lt_s, b_eq_i, b_ne_i, b_eq_t0, b_eq_l0, b_ne_t0, b_ne_l0, b_in_1, b_nin_1, u_not, u_neg, bi_len_t, bi_len_l, bi_len_c, bi_tup_l, bi_tup_t, bi_lst_l, bi_lst_t, bi_int_i, bi_edict, bi_min_i, bi_all_map, bi_any_map, sq_l, sq_t, zp_t, zp_l, rv_t, rv_l, sl_t, sl_l, fit0, fit1, fit2, fit3, fit4, fit5, fit6, fit7, fit8, fit9, fit10, fit11, fit12, fit13, fit14, fit15, fit16, fit17, fit18, fit19, fit20, fit21, fit22, fit23, fit24, fit25, fit26, fit27, fit28, fit29, fit30, fit31, fit32, isin_str_non, isin_str_bl, isin_str_int, isin_str_str, isin_str_tup, isin_str_lst, isin_str_dct, isin_tuple_non, isin_tuple_bl, isin_tuple_int, isin_tuple_str, isin_tuple_tup, isin_tuple_lst, isin_tuple_dct, isin_int_non, isin_int_bl, isin_int_int, isin_int_str, isin_int_tup, isin_int_lst, isin_int_dct, isin_bool_non, isin_bool_bl, isin_bool_int, isin_bool_str, isin_bool_tup, isin_bool_lst, isin_bool_dct, isin_list_tuple_non, isin_list_tuple_bl, isin_list_tuple_int, isin_list_tuple_str, isin_list_tuple_tup, isin_list_tuple_lst, isin_list_tuple_dct, isin_tuple_list_non, isin_tuple_list_bl, isin_tuple_list_int, isin_tuple_list_str, isin_tuple_list_tup, isin_tuple_list_lst, isin_tuple_list_dct, isin_list_non, isin_list_bl, isin_list_int, isin_list_str, isin_list_tup, isin_list_lst, isin_list_dct, isin_dict_non, isin_dict_bl, isin_dict_int, isin_dict_str, isin_dict_tup, isin_dict_lst, isin_dict_dct]
  exact TrS.rt ⟨ts, rfl, a1, by omega, by omega, a3⟩
/-! ### data of a bounded size -/
mutual
def D.fine (n : Nat) : D → Bool
  | .non => true
  | .bl _ => true
  | .int i => decide (i.natAbs ≤ 10 ^ 30 + 100 * n)
  | .str x => decide (x.length ≤ n) && PyData.strOk x
  | .tup xs => D.fines n xs
  | .lst xs => D.fines n xs
  | .dct kvs => kvs.isEmpty
  | .ins _ _ => false
  | .mm => false
  | .scr _ => false
def D.fines (n : Nat) : List D → Bool
  | [] => true
  | x :: xs => D.fine n x && D.fines n xs
end
theorem fines_iff {n : Nat} : ∀ {xs : List D}, D.fines n xs = true ↔ ∀ x ∈ xs, x.fine n = true
  | [] => by simp [D.fines]
  | x :: xs => by simp [D.fines, fines_iff (xs := xs)]
theorem fine_tup {n : Nat} {xs : List D} : (D.tup xs).fine n = true ↔ ∀ x ∈ xs, x.fine n = true := by simp [D.fine, fines_iff]
theorem fine_lst {n : Nat} {xs : List D} : (D.lst xs).fine n = true ↔ ∀ x ∈ xs, x.fine n = true := by simp [D.fine, fines_iff]
theorem fine_str {n : Nat} {x : Str} : (D.str x).fine n = true ↔ x.length ≤ n ∧ PyData.strOk x = true := by simp [D.fine]
abbrev D.wt (d : D) : Nat := d.py.weight
abbrev D.dp (d : D) : Nat := d.py.depth
def wts (xs : List D) : Nat := (xs.map fun x => x.wt + 1).sum
theorem weight_all : ∀ xs : List D, PyData.weightAll (D.pys xs) = wts xs
  | [] => rfl
  | x :: xs => by simp only [D.pys, PyData.weightAll, weight_all xs, wts, List.map_cons, List.sum_cons]
theorem wt_tup (xs : List D) : (D.tup xs).wt = wts xs := by
  show PyData.weight (.tuple (D.pys xs)) = _
  simp only [PyData.weight, weight_all]
theorem wt_lst (xs : List D) : (D.lst xs).wt = wts xs := by
  show PyData.weight (.list (D.pys xs)) = _
  simp only [PyData.weight, weight_all]
theorem wt_str (x : Str) : (D.str x).wt = x.length := by
  show PyData.weight (.str x) = _
  simp only [PyData.weight]
  rfl
theorem wts_append (xs ys : List D) : wts (xs ++ ys) = wts xs + wts ys := by simp [wts]
theorem wts_cons (x : D) (ys : List D) : wts (x :: ys) = x.wt + 1 + wts ys := by simp [wts]
theorem wts_nil : wts [] = 0 := rfl
theorem wts_len : ∀ xs : List D, xs.length ≤ wts xs
  | [] => Nat.le_refl _
  | x :: xs => by rw [wts_cons, List.length_cons]; have := wts_len xs; omega
theorem wts_mem : ∀ {xs : List D} {x : D}, x ∈ xs → x.wt + 1 ≤ wts xs
  | y :: ys, x, h => by
    rw [wts_cons]
    rcases List.mem_cons.mp h with rfl | h
    · omega
    · have := wts_mem h; omega
theorem wts_take (xs : List D) (i : Nat) : wts (xs.take i) + wts (xs.drop i) = wts xs := by rw [← wts_append, List.take_append_drop]
theorem wts_reverse (xs : List D) : wts xs.reverse = wts xs := by
  unfold wts
  rw [List.map_reverse, List.sum_reverse]
theorem depth_all_le {k : Nat} : ∀ {xs : List D}, (∀ x ∈ xs, x.dp ≤ k) → PyData.depthAll (D.pys xs) ≤ k
  | [], _ => by simp [D.pys, PyData.depthAll]
  | x :: xs, h => by
    simp only [D.pys, PyData.depthAll]
    have h1 := h x List.mem_cons_self
    have h2 := depth_all_le fun y hy => h y (List.mem_cons_of_mem _ hy)
    exact Nat.max_le.mpr ⟨h1, h2⟩
theorem depth_all_mem {k : Nat} : ∀ {xs : List D}, PyData.depthAll (D.pys xs) ≤ k → ∀ x ∈ xs, x.dp ≤ k
  | [], _, x, hx => by simp at hx
  | y :: ys, h, x, hx => by
    simp only [D.pys, PyData.depthAll] at h
    rcases List.mem_cons.mp hx with rfl | hx
    · exact Nat.le_trans (Nat.le_max_left _ _) h
    · exact depth_all_mem (Nat.le_trans (Nat.le_max_right _ _) h) x hx
theorem dp_tup {k : Nat} {xs : List D} : (D.tup xs).dp ≤ k + 1 ↔ ∀ x ∈ xs, x.dp ≤ k := by
  show PyData.depth (.tuple (D.pys xs)) ≤ k + 1 ↔ _
  simp only [PyData.depth]
  exact ⟨fun h => depth_all_mem (by omega), fun h => by have := depth_all_le h; omega⟩
theorem dp_lst {k : Nat} {xs : List D} : (D.lst xs).dp ≤ k + 1 ↔ ∀ x ∈ xs, x.dp ≤ k := by
  show PyData.depth (.list (D.pys xs)) ≤ k + 1 ↔ _
  simp only [PyData.depth]
  exact ⟨fun h => depth_all_mem (by omega), fun h => by have := depth_all_le h; omega⟩
theorem dp_tup0 {xs : List D} : ¬ (D.tup xs).dp ≤ 0 := by
  show ¬ PyData.depth (.tuple (D.pys xs)) ≤ 0
  simp only [PyData.depth]
  omega
mutual
theorem fine_good {n : Nat} (hn : n ≤ 1000) : ∀ d : D, d.fine n = true → d.wt ≤ 1000 → d.good = true
  | .non, _, _ => rfl
  | .bl _, _, _ => rfl
  | .int _, _, _ => rfl
  | .str x, h, _ => by rw [fine_str] at h; rw [good_str]; exact ⟨by omega, h.2⟩
  | .tup xs, h, w => by
    rw [wt_tup] at w
    simp only [D.good, Bool.and_eq_true, decide_eq_true_eq]
    exact ⟨Nat.le_trans (wts_len xs) w, fines_goods hn xs (by simpa [D.fine] using h) w⟩
  | .lst xs, h, w => by
    rw [wt_lst] at w
    simp only [D.good, Bool.and_eq_true, decide_eq_true_eq]
    exact ⟨Nat.le_trans (wts_len xs) w, fines_goods hn xs (by simpa [D.fine] using h) w⟩
  | .dct kvs, h, _ => h
  | .ins _ _, h, _ => by simp [D.fine] at h
  | .mm, h, _ => by simp [D.fine] at h
  | .scr _, h, _ => by simp [D.fine] at h
theorem fines_goods {n : Nat} (hn : n ≤ 1000) : ∀ xs : List D, D.fines n xs = true → wts xs ≤ 1000 → D.goods xs = true
  | [], _, _ => rfl
  | x :: xs, h, w => by
    rw [wts_cons] at w
    simp only [D.fines, Bool.and_eq_true] at h
    simp only [D.goods, Bool.and_eq_true]
    exact ⟨fine_good hn x h.1 (by omega), fines_goods hn xs h.2 (by omega)⟩
end
mutual
theorem fine_shw {n : Nat} (hn : n ≤ 1000) : ∀ d : D, d.fine n = true → d.shw = true ∧ d.py.showable = true ∧ d.py.leavesShort 40 = true
  | .non, _ => ⟨rfl, rfl, rfl⟩
  | .bl _, _ => ⟨rfl, rfl, rfl⟩
  | .int i, h => by
    simp only [D.fine, decide_eq_true_eq] at h
    have h : i.natAbs < 10 ^ 35 := Nat.lt_of_le_of_lt h (Nat.lt_of_le_of_lt (Nat.add_le_add_left (Nat.mul_le_mul_left 100 hn) _) (by decide))
    have hl := int_text_length_le10 (k := 35) (by decide) h
    refine ⟨rfl, ?_, ?_⟩
    · simp only [D.py, PyData.showable, decide_eq_true_eq]
      by_cases h0 : i.natAbs = 0
      · rw [h0]; decide
      · exact (Nat.log2_lt h0).mpr (Nat.lt_of_lt_of_le h (by decide +kernel))
    · simp only [D.py, PyData.leavesShort, decide_eq_true_eq, PyData.shown_int, ofString_length]
      omega
  | .str x, h => by
    rw [fine_str] at h
    refine ⟨rfl, rfl, ?_⟩
    have h2 := h.2
    unfold PyData.strOk at h2
    simp only [D.py, PyData.leavesShort, List.all_eq_true, decide_eq_true_eq]
    intro c hc
    rw [Array.all_eq_true_iff_forall_mem] at h2
    have := h2 c (by simpa using hc)
    simp only [decide_eq_true_eq] at this
    omega
  | .tup xs, h => by
    obtain ⟨a, b, c⟩ := fines_shws hn xs (by simpa [D.fine] using h)
    exact ⟨by simpa [D.shw] using a, by simpa [D.py, PyData.showable] using b, by simpa [D.py, PyData.leavesShort] using c⟩
  | .lst xs, h => by
    obtain ⟨a, b, c⟩ := fines_shws hn xs (by simpa [D.fine] using h)
    exact ⟨by simpa [D.shw] using a, by simpa [D.py, PyData.showable] using b, by simpa [D.py, PyData.leavesShort] using c⟩
  | .dct kvs, h => by
    simp only [D.fine, List.isEmpty_iff] at h
    subst h
    exact ⟨rfl, rfl, rfl⟩
  | .ins _ _, h => by simp [D.fine] at h
  | .mm, h => by simp [D.fine] at h
  | .scr _, h => by simp [D.fine] at h
theorem fines_shws {n : Nat} (hn : n ≤ 1000) : ∀ xs : List D, D.fines n xs = true → D.shws xs = true ∧ PyData.showableAll (D.pys xs) = true ∧ PyData.leavesShortAll 40 (D.pys xs) = true
  | [], _ => ⟨rfl, rfl, rfl⟩
  | x :: xs, h => by
    simp only [D.fines, Bool.and_eq_true] at h
    obtain ⟨a, b, c⟩ := fine_shw hn x h.1
    obtain ⟨a', b', c'⟩ := fines_shws hn xs h.2
    simp only [D.shws, D.pys, PyData.showableAll, PyData.leavesShortAll, a, a', b, b', c, c', Bool.and_self, and_self]
end
theorem bi_repr_f {n : Nat} {d : D} (hn : n ≤ 1000) (h : d.fine n = true) (hw : d.wt ≤ 2000) (hd : d.dp ≤ 64) : biD .repr [d] = some (.str d.py.shown) := by
  obtain ⟨a, b, c⟩ := fine_shw hn d h
  have hl := PyData.shown_le 40 (by decide) d.py c
  show (if _ then _ else _) = _
  rw [if_pos]
  simp only [a, b, Bool.true_and, Bool.and_true, Bool.and_eq_true, decide_eq_true_eq]
  refine ⟨hd, ?_⟩
  have : d.py.weight ≤ 2000 := hw
  unfold LIM
  omega
end
end Ev
set_option Elab.async false
set_option linter.all false
set_option maxRecDepth 100000
set_option maxHeartbeats 4000000
/-! Pl9: odd and bent data. -/
namespace Ev
open PySem
section
variable {P : List (Str × Fn)} {pr : FT} {up : List (Str × Str)} {k : Nat}
def oddL : List D := [.non, .int 0, .int 1, .int 2, .int 9, .int (-1), .int 100, .int (-100), .bl true, .bl false, .str "", .str "a", .str "abcdefghi", .str "A", .str "one", .str "sum", .tup [], .tup [.tup []], .tup [.str "a", .int 0],
  .lst [], .dct [], .int (10 ^ 30), .tup [.str "one", .str "a"], .tup [.str "pair", .str "a", .str "b", .tup []], .str "a1", .tup [.non], .tup [.int 0], .tup [.str "a"], .tup [.str "a", .str "b"]]
/-- data of a size: texts of at most n signs, weight at most w, depth at most k -/
structure Sz (n w k : Nat) (d : D) : Prop where
  f : d.fine n = true
  w : d.wt ≤ w
  d : d.dp ≤ k
def szB (n w k : Nat) (d : D) : Bool := d.fine n && decide (d.wt ≤ w) && decide (d.dp ≤ k)
theorem szB_ok {n w k : Nat} {d : D} (h : szB n w k d = true) : Sz n w k d := by
  unfold szB at h
  simp only [Bool.and_eq_true, decide_eq_true_eq] at h
  exact ⟨h.1.1, h.1.2, h.2⟩
theorem odd_sz {d : D} (h : d ∈ oddL) : Sz 9 110 2 d := by
  have e : oddL.all (szB 9 110 2) = true := by decide +kernel
  exact szB_ok (List.all_eq_true.mp e d h)
mutual
theorem fine_le {n n' : Nat} (h : n ≤ n') : ∀ d : D, d.fine n = true → d.fine n' = true
  | .non, _ => rfl
  | .bl _, _ => rfl
  | .int _, q => by simp only [D.fine, decide_eq_true_eq] at q ⊢; omega
  | .str x, q => by rw [fine_str] at q ⊢; exact ⟨by omega, q.2⟩
  | .tup xs, q => by simp only [D.fine] at q ⊢; exact fines_le h xs q
  | .lst xs, q => by simp only [D.fine] at q ⊢; exact fines_le h xs q
  | .dct _, q => q
  | .ins _ _, q => by simp [D.fine] at q
  | .mm, q => by simp [D.fine] at q
  | .scr _, q => by simp [D.fine] at q
theorem fines_le {n n' : Nat} (h : n ≤ n') : ∀ xs : List D, D.fines n xs = true → D.fines n' xs = true
  | [], _ => rfl
  | x :: xs, q => by
    simp only [D.fines, Bool.and_eq_true] at q ⊢
    exact ⟨fine_le h x q.1, fines_le h xs q.2⟩
end
theorem Sz.le {n w k n' w' k' : Nat} {d : D} (h : Sz n w k d) (h1 : n ≤ n') (h2 : w ≤ w') (h3 : k ≤ k') : Sz n' w' k' d := ⟨fine_le h1 d h.f, by have := h.w; omega, by have := h.d; omega⟩
theorem Sz.tup {n w k : Nat} {xs : List D} (hx : ∀ x ∈ xs, x.fine n = true ∧ x.dp ≤ k) (hw : wts xs ≤ w) : Sz n w (k + 1) (.tup xs) := ⟨fine_tup.mpr fun x h => (hx x h).1, by rw [wt_tup]; exact hw, dp_tup.mpr fun x h => (hx x h).2⟩
theorem Sz.lst {n w k : Nat} {xs : List D} (hx : ∀ x ∈ xs, x.fine n = true ∧ x.dp ≤ k) (hw : wts xs ≤ w) : Sz n w (k + 1) (.lst xs) := ⟨fine_lst.mpr fun x h => (hx x h).1, by rw [wt_lst]; exact hw, dp_lst.mpr fun x h => (hx x h).2⟩
theorem Sz.str {n w k : Nat} {x : Str} (h : x.length ≤ n) (h2 : PyData.strOk x = true) (hw : x.length ≤ w) : Sz n w k (.str x) := ⟨fine_str.mpr ⟨h, h2⟩, by rw [wt_str]; exact hw, Nat.zero_le _⟩
theorem pow30 : binD .pow (.int 10) (.int 30) = some (.int (10 ^ 30)) := by rfl
theorem t_odd (hn : HasNo P "_law_next") (hp : pr "_law_next" = nextM) (h : Has P "_law_odd" f_law_odd) : Tr 1 (runF P pr up (k + 2) "_law_odd" [.mm]) fun d => d ∈ oddL := by
  rw [run_def h rfl (by decide)]
  refine TrS.ret (N := fun _ => False) ?_ (fun _ z => z.elim)
  simp only [M.ret_bind, M.bad_bind, M.bind_assoc, M.lift_some, M.lift_none, M.calm_ret, M.map_ret, M.exc_bind, SM.sb_exc, retM_xc, SM.sb_ret, SM.sb_bad, SM.sb_bind, SM.seq_nx, SM.seq_rt, SM.seq_ct, SM.seq_xc, SM.seq_bad, SM.seq_sb, SM.seq_seq, boolM_bl, bindM_some, bindS_some, iteM_t, iteM_f, brS_t, brS_f, ev_c, ev_v, ev_bin, ev_un, ev_chain, ev_and, ev_or, ev_ite, ev_tup, ev_lst, ev_call, ev_bi, ev_ix, ev_sl, ev_rev, ev_cmp', evs_nil, evs_star, ec_c, ec_v, ec_bin, ec_un, ec_chain, ec_and, ec_or, ec_ite, ec_tup, ec_lst, ec_call, ec_bi, ec_ix, ec_sl, ec_rev, ec_cmp, evO_none, evO_some, evT_none, evT_some, evI_rng, evI_rng2, evI_zip, evI_enm, evI_seq, ss_nil', ss_pass', ss_cont', ss_asg', ss_expr', ss_ite', ss_loop', ss_ret', ss_rais', ss_tr', slotM_sh, starM_lst, starM_tup, optI_int, loopM_nil, retM_rt, retM_nx, List.getElem?_cons_zero, List.getElem?_cons_succ, List.set_cons_zero, List.set_cons_succ, bindT, bindTs, wipeE, Tg.slots, Tg.slotss, startE, List.nil_append, List.cons_append, List.append_nil, List.map_cons, List.map_nil, List.length_cons, List.length_nil, List.replicate_succ, List.replicate_zero, Option.bind_some, Option.map_some, Nat.reduceAdd, Nat.reduceSub, Int.reduceEq, Int.reduceLT, Int.reduceLE, decide_true, decide_false, Bool.not_true, Bool.not_false, b_add_i, b_sub_i, b_lt_i, b_le_i, b_gt_i, b_ge_i, b_lt_s, b_eq_i, b_ne_i, b_eq_t0, b_eq_l0, b_ne_t0, b_ne_l0, b_in_1, b_nin_1, u_not, u_neg, bi_len_t, bi_len_l, bi_len_c, bi_tup_l, bi_tup_t, bi_lst_l, bi_lst_t, bi_int_i, bi_edict, bi_min_i, bi_all_map, bi_any_map, sq_l, sq_t, zp_t, zp_l, rv_t, rv_l, sl_t, sl_l, fit0, fit1, fit2, fit3, fit4, fit5, fit6, fit7, fit8, fit9, fit10, fit11, fit12, fit13, fit14, fit15, fit16, fit17, fit18, fit19, fit20, fit21, fit22, fit23, fit24, fit25, fit26, fit27, fit28, fit29, fit30, fit31, fit32, isin_str_non, isin_str_bl, isin_str_int, isin_str_str, isin_str_tup, isin_str_lst, isin_str_dct, isin_tuple_non, isin_tuple_bl, isin_tuple_int, isin_tuple_str, isin_tuple_tup, isin_tuple_lst, isin_tuple_dct, isin_int_non, isin_int_bl, isin_int_int, isin_int_str, isin_int_tup, isin_int_lst, isin_int_dct, isin_bool_non, isin_bool_bl, isin_bool_int, isin_bool_str, isin_bool_tup, isin_bool_lst, isin_bool_dct, isin_list_tuple_non, isin_list_tuple_bl, isin_list_tuple_int, isin_list_tuple_str, isin_list_tuple_tup, isin_list_tuple_lst, isin_list_tuple_dct, isin_tuple_list_non, isin_tuple_list_bl, isin_tuple_list_int, isin_tuple_list_str, isin_tuple_list_tup, isin_tuple_list_lst, isin_tuple_list_dct, isin_list_non, isin_list_bl, isin_list_int, isin_list_str, isin_list_tup, isin_list_lst, isin_list_dct, isin_dict_non, isin_dict_bl, isin_dict_int, isin_dict_str, isin_dict_tup, isin_dict_lst, isin_dict_dct, f_law_odd, pow30]
  rw [b_add_l (by decide)]
  simp only [M.ret_bind, M.bad_bind, M.bind_assoc, M.lift_some, M.lift_none, M.calm_ret, M.map_ret, M.exc_bind, SM.sb_exc, retM_xc, SM.sb_ret, SM.sb_bad, SM.sb_bind, SM.seq_nx, SM.seq_rt, SM.seq_ct, SM.seq_xc, SM.seq_bad, SM.seq_sb, SM.seq_seq, boolM_bl, bindM_some, bindS_some, iteM_t, iteM_f, brS_t, brS_f, ev_c, ev_v, ev_bin, ev_un, ev_chain, ev_and, ev_or, ev_ite, ev_tup, ev_lst, ev_call, ev_bi, ev_ix, ev_sl, ev_rev, ev_cmp', evs_nil, evs_star, ec_c, ec_v, ec_bin, ec_un, ec_chain, ec_and, ec_or, ec_ite, ec_tup, ec_lst, ec_call, ec_bi, ec_ix, ec_sl, ec_rev, ec_cmp, evO_none, evO_some, evT_none, evT_some, evI_rng, evI_rng2, evI_zip, evI_enm, evI_seq, ss_nil', ss_pass', ss_cont', ss_asg', ss_expr', ss_ite', ss_loop', ss_ret', ss_rais', ss_tr', slotM_sh, starM_lst, starM_tup, optI_int, loopM_nil, retM_rt, retM_nx, List.getElem?_cons_zero, List.getElem?_cons_succ, List.set_cons_zero, List.set_cons_succ, bindT, bindTs, wipeE, Tg.slots, Tg.slotss, startE, List.nil_append, List.cons_append, List.append_nil, List.map_cons, List.map_nil, List.length_cons, List.length_nil, List.replicate_succ, List.replicate_zero, Option.bind_some, Option.map_some, Nat.reduceAdd, Nat.reduceSub, Int.reduceEq, Int.reduceLT, Int.reduceLE, decide_true, decide_false, Bool.not_true, Bool.not_false, b_add_i, b_sub_i, b_lt_i, b_le_i, b_gt_i, b_ge_i, b_lt_s, b_eq_i, b_ne_i, b_eq_t0, b_eq_l0, b_ne_t0, b_ne_l0, b_in_1, b_nin_1, u_not, u_neg, bi_len_t, bi_len_l, bi_len_c, bi_tup_l, bi_tup_t, bi_lst_l, bi_lst_t, bi_int_i, bi_edict, bi_min_i, bi_all_map, bi_any_map, sq_l, sq_t, zp_t, zp_l, rv_t, rv_l, sl_t, sl_l, fit0, fit1, fit2, fit3, fit4, fit5, fit6, fit7, fit8, fit9, fit10, fit11, fit12, fit13, fit14, fit15, fit16, fit17, fit18, fit19, fit20, fit21, fit22, fit23, fit24, fit25, fit26, fit27, fit28, fit29, fit30, fit31, fit32, isin_str_non, isin_str_bl, isin_str_int, isin_str_str, isin_str_tup, isin_str_lst, isin_str_dct, isin_tuple_non, isin_tuple_bl, isin_tuple_int, isin_tuple_str, isin_tuple_tup, isin_tuple_lst, isin_tuple_dct, isin_int_non, isin_int_bl, isin_int_int, isin_int_str, isin_int_tup, isin_int_lst, isin_int_dct, isin_bool_non, isin_bool_bl, isin_bool_int, isin_bool_str, isin_bool_tup, isin_bool_lst, isin_bool_dct, isin_list_tuple_non, isin_list_tuple_bl, isin_list_tuple_int, isin_list_tuple_str, isin_list_tuple_tup, isin_list_tuple_lst, isin_list_tuple_dct, isin_tuple_list_non, isin_tuple_list_bl, isin_tuple_list_int, isin_tuple_list_str, isin_tuple_list_tup, isin_tuple_list_lst, isin_tuple_list_dct, isin_list_non, isin_list_bl, isin_list_int, isin_list_str, isin_list_tup, isin_list_lst, isin_list_dct, isin_dict_non, isin_dict_bl, isin_dict_int, isin_dict_str, isin_dict_tup, isin_dict_lst, isin_dict_dct]
  refine TrS.sb 0 (t_next hn hp (i := 29) (by decide) (by decide)) fun d ⟨v, e, v0, v1⟩ => ?_
  subst e
  obtain ⟨d, hd, e⟩ := ix_l (xs := oddL) v0 (by simpa [oddL] using v1)
  have e2 := e
  unfold oddL at e2
  simp only [M.ret_bind, M.bad_bind, M.bind_assoc, M.lift_some, M.lift_none, M.calm_ret, M.map_ret, M.exc_bind, SM.sb_exc, retM_xc, SM.sb_ret, SM.sb_bad, SM.sb_bind, SM.seq_nx, SM.seq_rt, SM.seq_ct, SM.seq_xc, SM.seq_bad, SM.seq_sb, SM.seq_seq, boolM_bl, bindM_some, bindS_some, iteM_t, iteM_f, brS_t, brS_f, ev_c, ev_v, ev_bin, ev_un, ev_chain, ev_and, ev_or, ev_ite, ev_tup, ev_lst, ev_call, ev_bi, ev_ix, ev_sl, ev_rev, ev_cmp', evs_nil, evs_star, ec_c, ec_v, ec_bin, ec_un, ec_chain, ec_and, ec_or, ec_ite, ec_tup, ec_lst, ec_call, ec_bi, ec_ix, ec_sl, ec_rev, ec_cmp, evO_none, evO_some, evT_none, evT_some, evI_rng, evI_rng2, evI_zip, evI_enm, evI_seq, ss_nil', ss_pass', ss_cont', ss_asg', ss_expr', ss_ite', ss_loop', ss_ret', ss_rais', ss_tr', slotM_sh, starM_lst, starM_tup, optI_int, loopM_nil, retM_rt, retM_nx, List.getElem?_cons_zero, List.getElem?_cons_succ, List.set_cons_zero, List.set_cons_succ, bindT, bindTs, wipeE, Tg.slots, Tg.slotss, startE, List.nil_append, List.cons_append, List.append_nil, List.map_cons, List.map_nil, List.length_cons, List.length_nil, List.replicate_succ, List.replicate_zero, Option.bind_some, Option.map_some, Nat.reduceAdd, Nat.reduceSub, Int.reduceEq, Int.reduceLT, Int.reduceLE, decide_true, decide_false, Bool.not_true, Bool.not_false, e2]
  exact TrS.rt hd
/-! ### bent -/
theorem strOk_app {x y : Str} (hx : PyData.strOk x = true) (hy : PyData.strOk y = true) : PyData.strOk (x ++ y) = true := by
  unfold PyData.strOk at *
  show (x.cps ++ y.cps).all _ = true
  rw [Array.all_append, hx, hy]
  rfl
theorem str_app_len (x y : Str) : (x ++ y).length = x.length + y.length := by
  show (x.cps ++ y.cps).size = _
  rw [Array.size_append]
  rfl
theorem strOk_cut {x : Str} (hx : PyData.strOk x = true) (lo hi : Option Int) : PyData.strOk (L2.cutS x lo hi) = true := by
  unfold PyData.strOk at *
  rw [Array.all_eq_true_iff_forall_mem] at *
  intro c hc
  apply hx c
  unfold L2.cutS at hc
  simp only [List.mem_toArray] at hc
  simpa using List.mem_of_mem_drop (List.mem_of_mem_take hc)
theorem mul2 {x : Str} (h : x.length ≤ 100) : ∃ y, binD .mul (.str x) (.int 2) = some (.str y) ∧ y.length = 2 * x.length ∧ (PyData.strOk x = true → PyData.strOk y = true) := by
  refine ⟨_, if_pos ⟨by decide, by decide, h⟩, ?_, ?_⟩
  · unfold Txt.mul
    rw [if_neg (by decide)]
    split
    · rename_i hz
      simp only [Bool.or_eq_true, beq_iff_eq] at hz
      rcases hz with z | z
      · exact absurd z (by decide)
      · omega
    · show ((#[] ++ x.cps) ++ x.cps).size = _
      simp [Str.length]
      omega
  · intro hx
    unfold Txt.mul
    rw [if_neg (by decide)]
    split
    · exact hx
    · have e : (⟨(List.replicate (2 : Int).toNat x.cps).foldl (· ++ ·) #[]⟩ : Str) = x ++ x := by
        apply PySem.W.str_of_cps
        show ((#[] ++ x.cps) ++ x.cps).toList = (x.cps ++ x.cps).toList
        simp
      rw [e]
      exact strOk_app hx hx
theorem int_wt {n : Nat} (hn : n ≤ 1000) {i : Int} (h : i.natAbs ≤ 10 ^ 30 + 100 * n) : (D.int i).wt ≤ 110 := by
  show PyData.weight (.int i) ≤ 110
  simp only [PyData.weight]
  split
  · omega
  · rename_i h0
    have h0 : i.natAbs ≠ 0 := by simpa using h0
    have : i.natAbs.log2 < 101 := (Nat.log2_lt h0).mpr (Nat.lt_of_le_of_lt h (Nat.lt_of_le_of_lt (Nat.add_le_add_left (Nat.mul_le_mul_left 100 hn) _) (by decide)))
    omega
/-- what bending makes -/
abbrev Bt (n w q : Nat) : D → Prop := Sz (2 * n) (2 * w + 112) (q + 3)
section
variable {n w : Nat} (hn : HasNo P "_law_next") (hp : pr "_law_next" = nextM) (h1 : Has P "_law_odd" f_law_odd) (h : Has P "_law_bent" f_law_bent) (hn9 : 9 ≤ n) (hn2 : n ≤ 100) (hw : w ≤ 2000)
include hn hp h1 h hn9 hn2 hw
theorem odd_bt (q : Nat) : Tr 1 (runF P pr up (k + 2) "_law_odd" [.mm]) (Bt n w q) := (t_odd hn hp h1).mono fun d hd => (odd_sz hd).le (by omega) (by omega) (by omega)
theorem bent_str {x : Str} {q : Nat} (hx : x.length ≤ n) (hk : PyData.strOk x = true) (hw2 : x.length ≤ w) : Tr 5 (runF P pr up (k + 3) "_law_bent" [.mm, .str x]) (Bt n w q) := by
  rw [run_def h rfl (by decide)]
  refine TrS.ret (N := fun _ => False) ?_ (fun _ z => z.elim)
  simp only [M.ret_bind, M.bad_bind, M.bind_assoc, M.lift_some, M.lift_none, M.calm_ret, M.map_ret, M.exc_bind, SM.sb_exc, retM_xc, SM.sb_ret, SM.sb_bad, SM.sb_bind, SM.seq_nx, SM.seq_rt, SM.seq_ct, SM.seq_xc, SM.seq_bad, SM.seq_sb, SM.seq_seq, boolM_bl, bindM_some, bindS_some, iteM_t, iteM_f, brS_t, brS_f, ev_c, ev_v, ev_bin, ev_un, ev_chain, ev_and, ev_or, ev_ite, ev_tup, ev_lst, ev_call, ev_bi, ev_ix, ev_sl, ev_rev, ev_cmp', evs_nil, evs_star, ec_c, ec_v, ec_bin, ec_un, ec_chain, ec_and, ec_or, ec_ite, ec_tup, ec_lst, ec_call, ec_bi, ec_ix, ec_sl, ec_rev, ec_cmp, evO_none, evO_some, evT_none, evT_some, evI_rng, evI_rng2, evI_zip, evI_enm, evI_seq, ss_nil', ss_pass', ss_cont', ss_asg', ss_expr', ss_ite', ss_loop', ss_ret', ss_rais', ss_tr', slotM_sh, starM_lst, starM_tup, optI_int, loopM_nil, retM_rt, retM_nx, List.getElem?_cons_zero, List.getElem?_cons_succ, List.set_cons_zero, List.set_cons_succ, bindT, bindTs, wipeE, Tg.slots, Tg.slotss, startE, List.nil_append, List.cons_append, List.append_nil, List.map_cons, List.map_nil, List.length_cons, List.length_nil, List.replicate_succ, List.replicate_zero, Option.bind_some, Option.map_some, Nat.reduceAdd, Nat.reduceSub, Int.reduceEq, Int.reduceLT, Int.reduceLE, decide_true, decide_false, Bool.not_true, Bool.not_false, b_add_i, b_sub_i, b_lt_i, b_le_i, b_gt_i, b_ge_i, b_lt_s, b_eq_i, b_ne_i, b_eq_t0, b_eq_l0, b_ne_t0, b_ne_l0, b_in_1, b_nin_1, u_not, u_neg, bi_len_t, bi_len_l, bi_len_c, bi_tup_l, bi_tup_t, bi_lst_l, bi_lst_t, bi_int_i, bi_edict, bi_min_i, bi_all_map, bi_any_map, sq_l, sq_t, zp_t, zp_l, rv_t, rv_l, sl_t, sl_l, fit0, fit1, fit2, fit3, fit4, fit5, fit6, fit7, fit8, fit9, fit10, fit11, fit12, fit13, fit14, fit15, fit16, fit17, fit18, fit19, fit20, fit21, fit22, fit23, fit24, fit25, fit26, fit27, fit28, fit29, fit30, fit31, fit32, isin_str_non, isin_str_bl, isin_str_int, isin_str_str, isin_str_tup, isin_str_lst, isin_str_dct, isin_tuple_non, isin_tuple_bl, isin_tuple_int, isin_tuple_str, isin_tuple_tup, isin_tuple_lst, isin_tuple_dct, isin_int_non, isin_int_bl, isin_int_int, isin_int_str, isin_int_tup, isin_int_lst, isin_int_dct, isin_bool_non, isin_bool_bl, isin_bool_int, isin_bool_str, isin_bool_tup, isin_bool_lst, isin_bool_dct, isin_list_tuple_non, isin_list_tuple_bl, isin_list_tuple_int, isin_list_tuple_str, isin_list_tuple_tup, isin_list_tuple_lst, isin_list_tuple_dct, isin_tuple_list_non, isin_tuple_list_bl, isin_tuple_list_int, isin_tuple_list_str, isin_tuple_list_tup, isin_tuple_list_lst, isin_tuple_list_dct, isin_list_non, isin_list_bl, isin_list_int, isin_list_str, isin_list_tup, isin_list_lst, isin_list_dct, isin_dict_non, isin_dict_bl, isin_dict_int, isin_dict_str, isin_dict_tup, isin_dict_lst, isin_dict_dct, f_law_bent]
  refine TrS.sb 4 (t_next hn hp (i := 2) (by decide) (by decide)) fun d ⟨v, e, v0, v1⟩ => ?_
  subst e
  by_cases hv : v = 0
  · subst hv
    obtain ⟨y, ey, yl, yk⟩ := mul2 (x := x) (by omega)
    have c1 : ∀ z : Str, z.length ≤ 1 → x.length + z.length ≤ LIM := fun z hz => by unfold LIM; omega
    simp only [M.ret_bind, M.bad_bind, M.bind_assoc, M.lift_some, M.lift_none, M.calm_ret, M.map_ret, M.exc_bind, SM.sb_exc, retM_xc, SM.sb_ret, SM.sb_bad, SM.sb_bind, SM.seq_nx, SM.seq_rt, SM.seq_ct, SM.seq_xc, SM.seq_bad, SM.seq_sb, SM.seq_seq, boolM_bl, bindM_some, bindS_some, iteM_t, iteM_f, brS_t, brS_f, ev_c, ev_v, ev_bin, ev_un, ev_chain, ev_and, ev_or, ev_ite, ev_tup, ev_lst, ev_call, ev_bi, ev_ix, ev_sl, ev_rev, ev_cmp', evs_nil, evs_star, ec_c, ec_v, ec_bin, ec_un, ec_chain, ec_and, ec_or, ec_ite, ec_tup, ec_lst, ec_call, ec_bi, ec_ix, ec_sl, ec_rev, ec_cmp, evO_none, evO_some, evT_none, evT_some, evI_rng, evI_rng2, evI_zip, evI_enm, evI_seq, ss_nil', ss_pass', ss_cont', ss_asg', ss_expr', ss_ite', ss_loop', ss_ret', ss_rais', ss_tr', slotM_sh, starM_lst, starM_tup, optI_int, loopM_nil, retM_rt, retM_nx, List.getElem?_cons_zero, List.getElem?_cons_succ, List.set_cons_zero, List.set_cons_succ, bindT, bindTs, wipeE, Tg.slots, Tg.slotss, startE, List.nil_append, List.cons_append, List.append_nil, List.map_cons, List.map_nil, List.length_cons, List.length_nil, List.replicate_succ, List.replicate_zero, Option.bind_some, Option.map_some, Nat.reduceAdd, Nat.reduceSub, Int.reduceEq, Int.reduceLT, Int.reduceLE, decide_true, decide_false, Bool.not_true, Bool.not_false, b_add_i, b_sub_i, b_lt_i, b_le_i, b_gt_i, b_ge_i, b_lt_s, b_eq_i, b_ne_i, b_eq_t0, b_eq_l0, b_ne_t0, b_ne_l0, b_in_1, b_nin_1, u_not, u_neg, bi_len_t, bi_len_l, bi_len_c, bi_tup_l, bi_tup_t, bi_lst_l, bi_lst_t, bi_int_i, bi_edict, bi_min_i, bi_all_map, bi_any_map, sq_l, sq_t, zp_t, zp_l, rv_t, rv_l, sl_t, sl_l, fit0, fit1, fit2, fit3, fit4, fit5, fit6, fit7, fit8, fit9, fit10, fit11, fit12, fit13, fit14, fit15, fit16, fit17, fit18, fit19, fit20, fit21, fit22, fit23, fit24, fit25, fit26, fit27, fit28, fit29, fit30, fit31, fit32, isin_str_non, isin_str_bl, isin_str_int, isin_str_str, isin_str_tup, isin_str_lst, isin_str_dct, isin_tuple_non, isin_tuple_bl, isin_tuple_int, isin_tuple_str, isin_tuple_tup, isin_tuple_lst, isin_tuple_dct, isin_int_non, isin_int_bl, isin_int_int, isin_int_str, isin_int_tup, isin_int_lst, isin_int_dct, isin_bool_non, isin_bool_bl, isin_bool_int, isin_bool_str, isin_bool_tup, isin_bool_lst, isin_bool_dct, isin_list_tuple_non, isin_list_tuple_bl, isin_list_tuple_int, isin_list_tuple_str, isin_list_tuple_tup, isin_list_tuple_lst, isin_list_tuple_dct, isin_tuple_list_non, isin_tuple_list_bl, isin_tuple_list_int, isin_tuple_list_str, isin_tuple_list_tup, isin_tuple_list_lst, isin_tuple_list_dct, isin_list_non, isin_list_bl, isin_list_int, isin_list_str, isin_list_tup, isin_list_lst, isin_list_dct, isin_dict_non, isin_dict_bl, isin_dict_int, isin_dict_str, isin_dict_tup, isin_dict_lst, isin_dict_dct, decide_true, b_add_s (c1 "b" (by decide)), b_add_s (c1 "A" (by decide)), b_add_s (c1 " " (by decide)), b_add_s (c1 "1" (by decide)), sl_s (x := x) _ _ (by unfold LIM; omega), ey]
    refine TrS.sb 0 (t_next hn hp (i := 6) (by decide) (by decide)) fun d ⟨u, e, u0, u1⟩ => ?_
    subst e
    obtain ⟨d, hd, e⟩ := ix_l (xs := [.str (x ++ "b"), .str (L2.cutS x (some 1) none), .str (x ++ "A"), .str (x ++ " "), .str y, .str (x ++ "1")]) u0 (by simpa using u1)
    simp only [M.ret_bind, M.bad_bind, M.bind_assoc, M.lift_some, M.lift_none, M.calm_ret, M.map_ret, M.exc_bind, SM.sb_exc, retM_xc, SM.sb_ret, SM.sb_bad, SM.sb_bind, SM.seq_nx, SM.seq_rt, SM.seq_ct, SM.seq_xc, SM.seq_bad, SM.seq_sb, SM.seq_seq, boolM_bl, bindM_some, bindS_some, iteM_t, iteM_f, brS_t, brS_f, ev_c, ev_v, ev_bin, ev_un, ev_chain, ev_and, ev_or, ev_ite, ev_tup, ev_lst, ev_call, ev_bi, ev_ix, ev_sl, ev_rev, ev_cmp', evs_nil, evs_star, ec_c, ec_v, ec_bin, ec_un, ec_chain, ec_and, ec_or, ec_ite, ec_tup, ec_lst, ec_call, ec_bi, ec_ix, ec_sl, ec_rev, ec_cmp, evO_none, evO_some, evT_none, evT_some, evI_rng, evI_rng2, evI_zip, evI_enm, evI_seq, ss_nil', ss_pass', ss_cont', ss_asg', ss_expr', ss_ite', ss_loop', ss_ret', ss_rais', ss_tr', slotM_sh, starM_lst, starM_tup, optI_int, loopM_nil, retM_rt, retM_nx, List.getElem?_cons_zero, List.getElem?_cons_succ, List.set_cons_zero, List.set_cons_succ, bindT, bindTs, wipeE, Tg.slots, Tg.slotss, startE, List.nil_append, List.cons_append, List.append_nil, List.map_cons, List.map_nil, List.length_cons, List.length_nil, List.replicate_succ, List.replicate_zero, Option.bind_some, Option.map_some, Nat.reduceAdd, Nat.reduceSub, Int.reduceEq, Int.reduceLT, Int.reduceLE, decide_true, decide_false, Bool.not_true, Bool.not_false, e]
    refine TrS.rt ?_
    have ap : ∀ z : Str, z.length = 1 → PyData.strOk z = true → Bt n w q (.str (x ++ z)) := fun z hz ho => Sz.str (by rw [str_app_len]; omega) (strOk_app hk ho) (by rw [str_app_len]; omega)
    simp only [List.mem_cons, List.not_mem_nil, or_false] at hd
    rcases hd with rfl | rfl | rfl | rfl | rfl | rfl
    · exact ap "b" (by decide) (by decide +kernel)
    · exact Sz.str (Nat.le_trans (L2.cutS_length _ _ _) (by omega)) (strOk_cut hk _ _) (Nat.le_trans (L2.cutS_length _ _ _) (by omega))
    · exact ap "A" (by decide) (by decide +kernel)
    · exact ap " " (by decide) (by decide +kernel)
    · exact Sz.str (by omega) (yk hk) (by omega)
    · exact ap "1" (by decide) (by decide +kernel)
  · simp only [M.ret_bind, M.bad_bind, M.bind_assoc, M.lift_some, M.lift_none, M.calm_ret, M.map_ret, M.exc_bind, SM.sb_exc, retM_xc, SM.sb_ret, SM.sb_bad, SM.sb_bind, SM.seq_nx, SM.seq_rt, SM.seq_ct, SM.seq_xc, SM.seq_bad, SM.seq_sb, SM.seq_seq, boolM_bl, bindM_some, bindS_some, iteM_t, iteM_f, brS_t, brS_f, ev_c, ev_v, ev_bin, ev_un, ev_chain, ev_and, ev_or, ev_ite, ev_tup, ev_lst, ev_call, ev_bi, ev_ix, ev_sl, ev_rev, ev_cmp', evs_nil, evs_star, ec_c, ec_v, ec_bin, ec_un, ec_chain, ec_and, ec_or, ec_ite, ec_tup, ec_lst, ec_call, ec_bi, ec_ix, ec_sl, ec_rev, ec_cmp, evO_none, evO_some, evT_none, evT_some, evI_rng, evI_rng2, evI_zip, evI_enm, evI_seq, ss_nil', ss_pass', ss_cont', ss_asg', ss_expr', ss_ite', ss_loop', ss_ret', ss_rais', ss_tr', slotM_sh, starM_lst, starM_tup, optI_int, loopM_nil, retM_rt, retM_nx, List.getElem?_cons_zero, List.getElem?_cons_succ, List.set_cons_zero, List.set_cons_succ, bindT, bindTs, wipeE, Tg.slots, Tg.slotss, startE, List.nil_append, List.cons_append, List.append_nil, List.map_cons, List.map_nil, List.length_cons, List.length_nil, List.replicate_succ, List.replicate_zero, Option.bind_some, Option.map_some, Nat.reduceAdd, Nat.reduceSub, Int.reduceEq, Int.reduceLT, Int.reduceLE, decide_true, decide_false, Bool.not_true, Bool.not_false, b_add_i, b_sub_i, b_lt_i, b_le_i, b_gt_i, b_ge_i, b_lt_s, b_eq_i, b_ne_i, b_eq_t0, b_eq_l0, b_ne_t0, b_ne_l0, b_in_1, b_nin_1, u_not, u_neg, bi_len_t, bi_len_l, bi_len_c, bi_tup_l, bi_tup_t, bi_lst_l, bi_lst_t, bi_int_i, bi_edict, bi_min_i, bi_all_map, bi_any_map, sq_l, sq_t, zp_t, zp_l, rv_t, rv_l, sl_t, sl_l, fit0, fit1, fit2, fit3, fit4, fit5, fit6, fit7, fit8, fit9, fit10, fit11, fit12, fit13, fit14, fit15, fit16, fit17, fit18, fit19, fit20, fit21, fit22, fit23, fit24, fit25, fit26, fit27, fit28, fit29, fit30, fit31, fit32, isin_str_non, isin_str_bl, isin_str_int, isin_str_str, isin_str_tup, isin_str_lst, isin_str_dct, isin_tuple_non, isin_tuple_bl, isin_tuple_int, isin_tuple_str, isin_tuple_tup, isin_tuple_lst, isin_tuple_dct, isin_int_non, isin_int_bl, isin_int_int, isin_int_str, isin_int_tup, isin_int_lst, isin_int_dct, isin_bool_non, isin_bool_bl, isin_bool_int, isin_bool_str, isin_bool_tup, isin_bool_lst, isin_bool_dct, isin_list_tuple_non, isin_list_tuple_bl, isin_list_tuple_int, isin_list_tuple_str, isin_list_tuple_tup, isin_list_tuple_lst, isin_list_tuple_dct, isin_tuple_list_non, isin_tuple_list_bl, isin_tuple_list_int, isin_tuple_list_str, isin_tuple_list_tup, isin_tuple_list_lst, isin_tuple_list_dct, isin_list_non, isin_list_bl, isin_list_int, isin_list_str, isin_list_tup, isin_list_lst, isin_list_dct, isin_dict_non, isin_dict_bl, isin_dict_int, isin_dict_str, isin_dict_tup, isin_dict_lst, isin_dict_dct, hv, decide_false, Bool.not_false]
    exact TrS.sb 0 (odd_bt hn hp h1 h hn9 hn2 hw q) fun d hd => TrS.rt hd
theorem bent_int {i : Int} {q : Nat} (hi : i.natAbs ≤ 10 ^ 30 + 100 * n) : Tr 5 (runF P pr up (k + 3) "_law_bent" [.mm, .int i]) (Bt n w q) := by
  rw [run_def h rfl (by decide)]
  refine TrS.ret (N := fun _ => False) ?_ (fun _ z => z.elim)
  simp only [M.ret_bind, M.bad_bind, M.bind_assoc, M.lift_some, M.lift_none, M.calm_ret, M.map_ret, M.exc_bind, SM.sb_exc, retM_xc, SM.sb_ret, SM.sb_bad, SM.sb_bind, SM.seq_nx, SM.seq_rt, SM.seq_ct, SM.seq_xc, SM.seq_bad, SM.seq_sb, SM.seq_seq, boolM_bl, bindM_some, bindS_some, iteM_t, iteM_f, brS_t, brS_f, ev_c, ev_v, ev_bin, ev_un, ev_chain, ev_and, ev_or, ev_ite, ev_tup, ev_lst, ev_call, ev_bi, ev_ix, ev_sl, ev_rev, ev_cmp', evs_nil, evs_star, ec_c, ec_v, ec_bin, ec_un, ec_chain, ec_and, ec_or, ec_ite, ec_tup, ec_lst, ec_call, ec_bi, ec_ix, ec_sl, ec_rev, ec_cmp, evO_none, evO_some, evT_none, evT_some, evI_rng, evI_rng2, evI_zip, evI_enm, evI_seq, ss_nil', ss_pass', ss_cont', ss_asg', ss_expr', ss_ite', ss_loop', ss_ret', ss_rais', ss_tr', slotM_sh, starM_lst, starM_tup, optI_int, loopM_nil, retM_rt, retM_nx, List.getElem?_cons_zero, List.getElem?_cons_succ, List.set_cons_zero, List.set_cons_succ, bindT, bindTs, wipeE, Tg.slots, Tg.slotss, startE, List.nil_append, List.cons_append, List.append_nil, List.map_cons, List.map_nil, List.length_cons, List.length_nil, List.replicate_succ, List.replicate_zero, Option.bind_some, Option.map_some, Nat.reduceAdd, Nat.reduceSub, Int.reduceEq, Int.reduceLT, Int.reduceLE, decide_true, decide_false, Bool.not_true, Bool.not_false, b_add_i, b_sub_i, b_lt_i, b_le_i, b_gt_i, b_ge_i, b_lt_s, b_eq_i, b_ne_i, b_eq_t0, b_eq_l0, b_ne_t0, b_ne_l0, b_in_1, b_nin_1, u_not, u_neg, bi_len_t, bi_len_l, bi_len_c, bi_tup_l, bi_tup_t, bi_lst_l, bi_lst_t, bi_int_i, bi_edict, bi_min_i, bi_all_map, bi_any_map, sq_l, sq_t, zp_t, zp_l, rv_t, rv_l, sl_t, sl_l, fit0, fit1, fit2, fit3, fit4, fit5, fit6, fit7, fit8, fit9, fit10, fit11, fit12, fit13, fit14, fit15, fit16, fit17, fit18, fit19, fit20, fit21, fit22, fit23, fit24, fit25, fit26, fit27, fit28, fit29, fit30, fit31, fit32, isin_str_non, isin_str_bl, isin_str_int, isin_str_str, isin_str_tup, isin_str_lst, isin_str_dct, isin_tuple_non, isin_tuple_bl, isin_tuple_int, isin_tuple_str, isin_tuple_tup, isin_tuple_lst, isin_tuple_dct, isin_int_non, isin_int_bl, isin_int_int, isin_int_str, isin_int_tup, isin_int_lst, isin_int_dct, isin_bool_non, isin_bool_bl, isin_bool_int, isin_bool_str, isin_bool_tup, isin_bool_lst, isin_bool_dct, isin_list_tuple_non, isin_list_tuple_bl, isin_list_tuple_int, isin_list_tuple_str, isin_list_tuple_tup, isin_list_tuple_lst, isin_list_tuple_dct, isin_tuple_list_non, isin_tuple_list_bl, isin_tuple_list_int, isin_tuple_list_str, isin_tuple_list_tup, isin_tuple_list_lst, isin_tuple_list_dct, isin_list_non, isin_list_bl, isin_list_int, isin_list_str, isin_list_tup, isin_list_lst, isin_list_dct, isin_dict_non, isin_dict_bl, isin_dict_int, isin_dict_str, isin_dict_tup, isin_dict_lst, isin_dict_dct, f_law_bent, Bool.not_false, Bool.not_true]
  refine TrS.sb 4 (t_next hn hp (i := 2) (by decide) (by decide)) fun d ⟨v, e, v0, v1⟩ => ?_
  subst e
  by_cases hv : v = 0
  · subst hv
    simp only [M.ret_bind, M.bad_bind, M.bind_assoc, M.lift_some, M.lift_none, M.calm_ret, M.map_ret, M.exc_bind, SM.sb_exc, retM_xc, SM.sb_ret, SM.sb_bad, SM.sb_bind, SM.seq_nx, SM.seq_rt, SM.seq_ct, SM.seq_xc, SM.seq_bad, SM.seq_sb, SM.seq_seq, boolM_bl, bindM_some, bindS_some, iteM_t, iteM_f, brS_t, brS_f, ev_c, ev_v, ev_bin, ev_un, ev_chain, ev_and, ev_or, ev_ite, ev_tup, ev_lst, ev_call, ev_bi, ev_ix, ev_sl, ev_rev, ev_cmp', evs_nil, evs_star, ec_c, ec_v, ec_bin, ec_un, ec_chain, ec_and, ec_or, ec_ite, ec_tup, ec_lst, ec_call, ec_bi, ec_ix, ec_sl, ec_rev, ec_cmp, evO_none, evO_some, evT_none, evT_some, evI_rng, evI_rng2, evI_zip, evI_enm, evI_seq, ss_nil', ss_pass', ss_cont', ss_asg', ss_expr', ss_ite', ss_loop', ss_ret', ss_rais', ss_tr', slotM_sh, starM_lst, starM_tup, optI_int, loopM_nil, retM_rt, retM_nx, List.getElem?_cons_zero, List.getElem?_cons_succ, List.set_cons_zero, List.set_cons_succ, bindT, bindTs, wipeE, Tg.slots, Tg.slotss, startE, List.nil_append, List.cons_append, List.append_nil, List.map_cons, List.map_nil, List.length_cons, List.length_nil, List.replicate_succ, List.replicate_zero, Option.bind_some, Option.map_some, Nat.reduceAdd, Nat.reduceSub, Int.reduceEq, Int.reduceLT, Int.reduceLE, decide_true, decide_false, Bool.not_true, Bool.not_false, b_add_i, b_sub_i, b_lt_i, b_le_i, b_gt_i, b_ge_i, b_lt_s, b_eq_i, b_ne_i, b_eq_t0, b_eq_l0, b_ne_t0, b_ne_l0, b_in_1, b_nin_1, u_not, u_neg, bi_len_t, bi_len_l, bi_len_c, bi_tup_l, bi_tup_t, bi_lst_l, bi_lst_t, bi_int_i, bi_edict, bi_min_i, bi_all_map, bi_any_map, sq_l, sq_t, zp_t, zp_l, rv_t, rv_l, sl_t, sl_l, fit0, fit1, fit2, fit3, fit4, fit5, fit6, fit7, fit8, fit9, fit10, fit11, fit12, fit13, fit14, fit15, fit16, fit17, fit18, fit19, fit20, fit21, fit22, fit23, fit24, fit25, fit26, fit27, fit28, fit29, fit30, fit31, fit32, isin_str_non, isin_str_bl, isin_str_int, isin_str_str, isin_str_tup, isin_str_lst, isin_str_dct, isin_tuple_non, isin_tuple_bl, isin_tuple_int, isin_tuple_str, isin_tuple_tup, isin_tuple_lst, isin_tuple_dct, isin_int_non, isin_int_bl, isin_int_int, isin_int_str, isin_int_tup, isin_int_lst, isin_int_dct, isin_bool_non, isin_bool_bl, isin_bool_int, isin_bool_str, isin_bool_tup, isin_bool_lst, isin_bool_dct, isin_list_tuple_non, isin_list_tuple_bl, isin_list_tuple_int, isin_list_tuple_str, isin_list_tuple_tup, isin_list_tuple_lst, isin_list_tuple_dct, isin_tuple_list_non, isin_tuple_list_bl, isin_tuple_list_int, isin_tuple_list_str, isin_tuple_list_tup, isin_tuple_list_lst, isin_tuple_list_dct, isin_list_non, isin_list_bl, isin_list_int, isin_list_str, isin_list_tup, isin_list_lst, isin_list_dct, isin_dict_non, isin_dict_bl, isin_dict_int, isin_dict_str, isin_dict_tup, isin_dict_lst, isin_dict_dct, decide_true]
    refine TrS.sb 0 (t_next hn hp (i := 6) (by decide) (by decide)) fun d ⟨u, e, u0, u1⟩ => ?_
    subst e
    obtain ⟨d, hd, e⟩ := ix_l (xs := [.int 1, .int (-1), .int 3, .int (-3), .int 100, .int (-100)]) u0 (by simpa using u1)
    simp only [M.ret_bind, M.bad_bind, M.bind_assoc, M.lift_some, M.lift_none, M.calm_ret, M.map_ret, M.exc_bind, SM.sb_exc, retM_xc, SM.sb_ret, SM.sb_bad, SM.sb_bind, SM.seq_nx, SM.seq_rt, SM.seq_ct, SM.seq_xc, SM.seq_bad, SM.seq_sb, SM.seq_seq, boolM_bl, bindM_some, bindS_some, iteM_t, iteM_f, brS_t, brS_f, ev_c, ev_v, ev_bin, ev_un, ev_chain, ev_and, ev_or, ev_ite, ev_tup, ev_lst, ev_call, ev_bi, ev_ix, ev_sl, ev_rev, ev_cmp', evs_nil, evs_star, ec_c, ec_v, ec_bin, ec_un, ec_chain, ec_and, ec_or, ec_ite, ec_tup, ec_lst, ec_call, ec_bi, ec_ix, ec_sl, ec_rev, ec_cmp, evO_none, evO_some, evT_none, evT_some, evI_rng, evI_rng2, evI_zip, evI_enm, evI_seq, ss_nil', ss_pass', ss_cont', ss_asg', ss_expr', ss_ite', ss_loop', ss_ret', ss_rais', ss_tr', slotM_sh, starM_lst, starM_tup, optI_int, loopM_nil, retM_rt, retM_nx, List.getElem?_cons_zero, List.getElem?_cons_succ, List.set_cons_zero, List.set_cons_succ, bindT, bindTs, wipeE, Tg.slots, Tg.slotss, startE, List.nil_append, List.cons_append, List.append_nil, List.map_cons, List.map_nil, List.length_cons, List.length_nil, List.replicate_succ, List.replicate_zero, Option.bind_some, Option.map_some, Nat.reduceAdd, Nat.reduceSub, Int.reduceEq, Int.reduceLT, Int.reduceLE, decide_true, decide_false, Bool.not_true, Bool.not_false, e]
    have fin : ∀ z : Int, z.natAbs ≤ 100 → Bt n w q (.int (i + z)) := fun z hz => by
      have hz2 : (i + z).natAbs ≤ 10 ^ 30 + 100 * (2 * n) := by omega
      exact ⟨by simp only [D.fine, decide_eq_true_eq]; exact hz2, Nat.le_trans (int_wt (by omega) hz2) (by omega), Nat.zero_le _⟩
    simp only [List.mem_cons, List.not_mem_nil, or_false] at hd
    rcases hd with rfl | rfl | rfl | rfl | rfl | rfl <;> simp only [M.ret_bind, M.bad_bind, M.bind_assoc, M.lift_some, M.lift_none, M.calm_ret, M.map_ret, M.exc_bind, SM.sb_exc, retM_xc, SM.sb_ret, SM.sb_bad, SM.sb_bind, SM.seq_nx, SM.seq_rt, SM.seq_ct, SM.seq_xc, SM.seq_bad, SM.seq_sb, SM.seq_seq, boolM_bl, bindM_some, bindS_some, iteM_t, iteM_f, brS_t, brS_f, ev_c, ev_v, ev_bin, ev_un, ev_chain, ev_and, ev_or, ev_ite, ev_tup, ev_lst, ev_call, ev_bi, ev_ix, ev_sl, ev_rev, ev_cmp', evs_nil, evs_star, ec_c, ec_v, ec_bin, ec_un, ec_chain, ec_and, ec_or, ec_ite, ec_tup, ec_lst, ec_call, ec_bi, ec_ix, ec_sl, ec_rev, ec_cmp, evO_none, evO_some, evT_none, evT_some, evI_rng, evI_rng2, evI_zip, evI_enm, evI_seq, ss_nil', ss_pass', ss_cont', ss_asg', ss_expr', ss_ite', ss_loop', ss_ret', ss_rais', ss_tr', slotM_sh, starM_lst, starM_tup, optI_int, loopM_nil, retM_rt, retM_nx, List.getElem?_cons_zero, List.getElem?_cons_succ, List.set_cons_zero, List.set_cons_succ, bindT, bindTs, wipeE, Tg.slots, Tg.slotss, startE, List.nil_append, List.cons_append, List.append_nil, List.map_cons, List.map_nil, List.length_cons, List.length_nil, List.replicate_succ, List.replicate_zero, Option.bind_some, Option.map_some, Nat.reduceAdd, Nat.reduceSub, Int.reduceEq, Int.reduceLT, Int.reduceLE, decide_true, decide_false, Bool.not_true, Bool.not_false, b_add_i, b_sub_i, b_lt_i, b_le_i, b_gt_i, b_ge_i, b_lt_s, b_eq_i, b_ne_i, b_eq_t0, b_eq_l0, b_ne_t0, b_ne_l0, b_in_1, b_nin_1, u_not, u_neg, bi_len_t, bi_len_l, bi_len_c, bi_tup_l, bi_tup_t, bi_lst_l, bi_lst_t, bi_int_i, bi_edict, bi_min_i, bi_all_map, bi_any_map, sq_l, sq_t, zp_t, zp_l, rv_t, rv_l, sl_t, sl_l, fit0, fit1, fit2, fit3, fit4, fit5, fit6, fit7, fit8, fit9, fit10, fit11, fit12, fit13, fit14, fit15, fit16, fit17, fit18, fit19, fit20, fit21, fit22, fit23, fit24, fit25, fit26, fit27, fit28, fit29, fit30, fit31, fit32, isin_str_non, isin_str_bl, isin_str_int, isin_str_str, isin_str_tup, isin_str_lst, isin_str_dct, isin_tuple_non, isin_tuple_bl, isin_tuple_int, isin_tuple_str, isin_tuple_tup, isin_tuple_lst, isin_tuple_dct, isin_int_non, isin_int_bl, isin_int_int, isin_int_str, isin_int_tup, isin_int_lst, isin_int_dct, isin_bool_non, isin_bool_bl, isin_bool_int, isin_bool_str, isin_bool_tup, isin_bool_lst, isin_bool_dct, isin_list_tuple_non, isin_list_tuple_bl, isin_list_tuple_int, isin_list_tuple_str, isin_list_tuple_tup, isin_list_tuple_lst, isin_list_tuple_dct, isin_tuple_list_non, isin_tuple_list_bl, isin_tuple_list_int, isin_tuple_list_str, isin_tuple_list_tup, isin_tuple_list_lst, isin_tuple_list_dct, isin_list_non, isin_list_bl, isin_list_int, isin_list_str, isin_list_tup, isin_list_lst, isin_list_dct, isin_dict_non, isin_dict_bl, isin_dict_int, isin_dict_str, isin_dict_tup, isin_dict_lst, isin_dict_dct] <;> exact TrS.rt (fin _ (by decide))
  · simp only [M.ret_bind, M.bad_bind, M.bind_assoc, M.lift_some, M.lift_none, M.calm_ret, M.map_ret, M.exc_bind, SM.sb_exc, retM_xc, SM.sb_ret, SM.sb_bad, SM.sb_bind, SM.seq_nx, SM.seq_rt, SM.seq_ct, SM.seq_xc, SM.seq_bad, SM.seq_sb, SM.seq_seq, boolM_bl, bindM_some, bindS_some, iteM_t, iteM_f, brS_t, brS_f, ev_c, ev_v, ev_bin, ev_un, ev_chain, ev_and, ev_or, ev_ite, ev_tup, ev_lst, ev_call, ev_bi, ev_ix, ev_sl, ev_rev, ev_cmp', evs_nil, evs_star, ec_c, ec_v, ec_bin, ec_un, ec_chain, ec_and, ec_or, ec_ite, ec_tup, ec_lst, ec_call, ec_bi, ec_ix, ec_sl, ec_rev, ec_cmp, evO_none, evO_some, evT_none, evT_some, evI_rng, evI_rng2, evI_zip, evI_enm, evI_seq, ss_nil', ss_pass', ss_cont', ss_asg', ss_expr', ss_ite', ss_loop', ss_ret', ss_rais', ss_tr', slotM_sh, starM_lst, starM_tup, optI_int, loopM_nil, retM_rt, retM_nx, List.getElem?_cons_zero, List.getElem?_cons_succ, List.set_cons_zero, List.set_cons_succ, bindT, bindTs, wipeE, Tg.slots, Tg.slotss, startE, List.nil_append, List.cons_append, List.append_nil, List.map_cons, List.map_nil, List.length_cons, List.length_nil, List.replicate_succ, List.replicate_zero, Option.bind_some, Option.map_some, Nat.reduceAdd, Nat.reduceSub, Int.reduceEq, Int.reduceLT, Int.reduceLE, decide_true, decide_false, Bool.not_true, Bool.not_false, b_add_i, b_sub_i, b_lt_i, b_le_i, b_gt_i, b_ge_i, b_lt_s, b_eq_i, b_ne_i, b_eq_t0, b_eq_l0, b_ne_t0, b_ne_l0, b_in_1, b_nin_1, u_not, u_neg, bi_len_t, bi_len_l, bi_len_c, bi_tup_l, bi_tup_t, bi_lst_l, bi_lst_t, bi_int_i, bi_edict, bi_min_i, bi_all_map, bi_any_map, sq_l, sq_t, zp_t, zp_l, rv_t, rv_l, sl_t, sl_l, fit0, fit1, fit2, fit3, fit4, fit5, fit6, fit7, fit8, fit9, fit10, fit11, fit12, fit13, fit14, fit15, fit16, fit17, fit18, fit19, fit20, fit21, fit22, fit23, fit24, fit25, fit26, fit27, fit28, fit29, fit30, fit31, fit32, isin_str_non, isin_str_bl, isin_str_int, isin_str_str, isin_str_tup, isin_str_lst, isin_str_dct, isin_tuple_non, isin_tuple_bl, isin_tuple_int, isin_tuple_str, isin_tuple_tup, isin_tuple_lst, isin_tuple_dct, isin_int_non, isin_int_bl, isin_int_int, isin_int_str, isin_int_tup, isin_int_lst, isin_int_dct, isin_bool_non, isin_bool_bl, isin_bool_int, isin_bool_str, isin_bool_tup, isin_bool_lst, isin_bool_dct, isin_list_tuple_non, isin_list_tuple_bl, isin_list_tuple_int, isin_list_tuple_str, isin_list_tuple_tup, isin_list_tuple_lst, isin_list_tuple_dct, isin_tuple_list_non, isin_tuple_list_bl, isin_tuple_list_int, isin_tuple_list_str, isin_tuple_list_tup, isin_tuple_list_lst, isin_tuple_list_dct, isin_list_non, isin_list_bl, isin_list_int, isin_list_str, isin_list_tup, isin_list_lst, isin_list_dct, isin_dict_non, isin_dict_bl, isin_dict_int, isin_dict_str, isin_dict_tup, isin_dict_lst, isin_dict_dct, hv, decide_false, Bool.not_false]
    exact TrS.sb 0 (odd_bt hn hp h1 h hn9 hn2 hw q) fun d hd => TrS.rt hd
theorem bent_other {d : D} {q : Nat} (hd : d = .non ∨ (∃ b, d = .bl b) ∨ (∃ xs, d = .lst xs) ∨ (∃ kv, d = .dct kv) ∨ d = .tup []) : Tr 5 (runF P pr up (k + 3) "_law_bent" [.mm, d]) (Bt n w q) := by
  rw [run_def h rfl (by decide)]
  refine TrS.ret (N := fun _ => False) ?_ (fun _ z => z.elim)
  rcases hd with rfl | ⟨b, rfl⟩ | ⟨xs, rfl⟩ | ⟨kv, rfl⟩ | rfl <;> simp only [M.ret_bind, M.bad_bind, M.bind_assoc, M.lift_some, M.lift_none, M.calm_ret, M.map_ret, M.exc_bind, SM.sb_exc, retM_xc, SM.sb_ret, SM.sb_bad, SM.sb_bind, SM.seq_nx, SM.seq_rt, SM.seq_ct, SM.seq_xc, SM.seq_bad, SM.seq_sb, SM.seq_seq, boolM_bl, bindM_some, bindS_some, iteM_t, iteM_f, brS_t, brS_f, ev_c, ev_v, ev_bin, ev_un, ev_chain, ev_and, ev_or, ev_ite, ev_tup, ev_lst, ev_call, ev_bi, ev_ix, ev_sl, ev_rev, ev_cmp', evs_nil, evs_star, ec_c, ec_v, ec_bin, ec_un, ec_chain, ec_and, ec_or, ec_ite, ec_tup, ec_lst, ec_call, ec_bi, ec_ix, ec_sl, ec_rev, ec_cmp, evO_none, evO_some, evT_none, evT_some, evI_rng, evI_rng2, evI_zip, evI_enm, evI_seq, ss_nil', ss_pass', ss_cont', ss_asg', ss_expr', ss_ite', ss_loop', ss_ret', ss_rais', ss_tr', slotM_sh, starM_lst, starM_tup, optI_int, loopM_nil, retM_rt, retM_nx, List.getElem?_cons_zero, List.getElem?_cons_succ, List.set_cons_zero, List.set_cons_succ, bindT, bindTs, wipeE, Tg.slots, Tg.slotss, startE, List.nil_append, List.cons_append, List.append_nil, List.map_cons, List.map_nil, List.length_cons, List.length_nil, List.replicate_succ, List.replicate_zero, Option.bind_some, Option.map_some, Nat.reduceAdd, Nat.reduceSub, Int.reduceEq, Int.reduceLT, Int.reduceLE, decide_true, decide_false, Bool.not_true, Bool.not_false, b_add_i, b_sub_i, b_lt_i, b_le_i, b_gt_i, b_ge_i, b_lt_s, b_eq_i, b_ne_i, b_eq_t0, b_eq_l0, b_ne_t0, b_ne_l0, b_in_1, b_nin_1, u_not, u_neg, bi_len_t, bi_len_l, bi_len_c, bi_tup_l, bi_tup_t, bi_lst_l, bi_lst_t, bi_int_i, bi_edict, bi_min_i, bi_all_map, bi_any_map, sq_l, sq_t, zp_t, zp_l, rv_t, rv_l, sl_t, sl_l, fit0, fit1, fit2, fit3, fit4, fit5, fit6, fit7, fit8, fit9, fit10, fit11, fit12, fit13, fit14, fit15, fit16, fit17, fit18, fit19, fit20, fit21, fit22, fit23, fit24, fit25, fit26, fit27, fit28, fit29, fit30, fit31, fit32, isin_str_non, isin_str_bl, isin_str_int, isin_str_str, isin_str_tup, isin_str_lst, isin_str_dct, isin_tuple_non, isin_tuple_bl, isin_tuple_int, isin_tuple_str, isin_tuple_tup, isin_tuple_lst, isin_tuple_dct, isin_int_non, isin_int_bl, isin_int_int, isin_int_str, isin_int_tup, isin_int_lst, isin_int_dct, isin_bool_non, isin_bool_bl, isin_bool_int, isin_bool_str, isin_bool_tup, isin_bool_lst, isin_bool_dct, isin_list_tuple_non, isin_list_tuple_bl, isin_list_tuple_int, isin_list_tuple_str, isin_list_tuple_tup, isin_list_tuple_lst, isin_list_tuple_dct, isin_tuple_list_non, isin_tuple_list_bl, isin_tuple_list_int, isin_tuple_list_str, isin_tuple_list_tup, isin_tuple_list_lst, isin_tuple_list_dct, isin_list_non, isin_list_bl, isin_list_int, isin_list_str, isin_list_tup, isin_list_lst, isin_list_dct, isin_dict_non, isin_dict_bl, isin_dict_int, isin_dict_str, isin_dict_tup, isin_dict_lst, isin_dict_dct, f_law_bent, Bool.not_false, Bool.not_true, List.isEmpty_nil] <;> exact TrS.sb 0 (odd_bt hn hp h1 h hn9 hn2 hw q) fun d hd => TrS.rt hd
theorem bent_tup {xs : List D} {q : Nat} (hx : xs ≠ []) (hd : Sz n w (q + 1) (.tup xs)) (ih : ∀ x ∈ xs, Tr (5 * q + 5) (runF P pr up (k + 3) "_law_bent" [.mm, x]) (Bt n x.wt q)) : Tr (5 * q + 10) (runF P pr up (k + 4) "_law_bent" [.mm, .tup xs]) (Bt n w (q + 1)) := by
  have hf := fine_tup.mp hd.f
  have hp1 : ∀ x ∈ xs, x.fine (2 * n) = true ∧ x.dp ≤ q + 3 := fun x h => ⟨fine_le (by omega) x (hf x h), by have := dp_tup.mp hd.d x h; omega⟩
  have hwx : wts xs ≤ w := by have := hd.w; rwa [wt_tup] at this
  have hln : xs.length ≤ w := Nat.le_trans (wts_len xs) hwx
  have hne : xs.isEmpty = false := by cases xs with
    | nil => exact absurd rfl hx
    | cons a r => rfl
  have hpos : 0 < xs.length := List.length_pos_iff.mpr hx
  have big : ∀ ys : List D, (∀ y ∈ ys, y.fine (2 * n) = true ∧ y.dp ≤ q + 3) → wts ys ≤ 2 * w + 112 → Bt n w (q + 1) (.tup ys) := fun ys a b => Sz.tup a b
  rw [run_def h rfl (by decide)]
  refine TrS.ret (N := fun _ => False) ?_ (fun _ z => z.elim)
  simp only [M.ret_bind, M.bad_bind, M.bind_assoc, M.lift_some, M.lift_none, M.calm_ret, M.map_ret, M.exc_bind, SM.sb_exc, retM_xc, SM.sb_ret, SM.sb_bad, SM.sb_bind, SM.seq_nx, SM.seq_rt, SM.seq_ct, SM.seq_xc, SM.seq_bad, SM.seq_sb, SM.seq_seq, boolM_bl, bindM_some, bindS_some, iteM_t, iteM_f, brS_t, brS_f, ev_c, ev_v, ev_bin, ev_un, ev_chain, ev_and, ev_or, ev_ite, ev_tup, ev_lst, ev_call, ev_bi, ev_ix, ev_sl, ev_rev, ev_cmp', evs_nil, evs_star, ec_c, ec_v, ec_bin, ec_un, ec_chain, ec_and, ec_or, ec_ite, ec_tup, ec_lst, ec_call, ec_bi, ec_ix, ec_sl, ec_rev, ec_cmp, evO_none, evO_some, evT_none, evT_some, evI_rng, evI_rng2, evI_zip, evI_enm, evI_seq, ss_nil', ss_pass', ss_cont', ss_asg', ss_expr', ss_ite', ss_loop', ss_ret', ss_rais', ss_tr', slotM_sh, starM_lst, starM_tup, optI_int, loopM_nil, retM_rt, retM_nx, List.getElem?_cons_zero, List.getElem?_cons_succ, List.set_cons_zero, List.set_cons_succ, bindT, bindTs, wipeE, Tg.slots, Tg.slotss, startE, List.nil_append, List.cons_append, List.append_nil, List.map_cons, List.map_nil, List.length_cons, List.length_nil, List.replicate_succ, List.replicate_zero, Option.bind_some, Option.map_some, Nat.reduceAdd, Nat.reduceSub, Int.reduceEq, Int.reduceLT, Int.reduceLE, decide_true, decide_false, Bool.not_true, Bool.not_false, b_add_i, b_sub_i, b_lt_i, b_le_i, b_gt_i, b_ge_i, b_lt_s, b_eq_i, b_ne_i, b_eq_t0, b_eq_l0, b_ne_t0, b_ne_l0, b_in_1, b_nin_1, u_not, u_neg, bi_len_t, bi_len_l, bi_len_c, bi_tup_l, bi_tup_t, bi_lst_l, bi_lst_t, bi_int_i, bi_edict, bi_min_i, bi_all_map, bi_any_map, sq_l, sq_t, zp_t, zp_l, rv_t, rv_l, sl_t, sl_l, fit0, fit1, fit2, fit3, fit4, fit5, fit6, fit7, fit8, fit9, fit10, fit11, fit12, fit13, fit14, fit15, fit16, fit17, fit18, fit19, fit20, fit21, fit22, fit23, fit24, fit25, fit26, fit27, fit28, fit29, fit30, fit31, fit32, isin_str_non, isin_str_bl, isin_str_int, isin_str_str, isin_str_tup, isin_str_lst, isin_str_dct, isin_tuple_non, isin_tuple_bl, isin_tuple_int, isin_tuple_str, isin_tuple_tup, isin_tuple_lst, isin_tuple_dct, isin_int_non, isin_int_bl, isin_int_int, isin_int_str, isin_int_tup, isin_int_lst, isin_int_dct, isin_bool_non, isin_bool_bl, isin_bool_int, isin_bool_str, isin_bool_tup, isin_bool_lst, isin_bool_dct, isin_list_tuple_non, isin_list_tuple_bl, isin_list_tuple_int, isin_list_tuple_str, isin_list_tuple_tup, isin_list_tuple_lst, isin_list_tuple_dct, isin_tuple_list_non, isin_tuple_list_bl, isin_tuple_list_int, isin_tuple_list_str, isin_tuple_list_tup, isin_tuple_list_lst, isin_tuple_list_dct, isin_list_non, isin_list_bl, isin_list_int, isin_list_str, isin_list_tup, isin_list_lst, isin_list_dct, isin_dict_non, isin_dict_bl, isin_dict_int, isin_dict_str, isin_dict_tup, isin_dict_lst, isin_dict_dct, f_law_bent, Bool.not_false, Bool.not_true, hne]
  refine TrS.sb (5 * q + 9) (t_next hn hp (i := 6) (by decide) (by decide)) fun d ⟨v, e, v0, v1⟩ => ?_
  subst e
  by_cases hv : v = 0
  · subst hv
    simp only [M.ret_bind, M.bad_bind, M.bind_assoc, M.lift_some, M.lift_none, M.calm_ret, M.map_ret, M.exc_bind, SM.sb_exc, retM_xc, SM.sb_ret, SM.sb_bad, SM.sb_bind, SM.seq_nx, SM.seq_rt, SM.seq_ct, SM.seq_xc, SM.seq_bad, SM.seq_sb, SM.seq_seq, boolM_bl, bindM_some, bindS_some, iteM_t, iteM_f, brS_t, brS_f, ev_c, ev_v, ev_bin, ev_un, ev_chain, ev_and, ev_or, ev_ite, ev_tup, ev_lst, ev_call, ev_bi, ev_ix, ev_sl, ev_rev, ev_cmp', evs_nil, evs_star, ec_c, ec_v, ec_bin, ec_un, ec_chain, ec_and, ec_or, ec_ite, ec_tup, ec_lst, ec_call, ec_bi, ec_ix, ec_sl, ec_rev, ec_cmp, evO_none, evO_some, evT_none, evT_some, evI_rng, evI_rng2, evI_zip, evI_enm, evI_seq, ss_nil', ss_pass', ss_cont', ss_asg', ss_expr', ss_ite', ss_loop', ss_ret', ss_rais', ss_tr', slotM_sh, starM_lst, starM_tup, optI_int, loopM_nil, retM_rt, retM_nx, List.getElem?_cons_zero, List.getElem?_cons_succ, List.set_cons_zero, List.set_cons_succ, bindT, bindTs, wipeE, Tg.slots, Tg.slotss, startE, List.nil_append, List.cons_append, List.append_nil, List.map_cons, List.map_nil, List.length_cons, List.length_nil, List.replicate_succ, List.replicate_zero, Option.bind_some, Option.map_some, Nat.reduceAdd, Nat.reduceSub, Int.reduceEq, Int.reduceLT, Int.reduceLE, decide_true, decide_false, Bool.not_true, Bool.not_false, b_add_i, b_sub_i, b_lt_i, b_le_i, b_gt_i, b_ge_i, b_lt_s, b_eq_i, b_ne_i, b_eq_t0, b_eq_l0, b_ne_t0, b_ne_l0, b_in_1, b_nin_1, u_not, u_neg, bi_len_t, bi_len_l, bi_len_c, bi_tup_l, bi_tup_t, bi_lst_l, bi_lst_t, bi_int_i, bi_edict, bi_min_i, bi_all_map, bi_any_map, sq_l, sq_t, zp_t, zp_l, rv_t, rv_l, sl_t, sl_l, fit0, fit1, fit2, fit3, fit4, fit5, fit6, fit7, fit8, fit9, fit10, fit11, fit12, fit13, fit14, fit15, fit16, fit17, fit18, fit19, fit20, fit21, fit22, fit23, fit24, fit25, fit26, fit27, fit28, fit29, fit30, fit31, fit32, isin_str_non, isin_str_bl, isin_str_int, isin_str_str, isin_str_tup, isin_str_lst, isin_str_dct, isin_tuple_non, isin_tuple_bl, isin_tuple_int, isin_tuple_str, isin_tuple_tup, isin_tuple_lst, isin_tuple_dct, isin_int_non, isin_int_bl, isin_int_int, isin_int_str, isin_int_tup, isin_int_lst, isin_int_dct, isin_bool_non, isin_bool_bl, isin_bool_int, isin_bool_str, isin_bool_tup, isin_bool_lst, isin_bool_dct, isin_list_tuple_non, isin_list_tuple_bl, isin_list_tuple_int, isin_list_tuple_str, isin_list_tuple_tup, isin_list_tuple_lst, isin_list_tuple_dct, isin_tuple_list_non, isin_tuple_list_bl, isin_tuple_list_int, isin_tuple_list_str, isin_tuple_list_tup, isin_tuple_list_lst, isin_tuple_list_dct, isin_list_non, isin_list_bl, isin_list_int, isin_list_str, isin_list_tup, isin_list_lst, isin_list_dct, isin_dict_non, isin_dict_bl, isin_dict_int, isin_dict_str, isin_dict_tup, isin_dict_lst, isin_dict_dct, decide_true]
    exact TrS.sb 0 (odd_bt (k := k + 1) hn hp h1 h hn9 hn2 hw (q + 1)) (fun d hd => TrS.rt hd)
  simp only [M.ret_bind, M.bad_bind, M.bind_assoc, M.lift_some, M.lift_none, M.calm_ret, M.map_ret, M.exc_bind, SM.sb_exc, retM_xc, SM.sb_ret, SM.sb_bad, SM.sb_bind, SM.seq_nx, SM.seq_rt, SM.seq_ct, SM.seq_xc, SM.seq_bad, SM.seq_sb, SM.seq_seq, boolM_bl, bindM_some, bindS_some, iteM_t, iteM_f, brS_t, brS_f, ev_c, ev_v, ev_bin, ev_un, ev_chain, ev_and, ev_or, ev_ite, ev_tup, ev_lst, ev_call, ev_bi, ev_ix, ev_sl, ev_rev, ev_cmp', evs_nil, evs_star, ec_c, ec_v, ec_bin, ec_un, ec_chain, ec_and, ec_or, ec_ite, ec_tup, ec_lst, ec_call, ec_bi, ec_ix, ec_sl, ec_rev, ec_cmp, evO_none, evO_some, evT_none, evT_some, evI_rng, evI_rng2, evI_zip, evI_enm, evI_seq, ss_nil', ss_pass', ss_cont', ss_asg', ss_expr', ss_ite', ss_loop', ss_ret', ss_rais', ss_tr', slotM_sh, starM_lst, starM_tup, optI_int, loopM_nil, retM_rt, retM_nx, List.getElem?_cons_zero, List.getElem?_cons_succ, List.set_cons_zero, List.set_cons_succ, bindT, bindTs, wipeE, Tg.slots, Tg.slotss, startE, List.nil_append, List.cons_append, List.append_nil, List.map_cons, List.map_nil, List.length_cons, List.length_nil, List.replicate_succ, List.replicate_zero, Option.bind_some, Option.map_some, Nat.reduceAdd, Nat.reduceSub, Int.reduceEq, Int.reduceLT, Int.reduceLE, decide_true, decide_false, Bool.not_true, Bool.not_false, b_add_i, b_sub_i, b_lt_i, b_le_i, b_gt_i, b_ge_i, b_lt_s, b_eq_i, b_ne_i, b_eq_t0, b_eq_l0, b_ne_t0, b_ne_l0, b_in_1, b_nin_1, u_not, u_neg, bi_len_t, bi_len_l, bi_len_c, bi_tup_l, bi_tup_t, bi_lst_l, bi_lst_t, bi_int_i, bi_edict, bi_min_i, bi_all_map, bi_any_map, sq_l, sq_t, zp_t, zp_l, rv_t, rv_l, sl_t, sl_l, fit0, fit1, fit2, fit3, fit4, fit5, fit6, fit7, fit8, fit9, fit10, fit11, fit12, fit13, fit14, fit15, fit16, fit17, fit18, fit19, fit20, fit21, fit22, fit23, fit24, fit25, fit26, fit27, fit28, fit29, fit30, fit31, fit32, isin_str_non, isin_str_bl, isin_str_int, isin_str_str, isin_str_tup, isin_str_lst, isin_str_dct, isin_tuple_non, isin_tuple_bl, isin_tuple_int, isin_tuple_str, isin_tuple_tup, isin_tuple_lst, isin_tuple_dct, isin_int_non, isin_int_bl, isin_int_int, isin_int_str, isin_int_tup, isin_int_lst, isin_int_dct, isin_bool_non, isin_bool_bl, isin_bool_int, isin_bool_str, isin_bool_tup, isin_bool_lst, isin_bool_dct, isin_list_tuple_non, isin_list_tuple_bl, isin_list_tuple_int, isin_list_tuple_str, isin_list_tuple_tup, isin_list_tuple_lst, isin_list_tuple_dct, isin_tuple_list_non, isin_tuple_list_bl, isin_tuple_list_int, isin_tuple_list_str, isin_tuple_list_tup, isin_tuple_list_lst, isin_tuple_list_dct, isin_list_non, isin_list_bl, isin_list_int, isin_list_str, isin_list_tup, isin_list_lst, isin_list_dct, isin_dict_non, isin_dict_bl, isin_dict_int, isin_dict_str, isin_dict_tup, isin_dict_lst, isin_dict_dct, hv, decide_false]
  refine TrS.sb (5 * q + 8) (t_next hn hp (i := xs.length) (by omega) (by omega)) fun d ⟨a, e, a0, a1⟩ => ?_
  subst e
  try simp only [M.ret_bind, M.bad_bind, M.bind_assoc, M.lift_some, M.lift_none, M.calm_ret, M.map_ret, M.exc_bind, SM.sb_exc, retM_xc, SM.sb_ret, SM.sb_bad, SM.sb_bind, SM.seq_nx, SM.seq_rt, SM.seq_ct, SM.seq_xc, SM.seq_bad, SM.seq_sb, SM.seq_seq, boolM_bl, bindM_some, bindS_some, iteM_t, iteM_f, brS_t, brS_f, ev_c, ev_v, ev_bin, ev_un, ev_chain, ev_and, ev_or, ev_ite, ev_tup, ev_lst, ev_call, ev_bi, ev_ix, ev_sl, ev_rev, ev_cmp', evs_nil, evs_star, ec_c, ec_v, ec_bin, ec_un, ec_chain, ec_and, ec_or, ec_ite, ec_tup, ec_lst, ec_call, ec_bi, ec_ix, ec_sl, ec_rev, ec_cmp, evO_none, evO_some, evT_none, evT_some, evI_rng, evI_rng2, evI_zip, evI_enm, evI_seq, ss_nil', ss_pass', ss_cont', ss_asg', ss_expr', ss_ite', ss_loop', ss_ret', ss_rais', ss_tr', slotM_sh, starM_lst, starM_tup, optI_int, loopM_nil, retM_rt, retM_nx, List.getElem?_cons_zero, List.getElem?_cons_succ, List.set_cons_zero, List.set_cons_succ, bindT, bindTs, wipeE, Tg.slots, Tg.slotss, startE, List.nil_append, List.cons_append, List.append_nil, List.map_cons, List.map_nil, List.length_cons, List.length_nil, List.replicate_succ, List.replicate_zero, Option.bind_some, Option.map_some, Nat.reduceAdd, Nat.reduceSub, Int.reduceEq, Int.reduceLT, Int.reduceLE, decide_true, decide_false, Bool.not_true, Bool.not_false, b_add_i, b_sub_i, b_lt_i, b_le_i, b_gt_i, b_ge_i, b_lt_s, b_eq_i, b_ne_i, b_eq_t0, b_eq_l0, b_ne_t0, b_ne_l0, b_in_1, b_nin_1, u_not, u_neg, bi_len_t, bi_len_l, bi_len_c, bi_tup_l, bi_tup_t, bi_lst_l, bi_lst_t, bi_int_i, bi_edict, bi_min_i, bi_all_map, bi_any_map, sq_l, sq_t, zp_t, zp_l, rv_t, rv_l, sl_t, sl_l, fit0, fit1, fit2, fit3, fit4, fit5, fit6, fit7, fit8, fit9, fit10, fit11, fit12, fit13, fit14, fit15, fit16, fit17, fit18, fit19, fit20, fit21, fit22, fit23, fit24, fit25, fit26, fit27, fit28, fit29, fit30, fit31, fit32, isin_str_non, isin_str_bl, isin_str_int, isin_str_str, isin_str_tup, isin_str_lst, isin_str_dct, isin_tuple_non, isin_tuple_bl, isin_tuple_int, isin_tuple_str, isin_tuple_tup, isin_tuple_lst, isin_tuple_dct, isin_int_non, isin_int_bl, isin_int_int, isin_int_str, isin_int_tup, isin_int_lst, isin_int_dct, isin_bool_non, isin_bool_bl, isin_bool_int, isin_bool_str, isin_bool_tup, isin_bool_lst, isin_bool_dct, isin_list_tuple_non, isin_list_tuple_bl, isin_list_tuple_int, isin_list_tuple_str, isin_list_tuple_tup, isin_list_tuple_lst, isin_list_tuple_dct, isin_tuple_list_non, isin_tuple_list_bl, isin_tuple_list_int, isin_tuple_list_str, isin_tuple_list_tup, isin_tuple_list_lst, isin_tuple_list_dct, isin_list_non, isin_list_bl, isin_list_int, isin_list_str, isin_list_tup, isin_list_lst, isin_list_dct, isin_dict_non, isin_dict_bl, isin_dict_int, isin_dict_str, isin_dict_tup, isin_dict_lst, isin_dict_dct]
  refine TrS.sb (5 * q + 7) (t_next hn hp (i := 11) (by decide) (by decide)) fun d ⟨p, e, p0, p1⟩ => ?_
  subst e
  simp only [M.ret_bind, M.bad_bind, M.bind_assoc, M.lift_some, M.lift_none, M.calm_ret, M.map_ret, M.exc_bind, SM.sb_exc, retM_xc, SM.sb_ret, SM.sb_bad, SM.sb_bind, SM.seq_nx, SM.seq_rt, SM.seq_ct, SM.seq_xc, SM.seq_bad, SM.seq_sb, SM.seq_seq, boolM_bl, bindM_some, bindS_some, iteM_t, iteM_f, brS_t, brS_f, ev_c, ev_v, ev_bin, ev_un, ev_chain, ev_and, ev_or, ev_ite, ev_tup, ev_lst, ev_call, ev_bi, ev_ix, ev_sl, ev_rev, ev_cmp', evs_nil, evs_star, ec_c, ec_v, ec_bin, ec_un, ec_chain, ec_and, ec_or, ec_ite, ec_tup, ec_lst, ec_call, ec_bi, ec_ix, ec_sl, ec_rev, ec_cmp, evO_none, evO_some, evT_none, evT_some, evI_rng, evI_rng2, evI_zip, evI_enm, evI_seq, ss_nil', ss_pass', ss_cont', ss_asg', ss_expr', ss_ite', ss_loop', ss_ret', ss_rais', ss_tr', slotM_sh, starM_lst, starM_tup, optI_int, loopM_nil, retM_rt, retM_nx, List.getElem?_cons_zero, List.getElem?_cons_succ, List.set_cons_zero, List.set_cons_succ, bindT, bindTs, wipeE, Tg.slots, Tg.slotss, startE, List.nil_append, List.cons_append, List.append_nil, List.map_cons, List.map_nil, List.length_cons, List.length_nil, List.replicate_succ, List.replicate_zero, Option.bind_some, Option.map_some, Nat.reduceAdd, Nat.reduceSub, Int.reduceEq, Int.reduceLT, Int.reduceLE, decide_true, decide_false, Bool.not_true, Bool.not_false, b_add_i, b_sub_i, b_lt_i, b_le_i, b_gt_i, b_ge_i, b_lt_s, b_eq_i, b_ne_i, b_eq_t0, b_eq_l0, b_ne_t0, b_ne_l0, b_in_1, b_nin_1, u_not, u_neg, bi_len_t, bi_len_l, bi_len_c, bi_tup_l, bi_tup_t, bi_lst_l, bi_lst_t, bi_int_i, bi_edict, bi_min_i, bi_all_map, bi_any_map, sq_l, sq_t, zp_t, zp_l, rv_t, rv_l, sl_t, sl_l, fit0, fit1, fit2, fit3, fit4, fit5, fit6, fit7, fit8, fit9, fit10, fit11, fit12, fit13, fit14, fit15, fit16, fit17, fit18, fit19, fit20, fit21, fit22, fit23, fit24, fit25, fit26, fit27, fit28, fit29, fit30, fit31, fit32, isin_str_non, isin_str_bl, isin_str_int, isin_str_str, isin_str_tup, isin_str_lst, isin_str_dct, isin_tuple_non, isin_tuple_bl, isin_tuple_int, isin_tuple_str, isin_tuple_tup, isin_tuple_lst, isin_tuple_dct, isin_int_non, isin_int_bl, isin_int_int, isin_int_str, isin_int_tup, isin_int_lst, isin_int_dct, isin_bool_non, isin_bool_bl, isin_bool_int, isin_bool_str, isin_bool_tup, isin_bool_lst, isin_bool_dct, isin_list_tuple_non, isin_list_tuple_bl, isin_list_tuple_int, isin_list_tuple_str, isin_list_tuple_tup, isin_list_tuple_lst, isin_list_tuple_dct, isin_tuple_list_non, isin_tuple_list_bl, isin_tuple_list_int, isin_tuple_list_str, isin_tuple_list_tup, isin_tuple_list_lst, isin_tuple_list_dct, isin_list_non, isin_list_bl, isin_list_int, isin_list_str, isin_list_tup, isin_list_lst, isin_list_dct, isin_dict_non, isin_dict_bl, isin_dict_int, isin_dict_str, isin_dict_tup, isin_dict_lst, isin_dict_dct]
  have tk : ∀ i, ∀ x ∈ xs.take i, x.fine (2 * n) = true ∧ x.dp ≤ q + 3 := fun i x h => hp1 x (List.mem_of_mem_take h)
  have dr : ∀ i, ∀ x ∈ xs.drop i, x.fine (2 * n) = true ∧ x.dp ≤ q + 3 := fun i x h => hp1 x (List.mem_of_mem_drop h)
  have w1 : ∀ i, wts (xs.take i) ≤ w := fun i => by have := wts_take xs i; omega
  have w2 : ∀ i, wts (xs.drop i) ≤ w := fun i => by have := wts_take xs i; omega
  have w3 : ∀ i j : Nat, i ≤ j → wts (xs.take i) + wts (xs.drop j) ≤ w := fun i j hij => by
    have e1 := wts_take xs i
    have e2 := wts_take (xs.drop i) (j - i)
    rw [List.drop_drop, Nat.add_sub_cancel' hij] at e2
    omega
  have an : (a + 1).toNat = a.toNat + 1 := by omega
  by_cases c0 : p = 0
  · simp only [M.ret_bind, M.bad_bind, M.bind_assoc, M.lift_some, M.lift_none, M.calm_ret, M.map_ret, M.exc_bind, SM.sb_exc, retM_xc, SM.sb_ret, SM.sb_bad, SM.sb_bind, SM.seq_nx, SM.seq_rt, SM.seq_ct, SM.seq_xc, SM.seq_bad, SM.seq_sb, SM.seq_seq, boolM_bl, bindM_some, bindS_some, iteM_t, iteM_f, brS_t, brS_f, ev_c, ev_v, ev_bin, ev_un, ev_chain, ev_and, ev_or, ev_ite, ev_tup, ev_lst, ev_call, ev_bi, ev_ix, ev_sl, ev_rev, ev_cmp', evs_nil, evs_star, ec_c, ec_v, ec_bin, ec_un, ec_chain, ec_and, ec_or, ec_ite, ec_tup, ec_lst, ec_call, ec_bi, ec_ix, ec_sl, ec_rev, ec_cmp, evO_none, evO_some, evT_none, evT_some, evI_rng, evI_rng2, evI_zip, evI_enm, evI_seq, ss_nil', ss_pass', ss_cont', ss_asg', ss_expr', ss_ite', ss_loop', ss_ret', ss_rais', ss_tr', slotM_sh, starM_lst, starM_tup, optI_int, loopM_nil, retM_rt, retM_nx, List.getElem?_cons_zero, List.getElem?_cons_succ, List.set_cons_zero, List.set_cons_succ, bindT, bindTs, wipeE, Tg.slots, Tg.slotss, startE, List.nil_append, List.cons_append, List.append_nil, List.map_cons, List.map_nil, List.length_cons, List.length_nil, List.replicate_succ, List.replicate_zero, Option.bind_some, Option.map_some, Nat.reduceAdd, Nat.reduceSub, Int.reduceEq, Int.reduceLT, Int.reduceLE, decide_true, decide_false, Bool.not_true, Bool.not_false, b_add_i, b_sub_i, b_lt_i, b_le_i, b_gt_i, b_ge_i, b_lt_s, b_eq_i, b_ne_i, b_eq_t0, b_eq_l0, b_ne_t0, b_ne_l0, b_in_1, b_nin_1, u_not, u_neg, bi_len_t, bi_len_l, bi_len_c, bi_tup_l, bi_tup_t, bi_lst_l, bi_lst_t, bi_int_i, bi_edict, bi_min_i, bi_all_map, bi_any_map, sq_l, sq_t, zp_t, zp_l, rv_t, rv_l, sl_t, sl_l, fit0, fit1, fit2, fit3, fit4, fit5, fit6, fit7, fit8, fit9, fit10, fit11, fit12, fit13, fit14, fit15, fit16, fit17, fit18, fit19, fit20, fit21, fit22, fit23, fit24, fit25, fit26, fit27, fit28, fit29, fit30, fit31, fit32, isin_str_non, isin_str_bl, isin_str_int, isin_str_str, isin_str_tup, isin_str_lst, isin_str_dct, isin_tuple_non, isin_tuple_bl, isin_tuple_int, isin_tuple_str, isin_tuple_tup, isin_tuple_lst, isin_tuple_dct, isin_int_non, isin_int_bl, isin_int_int, isin_int_str, isin_int_tup, isin_int_lst, isin_int_dct, isin_bool_non, isin_bool_bl, isin_bool_int, isin_bool_str, isin_bool_tup, isin_bool_lst, isin_bool_dct, isin_list_tuple_non, isin_list_tuple_bl, isin_list_tuple_int, isin_list_tuple_str, isin_list_tuple_tup, isin_list_tuple_lst, isin_list_tuple_dct, isin_tuple_list_non, isin_tuple_list_bl, isin_tuple_list_int, isin_tuple_list_str, isin_tuple_list_tup, isin_tuple_list_lst, isin_tuple_list_dct, isin_list_non, isin_list_bl, isin_list_int, isin_list_str, isin_list_tup, isin_list_lst, isin_list_dct, isin_dict_non, isin_dict_bl, isin_dict_int, isin_dict_str, isin_dict_tup, isin_dict_lst, isin_dict_dct, c0, decide_true, cut_to _ a0, cut_from _ (show (0 : Int) ≤ a + 1 by omega), an]
    rw [b_add_t (by simp only [List.length_append, List.length_take, List.length_drop]; unfold LIM; omega)]
    simp only [M.ret_bind, M.bad_bind, M.bind_assoc, M.lift_some, M.lift_none, M.calm_ret, M.map_ret, M.exc_bind, SM.sb_exc, retM_xc, SM.sb_ret, SM.sb_bad, SM.sb_bind, SM.seq_nx, SM.seq_rt, SM.seq_ct, SM.seq_xc, SM.seq_bad, SM.seq_sb, SM.seq_seq, boolM_bl, bindM_some, bindS_some, iteM_t, iteM_f, brS_t, brS_f, ev_c, ev_v, ev_bin, ev_un, ev_chain, ev_and, ev_or, ev_ite, ev_tup, ev_lst, ev_call, ev_bi, ev_ix, ev_sl, ev_rev, ev_cmp', evs_nil, evs_star, ec_c, ec_v, ec_bin, ec_un, ec_chain, ec_and, ec_or, ec_ite, ec_tup, ec_lst, ec_call, ec_bi, ec_ix, ec_sl, ec_rev, ec_cmp, evO_none, evO_some, evT_none, evT_some, evI_rng, evI_rng2, evI_zip, evI_enm, evI_seq, ss_nil', ss_pass', ss_cont', ss_asg', ss_expr', ss_ite', ss_loop', ss_ret', ss_rais', ss_tr', slotM_sh, starM_lst, starM_tup, optI_int, loopM_nil, retM_rt, retM_nx, List.getElem?_cons_zero, List.getElem?_cons_succ, List.set_cons_zero, List.set_cons_succ, bindT, bindTs, wipeE, Tg.slots, Tg.slotss, startE, List.nil_append, List.cons_append, List.append_nil, List.map_cons, List.map_nil, List.length_cons, List.length_nil, List.replicate_succ, List.replicate_zero, Option.bind_some, Option.map_some, Nat.reduceAdd, Nat.reduceSub, Int.reduceEq, Int.reduceLT, Int.reduceLE, decide_true, decide_false, Bool.not_true, Bool.not_false]
    refine TrS.rt (big _ (fun y hy => (List.mem_append.mp hy).elim (tk _ y) (dr _ y)) ?_)
    rw [wts_append]
    have := w3 a.toNat (a.toNat + 1) (by omega)
    omega
  by_cases c1 : p = 1
  · simp only [M.ret_bind, M.bad_bind, M.bind_assoc, M.lift_some, M.lift_none, M.calm_ret, M.map_ret, M.exc_bind, SM.sb_exc, retM_xc, SM.sb_ret, SM.sb_bad, SM.sb_bind, SM.seq_nx, SM.seq_rt, SM.seq_ct, SM.seq_xc, SM.seq_bad, SM.seq_sb, SM.seq_seq, boolM_bl, bindM_some, bindS_some, iteM_t, iteM_f, brS_t, brS_f, ev_c, ev_v, ev_bin, ev_un, ev_chain, ev_and, ev_or, ev_ite, ev_tup, ev_lst, ev_call, ev_bi, ev_ix, ev_sl, ev_rev, ev_cmp', evs_nil, evs_star, ec_c, ec_v, ec_bin, ec_un, ec_chain, ec_and, ec_or, ec_ite, ec_tup, ec_lst, ec_call, ec_bi, ec_ix, ec_sl, ec_rev, ec_cmp, evO_none, evO_some, evT_none, evT_some, evI_rng, evI_rng2, evI_zip, evI_enm, evI_seq, ss_nil', ss_pass', ss_cont', ss_asg', ss_expr', ss_ite', ss_loop', ss_ret', ss_rais', ss_tr', slotM_sh, starM_lst, starM_tup, optI_int, loopM_nil, retM_rt, retM_nx, List.getElem?_cons_zero, List.getElem?_cons_succ, List.set_cons_zero, List.set_cons_succ, bindT, bindTs, wipeE, Tg.slots, Tg.slotss, startE, List.nil_append, List.cons_append, List.append_nil, List.map_cons, List.map_nil, List.length_cons, List.length_nil, List.replicate_succ, List.replicate_zero, Option.bind_some, Option.map_some, Nat.reduceAdd, Nat.reduceSub, Int.reduceEq, Int.reduceLT, Int.reduceLE, decide_true, decide_false, Bool.not_true, Bool.not_false, b_add_i, b_sub_i, b_lt_i, b_le_i, b_gt_i, b_ge_i, b_lt_s, b_eq_i, b_ne_i, b_eq_t0, b_eq_l0, b_ne_t0, b_ne_l0, b_in_1, b_nin_1, u_not, u_neg, bi_len_t, bi_len_l, bi_len_c, bi_tup_l, bi_tup_t, bi_lst_l, bi_lst_t, bi_int_i, bi_edict, bi_min_i, bi_all_map, bi_any_map, sq_l, sq_t, zp_t, zp_l, rv_t, rv_l, sl_t, sl_l, fit0, fit1, fit2, fit3, fit4, fit5, fit6, fit7, fit8, fit9, fit10, fit11, fit12, fit13, fit14, fit15, fit16, fit17, fit18, fit19, fit20, fit21, fit22, fit23, fit24, fit25, fit26, fit27, fit28, fit29, fit30, fit31, fit32, isin_str_non, isin_str_bl, isin_str_int, isin_str_str, isin_str_tup, isin_str_lst, isin_str_dct, isin_tuple_non, isin_tuple_bl, isin_tuple_int, isin_tuple_str, isin_tuple_tup, isin_tuple_lst, isin_tuple_dct, isin_int_non, isin_int_bl, isin_int_int, isin_int_str, isin_int_tup, isin_int_lst, isin_int_dct, isin_bool_non, isin_bool_bl, isin_bool_int, isin_bool_str, isin_bool_tup, isin_bool_lst, isin_bool_dct, isin_list_tuple_non, isin_list_tuple_bl, isin_list_tuple_int, isin_list_tuple_str, isin_list_tuple_tup, isin_list_tuple_lst, isin_list_tuple_dct, isin_tuple_list_non, isin_tuple_list_bl, isin_tuple_list_int, isin_tuple_list_str, isin_tuple_list_tup, isin_tuple_list_lst, isin_tuple_list_dct, isin_list_non, isin_list_bl, isin_list_int, isin_list_str, isin_list_tup, isin_list_lst, isin_list_dct, isin_dict_non, isin_dict_bl, isin_dict_int, isin_dict_str, isin_dict_tup, isin_dict_lst, isin_dict_dct, c0, c1, decide_true, decide_false, cut_ft _ a0 (show (0 : Int) ≤ a + 1 by omega), an]
    rw [b_add_t (by simp only [List.length_append, List.length_take, List.length_drop]; unfold LIM; omega)]
    simp only [M.ret_bind, M.bad_bind, M.bind_assoc, M.lift_some, M.lift_none, M.calm_ret, M.map_ret, M.exc_bind, SM.sb_exc, retM_xc, SM.sb_ret, SM.sb_bad, SM.sb_bind, SM.seq_nx, SM.seq_rt, SM.seq_ct, SM.seq_xc, SM.seq_bad, SM.seq_sb, SM.seq_seq, boolM_bl, bindM_some, bindS_some, iteM_t, iteM_f, brS_t, brS_f, ev_c, ev_v, ev_bin, ev_un, ev_chain, ev_and, ev_or, ev_ite, ev_tup, ev_lst, ev_call, ev_bi, ev_ix, ev_sl, ev_rev, ev_cmp', evs_nil, evs_star, ec_c, ec_v, ec_bin, ec_un, ec_chain, ec_and, ec_or, ec_ite, ec_tup, ec_lst, ec_call, ec_bi, ec_ix, ec_sl, ec_rev, ec_cmp, evO_none, evO_some, evT_none, evT_some, evI_rng, evI_rng2, evI_zip, evI_enm, evI_seq, ss_nil', ss_pass', ss_cont', ss_asg', ss_expr', ss_ite', ss_loop', ss_ret', ss_rais', ss_tr', slotM_sh, starM_lst, starM_tup, optI_int, loopM_nil, retM_rt, retM_nx, List.getElem?_cons_zero, List.getElem?_cons_succ, List.set_cons_zero, List.set_cons_succ, bindT, bindTs, wipeE, Tg.slots, Tg.slotss, startE, List.nil_append, List.cons_append, List.append_nil, List.map_cons, List.map_nil, List.length_cons, List.length_nil, List.replicate_succ, List.replicate_zero, Option.bind_some, Option.map_some, Nat.reduceAdd, Nat.reduceSub, Int.reduceEq, Int.reduceLT, Int.reduceLE, decide_true, decide_false, Bool.not_true, Bool.not_false]
    refine TrS.rt (big _ (fun y hy => (List.mem_append.mp hy).elim (hp1 y) fun z => dr _ y (List.mem_of_mem_take z)) ?_)
    rw [wts_append]
    have := wts_take (xs.drop a.toNat) (a.toNat + 1 - a.toNat)
    have := w2 a.toNat
    omega
  by_cases c2 : p = 2
  · simp only [M.ret_bind, M.bad_bind, M.bind_assoc, M.lift_some, M.lift_none, M.calm_ret, M.map_ret, M.exc_bind, SM.sb_exc, retM_xc, SM.sb_ret, SM.sb_bad, SM.sb_bind, SM.seq_nx, SM.seq_rt, SM.seq_ct, SM.seq_xc, SM.seq_bad, SM.seq_sb, SM.seq_seq, boolM_bl, bindM_some, bindS_some, iteM_t, iteM_f, brS_t, brS_f, ev_c, ev_v, ev_bin, ev_un, ev_chain, ev_and, ev_or, ev_ite, ev_tup, ev_lst, ev_call, ev_bi, ev_ix, ev_sl, ev_rev, ev_cmp', evs_nil, evs_star, ec_c, ec_v, ec_bin, ec_un, ec_chain, ec_and, ec_or, ec_ite, ec_tup, ec_lst, ec_call, ec_bi, ec_ix, ec_sl, ec_rev, ec_cmp, evO_none, evO_some, evT_none, evT_some, evI_rng, evI_rng2, evI_zip, evI_enm, evI_seq, ss_nil', ss_pass', ss_cont', ss_asg', ss_expr', ss_ite', ss_loop', ss_ret', ss_rais', ss_tr', slotM_sh, starM_lst, starM_tup, optI_int, loopM_nil, retM_rt, retM_nx, List.getElem?_cons_zero, List.getElem?_cons_succ, List.set_cons_zero, List.set_cons_succ, bindT, bindTs, wipeE, Tg.slots, Tg.slotss, startE, List.nil_append, List.cons_append, List.append_nil, List.map_cons, List.map_nil, List.length_cons, List.length_nil, List.replicate_succ, List.replicate_zero, Option.bind_some, Option.map_some, Nat.reduceAdd, Nat.reduceSub, Int.reduceEq, Int.reduceLT, Int.reduceLE, decide_true, decide_false, Bool.not_true, Bool.not_false, b_add_i, b_sub_i, b_lt_i, b_le_i, b_gt_i, b_ge_i, b_lt_s, b_eq_i, b_ne_i, b_eq_t0, b_eq_l0, b_ne_t0, b_ne_l0, b_in_1, b_nin_1, u_not, u_neg, bi_len_t, bi_len_l, bi_len_c, bi_tup_l, bi_tup_t, bi_lst_l, bi_lst_t, bi_int_i, bi_edict, bi_min_i, bi_all_map, bi_any_map, sq_l, sq_t, zp_t, zp_l, rv_t, rv_l, sl_t, sl_l, fit0, fit1, fit2, fit3, fit4, fit5, fit6, fit7, fit8, fit9, fit10, fit11, fit12, fit13, fit14, fit15, fit16, fit17, fit18, fit19, fit20, fit21, fit22, fit23, fit24, fit25, fit26, fit27, fit28, fit29, fit30, fit31, fit32, isin_str_non, isin_str_bl, isin_str_int, isin_str_str, isin_str_tup, isin_str_lst, isin_str_dct, isin_tuple_non, isin_tuple_bl, isin_tuple_int, isin_tuple_str, isin_tuple_tup, isin_tuple_lst, isin_tuple_dct, isin_int_non, isin_int_bl, isin_int_int, isin_int_str, isin_int_tup, isin_int_lst, isin_int_dct, isin_bool_non, isin_bool_bl, isin_bool_int, isin_bool_str, isin_bool_tup, isin_bool_lst, isin_bool_dct, isin_list_tuple_non, isin_list_tuple_bl, isin_list_tuple_int, isin_list_tuple_str, isin_list_tuple_tup, isin_list_tuple_lst, isin_list_tuple_dct, isin_tuple_list_non, isin_tuple_list_bl, isin_tuple_list_int, isin_tuple_list_str, isin_tuple_list_tup, isin_tuple_list_lst, isin_tuple_list_dct, isin_list_non, isin_list_bl, isin_list_int, isin_list_str, isin_list_tup, isin_list_lst, isin_list_dct, isin_dict_non, isin_dict_bl, isin_dict_int, isin_dict_str, isin_dict_tup, isin_dict_lst, isin_dict_dct, c0, c1, c2, decide_true, decide_false]
    exact TrS.rt (Sz.lst hp1 (by omega))
  by_cases c3 : p = 3
  · simp only [M.ret_bind, M.bad_bind, M.bind_assoc, M.lift_some, M.lift_none, M.calm_ret, M.map_ret, M.exc_bind, SM.sb_exc, retM_xc, SM.sb_ret, SM.sb_bad, SM.sb_bind, SM.seq_nx, SM.seq_rt, SM.seq_ct, SM.seq_xc, SM.seq_bad, SM.seq_sb, SM.seq_seq, boolM_bl, bindM_some, bindS_some, iteM_t, iteM_f, brS_t, brS_f, ev_c, ev_v, ev_bin, ev_un, ev_chain, ev_and, ev_or, ev_ite, ev_tup, ev_lst, ev_call, ev_bi, ev_ix, ev_sl, ev_rev, ev_cmp', evs_nil, evs_star, ec_c, ec_v, ec_bin, ec_un, ec_chain, ec_and, ec_or, ec_ite, ec_tup, ec_lst, ec_call, ec_bi, ec_ix, ec_sl, ec_rev, ec_cmp, evO_none, evO_some, evT_none, evT_some, evI_rng, evI_rng2, evI_zip, evI_enm, evI_seq, ss_nil', ss_pass', ss_cont', ss_asg', ss_expr', ss_ite', ss_loop', ss_ret', ss_rais', ss_tr', slotM_sh, starM_lst, starM_tup, optI_int, loopM_nil, retM_rt, retM_nx, List.getElem?_cons_zero, List.getElem?_cons_succ, List.set_cons_zero, List.set_cons_succ, bindT, bindTs, wipeE, Tg.slots, Tg.slotss, startE, List.nil_append, List.cons_append, List.append_nil, List.map_cons, List.map_nil, List.length_cons, List.length_nil, List.replicate_succ, List.replicate_zero, Option.bind_some, Option.map_some, Nat.reduceAdd, Nat.reduceSub, Int.reduceEq, Int.reduceLT, Int.reduceLE, decide_true, decide_false, Bool.not_true, Bool.not_false, b_add_i, b_sub_i, b_lt_i, b_le_i, b_gt_i, b_ge_i, b_lt_s, b_eq_i, b_ne_i, b_eq_t0, b_eq_l0, b_ne_t0, b_ne_l0, b_in_1, b_nin_1, u_not, u_neg, bi_len_t, bi_len_l, bi_len_c, bi_tup_l, bi_tup_t, bi_lst_l, bi_lst_t, bi_int_i, bi_edict, bi_min_i, bi_all_map, bi_any_map, sq_l, sq_t, zp_t, zp_l, rv_t, rv_l, sl_t, sl_l, fit0, fit1, fit2, fit3, fit4, fit5, fit6, fit7, fit8, fit9, fit10, fit11, fit12, fit13, fit14, fit15, fit16, fit17, fit18, fit19, fit20, fit21, fit22, fit23, fit24, fit25, fit26, fit27, fit28, fit29, fit30, fit31, fit32, isin_str_non, isin_str_bl, isin_str_int, isin_str_str, isin_str_tup, isin_str_lst, isin_str_dct, isin_tuple_non, isin_tuple_bl, isin_tuple_int, isin_tuple_str, isin_tuple_tup, isin_tuple_lst, isin_tuple_dct, isin_int_non, isin_int_bl, isin_int_int, isin_int_str, isin_int_tup, isin_int_lst, isin_int_dct, isin_bool_non, isin_bool_bl, isin_bool_int, isin_bool_str, isin_bool_tup, isin_bool_lst, isin_bool_dct, isin_list_tuple_non, isin_list_tuple_bl, isin_list_tuple_int, isin_list_tuple_str, isin_list_tuple_tup, isin_list_tuple_lst, isin_list_tuple_dct, isin_tuple_list_non, isin_tuple_list_bl, isin_tuple_list_int, isin_tuple_list_str, isin_tuple_list_tup, isin_tuple_list_lst, isin_tuple_list_dct, isin_list_non, isin_list_bl, isin_list_int, isin_list_str, isin_list_tup, isin_list_lst, isin_list_dct, isin_dict_non, isin_dict_bl, isin_dict_int, isin_dict_str, isin_dict_tup, isin_dict_lst, isin_dict_dct, c0, c1, c2, c3, decide_true, decide_false, cut_to _ a0]
    refine TrS.sb 0 (t_odd (k := k + 1) hn hp h1) fun d hd => ?_
    have hd := odd_sz hd
    have hw2 : d.wt ≤ 110 := hd.w
    try simp only [M.ret_bind, M.bad_bind, M.bind_assoc, M.lift_some, M.lift_none, M.calm_ret, M.map_ret, M.exc_bind, SM.sb_exc, retM_xc, SM.sb_ret, SM.sb_bad, SM.sb_bind, SM.seq_nx, SM.seq_rt, SM.seq_ct, SM.seq_xc, SM.seq_bad, SM.seq_sb, SM.seq_seq, boolM_bl, bindM_some, bindS_some, iteM_t, iteM_f, brS_t, brS_f, ev_c, ev_v, ev_bin, ev_un, ev_chain, ev_and, ev_or, ev_ite, ev_tup, ev_lst, ev_call, ev_bi, ev_ix, ev_sl, ev_rev, ev_cmp', evs_nil, evs_star, ec_c, ec_v, ec_bin, ec_un, ec_chain, ec_and, ec_or, ec_ite, ec_tup, ec_lst, ec_call, ec_bi, ec_ix, ec_sl, ec_rev, ec_cmp, evO_none, evO_some, evT_none, evT_some, evI_rng, evI_rng2, evI_zip, evI_enm, evI_seq, ss_nil', ss_pass', ss_cont', ss_asg', ss_expr', ss_ite', ss_loop', ss_ret', ss_rais', ss_tr', slotM_sh, starM_lst, starM_tup, optI_int, loopM_nil, retM_rt, retM_nx, List.getElem?_cons_zero, List.getElem?_cons_succ, List.set_cons_zero, List.set_cons_succ, bindT, bindTs, wipeE, Tg.slots, Tg.slotss, startE, List.nil_append, List.cons_append, List.append_nil, List.map_cons, List.map_nil, List.length_cons, List.length_nil, List.replicate_succ, List.replicate_zero, Option.bind_some, Option.map_some, Nat.reduceAdd, Nat.reduceSub, Int.reduceEq, Int.reduceLT, Int.reduceLE, decide_true, decide_false, Bool.not_true, Bool.not_false, b_add_i, b_sub_i, b_lt_i, b_le_i, b_gt_i, b_ge_i, b_lt_s, b_eq_i, b_ne_i, b_eq_t0, b_eq_l0, b_ne_t0, b_ne_l0, b_in_1, b_nin_1, u_not, u_neg, bi_len_t, bi_len_l, bi_len_c, bi_tup_l, bi_tup_t, bi_lst_l, bi_lst_t, bi_int_i, bi_edict, bi_min_i, bi_all_map, bi_any_map, sq_l, sq_t, zp_t, zp_l, rv_t, rv_l, sl_t, sl_l, fit0, fit1, fit2, fit3, fit4, fit5, fit6, fit7, fit8, fit9, fit10, fit11, fit12, fit13, fit14, fit15, fit16, fit17, fit18, fit19, fit20, fit21, fit22, fit23, fit24, fit25, fit26, fit27, fit28, fit29, fit30, fit31, fit32, isin_str_non, isin_str_bl, isin_str_int, isin_str_str, isin_str_tup, isin_str_lst, isin_str_dct, isin_tuple_non, isin_tuple_bl, isin_tuple_int, isin_tuple_str, isin_tuple_tup, isin_tuple_lst, isin_tuple_dct, isin_int_non, isin_int_bl, isin_int_int, isin_int_str, isin_int_tup, isin_int_lst, isin_int_dct, isin_bool_non, isin_bool_bl, isin_bool_int, isin_bool_str, isin_bool_tup, isin_bool_lst, isin_bool_dct, isin_list_tuple_non, isin_list_tuple_bl, isin_list_tuple_int, isin_list_tuple_str, isin_list_tuple_tup, isin_list_tuple_lst, isin_list_tuple_dct, isin_tuple_list_non, isin_tuple_list_bl, isin_tuple_list_int, isin_tuple_list_str, isin_tuple_list_tup, isin_tuple_list_lst, isin_tuple_list_dct, isin_list_non, isin_list_bl, isin_list_int, isin_list_str, isin_list_tup, isin_list_lst, isin_list_dct, isin_dict_non, isin_dict_bl, isin_dict_int, isin_dict_str, isin_dict_tup, isin_dict_lst, isin_dict_dct]
    rw [b_add_t (by simp only [List.length_append, List.length_take, List.length_cons, List.length_nil]; unfold LIM; omega)]
    simp only [M.ret_bind, M.bad_bind, M.bind_assoc, M.lift_some, M.lift_none, M.calm_ret, M.map_ret, M.exc_bind, SM.sb_exc, retM_xc, SM.sb_ret, SM.sb_bad, SM.sb_bind, SM.seq_nx, SM.seq_rt, SM.seq_ct, SM.seq_xc, SM.seq_bad, SM.seq_sb, SM.seq_seq, boolM_bl, bindM_some, bindS_some, iteM_t, iteM_f, brS_t, brS_f, ev_c, ev_v, ev_bin, ev_un, ev_chain, ev_and, ev_or, ev_ite, ev_tup, ev_lst, ev_call, ev_bi, ev_ix, ev_sl, ev_rev, ev_cmp', evs_nil, evs_star, ec_c, ec_v, ec_bin, ec_un, ec_chain, ec_and, ec_or, ec_ite, ec_tup, ec_lst, ec_call, ec_bi, ec_ix, ec_sl, ec_rev, ec_cmp, evO_none, evO_some, evT_none, evT_some, evI_rng, evI_rng2, evI_zip, evI_enm, evI_seq, ss_nil', ss_pass', ss_cont', ss_asg', ss_expr', ss_ite', ss_loop', ss_ret', ss_rais', ss_tr', slotM_sh, starM_lst, starM_tup, optI_int, loopM_nil, retM_rt, retM_nx, List.getElem?_cons_zero, List.getElem?_cons_succ, List.set_cons_zero, List.set_cons_succ, bindT, bindTs, wipeE, Tg.slots, Tg.slotss, startE, List.nil_append, List.cons_append, List.append_nil, List.map_cons, List.map_nil, List.length_cons, List.length_nil, List.replicate_succ, List.replicate_zero, Option.bind_some, Option.map_some, Nat.reduceAdd, Nat.reduceSub, Int.reduceEq, Int.reduceLT, Int.reduceLE, decide_true, decide_false, Bool.not_true, Bool.not_false, b_add_i, b_sub_i, b_lt_i, b_le_i, b_gt_i, b_ge_i, b_lt_s, b_eq_i, b_ne_i, b_eq_t0, b_eq_l0, b_ne_t0, b_ne_l0, b_in_1, b_nin_1, u_not, u_neg, bi_len_t, bi_len_l, bi_len_c, bi_tup_l, bi_tup_t, bi_lst_l, bi_lst_t, bi_int_i, bi_edict, bi_min_i, bi_all_map, bi_any_map, sq_l, sq_t, zp_t, zp_l, rv_t, rv_l, sl_t, sl_l, fit0, fit1, fit2, fit3, fit4, fit5, fit6, fit7, fit8, fit9, fit10, fit11, fit12, fit13, fit14, fit15, fit16, fit17, fit18, fit19, fit20, fit21, fit22, fit23, fit24, fit25, fit26, fit27, fit28, fit29, fit30, fit31, fit32, isin_str_non, isin_str_bl, isin_str_int, isin_str_str, isin_str_tup, isin_str_lst, isin_str_dct, isin_tuple_non, isin_tuple_bl, isin_tuple_int, isin_tuple_str, isin_tuple_tup, isin_tuple_lst, isin_tuple_dct, isin_int_non, isin_int_bl, isin_int_int, isin_int_str, isin_int_tup, isin_int_lst, isin_int_dct, isin_bool_non, isin_bool_bl, isin_bool_int, isin_bool_str, isin_bool_tup, isin_bool_lst, isin_bool_dct, isin_list_tuple_non, isin_list_tuple_bl, isin_list_tuple_int, isin_list_tuple_str, isin_list_tuple_tup, isin_list_tuple_lst, isin_list_tuple_dct, isin_tuple_list_non, isin_tuple_list_bl, isin_tuple_list_int, isin_tuple_list_str, isin_tuple_list_tup, isin_tuple_list_lst, isin_tuple_list_dct, isin_list_non, isin_list_bl, isin_list_int, isin_list_str, isin_list_tup, isin_list_lst, isin_list_dct, isin_dict_non, isin_dict_bl, isin_dict_int, isin_dict_str, isin_dict_tup, isin_dict_lst, isin_dict_dct, cut_from _ a0]
    rw [b_add_t (by simp only [List.length_append, List.length_take, List.length_drop, List.length_cons, List.length_nil]; unfold LIM; omega)]
    simp only [M.ret_bind, M.bad_bind, M.bind_assoc, M.lift_some, M.lift_none, M.calm_ret, M.map_ret, M.exc_bind, SM.sb_exc, retM_xc, SM.sb_ret, SM.sb_bad, SM.sb_bind, SM.seq_nx, SM.seq_rt, SM.seq_ct, SM.seq_xc, SM.seq_bad, SM.seq_sb, SM.seq_seq, boolM_bl, bindM_some, bindS_some, iteM_t, iteM_f, brS_t, brS_f, ev_c, ev_v, ev_bin, ev_un, ev_chain, ev_and, ev_or, ev_ite, ev_tup, ev_lst, ev_call, ev_bi, ev_ix, ev_sl, ev_rev, ev_cmp', evs_nil, evs_star, ec_c, ec_v, ec_bin, ec_un, ec_chain, ec_and, ec_or, ec_ite, ec_tup, ec_lst, ec_call, ec_bi, ec_ix, ec_sl, ec_rev, ec_cmp, evO_none, evO_some, evT_none, evT_some, evI_rng, evI_rng2, evI_zip, evI_enm, evI_seq, ss_nil', ss_pass', ss_cont', ss_asg', ss_expr', ss_ite', ss_loop', ss_ret', ss_rais', ss_tr', slotM_sh, starM_lst, starM_tup, optI_int, loopM_nil, retM_rt, retM_nx, List.getElem?_cons_zero, List.getElem?_cons_succ, List.set_cons_zero, List.set_cons_succ, bindT, bindTs, wipeE, Tg.slots, Tg.slotss, startE, List.nil_append, List.cons_append, List.append_nil, List.map_cons, List.map_nil, List.length_cons, List.length_nil, List.replicate_succ, List.replicate_zero, Option.bind_some, Option.map_some, Nat.reduceAdd, Nat.reduceSub, Int.reduceEq, Int.reduceLT, Int.reduceLE, decide_true, decide_false, Bool.not_true, Bool.not_false]
    refine TrS.rt (big _ (fun y hy => ?_) ?_)
    · rcases List.mem_append.mp hy with hy | hy
      · rcases List.mem_append.mp hy with hy | hy
        · exact tk _ y hy
        · rw [List.mem_singleton] at hy
          subst hy
          exact ⟨fine_le (by omega) _ hd.f, Nat.le_trans hd.d (by omega)⟩
      · exact dr _ y hy
    · rw [wts_append, wts_append, wts_cons, wts_nil]
      have := wts_take xs a.toNat
      omega
  by_cases c4 : p = 4
  · simp only [M.ret_bind, M.bad_bind, M.bind_assoc, M.lift_some, M.lift_none, M.calm_ret, M.map_ret, M.exc_bind, SM.sb_exc, retM_xc, SM.sb_ret, SM.sb_bad, SM.sb_bind, SM.seq_nx, SM.seq_rt, SM.seq_ct, SM.seq_xc, SM.seq_bad, SM.seq_sb, SM.seq_seq, boolM_bl, bindM_some, bindS_some, iteM_t, iteM_f, brS_t, brS_f, ev_c, ev_v, ev_bin, ev_un, ev_chain, ev_and, ev_or, ev_ite, ev_tup, ev_lst, ev_call, ev_bi, ev_ix, ev_sl, ev_rev, ev_cmp', evs_nil, evs_star, ec_c, ec_v, ec_bin, ec_un, ec_chain, ec_and, ec_or, ec_ite, ec_tup, ec_lst, ec_call, ec_bi, ec_ix, ec_sl, ec_rev, ec_cmp, evO_none, evO_some, evT_none, evT_some, evI_rng, evI_rng2, evI_zip, evI_enm, evI_seq, ss_nil', ss_pass', ss_cont', ss_asg', ss_expr', ss_ite', ss_loop', ss_ret', ss_rais', ss_tr', slotM_sh, starM_lst, starM_tup, optI_int, loopM_nil, retM_rt, retM_nx, List.getElem?_cons_zero, List.getElem?_cons_succ, List.set_cons_zero, List.set_cons_succ, bindT, bindTs, wipeE, Tg.slots, Tg.slotss, startE, List.nil_append, List.cons_append, List.append_nil, List.map_cons, List.map_nil, List.length_cons, List.length_nil, List.replicate_succ, List.replicate_zero, Option.bind_some, Option.map_some, Nat.reduceAdd, Nat.reduceSub, Int.reduceEq, Int.reduceLT, Int.reduceLE, decide_true, decide_false, Bool.not_true, Bool.not_false, b_add_i, b_sub_i, b_lt_i, b_le_i, b_gt_i, b_ge_i, b_lt_s, b_eq_i, b_ne_i, b_eq_t0, b_eq_l0, b_ne_t0, b_ne_l0, b_in_1, b_nin_1, u_not, u_neg, bi_len_t, bi_len_l, bi_len_c, bi_tup_l, bi_tup_t, bi_lst_l, bi_lst_t, bi_int_i, bi_edict, bi_min_i, bi_all_map, bi_any_map, sq_l, sq_t, zp_t, zp_l, rv_t, rv_l, sl_t, sl_l, fit0, fit1, fit2, fit3, fit4, fit5, fit6, fit7, fit8, fit9, fit10, fit11, fit12, fit13, fit14, fit15, fit16, fit17, fit18, fit19, fit20, fit21, fit22, fit23, fit24, fit25, fit26, fit27, fit28, fit29, fit30, fit31, fit32, isin_str_non, isin_str_bl, isin_str_int, isin_str_str, isin_str_tup, isin_str_lst, isin_str_dct, isin_tuple_non, isin_tuple_bl, isin_tuple_int, isin_tuple_str, isin_tuple_tup, isin_tuple_lst, isin_tuple_dct, isin_int_non, isin_int_bl, isin_int_int, isin_int_str, isin_int_tup, isin_int_lst, isin_int_dct, isin_bool_non, isin_bool_bl, isin_bool_int, isin_bool_str, isin_bool_tup, isin_bool_lst, isin_bool_dct, isin_list_tuple_non, isin_list_tuple_bl, isin_list_tuple_int, isin_list_tuple_str, isin_list_tuple_tup, isin_list_tuple_lst, isin_list_tuple_dct, isin_tuple_list_non, isin_tuple_list_bl, isin_tuple_list_int, isin_tuple_list_str, isin_tuple_list_tup, isin_tuple_list_lst, isin_tuple_list_dct, isin_list_non, isin_list_bl, isin_list_int, isin_list_str, isin_list_tup, isin_list_lst, isin_list_dct, isin_dict_non, isin_dict_bl, isin_dict_int, isin_dict_str, isin_dict_tup, isin_dict_lst, isin_dict_dct, c0, c1, c2, c3, c4, decide_true, decide_false]
    refine TrS.rt (big _ (fun y hy => hp1 y (List.mem_reverse.mp hy)) ?_)
    rw [wts_reverse]
    omega
  · have hv : a.toNat < xs.length := by omega
    have ev : ixD (.tup xs) (.int a) = some xs[a.toNat] := by rw [ix_tn a0 a1]; exact List.getElem?_eq_getElem hv
    simp only [M.ret_bind, M.bad_bind, M.bind_assoc, M.lift_some, M.lift_none, M.calm_ret, M.map_ret, M.exc_bind, SM.sb_exc, retM_xc, SM.sb_ret, SM.sb_bad, SM.sb_bind, SM.seq_nx, SM.seq_rt, SM.seq_ct, SM.seq_xc, SM.seq_bad, SM.seq_sb, SM.seq_seq, boolM_bl, bindM_some, bindS_some, iteM_t, iteM_f, brS_t, brS_f, ev_c, ev_v, ev_bin, ev_un, ev_chain, ev_and, ev_or, ev_ite, ev_tup, ev_lst, ev_call, ev_bi, ev_ix, ev_sl, ev_rev, ev_cmp', evs_nil, evs_star, ec_c, ec_v, ec_bin, ec_un, ec_chain, ec_and, ec_or, ec_ite, ec_tup, ec_lst, ec_call, ec_bi, ec_ix, ec_sl, ec_rev, ec_cmp, evO_none, evO_some, evT_none, evT_some, evI_rng, evI_rng2, evI_zip, evI_enm, evI_seq, ss_nil', ss_pass', ss_cont', ss_asg', ss_expr', ss_ite', ss_loop', ss_ret', ss_rais', ss_tr', slotM_sh, starM_lst, starM_tup, optI_int, loopM_nil, retM_rt, retM_nx, List.getElem?_cons_zero, List.getElem?_cons_succ, List.set_cons_zero, List.set_cons_succ, bindT, bindTs, wipeE, Tg.slots, Tg.slotss, startE, List.nil_append, List.cons_append, List.append_nil, List.map_cons, List.map_nil, List.length_cons, List.length_nil, List.replicate_succ, List.replicate_zero, Option.bind_some, Option.map_some, Nat.reduceAdd, Nat.reduceSub, Int.reduceEq, Int.reduceLT, Int.reduceLE, decide_true, decide_false, Bool.not_true, Bool.not_false, b_add_i, b_sub_i, b_lt_i, b_le_i, b_gt_i, b_ge_i, b_lt_s, b_eq_i, b_ne_i, b_eq_t0, b_eq_l0, b_ne_t0, b_ne_l0, b_in_1, b_nin_1, u_not, u_neg, bi_len_t, bi_len_l, bi_len_c, bi_tup_l, bi_tup_t, bi_lst_l, bi_lst_t, bi_int_i, bi_edict, bi_min_i, bi_all_map, bi_any_map, sq_l, sq_t, zp_t, zp_l, rv_t, rv_l, sl_t, sl_l, fit0, fit1, fit2, fit3, fit4, fit5, fit6, fit7, fit8, fit9, fit10, fit11, fit12, fit13, fit14, fit15, fit16, fit17, fit18, fit19, fit20, fit21, fit22, fit23, fit24, fit25, fit26, fit27, fit28, fit29, fit30, fit31, fit32, isin_str_non, isin_str_bl, isin_str_int, isin_str_str, isin_str_tup, isin_str_lst, isin_str_dct, isin_tuple_non, isin_tuple_bl, isin_tuple_int, isin_tuple_str, isin_tuple_tup, isin_tuple_lst, isin_tuple_dct, isin_int_non, isin_int_bl, isin_int_int, isin_int_str, isin_int_tup, isin_int_lst, isin_int_dct, isin_bool_non, isin_bool_bl, isin_bool_int, isin_bool_str, isin_bool_tup, isin_bool_lst, isin_bool_dct, isin_list_tuple_non, isin_list_tuple_bl, isin_list_tuple_int, isin_list_tuple_str, isin_list_tuple_tup, isin_list_tuple_lst, isin_list_tuple_dct, isin_tuple_list_non, isin_tuple_list_bl, isin_tuple_list_int, isin_tuple_list_str, isin_tuple_list_tup, isin_tuple_list_lst, isin_tuple_list_dct, isin_list_non, isin_list_bl, isin_list_int, isin_list_str, isin_list_tup, isin_list_lst, isin_list_dct, isin_dict_non, isin_dict_bl, isin_dict_int, isin_dict_str, isin_dict_tup, isin_dict_lst, isin_dict_dct, c0, c1, c2, c3, c4, decide_true, decide_false, cut_to _ a0, ev]
    refine TrS.sb 0 (ih _ (List.getElem_mem hv)) (fun d hd => ?_)
    rw [b_add_t (by simp only [List.length_append, List.length_take, List.length_cons, List.length_nil]; unfold LIM; omega)]
    simp only [M.ret_bind, M.bad_bind, M.bind_assoc, M.lift_some, M.lift_none, M.calm_ret, M.map_ret, M.exc_bind, SM.sb_exc, retM_xc, SM.sb_ret, SM.sb_bad, SM.sb_bind, SM.seq_nx, SM.seq_rt, SM.seq_ct, SM.seq_xc, SM.seq_bad, SM.seq_sb, SM.seq_seq, boolM_bl, bindM_some, bindS_some, iteM_t, iteM_f, brS_t, brS_f, ev_c, ev_v, ev_bin, ev_un, ev_chain, ev_and, ev_or, ev_ite, ev_tup, ev_lst, ev_call, ev_bi, ev_ix, ev_sl, ev_rev, ev_cmp', evs_nil, evs_star, ec_c, ec_v, ec_bin, ec_un, ec_chain, ec_and, ec_or, ec_ite, ec_tup, ec_lst, ec_call, ec_bi, ec_ix, ec_sl, ec_rev, ec_cmp, evO_none, evO_some, evT_none, evT_some, evI_rng, evI_rng2, evI_zip, evI_enm, evI_seq, ss_nil', ss_pass', ss_cont', ss_asg', ss_expr', ss_ite', ss_loop', ss_ret', ss_rais', ss_tr', slotM_sh, starM_lst, starM_tup, optI_int, loopM_nil, retM_rt, retM_nx, List.getElem?_cons_zero, List.getElem?_cons_succ, List.set_cons_zero, List.set_cons_succ, bindT, bindTs, wipeE, Tg.slots, Tg.slotss, startE, List.nil_append, List.cons_append, List.append_nil, List.map_cons, List.map_nil, List.length_cons, List.length_nil, List.replicate_succ, List.replicate_zero, Option.bind_some, Option.map_some, Nat.reduceAdd, Nat.reduceSub, Int.reduceEq, Int.reduceLT, Int.reduceLE, decide_true, decide_false, Bool.not_true, Bool.not_false, b_add_i, b_sub_i, b_lt_i, b_le_i, b_gt_i, b_ge_i, b_lt_s, b_eq_i, b_ne_i, b_eq_t0, b_eq_l0, b_ne_t0, b_ne_l0, b_in_1, b_nin_1, u_not, u_neg, bi_len_t, bi_len_l, bi_len_c, bi_tup_l, bi_tup_t, bi_lst_l, bi_lst_t, bi_int_i, bi_edict, bi_min_i, bi_all_map, bi_any_map, sq_l, sq_t, zp_t, zp_l, rv_t, rv_l, sl_t, sl_l, fit0, fit1, fit2, fit3, fit4, fit5, fit6, fit7, fit8, fit9, fit10, fit11, fit12, fit13, fit14, fit15, fit16, fit17, fit18, fit19, fit20, fit21, fit22, fit23, fit24, fit25, fit26, fit27, fit28, fit29, fit30, fit31, fit32, isin_str_non, isin_str_bl, isin_str_int, isin_str_str, isin_str_tup, isin_str_lst, isin_str_dct, isin_tuple_non, isin_tuple_bl, isin_tuple_int, isin_tuple_str, isin_tuple_tup, isin_tuple_lst, isin_tuple_dct, isin_int_non, isin_int_bl, isin_int_int, isin_int_str, isin_int_tup, isin_int_lst, isin_int_dct, isin_bool_non, isin_bool_bl, isin_bool_int, isin_bool_str, isin_bool_tup, isin_bool_lst, isin_bool_dct, isin_list_tuple_non, isin_list_tuple_bl, isin_list_tuple_int, isin_list_tuple_str, isin_list_tuple_tup, isin_list_tuple_lst, isin_list_tuple_dct, isin_tuple_list_non, isin_tuple_list_bl, isin_tuple_list_int, isin_tuple_list_str, isin_tuple_list_tup, isin_tuple_list_lst, isin_tuple_list_dct, isin_list_non, isin_list_bl, isin_list_int, isin_list_str, isin_list_tup, isin_list_lst, isin_list_dct, isin_dict_non, isin_dict_bl, isin_dict_int, isin_dict_str, isin_dict_tup, isin_dict_lst, isin_dict_dct, cut_from _ (show (0 : Int) ≤ a + 1 by omega), an]
    rw [b_add_t (by simp only [List.length_append, List.length_take, List.length_drop, List.length_cons, List.length_nil]; unfold LIM; omega)]
    simp only [M.ret_bind, M.bad_bind, M.bind_assoc, M.lift_some, M.lift_none, M.calm_ret, M.map_ret, M.exc_bind, SM.sb_exc, retM_xc, SM.sb_ret, SM.sb_bad, SM.sb_bind, SM.seq_nx, SM.seq_rt, SM.seq_ct, SM.seq_xc, SM.seq_bad, SM.seq_sb, SM.seq_seq, boolM_bl, bindM_some, bindS_some, iteM_t, iteM_f, brS_t, brS_f, ev_c, ev_v, ev_bin, ev_un, ev_chain, ev_and, ev_or, ev_ite, ev_tup, ev_lst, ev_call, ev_bi, ev_ix, ev_sl, ev_rev, ev_cmp', evs_nil, evs_star, ec_c, ec_v, ec_bin, ec_un, ec_chain, ec_and, ec_or, ec_ite, ec_tup, ec_lst, ec_call, ec_bi, ec_ix, ec_sl, ec_rev, ec_cmp, evO_none, evO_some, evT_none, evT_some, evI_rng, evI_rng2, evI_zip, evI_enm, evI_seq, ss_nil', ss_pass', ss_cont', ss_asg', ss_expr', ss_ite', ss_loop', ss_ret', ss_rais', ss_tr', slotM_sh, starM_lst, starM_tup, optI_int, loopM_nil, retM_rt, retM_nx, List.getElem?_cons_zero, List.getElem?_cons_succ, List.set_cons_zero, List.set_cons_succ, bindT, bindTs, wipeE, Tg.slots, Tg.slotss, startE, List.nil_append, List.cons_append, List.append_nil, List.map_cons, List.map_nil, List.length_cons, List.length_nil, List.replicate_succ, List.replicate_zero, Option.bind_some, Option.map_some, Nat.reduceAdd, Nat.reduceSub, Int.reduceEq, Int.reduceLT, Int.reduceLE, decide_true, decide_false, Bool.not_true, Bool.not_false]
    refine TrS.rt (big _ (fun y hy => ?_) ?_)
    · rcases List.mem_append.mp hy with hy | hy
      · rcases List.mem_append.mp hy with hy | hy
        · exact tk _ y hy
        · rw [List.mem_singleton] at hy
          subst hy
          exact ⟨hd.f, hd.d⟩
      · exact dr _ y hy
    · rw [wts_append, wts_append, wts_cons, wts_nil]
      have e1 := wts_take xs a.toNat
      have e2 : xs.drop a.toNat = xs[a.toNat] :: xs.drop (a.toNat + 1) := List.drop_eq_getElem_cons hv
      rw [e2, wts_cons] at e1
      have e3 : d.wt ≤ 2 * xs[a.toNat].wt + 112 := hd.w
      omega
theorem t_bent : ∀ (q k w : Nat) (d : D), w ≤ 2000 → Sz n w q d → Tr (5 * q + 5) (runF P pr up (k + q + 3) "_law_bent" [.mm, d]) (Bt n w q) := by
  intro q
  induction q with
  | zero =>
    intro k w d hw hd
    cases d with
    | non => exact bent_other hn hp h1 h hn9 hn2 hw (.inl rfl)
    | bl b => exact bent_other hn hp h1 h hn9 hn2 hw (.inr (.inl ⟨_, rfl⟩))
    | int i => exact bent_int hn hp h1 h hn9 hn2 hw (by simpa [D.fine] using hd.f)
    | str x => exact bent_str hn hp h1 h hn9 hn2 hw (fine_str.mp hd.f).1 (fine_str.mp hd.f).2 (by have := hd.w; rwa [wt_str] at this)
    | tup xs => exact absurd hd.d dp_tup0
    | lst xs => exact bent_other hn hp h1 h hn9 hn2 hw (.inr (.inr (.inl ⟨_, rfl⟩)))
    | dct kv => exact bent_other hn hp h1 h hn9 hn2 hw (.inr (.inr (.inr (.inl ⟨_, rfl⟩))))
    | ins c fs => have := hd.f; simp [D.fine] at this
    | mm => have := hd.f; simp [D.fine] at this
    | scr ns => have := hd.f; simp [D.fine] at this
  | succ q ih =>
    intro k w d hw hd
    cases d with
    | non => exact (bent_other (k := k + (q + 1)) hn hp h1 h hn9 hn2 hw (.inl rfl)).le (by omega)
    | bl b => exact (bent_other (k := k + (q + 1)) hn hp h1 h hn9 hn2 hw (.inr (.inl ⟨_, rfl⟩))).le (by omega)
    | int i => exact (bent_int (k := k + (q + 1)) hn hp h1 h hn9 hn2 hw (by simpa [D.fine] using hd.f)).le (by omega)
    | str x => exact (bent_str (k := k + (q + 1)) hn hp h1 h hn9 hn2 hw (fine_str.mp hd.f).1 (fine_str.mp hd.f).2 (by have := hd.w; rwa [wt_str] at this)).le (by omega)
    | tup xs =>
      by_cases hx : xs = []
      · subst hx
        exact (bent_other (k := k + (q + 1)) hn hp h1 h hn9 hn2 hw (.inr (.inr (.inr (.inr rfl))))).le (by omega)
      · have hwx : wts xs ≤ w := by have := hd.w; rwa [wt_tup] at this
        have z := bent_tup (k := k + q) hn hp h1 h hn9 hn2 hw hx hd fun x hx => ih k x.wt x (by have := wts_mem hx; omega) ⟨fine_tup.mp hd.f x hx, Nat.le_refl _, dp_tup.mp hd.d x hx⟩
        exact z
    | lst xs => exact (bent_other (k := k + (q + 1)) hn hp h1 h hn9 hn2 hw (.inr (.inr (.inl ⟨_, rfl⟩)))).le (by omega)
    | dct kv => exact (bent_other (k := k + (q + 1)) hn hp h1 h hn9 hn2 hw (.inr (.inr (.inr (.inl ⟨_, rfl⟩))))).le (by omega)
    | ins c fs => have := hd.f; simp [D.fine] at this
    | mm => have := hd.f; simp [D.fine] at this
    | scr ns => have := hd.f; simp [D.fine] at this
end
end
end Ev
set_option Elab.async false
set_option linter.all false
set_option maxRecDepth 100000
set_option maxHeartbeats 2000000
/-! Pl10: what repr shows is a text; try. -/
namespace Ev
open PySem
def okL (l : List Nat) : Prop := ∀ c ∈ l, c < 0x110000
theorem strOk_iff {x : Str} : PyData.strOk x = true ↔ okL x.cps.toList := by
  unfold PyData.strOk okL
  rw [Array.all_eq_true_iff_forall_mem]
  constructor
  · intro h c hc
    simpa using h c (by simpa using hc)
  · intro h c hc
    simpa using h c (by simpa using hc)
theorem okL_app {a b : List Nat} (h1 : okL a) (h2 : okL b) : okL (a ++ b) := fun c hc => (List.mem_append.mp hc).elim (h1 c) (h2 c)
theorem char_ok (c : Char) : c.toNat < 0x110000 := by
  have h := c.valid
  unfold UInt32.isValidChar Nat.isValidChar at h
  show c.val.toNat < _
  omega
theorem strOk_of (s : String) : PyData.strOk (Str.ofString s) = true := by
  rw [strOk_iff, Str.ofString_eq_toList]
  intro c hc
  simp only [List.mem_map] at hc
  obtain ⟨d, _, rfl⟩ := hc
  exact char_ok d
theorem strOk_cat {x y : Str} (hx : PyData.strOk x = true) (hy : PyData.strOk y = true) : PyData.strOk (x ++ y) = true := strOk_app hx hy
theorem reprChar_ok {q c : Nat} (hq : q < 0x110000) (hc : c < 0x110000) : okL (Builtin.Str.reprChar q c) := by
  have hx : ∀ w, okL (List.replicate (w - ((Nat.toDigits 16 c).map Char.toNat).length) 48 ++ (Nat.toDigits 16 c).map Char.toNat) := fun w d hd => by
    rcases List.mem_append.mp hd with hd | hd
    · rw [List.eq_of_mem_replicate hd]; decide
    · obtain ⟨e, _, rfl⟩ := List.mem_map.mp hd
      exact char_ok e
  have two : ∀ a b : Nat, a < 0x110000 → b < 0x110000 → okL [a, b] := fun a b ha hb d hd => by
    simp only [List.mem_cons, List.not_mem_nil, or_false] at hd
    rcases hd with rfl | rfl
    · exact ha
    · exact hb
  unfold Builtin.Str.reprChar
  dsimp only
  repeat' split
  · exact two _ _ (by decide) hc
  · exact two _ _ (by decide) (by decide)
  · exact two _ _ (by decide) (by decide)
  · exact two _ _ (by decide) (by decide)
  · intro d hd
    rw [List.mem_singleton] at hd
    omega
  · exact okL_app (two _ _ (by decide) (by decide)) (hx 2)
  · exact okL_app (two _ _ (by decide) (by decide)) (hx 4)
  · exact okL_app (two _ _ (by decide) (by decide)) (hx 8)
theorem foldl_ok {q : Nat} (hq : q < 0x110000) : ∀ (l : List Nat) (acc : Array Nat), okL l → okL acc.toList → okL (l.foldl (fun out c => out ++ (Builtin.Str.reprChar q c).toArray) acc).toList
  | [], _, _, h => h
  | c :: r, acc, hl, h => by
    rw [List.foldl_cons]
    refine foldl_ok hq r _ (fun d hd => hl d (List.mem_cons_of_mem _ hd)) ?_
    rw [Array.toList_append]
    exact okL_app h (reprChar_ok hq (hl c List.mem_cons_self))
theorem quote_ok (x : Str) : reprQuote x < 0x110000 := by
  unfold reprQuote
  split <;> decide
theorem strOk_repr {x : Str} (hx : PyData.strOk x = true) : PyData.strOk (reprText x) = true := by
  rw [strOk_iff] at hx ⊢
  unfold reprText
  show okL ((x.cps.foldl (fun out c => out ++ (Builtin.Str.reprChar (reprQuote x) c).toArray) #[reprQuote x]).push (reprQuote x)).toList
  rw [Array.toList_push, ← Array.foldl_toList]
  refine okL_app (foldl_ok (quote_ok x) _ _ hx ?_) ?_
  · intro d hd
    have hd : d = reprQuote x := by simpa using hd
    rw [hd]
    exact quote_ok x
  · intro d hd
    rw [List.mem_singleton] at hd
    rw [hd]
    exact quote_ok x
theorem strOk_join {sep : Str} (hs : PyData.strOk sep = true) : ∀ {ts : List Str}, (∀ t ∈ ts, PyData.strOk t = true) → PyData.strOk (Str.join sep ts) = true
  | [], _ => by
    show PyData.strOk Str.empty = true
    decide +kernel
  | [x], h => h x List.mem_cons_self
  | x :: y :: r, h => by
    show PyData.strOk (x ++ sep ++ Str.join sep (y :: r)) = true
    exact strOk_cat (strOk_cat (h x List.mem_cons_self) hs) (strOk_join hs fun t ht => h t (List.mem_cons_of_mem _ ht))
theorem strOk_from : ∀ (ts : List Str) (k : Nat) (acc : Str), (∀ t ∈ ts, PyData.strOk t = true) → PyData.strOk acc = true → PyData.strOk (textFrom k acc ts) = true
  | [], _, _, _, h => h
  | t :: r, k, acc, hs, h => by
    show PyData.strOk (textFrom (k + 1) (acc ++ (if k > 0 then ", " else "" : String) ++ t) r) = true
    exact strOk_from r _ _ (fun u hu => hs u (List.mem_cons_of_mem _ hu)) (strOk_cat (strOk_cat h (strOk_of _)) (hs t List.mem_cons_self))
mutual
theorem strOk_shown {n : Nat} : ∀ d : D, d.fine n = true → PyData.strOk d.py.shown = true
  | .non, _ => strOk_of _
  | .bl b, _ => by
    simp only [D.py, PyData.shown]
    split <;> exact strOk_of _
  | .int i, _ => by
    simp only [D.py, PyData.shown]
    exact strOk_of _
  | .str x, h => by
    simp only [D.py, PyData.shown]
    exact strOk_repr (fine_str.mp h).2
  | .tup xs, h => by
    simp only [D.py, PyData.shown]
    unfold tupleText
    exact strOk_cat (strOk_cat (strOk_of _) (strOk_join (strOk_of _) (strOk_showns xs (by simpa [D.fine] using h)))) (strOk_of _)
  | .lst xs, h => by
    simp only [D.py, PyData.shown]
    unfold listText
    exact strOk_cat (strOk_from _ _ _ (strOk_showns xs (by simpa [D.fine] using h)) (strOk_of _)) (strOk_of _)
  | .dct kvs, h => by
    simp only [D.fine, List.isEmpty_iff] at h
    subst h
    simp only [D.py, PyData.shown, D.pykv, PyData.shownKv]
    decide +kernel
  | .ins _ _, h => by simp [D.fine] at h
  | .mm, h => by simp [D.fine] at h
  | .scr _, h => by simp [D.fine] at h
theorem strOk_showns {n : Nat} : ∀ xs : List D, D.fines n xs = true → ∀ t ∈ PyData.shownAll (D.pys xs), PyData.strOk t = true
  | [], _, t, ht => by simp [D.pys, PyData.shownAll] at ht
  | x :: xs, h, t, ht => by
    simp only [D.fines, Bool.and_eq_true] at h
    simp only [D.pys, PyData.shownAll, List.mem_cons] at ht
    rcases ht with rfl | ht
    · exact strOk_shown x h.1
    · exact strOk_showns xs h.2 t ht
end
/-! ### equal texts -/
theorem b_ne_s {x y : Str} (hx : PyData.strOk x = true) (hy : PyData.strOk y = true) : binD .ne (.str x) (.str y) = some (.bl (!decide (x = y))) := by
  rw [b_ne (eqok_str hx) (eqok_str hy)]
  simp only [D.py, PyData.eqv]
  rfl
/-! ### try -/
section
variable {up : List (Str × Str)} {hs : List Hd} {k : Env → SM} {e : Env}
theorem catch_nx : catchM up hs (SM.nx e) k = k e := rfl
theorem catch_rt {d : D} : catchM up hs (SM.rt d) k = SM.rt d := rfl
theorem catch_set {c : Str} {v d : D} {sl i : Nat} {h : Hx} (hl : sl < e.length) (hd : evH (e.set sl .no) v h = some d) : catchM up (⟨c, sl, .set i h⟩ :: hs) (SM.xc c v e) k = k (((e.set sl .no).set i (.sh d)).set sl .no) := by
  funext m
  unfold catchM SM.xc
  simp only [catchS]
  have t : takesC up c c = true := by unfold takesC; simp
  simp only [t, hl, and_self, if_true, exH, hd]
  rfl
end
end Ev
set_option Elab.async false
set_option linter.all false
set_option maxRecDepth 100000
set_option maxHeartbeats 1000000
/-! the table of k01 -/
namespace Ev
open PySem
def K01.f_law_are_ascending : Fn := ⟨["_law_thing", "_law_one", "_law_other"], 1,
  [.ite (.or (.un .not (.bi (.isin ["tuple"]) [.v 0])) (.bin .ne (.cmp (.v 1) (.v 1) (.seq (.v 0)) (some (.un .not (.call "_law_is_name" [.v 1])))) (.lst []))) [.ret (.c (.bl false))] [],
   .ret (.bin .eq (.cmp (.c (.int 1)) (.t [.v 1, .v 2]) (.zip (.v 0) (.sl (.v 0) (some (.c (.int 1))) none)) (some (.un .not (.bin .lt (.v 1) (.v 2))))) (.lst []))]⟩
def K01.f_law : Fn := ⟨["_law_script", "_law_m", "_law_turn", "_law_many", "_law_lots_here", "_law_some", "_law_thing", "e", "_law_is_so", "_law_one", "_law_other", "_law_kept", "_law_found", "_law_caught", "_law_far"], 1,
  [.asg (.v 1) (.call "_law_begun" [.v 0]),
   .loop (.v 2) (.rng (.bin .add (.c (.int 4)) (.bi .min2 [.bi .len [.v 0], .c (.int 8)])))
    [.asg (.v 3) (.call "_law_things" [.v 1, .c (.int 5)]),
    .asg (.v 4) (.call "_law_lots" [.v 3]),
    .ite (.or (.bin .ne (.bi .repr [.call "all_lots" [.v 3]]) (.bi .repr [.bi .tuple [.v 4]])) (.bin .ne (.bi .len [.v 4]) (.ix (.lst [.c (.int 2), .c (.int 4), .c (.int 8), .c (.int 16), .c (.int 32)]) (.bin .sub (.bi .len [.v 3]) (.c (.int 1)))))) [.ret (.c (.bl false))] [],
    .asg (.v 5) (.lst [.v 3, .rev (.v 3), .bin .add (.v 3) (.sl (.v 3) none (some (.c (.int 1)))), .bin .add (.v 3) (.tup [.c (.str "zz")]), .tup [], .bi .list [.v 3], .call "_law_bent" [.v 1, .v 3], .call "_law_odd" [.v 1]]),
    .asg (.v 5) (.bin .add (.v 5) (.lst [.bi .tuple [.bi .sorted [.call "_law_names" [.v 1, .c (.int 6)]]], .call "_law_bent" [.v 1, .call "_law_bent" [.v 1, .v 3]]])),
    .loop (.v 6) (.seq (.v 5))
     [.asg (.t [.v 11, .v 12, .v 13]) (.tup [.bi .repr [.v 6], .c .non, .c .non]),
     .tr [.asg (.v 12) (.call "need_things" [.v 6])]
      [⟨"BadThings", 7, .set 13 (.rep .fld)⟩],
     .asg (.v 8) (.and (.call "_law_are_ascending" [.v 6]) (.chain .le .le (.c (.int 1)) (.bi .len [.v 6]) (.c (.int 5)))),
     .ite (.or (.bin .ne (.tup [.bi .repr [.v 12], .v 13]) (.ite (.v 8) (.tup [.v 11, .c .non]) (.tup [.c (.str "None"), .v 11]))) (.bin .ne (.bi .repr [.v 6]) (.v 11))) [.ret (.c (.bl false))] []],
    .asg (.t [.v 9, .v 10]) (.tup [.ix (.v 4) (.call "_law_next" [.v 1, .bi .len [.v 4]]), .ix (.v 4) (.call "_law_next" [.v 1, .bi .len [.v 4]])]),
    .ite (.bin .ne (.bi .repr [.call "joined" [.v 9, .v 10]]) (.bi .repr [.call "_law_both" [.v 9, .v 10]])) [.ret (.c (.bl false))] [],
    .asg (.v 5) (.lst [.v 9, .v 10, .rev (.v 9), .bi .list [.v 9], .bin .add (.v 9) (.tup [.c (.str "zz")]), .bin .mul (.v 9) (.c (.int 2)), .call "_law_bent" [.v 1, .v 9], .call "_law_odd" [.v 1], .v 3]),
    .loop (.v 6) (.seq (.v 5))
     [.asg (.v 8) (.and (.call "_law_are_ascending" [.v 6]) (.bin .eq (.cmp (.v 14) (.v 14) (.seq (.v 6)) (some (.bin .notin (.v 14) (.v 3)))) (.lst []))),
     .ite (.bin .ne (.bi .repr [.call "is_lot" [.v 3, .v 6]]) (.bi .repr [.v 8])) [.ret (.c (.bl false))] []]],
   .ret (.c (.bl true))]⟩
def K01.tab : List (Str × Fn) := [(("is_word" : Str), f_is_word), (("are_ascending" : Str), f_are_ascending), (("need_things" : Str), f_need_things), (("is_lot" : Str), f_is_lot), (("all_lots" : Str), f_all_lots), (("joined" : Str), f_joined), (("_law_names" : Str), f_law_names), (("_law_is_whole" : Str), f_law_is_whole), (("_law_is_name" : Str), f_law_is_name), (("_law_odd" : Str), f_law_odd), (("_law_bent" : Str), f_law_bent), (("_law_lots" : Str), f_law_lots), (("_law_things" : Str), f_law_things), (("_law_both" : Str), f_law_both), (("_law_are_ascending" : Str), K01.f_law_are_ascending), (("law" : Str), K01.f_law)]
def K01.up : List (Str × Str) := []
def K01.pr : FT := fun f => if f = "_law_begun" then begunM else if f = "_law_next" then nextM else fun _ => M.bad
end Ev
set_option Elab.async false
set_option linter.all false
set_option maxRecDepth 100000
set_option maxHeartbeats 4000000
/-! K01P: the plain law of k01. -/
namespace Ev
open PySem
section
variable {P : List (Str × Fn)} {pr : FT} {up : List (Str × Str)} {k : Nat}
theorem filter_all {l : List Nat} {p : Nat → Bool} : (l.filter fun c => !p c).isEmpty = l.all p := by
  induction l with
  | nil => rfl
  | cons a l ih =>
    rw [List.filter_cons]
    cases h : p a <;> simp [h, ih]
theorem w_law_is_name (h : Has P "_law_is_name" f_law_is_name) {d : D} (g : d.good = true) : runF P pr up (k + 1) "_law_is_name" [d] = M.ret (.bl (isWordD d)) := by
  rw [run_def h rfl (by decide)]
  cases d <;> first
    | (simp only [M.ret_bind, M.bad_bind, M.bind_assoc, M.lift_some, M.lift_none, M.calm_ret, M.map_ret, M.exc_bind, SM.sb_exc, retM_xc, SM.sb_ret, SM.sb_bad, SM.sb_bind, SM.seq_nx, SM.seq_rt, SM.seq_ct, SM.seq_xc, SM.seq_bad, SM.seq_sb, SM.seq_seq, boolM_bl, bindM_some, bindS_some, iteM_t, iteM_f, brS_t, brS_f, ev_c, ev_v, ev_bin, ev_un, ev_chain, ev_and, ev_or, ev_ite, ev_tup, ev_lst, ev_call, ev_bi, ev_ix, ev_sl, ev_rev, ev_cmp', evs_nil, evs_star, ec_c, ec_v, ec_bin, ec_un, ec_chain, ec_and, ec_or, ec_ite, ec_tup, ec_lst, ec_call, ec_bi, ec_ix, ec_sl, ec_rev, ec_cmp, evO_none, evO_some, evT_none, evT_some, evI_rng, evI_rng2, evI_zip, evI_enm, evI_seq, ss_nil', ss_pass', ss_cont', ss_asg', ss_expr', ss_ite', ss_loop', ss_ret', ss_rais', ss_tr', slotM_sh, starM_lst, starM_tup, optI_int, loopM_nil, retM_rt, retM_nx, List.getElem?_cons_zero, List.getElem?_cons_succ, List.set_cons_zero, List.set_cons_succ, bindT, bindTs, wipeE, Tg.slots, Tg.slotss, startE, List.nil_append, List.cons_append, List.append_nil, List.map_cons, List.map_nil, List.length_cons, List.length_nil, List.replicate_succ, List.replicate_zero, Option.bind_some, Option.map_some, Nat.reduceAdd, Nat.reduceSub, Int.reduceEq, Int.reduceLT, Int.reduceLE, decide_true, decide_false, Bool.not_true, Bool.not_false, b_add_i, b_sub_i, b_lt_i, b_le_i, b_gt_i, b_ge_i, b_lt_s, b_eq_i, b_ne_i, b_eq_t0, b_eq_l0, b_ne_t0, b_ne_l0, b_in_1, b_nin_1, u_not, u_neg, bi_len_t, bi_len_l, bi_len_c, bi_tup_l, bi_tup_t, bi_lst_l, bi_lst_t, bi_int_i, bi_edict, bi_min_i, bi_all_map, bi_any_map, sq_l, sq_t, zp_t, zp_l, rv_t, rv_l, sl_t, sl_l, fit0, fit1, fit2, fit3, fit4, fit5, fit6, fit7, fit8, fit9, fit10, fit11, fit12, fit13, fit14, fit15, fit16, fit17, fit18, fit19, fit20, fit21, fit22, fit23, fit24, fit25, fit26, fit27, fit28, fit29, fit30, fit31, fit32, isin_str_non, isin_str_bl, isin_str_int, isin_str_str, isin_str_tup, isin_str_lst, isin_str_dct, isin_tuple_non, isin_tuple_bl, isin_tuple_int, isin_tuple_str, isin_tuple_tup, isin_tuple_lst, isin_tuple_dct, isin_int_non, isin_int_bl, isin_int_int, isin_int_str, isin_int_tup, isin_int_lst, isin_int_dct, isin_bool_non, isin_bool_bl, isin_bool_int, isin_bool_str, isin_bool_tup, isin_bool_lst, isin_bool_dct, isin_list_tuple_non, isin_list_tuple_bl, isin_list_tuple_int, isin_list_tuple_str, isin_list_tuple_tup, isin_list_tuple_lst, isin_list_tuple_dct, isin_tuple_list_non, isin_tuple_list_bl, isin_tuple_list_int, isin_tuple_list_str, isin_tuple_list_tup, isin_tuple_list_lst, isin_tuple_list_dct, isin_list_non, isin_list_bl, isin_list_int, isin_list_str, isin_list_tup, isin_list_lst, isin_list_dct, isin_dict_non, isin_dict_bl, isin_dict_int, isin_dict_str, isin_dict_tup, isin_dict_lst, isin_dict_dct, f_law_is_name, isWordD]; done)
    | (simp [D.good] at g; done)
    | skip
  rename_i x
  have hl := lim_of (good_str.mp g).1
  simp only [M.ret_bind, M.bad_bind, M.bind_assoc, M.lift_some, M.lift_none, M.calm_ret, M.map_ret, M.exc_bind, SM.sb_exc, retM_xc, SM.sb_ret, SM.sb_bad, SM.sb_bind, SM.seq_nx, SM.seq_rt, SM.seq_ct, SM.seq_xc, SM.seq_bad, SM.seq_sb, SM.seq_seq, boolM_bl, bindM_some, bindS_some, iteM_t, iteM_f, brS_t, brS_f, ev_c, ev_v, ev_bin, ev_un, ev_chain, ev_and, ev_or, ev_ite, ev_tup, ev_lst, ev_call, ev_bi, ev_ix, ev_sl, ev_rev, ev_cmp', evs_nil, evs_star, ec_c, ec_v, ec_bin, ec_un, ec_chain, ec_and, ec_or, ec_ite, ec_tup, ec_lst, ec_call, ec_bi, ec_ix, ec_sl, ec_rev, ec_cmp, evO_none, evO_some, evT_none, evT_some, evI_rng, evI_rng2, evI_zip, evI_enm, evI_seq, ss_nil', ss_pass', ss_cont', ss_asg', ss_expr', ss_ite', ss_loop', ss_ret', ss_rais', ss_tr', slotM_sh, starM_lst, starM_tup, optI_int, loopM_nil, retM_rt, retM_nx, List.getElem?_cons_zero, List.getElem?_cons_succ, List.set_cons_zero, List.set_cons_succ, bindT, bindTs, wipeE, Tg.slots, Tg.slotss, startE, List.nil_append, List.cons_append, List.append_nil, List.map_cons, List.map_nil, List.length_cons, List.length_nil, List.replicate_succ, List.replicate_zero, Option.bind_some, Option.map_some, Nat.reduceAdd, Nat.reduceSub, Int.reduceEq, Int.reduceLT, Int.reduceLE, decide_true, decide_false, Bool.not_true, Bool.not_false, b_add_i, b_sub_i, b_lt_i, b_le_i, b_gt_i, b_ge_i, b_lt_s, b_eq_i, b_ne_i, b_eq_t0, b_eq_l0, b_ne_t0, b_ne_l0, b_in_1, b_nin_1, u_not, u_neg, bi_len_t, bi_len_l, bi_len_c, bi_tup_l, bi_tup_t, bi_lst_l, bi_lst_t, bi_int_i, bi_edict, bi_min_i, bi_all_map, bi_any_map, sq_l, sq_t, zp_t, zp_l, rv_t, rv_l, sl_t, sl_l, fit0, fit1, fit2, fit3, fit4, fit5, fit6, fit7, fit8, fit9, fit10, fit11, fit12, fit13, fit14, fit15, fit16, fit17, fit18, fit19, fit20, fit21, fit22, fit23, fit24, fit25, fit26, fit27, fit28, fit29, fit30, fit31, fit32, isin_str_non, isin_str_bl, isin_str_int, isin_str_str, isin_str_tup, isin_str_lst, isin_str_dct, isin_tuple_non, isin_tuple_bl, isin_tuple_int, isin_tuple_str, isin_tuple_tup, isin_tuple_lst, isin_tuple_dct, isin_int_non, isin_int_bl, isin_int_int, isin_int_str, isin_int_tup, isin_int_lst, isin_int_dct, isin_bool_non, isin_bool_bl, isin_bool_int, isin_bool_str, isin_bool_tup, isin_bool_lst, isin_bool_dct, isin_list_tuple_non, isin_list_tuple_bl, isin_list_tuple_int, isin_list_tuple_str, isin_list_tuple_tup, isin_list_tuple_lst, isin_list_tuple_dct, isin_tuple_list_non, isin_tuple_list_bl, isin_tuple_list_int, isin_tuple_list_str, isin_tuple_list_tup, isin_tuple_list_lst, isin_tuple_list_dct, isin_list_non, isin_list_bl, isin_list_int, isin_list_str, isin_list_tup, isin_list_lst, isin_list_dct, isin_dict_non, isin_dict_bl, isin_dict_int, isin_dict_str, isin_dict_tup, isin_dict_lst, isin_dict_dct, f_law_is_name, isWordD, bi_len_s hl, sq_s hl]
  unfold wordB
  by_cases h1 : (1 : Int) ≤ x.length
  · by_cases h2 : (x.length : Int) ≤ 8
    · have h1' : 1 ≤ x.length := by omega
      have h2' : x.length ≤ 8 := by omega
      simp only [h1, h2, h1', h2', M.ret_bind, M.bad_bind, M.bind_assoc, M.lift_some, M.lift_none, M.calm_ret, M.map_ret, M.exc_bind, SM.sb_exc, retM_xc, SM.sb_ret, SM.sb_bad, SM.sb_bind, SM.seq_nx, SM.seq_rt, SM.seq_ct, SM.seq_xc, SM.seq_bad, SM.seq_sb, SM.seq_seq, boolM_bl, bindM_some, bindS_some, iteM_t, iteM_f, brS_t, brS_f, ev_c, ev_v, ev_bin, ev_un, ev_chain, ev_and, ev_or, ev_ite, ev_tup, ev_lst, ev_call, ev_bi, ev_ix, ev_sl, ev_rev, ev_cmp', evs_nil, evs_star, ec_c, ec_v, ec_bin, ec_un, ec_chain, ec_and, ec_or, ec_ite, ec_tup, ec_lst, ec_call, ec_bi, ec_ix, ec_sl, ec_rev, ec_cmp, evO_none, evO_some, evT_none, evT_some, evI_rng, evI_rng2, evI_zip, evI_enm, evI_seq, ss_nil', ss_pass', ss_cont', ss_asg', ss_expr', ss_ite', ss_loop', ss_ret', ss_rais', ss_tr', slotM_sh, starM_lst, starM_tup, optI_int, loopM_nil, retM_rt, retM_nx, List.getElem?_cons_zero, List.getElem?_cons_succ, List.set_cons_zero, List.set_cons_succ, bindT, bindTs, wipeE, Tg.slots, Tg.slotss, startE, List.nil_append, List.cons_append, List.append_nil, List.map_cons, List.map_nil, List.length_cons, List.length_nil, List.replicate_succ, List.replicate_zero, Option.bind_some, Option.map_some, Nat.reduceAdd, Nat.reduceSub, Int.reduceEq, Int.reduceLT, Int.reduceLE, decide_true, decide_false, Bool.not_true, Bool.not_false, b_add_i, b_sub_i, b_lt_i, b_le_i, b_gt_i, b_ge_i, b_lt_s, b_eq_i, b_ne_i, b_eq_t0, b_eq_l0, b_ne_t0, b_ne_l0, b_in_1, b_nin_1, u_not, u_neg, bi_len_t, bi_len_l, bi_len_c, bi_tup_l, bi_tup_t, bi_lst_l, bi_lst_t, bi_int_i, bi_edict, bi_min_i, bi_all_map, bi_any_map, sq_l, sq_t, zp_t, zp_l, rv_t, rv_l, sl_t, sl_l, fit0, fit1, fit2, fit3, fit4, fit5, fit6, fit7, fit8, fit9, fit10, fit11, fit12, fit13, fit14, fit15, fit16, fit17, fit18, fit19, fit20, fit21, fit22, fit23, fit24, fit25, fit26, fit27, fit28, fit29, fit30, fit31, fit32, isin_str_non, isin_str_bl, isin_str_int, isin_str_str, isin_str_tup, isin_str_lst, isin_str_dct, isin_tuple_non, isin_tuple_bl, isin_tuple_int, isin_tuple_str, isin_tuple_tup, isin_tuple_lst, isin_tuple_dct, isin_int_non, isin_int_bl, isin_int_int, isin_int_str, isin_int_tup, isin_int_lst, isin_int_dct, isin_bool_non, isin_bool_bl, isin_bool_int, isin_bool_str, isin_bool_tup, isin_bool_lst, isin_bool_dct, isin_list_tuple_non, isin_list_tuple_bl, isin_list_tuple_int, isin_list_tuple_str, isin_list_tuple_tup, isin_list_tuple_lst, isin_list_tuple_dct, isin_tuple_list_non, isin_tuple_list_bl, isin_tuple_list_int, isin_tuple_list_str, isin_tuple_list_tup, isin_tuple_list_lst, isin_tuple_list_dct, isin_list_non, isin_list_bl, isin_list_int, isin_list_str, isin_list_tup, isin_list_lst, isin_list_dct, isin_dict_non, isin_dict_bl, isin_dict_int, isin_dict_str, isin_dict_tup, isin_dict_lst, isin_dict_dct, Bool.true_and, sq_s hl]
      rw [cmpM_filter x.cps.toList (fun c => D.str ⟨#[c]⟩) (fun c => !decide (c ∈ alphS.cps.toList)) (fun c => D.str ⟨#[c]⟩) (fun c _ => ?_) (by simpa [Str.length] using hl)]
      · simp only [M.ret_bind, M.bad_bind, M.bind_assoc, M.lift_some, M.lift_none, M.calm_ret, M.map_ret, M.exc_bind, SM.sb_exc, retM_xc, SM.sb_ret, SM.sb_bad, SM.sb_bind, SM.seq_nx, SM.seq_rt, SM.seq_ct, SM.seq_xc, SM.seq_bad, SM.seq_sb, SM.seq_seq, boolM_bl, bindM_some, bindS_some, iteM_t, iteM_f, brS_t, brS_f, ev_c, ev_v, ev_bin, ev_un, ev_chain, ev_and, ev_or, ev_ite, ev_tup, ev_lst, ev_call, ev_bi, ev_ix, ev_sl, ev_rev, ev_cmp', evs_nil, evs_star, ec_c, ec_v, ec_bin, ec_un, ec_chain, ec_and, ec_or, ec_ite, ec_tup, ec_lst, ec_call, ec_bi, ec_ix, ec_sl, ec_rev, ec_cmp, evO_none, evO_some, evT_none, evT_some, evI_rng, evI_rng2, evI_zip, evI_enm, evI_seq, ss_nil', ss_pass', ss_cont', ss_asg', ss_expr', ss_ite', ss_loop', ss_ret', ss_rais', ss_tr', slotM_sh, starM_lst, starM_tup, optI_int, loopM_nil, retM_rt, retM_nx, List.getElem?_cons_zero, List.getElem?_cons_succ, List.set_cons_zero, List.set_cons_succ, bindT, bindTs, wipeE, Tg.slots, Tg.slotss, startE, List.nil_append, List.cons_append, List.append_nil, List.map_cons, List.map_nil, List.length_cons, List.length_nil, List.replicate_succ, List.replicate_zero, Option.bind_some, Option.map_some, Nat.reduceAdd, Nat.reduceSub, Int.reduceEq, Int.reduceLT, Int.reduceLE, decide_true, decide_false, Bool.not_true, Bool.not_false, b_add_i, b_sub_i, b_lt_i, b_le_i, b_gt_i, b_ge_i, b_lt_s, b_eq_i, b_ne_i, b_eq_t0, b_eq_l0, b_ne_t0, b_ne_l0, b_in_1, b_nin_1, u_not, u_neg, bi_len_t, bi_len_l, bi_len_c, bi_tup_l, bi_tup_t, bi_lst_l, bi_lst_t, bi_int_i, bi_edict, bi_min_i, bi_all_map, bi_any_map, sq_l, sq_t, zp_t, zp_l, rv_t, rv_l, sl_t, sl_l, fit0, fit1, fit2, fit3, fit4, fit5, fit6, fit7, fit8, fit9, fit10, fit11, fit12, fit13, fit14, fit15, fit16, fit17, fit18, fit19, fit20, fit21, fit22, fit23, fit24, fit25, fit26, fit27, fit28, fit29, fit30, fit31, fit32, isin_str_non, isin_str_bl, isin_str_int, isin_str_str, isin_str_tup, isin_str_lst, isin_str_dct, isin_tuple_non, isin_tuple_bl, isin_tuple_int, isin_tuple_str, isin_tuple_tup, isin_tuple_lst, isin_tuple_dct, isin_int_non, isin_int_bl, isin_int_int, isin_int_str, isin_int_tup, isin_int_lst, isin_int_dct, isin_bool_non, isin_bool_bl, isin_bool_int, isin_bool_str, isin_bool_tup, isin_bool_lst, isin_bool_dct, isin_list_tuple_non, isin_list_tuple_bl, isin_list_tuple_int, isin_list_tuple_str, isin_list_tuple_tup, isin_list_tuple_lst, isin_list_tuple_dct, isin_tuple_list_non, isin_tuple_list_bl, isin_tuple_list_int, isin_tuple_list_str, isin_tuple_list_tup, isin_tuple_list_lst, isin_tuple_list_dct, isin_list_non, isin_list_bl, isin_list_int, isin_list_str, isin_list_tup, isin_list_lst, isin_list_dct, isin_dict_non, isin_dict_bl, isin_dict_int, isin_dict_str, isin_dict_tup, isin_dict_lst, isin_dict_dct, List.isEmpty_map, filter_all]
      · simp only [M.ret_bind, M.bad_bind, M.bind_assoc, M.lift_some, M.lift_none, M.calm_ret, M.map_ret, M.exc_bind, SM.sb_exc, retM_xc, SM.sb_ret, SM.sb_bad, SM.sb_bind, SM.seq_nx, SM.seq_rt, SM.seq_ct, SM.seq_xc, SM.seq_bad, SM.seq_sb, SM.seq_seq, boolM_bl, bindM_some, bindS_some, iteM_t, iteM_f, brS_t, brS_f, ev_c, ev_v, ev_bin, ev_un, ev_chain, ev_and, ev_or, ev_ite, ev_tup, ev_lst, ev_call, ev_bi, ev_ix, ev_sl, ev_rev, ev_cmp', evs_nil, evs_star, ec_c, ec_v, ec_bin, ec_un, ec_chain, ec_and, ec_or, ec_ite, ec_tup, ec_lst, ec_call, ec_bi, ec_ix, ec_sl, ec_rev, ec_cmp, evO_none, evO_some, evT_none, evT_some, evI_rng, evI_rng2, evI_zip, evI_enm, evI_seq, ss_nil', ss_pass', ss_cont', ss_asg', ss_expr', ss_ite', ss_loop', ss_ret', ss_rais', ss_tr', slotM_sh, starM_lst, starM_tup, optI_int, loopM_nil, retM_rt, retM_nx, List.getElem?_cons_zero, List.getElem?_cons_succ, List.set_cons_zero, List.set_cons_succ, bindT, bindTs, wipeE, Tg.slots, Tg.slotss, startE, List.nil_append, List.cons_append, List.append_nil, List.map_cons, List.map_nil, List.length_cons, List.length_nil, List.replicate_succ, List.replicate_zero, Option.bind_some, Option.map_some, Nat.reduceAdd, Nat.reduceSub, Int.reduceEq, Int.reduceLT, Int.reduceLE, decide_true, decide_false, Bool.not_true, Bool.not_false, b_add_i, b_sub_i, b_lt_i, b_le_i, b_gt_i, b_ge_i, b_lt_s, b_eq_i, b_ne_i, b_eq_t0, b_eq_l0, b_ne_t0, b_ne_l0, b_in_1, b_nin_1, u_not, u_neg, bi_len_t, bi_len_l, bi_len_c, bi_tup_l, bi_tup_t, bi_lst_l, bi_lst_t, bi_int_i, bi_edict, bi_min_i, bi_all_map, bi_any_map, sq_l, sq_t, zp_t, zp_l, rv_t, rv_l, sl_t, sl_l, fit0, fit1, fit2, fit3, fit4, fit5, fit6, fit7, fit8, fit9, fit10, fit11, fit12, fit13, fit14, fit15, fit16, fit17, fit18, fit19, fit20, fit21, fit22, fit23, fit24, fit25, fit26, fit27, fit28, fit29, fit30, fit31, fit32, isin_str_non, isin_str_bl, isin_str_int, isin_str_str, isin_str_tup, isin_str_lst, isin_str_dct, isin_tuple_non, isin_tuple_bl, isin_tuple_int, isin_tuple_str, isin_tuple_tup, isin_tuple_lst, isin_tuple_dct, isin_int_non, isin_int_bl, isin_int_int, isin_int_str, isin_int_tup, isin_int_lst, isin_int_dct, isin_bool_non, isin_bool_bl, isin_bool_int, isin_bool_str, isin_bool_tup, isin_bool_lst, isin_bool_dct, isin_list_tuple_non, isin_list_tuple_bl, isin_list_tuple_int, isin_list_tuple_str, isin_list_tuple_tup, isin_list_tuple_lst, isin_list_tuple_dct, isin_tuple_list_non, isin_tuple_list_bl, isin_tuple_list_int, isin_tuple_list_str, isin_tuple_list_tup, isin_tuple_list_lst, isin_tuple_list_dct, isin_list_non, isin_list_bl, isin_list_int, isin_list_str, isin_list_tup, isin_list_lst, isin_list_dct, isin_dict_non, isin_dict_bl, isin_dict_int, isin_dict_str, isin_dict_tup, isin_dict_lst, isin_dict_dct]
        exact iteM_ret _ _ _
    · have h1' : 1 ≤ x.length := by omega
      have h2' : ¬ x.length ≤ 8 := by omega
      simp only [h1, h2, h1', h2', M.ret_bind, M.bad_bind, M.bind_assoc, M.lift_some, M.lift_none, M.calm_ret, M.map_ret, M.exc_bind, SM.sb_exc, retM_xc, SM.sb_ret, SM.sb_bad, SM.sb_bind, SM.seq_nx, SM.seq_rt, SM.seq_ct, SM.seq_xc, SM.seq_bad, SM.seq_sb, SM.seq_seq, boolM_bl, bindM_some, bindS_some, iteM_t, iteM_f, brS_t, brS_f, ev_c, ev_v, ev_bin, ev_un, ev_chain, ev_and, ev_or, ev_ite, ev_tup, ev_lst, ev_call, ev_bi, ev_ix, ev_sl, ev_rev, ev_cmp', evs_nil, evs_star, ec_c, ec_v, ec_bin, ec_un, ec_chain, ec_and, ec_or, ec_ite, ec_tup, ec_lst, ec_call, ec_bi, ec_ix, ec_sl, ec_rev, ec_cmp, evO_none, evO_some, evT_none, evT_some, evI_rng, evI_rng2, evI_zip, evI_enm, evI_seq, ss_nil', ss_pass', ss_cont', ss_asg', ss_expr', ss_ite', ss_loop', ss_ret', ss_rais', ss_tr', slotM_sh, starM_lst, starM_tup, optI_int, loopM_nil, retM_rt, retM_nx, List.getElem?_cons_zero, List.getElem?_cons_succ, List.set_cons_zero, List.set_cons_succ, bindT, bindTs, wipeE, Tg.slots, Tg.slotss, startE, List.nil_append, List.cons_append, List.append_nil, List.map_cons, List.map_nil, List.length_cons, List.length_nil, List.replicate_succ, List.replicate_zero, Option.bind_some, Option.map_some, Nat.reduceAdd, Nat.reduceSub, Int.reduceEq, Int.reduceLT, Int.reduceLE, decide_true, decide_false, Bool.not_true, Bool.not_false, b_add_i, b_sub_i, b_lt_i, b_le_i, b_gt_i, b_ge_i, b_lt_s, b_eq_i, b_ne_i, b_eq_t0, b_eq_l0, b_ne_t0, b_ne_l0, b_in_1, b_nin_1, u_not, u_neg, bi_len_t, bi_len_l, bi_len_c, bi_tup_l, bi_tup_t, bi_lst_l, bi_lst_t, bi_int_i, bi_edict, bi_min_i, bi_all_map, bi_any_map, sq_l, sq_t, zp_t, zp_l, rv_t, rv_l, sl_t, sl_l, fit0, fit1, fit2, fit3, fit4, fit5, fit6, fit7, fit8, fit9, fit10, fit11, fit12, fit13, fit14, fit15, fit16, fit17, fit18, fit19, fit20, fit21, fit22, fit23, fit24, fit25, fit26, fit27, fit28, fit29, fit30, fit31, fit32, isin_str_non, isin_str_bl, isin_str_int, isin_str_str, isin_str_tup, isin_str_lst, isin_str_dct, isin_tuple_non, isin_tuple_bl, isin_tuple_int, isin_tuple_str, isin_tuple_tup, isin_tuple_lst, isin_tuple_dct, isin_int_non, isin_int_bl, isin_int_int, isin_int_str, isin_int_tup, isin_int_lst, isin_int_dct, isin_bool_non, isin_bool_bl, isin_bool_int, isin_bool_str, isin_bool_tup, isin_bool_lst, isin_bool_dct, isin_list_tuple_non, isin_list_tuple_bl, isin_list_tuple_int, isin_list_tuple_str, isin_list_tuple_tup, isin_list_tuple_lst, isin_list_tuple_dct, isin_tuple_list_non, isin_tuple_list_bl, isin_tuple_list_int, isin_tuple_list_str, isin_tuple_list_tup, isin_tuple_list_lst, isin_tuple_list_dct, isin_list_non, isin_list_bl, isin_list_int, isin_list_str, isin_list_tup, isin_list_lst, isin_list_dct, isin_dict_non, isin_dict_bl, isin_dict_int, isin_dict_str, isin_dict_tup, isin_dict_lst, isin_dict_dct, Bool.true_and, Bool.false_and, Bool.and_false]
  · have h1' : ¬ 1 ≤ x.length := by omega
    simp only [h1, h1', M.ret_bind, M.bad_bind, M.bind_assoc, M.lift_some, M.lift_none, M.calm_ret, M.map_ret, M.exc_bind, SM.sb_exc, retM_xc, SM.sb_ret, SM.sb_bad, SM.sb_bind, SM.seq_nx, SM.seq_rt, SM.seq_ct, SM.seq_xc, SM.seq_bad, SM.seq_sb, SM.seq_seq, boolM_bl, bindM_some, bindS_some, iteM_t, iteM_f, brS_t, brS_f, ev_c, ev_v, ev_bin, ev_un, ev_chain, ev_and, ev_or, ev_ite, ev_tup, ev_lst, ev_call, ev_bi, ev_ix, ev_sl, ev_rev, ev_cmp', evs_nil, evs_star, ec_c, ec_v, ec_bin, ec_un, ec_chain, ec_and, ec_or, ec_ite, ec_tup, ec_lst, ec_call, ec_bi, ec_ix, ec_sl, ec_rev, ec_cmp, evO_none, evO_some, evT_none, evT_some, evI_rng, evI_rng2, evI_zip, evI_enm, evI_seq, ss_nil', ss_pass', ss_cont', ss_asg', ss_expr', ss_ite', ss_loop', ss_ret', ss_rais', ss_tr', slotM_sh, starM_lst, starM_tup, optI_int, loopM_nil, retM_rt, retM_nx, List.getElem?_cons_zero, List.getElem?_cons_succ, List.set_cons_zero, List.set_cons_succ, bindT, bindTs, wipeE, Tg.slots, Tg.slotss, startE, List.nil_append, List.cons_append, List.append_nil, List.map_cons, List.map_nil, List.length_cons, List.length_nil, List.replicate_succ, List.replicate_zero, Option.bind_some, Option.map_some, Nat.reduceAdd, Nat.reduceSub, Int.reduceEq, Int.reduceLT, Int.reduceLE, decide_true, decide_false, Bool.not_true, Bool.not_false, b_add_i, b_sub_i, b_lt_i, b_le_i, b_gt_i, b_ge_i, b_lt_s, b_eq_i, b_ne_i, b_eq_t0, b_eq_l0, b_ne_t0, b_ne_l0, b_in_1, b_nin_1, u_not, u_neg, bi_len_t, bi_len_l, bi_len_c, bi_tup_l, bi_tup_t, bi_lst_l, bi_lst_t, bi_int_i, bi_edict, bi_min_i, bi_all_map, bi_any_map, sq_l, sq_t, zp_t, zp_l, rv_t, rv_l, sl_t, sl_l, fit0, fit1, fit2, fit3, fit4, fit5, fit6, fit7, fit8, fit9, fit10, fit11, fit12, fit13, fit14, fit15, fit16, fit17, fit18, fit19, fit20, fit21, fit22, fit23, fit24, fit25, fit26, fit27, fit28, fit29, fit30, fit31, fit32, isin_str_non, isin_str_bl, isin_str_int, isin_str_str, isin_str_tup, isin_str_lst, isin_str_dct, isin_tuple_non, isin_tuple_bl, isin_tuple_int, isin_tuple_str, isin_tuple_tup, isin_tuple_lst, isin_tuple_dct, isin_int_non, isin_int_bl, isin_int_int, isin_int_str, isin_int_tup, isin_int_lst, isin_int_dct, isin_bool_non, isin_bool_bl, isin_bool_int, isin_bool_str, isin_bool_tup, isin_bool_lst, isin_bool_dct, isin_list_tuple_non, isin_list_tuple_bl, isin_list_tuple_int, isin_list_tuple_str, isin_list_tuple_tup, isin_list_tuple_lst, isin_list_tuple_dct, isin_tuple_list_non, isin_tuple_list_bl, isin_tuple_list_int, isin_tuple_list_str, isin_tuple_list_tup, isin_tuple_list_lst, isin_tuple_list_dct, isin_list_non, isin_list_bl, isin_list_int, isin_list_str, isin_list_tup, isin_list_lst, isin_list_dct, isin_dict_non, isin_dict_bl, isin_dict_int, isin_dict_str, isin_dict_tup, isin_dict_lst, isin_dict_dct, Bool.false_and]
theorem filter_nil {α : Type} {l : List α} {p : α → Bool} : (l.filter fun c => !p c).isEmpty = l.all p := by
  induction l with
  | nil => rfl
  | cons a l ih =>
    rw [List.filter_cons]
    cases h : p a <;> simp [h, ih]
theorem w_law_asc (h1 : Has P "_law_is_name" f_law_is_name) (h : Has P "_law_are_ascending" K01.f_law_are_ascending) {d : D} (g : d.good = true) : runF P pr up (k + 2) "_law_are_ascending" [d] = M.ret (.bl (ascD d)) := by
  rw [run_def h rfl (by decide)]
  cases d <;> first
    | (simp only [M.ret_bind, M.bad_bind, M.bind_assoc, M.lift_some, M.lift_none, M.calm_ret, M.map_ret, M.exc_bind, SM.sb_exc, retM_xc, SM.sb_ret, SM.sb_bad, SM.sb_bind, SM.seq_nx, SM.seq_rt, SM.seq_ct, SM.seq_xc, SM.seq_bad, SM.seq_sb, SM.seq_seq, boolM_bl, bindM_some, bindS_some, iteM_t, iteM_f, brS_t, brS_f, ev_c, ev_v, ev_bin, ev_un, ev_chain, ev_and, ev_or, ev_ite, ev_tup, ev_lst, ev_call, ev_bi, ev_ix, ev_sl, ev_rev, ev_cmp', evs_nil, evs_star, ec_c, ec_v, ec_bin, ec_un, ec_chain, ec_and, ec_or, ec_ite, ec_tup, ec_lst, ec_call, ec_bi, ec_ix, ec_sl, ec_rev, ec_cmp, evO_none, evO_some, evT_none, evT_some, evI_rng, evI_rng2, evI_zip, evI_enm, evI_seq, ss_nil', ss_pass', ss_cont', ss_asg', ss_expr', ss_ite', ss_loop', ss_ret', ss_rais', ss_tr', slotM_sh, starM_lst, starM_tup, optI_int, loopM_nil, retM_rt, retM_nx, List.getElem?_cons_zero, List.getElem?_cons_succ, List.set_cons_zero, List.set_cons_succ, bindT, bindTs, wipeE, Tg.slots, Tg.slotss, startE, List.nil_append, List.cons_append, List.append_nil, List.map_cons, List.map_nil, List.length_cons, List.length_nil, List.replicate_succ, List.replicate_zero, Option.bind_some, Option.map_some, Nat.reduceAdd, Nat.reduceSub, Int.reduceEq, Int.reduceLT, Int.reduceLE, decide_true, decide_false, Bool.not_true, Bool.not_false, b_add_i, b_sub_i, b_lt_i, b_le_i, b_gt_i, b_ge_i, b_lt_s, b_eq_i, b_ne_i, b_eq_t0, b_eq_l0, b_ne_t0, b_ne_l0, b_in_1, b_nin_1, u_not, u_neg, bi_len_t, bi_len_l, bi_len_c, bi_tup_l, bi_tup_t, bi_lst_l, bi_lst_t, bi_int_i, bi_edict, bi_min_i, bi_all_map, bi_any_map, sq_l, sq_t, zp_t, zp_l, rv_t, rv_l, sl_t, sl_l, fit0, fit1, fit2, fit3, fit4, fit5, fit6, fit7, fit8, fit9, fit10, fit11, fit12, fit13, fit14, fit15, fit16, fit17, fit18, fit19, fit20, fit21, fit22, fit23, fit24, fit25, fit26, fit27, fit28, fit29, fit30, fit31, fit32, isin_str_non, isin_str_bl, isin_str_int, isin_str_str, isin_str_tup, isin_str_lst, isin_str_dct, isin_tuple_non, isin_tuple_bl, isin_tuple_int, isin_tuple_str, isin_tuple_tup, isin_tuple_lst, isin_tuple_dct, isin_int_non, isin_int_bl, isin_int_int, isin_int_str, isin_int_tup, isin_int_lst, isin_int_dct, isin_bool_non, isin_bool_bl, isin_bool_int, isin_bool_str, isin_bool_tup, isin_bool_lst, isin_bool_dct, isin_list_tuple_non, isin_list_tuple_bl, isin_list_tuple_int, isin_list_tuple_str, isin_list_tuple_tup, isin_list_tuple_lst, isin_list_tuple_dct, isin_tuple_list_non, isin_tuple_list_bl, isin_tuple_list_int, isin_tuple_list_str, isin_tuple_list_tup, isin_tuple_list_lst, isin_tuple_list_dct, isin_list_non, isin_list_bl, isin_list_int, isin_list_str, isin_list_tup, isin_list_lst, isin_list_dct, isin_dict_non, isin_dict_bl, isin_dict_int, isin_dict_str, isin_dict_tup, isin_dict_lst, isin_dict_dct, K01.f_law_are_ascending, ascD]; done)
    | (simp [D.good] at g; done)
    | skip
  rename_i xs
  have gx := good_tup.mp g
  simp only [M.ret_bind, M.bad_bind, M.bind_assoc, M.lift_some, M.lift_none, M.calm_ret, M.map_ret, M.exc_bind, SM.sb_exc, retM_xc, SM.sb_ret, SM.sb_bad, SM.sb_bind, SM.seq_nx, SM.seq_rt, SM.seq_ct, SM.seq_xc, SM.seq_bad, SM.seq_sb, SM.seq_seq, boolM_bl, bindM_some, bindS_some, iteM_t, iteM_f, brS_t, brS_f, ev_c, ev_v, ev_bin, ev_un, ev_chain, ev_and, ev_or, ev_ite, ev_tup, ev_lst, ev_call, ev_bi, ev_ix, ev_sl, ev_rev, ev_cmp', evs_nil, evs_star, ec_c, ec_v, ec_bin, ec_un, ec_chain, ec_and, ec_or, ec_ite, ec_tup, ec_lst, ec_call, ec_bi, ec_ix, ec_sl, ec_rev, ec_cmp, evO_none, evO_some, evT_none, evT_some, evI_rng, evI_rng2, evI_zip, evI_enm, evI_seq, ss_nil', ss_pass', ss_cont', ss_asg', ss_expr', ss_ite', ss_loop', ss_ret', ss_rais', ss_tr', slotM_sh, starM_lst, starM_tup, optI_int, loopM_nil, retM_rt, retM_nx, List.getElem?_cons_zero, List.getElem?_cons_succ, List.set_cons_zero, List.set_cons_succ, bindT, bindTs, wipeE, Tg.slots, Tg.slotss, startE, List.nil_append, List.cons_append, List.append_nil, List.map_cons, List.map_nil, List.length_cons, List.length_nil, List.replicate_succ, List.replicate_zero, Option.bind_some, Option.map_some, Nat.reduceAdd, Nat.reduceSub, Int.reduceEq, Int.reduceLT, Int.reduceLE, decide_true, decide_false, Bool.not_true, Bool.not_false, b_add_i, b_sub_i, b_lt_i, b_le_i, b_gt_i, b_ge_i, b_lt_s, b_eq_i, b_ne_i, b_eq_t0, b_eq_l0, b_ne_t0, b_ne_l0, b_in_1, b_nin_1, u_not, u_neg, bi_len_t, bi_len_l, bi_len_c, bi_tup_l, bi_tup_t, bi_lst_l, bi_lst_t, bi_int_i, bi_edict, bi_min_i, bi_all_map, bi_any_map, sq_l, sq_t, zp_t, zp_l, rv_t, rv_l, sl_t, sl_l, fit0, fit1, fit2, fit3, fit4, fit5, fit6, fit7, fit8, fit9, fit10, fit11, fit12, fit13, fit14, fit15, fit16, fit17, fit18, fit19, fit20, fit21, fit22, fit23, fit24, fit25, fit26, fit27, fit28, fit29, fit30, fit31, fit32, isin_str_non, isin_str_bl, isin_str_int, isin_str_str, isin_str_tup, isin_str_lst, isin_str_dct, isin_tuple_non, isin_tuple_bl, isin_tuple_int, isin_tuple_str, isin_tuple_tup, isin_tuple_lst, isin_tuple_dct, isin_int_non, isin_int_bl, isin_int_int, isin_int_str, isin_int_tup, isin_int_lst, isin_int_dct, isin_bool_non, isin_bool_bl, isin_bool_int, isin_bool_str, isin_bool_tup, isin_bool_lst, isin_bool_dct, isin_list_tuple_non, isin_list_tuple_bl, isin_list_tuple_int, isin_list_tuple_str, isin_list_tuple_tup, isin_list_tuple_lst, isin_list_tuple_dct, isin_tuple_list_non, isin_tuple_list_bl, isin_tuple_list_int, isin_tuple_list_str, isin_tuple_list_tup, isin_tuple_list_lst, isin_tuple_list_dct, isin_list_non, isin_list_bl, isin_list_int, isin_list_str, isin_list_tup, isin_list_lst, isin_list_dct, isin_dict_non, isin_dict_bl, isin_dict_int, isin_dict_str, isin_dict_tup, isin_dict_lst, isin_dict_dct, K01.f_law_are_ascending]
  rw [cmpM_filter0 xs (fun x => !isWordD x) id (fun x hx => by rw [w_law_is_name h1 (gx.2 x hx)]; simp only [M.ret_bind, M.bad_bind, M.bind_assoc, M.lift_some, M.lift_none, M.calm_ret, M.map_ret, M.exc_bind, SM.sb_exc, retM_xc, SM.sb_ret, SM.sb_bad, SM.sb_bind, SM.seq_nx, SM.seq_rt, SM.seq_ct, SM.seq_xc, SM.seq_bad, SM.seq_sb, SM.seq_seq, boolM_bl, bindM_some, bindS_some, iteM_t, iteM_f, brS_t, brS_f, ev_c, ev_v, ev_bin, ev_un, ev_chain, ev_and, ev_or, ev_ite, ev_tup, ev_lst, ev_call, ev_bi, ev_ix, ev_sl, ev_rev, ev_cmp', evs_nil, evs_star, ec_c, ec_v, ec_bin, ec_un, ec_chain, ec_and, ec_or, ec_ite, ec_tup, ec_lst, ec_call, ec_bi, ec_ix, ec_sl, ec_rev, ec_cmp, evO_none, evO_some, evT_none, evT_some, evI_rng, evI_rng2, evI_zip, evI_enm, evI_seq, ss_nil', ss_pass', ss_cont', ss_asg', ss_expr', ss_ite', ss_loop', ss_ret', ss_rais', ss_tr', slotM_sh, starM_lst, starM_tup, optI_int, loopM_nil, retM_rt, retM_nx, List.getElem?_cons_zero, List.getElem?_cons_succ, List.set_cons_zero, List.set_cons_succ, bindT, bindTs, wipeE, Tg.slots, Tg.slotss, startE, List.nil_append, List.cons_append, List.append_nil, List.map_cons, List.map_nil, List.length_cons, List.length_nil, List.replicate_succ, List.replicate_zero, Option.bind_some, Option.map_some, Nat.reduceAdd, Nat.reduceSub, Int.reduceEq, Int.reduceLT, Int.reduceLE, decide_true, decide_false, Bool.not_true, Bool.not_false, b_add_i, b_sub_i, b_lt_i, b_le_i, b_gt_i, b_ge_i, b_lt_s, b_eq_i, b_ne_i, b_eq_t0, b_eq_l0, b_ne_t0, b_ne_l0, b_in_1, b_nin_1, u_not, u_neg, bi_len_t, bi_len_l, bi_len_c, bi_tup_l, bi_tup_t, bi_lst_l, bi_lst_t, bi_int_i, bi_edict, bi_min_i, bi_all_map, bi_any_map, sq_l, sq_t, zp_t, zp_l, rv_t, rv_l, sl_t, sl_l, fit0, fit1, fit2, fit3, fit4, fit5, fit6, fit7, fit8, fit9, fit10, fit11, fit12, fit13, fit14, fit15, fit16, fit17, fit18, fit19, fit20, fit21, fit22, fit23, fit24, fit25, fit26, fit27, fit28, fit29, fit30, fit31, fit32, isin_str_non, isin_str_bl, isin_str_int, isin_str_str, isin_str_tup, isin_str_lst, isin_str_dct, isin_tuple_non, isin_tuple_bl, isin_tuple_int, isin_tuple_str, isin_tuple_tup, isin_tuple_lst, isin_tuple_dct, isin_int_non, isin_int_bl, isin_int_int, isin_int_str, isin_int_tup, isin_int_lst, isin_int_dct, isin_bool_non, isin_bool_bl, isin_bool_int, isin_bool_str, isin_bool_tup, isin_bool_lst, isin_bool_dct, isin_list_tuple_non, isin_list_tuple_bl, isin_list_tuple_int, isin_list_tuple_str, isin_list_tuple_tup, isin_list_tuple_lst, isin_list_tuple_dct, isin_tuple_list_non, isin_tuple_list_bl, isin_tuple_list_int, isin_tuple_list_str, isin_tuple_list_tup, isin_tuple_list_lst, isin_tuple_list_dct, isin_list_non, isin_list_bl, isin_list_int, isin_list_str, isin_list_tup, isin_list_lst, isin_list_dct, isin_dict_non, isin_dict_bl, isin_dict_int, isin_dict_str, isin_dict_tup, isin_dict_lst, isin_dict_dct]; exact iteM_ret _ _ _) (lim_of gx.1)]
  simp only [M.ret_bind, M.bad_bind, M.bind_assoc, M.lift_some, M.lift_none, M.calm_ret, M.map_ret, M.exc_bind, SM.sb_exc, retM_xc, SM.sb_ret, SM.sb_bad, SM.sb_bind, SM.seq_nx, SM.seq_rt, SM.seq_ct, SM.seq_xc, SM.seq_bad, SM.seq_sb, SM.seq_seq, boolM_bl, bindM_some, bindS_some, iteM_t, iteM_f, brS_t, brS_f, ev_c, ev_v, ev_bin, ev_un, ev_chain, ev_and, ev_or, ev_ite, ev_tup, ev_lst, ev_call, ev_bi, ev_ix, ev_sl, ev_rev, ev_cmp', evs_nil, evs_star, ec_c, ec_v, ec_bin, ec_un, ec_chain, ec_and, ec_or, ec_ite, ec_tup, ec_lst, ec_call, ec_bi, ec_ix, ec_sl, ec_rev, ec_cmp, evO_none, evO_some, evT_none, evT_some, evI_rng, evI_rng2, evI_zip, evI_enm, evI_seq, ss_nil', ss_pass', ss_cont', ss_asg', ss_expr', ss_ite', ss_loop', ss_ret', ss_rais', ss_tr', slotM_sh, starM_lst, starM_tup, optI_int, loopM_nil, retM_rt, retM_nx, List.getElem?_cons_zero, List.getElem?_cons_succ, List.set_cons_zero, List.set_cons_succ, bindT, bindTs, wipeE, Tg.slots, Tg.slotss, startE, List.nil_append, List.cons_append, List.append_nil, List.map_cons, List.map_nil, List.length_cons, List.length_nil, List.replicate_succ, List.replicate_zero, Option.bind_some, Option.map_some, Nat.reduceAdd, Nat.reduceSub, Int.reduceEq, Int.reduceLT, Int.reduceLE, decide_true, decide_false, Bool.not_true, Bool.not_false, b_add_i, b_sub_i, b_lt_i, b_le_i, b_gt_i, b_ge_i, b_lt_s, b_eq_i, b_ne_i, b_eq_t0, b_eq_l0, b_ne_t0, b_ne_l0, b_in_1, b_nin_1, u_not, u_neg, bi_len_t, bi_len_l, bi_len_c, bi_tup_l, bi_tup_t, bi_lst_l, bi_lst_t, bi_int_i, bi_edict, bi_min_i, bi_all_map, bi_any_map, sq_l, sq_t, zp_t, zp_l, rv_t, rv_l, sl_t, sl_l, fit0, fit1, fit2, fit3, fit4, fit5, fit6, fit7, fit8, fit9, fit10, fit11, fit12, fit13, fit14, fit15, fit16, fit17, fit18, fit19, fit20, fit21, fit22, fit23, fit24, fit25, fit26, fit27, fit28, fit29, fit30, fit31, fit32, isin_str_non, isin_str_bl, isin_str_int, isin_str_str, isin_str_tup, isin_str_lst, isin_str_dct, isin_tuple_non, isin_tuple_bl, isin_tuple_int, isin_tuple_str, isin_tuple_tup, isin_tuple_lst, isin_tuple_dct, isin_int_non, isin_int_bl, isin_int_int, isin_int_str, isin_int_tup, isin_int_lst, isin_int_dct, isin_bool_non, isin_bool_bl, isin_bool_int, isin_bool_str, isin_bool_tup, isin_bool_lst, isin_bool_dct, isin_list_tuple_non, isin_list_tuple_bl, isin_list_tuple_int, isin_list_tuple_str, isin_list_tuple_tup, isin_list_tuple_lst, isin_list_tuple_dct, isin_tuple_list_non, isin_tuple_list_bl, isin_tuple_list_int, isin_tuple_list_str, isin_tuple_list_tup, isin_tuple_list_lst, isin_tuple_list_dct, isin_list_non, isin_list_bl, isin_list_int, isin_list_str, isin_list_tup, isin_list_lst, isin_list_dct, isin_dict_non, isin_dict_bl, isin_dict_int, isin_dict_str, isin_dict_tup, isin_dict_lst, isin_dict_dct, List.map_id, filter_nil]
  cases hw : xs.all isWordD with
  | false =>
    simp only [M.ret_bind, M.bad_bind, M.bind_assoc, M.lift_some, M.lift_none, M.calm_ret, M.map_ret, M.exc_bind, SM.sb_exc, retM_xc, SM.sb_ret, SM.sb_bad, SM.sb_bind, SM.seq_nx, SM.seq_rt, SM.seq_ct, SM.seq_xc, SM.seq_bad, SM.seq_sb, SM.seq_seq, boolM_bl, bindM_some, bindS_some, iteM_t, iteM_f, brS_t, brS_f, ev_c, ev_v, ev_bin, ev_un, ev_chain, ev_and, ev_or, ev_ite, ev_tup, ev_lst, ev_call, ev_bi, ev_ix, ev_sl, ev_rev, ev_cmp', evs_nil, evs_star, ec_c, ec_v, ec_bin, ec_un, ec_chain, ec_and, ec_or, ec_ite, ec_tup, ec_lst, ec_call, ec_bi, ec_ix, ec_sl, ec_rev, ec_cmp, evO_none, evO_some, evT_none, evT_some, evI_rng, evI_rng2, evI_zip, evI_enm, evI_seq, ss_nil', ss_pass', ss_cont', ss_asg', ss_expr', ss_ite', ss_loop', ss_ret', ss_rais', ss_tr', slotM_sh, starM_lst, starM_tup, optI_int, loopM_nil, retM_rt, retM_nx, List.getElem?_cons_zero, List.getElem?_cons_succ, List.set_cons_zero, List.set_cons_succ, bindT, bindTs, wipeE, Tg.slots, Tg.slotss, startE, List.nil_append, List.cons_append, List.append_nil, List.map_cons, List.map_nil, List.length_cons, List.length_nil, List.replicate_succ, List.replicate_zero, Option.bind_some, Option.map_some, Nat.reduceAdd, Nat.reduceSub, Int.reduceEq, Int.reduceLT, Int.reduceLE, decide_true, decide_false, Bool.not_true, Bool.not_false, b_add_i, b_sub_i, b_lt_i, b_le_i, b_gt_i, b_ge_i, b_lt_s, b_eq_i, b_ne_i, b_eq_t0, b_eq_l0, b_ne_t0, b_ne_l0, b_in_1, b_nin_1, u_not, u_neg, bi_len_t, bi_len_l, bi_len_c, bi_tup_l, bi_tup_t, bi_lst_l, bi_lst_t, bi_int_i, bi_edict, bi_min_i, bi_all_map, bi_any_map, sq_l, sq_t, zp_t, zp_l, rv_t, rv_l, sl_t, sl_l, fit0, fit1, fit2, fit3, fit4, fit5, fit6, fit7, fit8, fit9, fit10, fit11, fit12, fit13, fit14, fit15, fit16, fit17, fit18, fit19, fit20, fit21, fit22, fit23, fit24, fit25, fit26, fit27, fit28, fit29, fit30, fit31, fit32, isin_str_non, isin_str_bl, isin_str_int, isin_str_str, isin_str_tup, isin_str_lst, isin_str_dct, isin_tuple_non, isin_tuple_bl, isin_tuple_int, isin_tuple_str, isin_tuple_tup, isin_tuple_lst, isin_tuple_dct, isin_int_non, isin_int_bl, isin_int_int, isin_int_str, isin_int_tup, isin_int_lst, isin_int_dct, isin_bool_non, isin_bool_bl, isin_bool_int, isin_bool_str, isin_bool_tup, isin_bool_lst, isin_bool_dct, isin_list_tuple_non, isin_list_tuple_bl, isin_list_tuple_int, isin_list_tuple_str, isin_list_tuple_tup, isin_list_tuple_lst, isin_list_tuple_dct, isin_tuple_list_non, isin_tuple_list_bl, isin_tuple_list_int, isin_tuple_list_str, isin_tuple_list_tup, isin_tuple_list_lst, isin_tuple_list_dct, isin_list_non, isin_list_bl, isin_list_int, isin_list_str, isin_list_tup, isin_list_lst, isin_list_dct, isin_dict_non, isin_dict_bl, isin_dict_int, isin_dict_str, isin_dict_tup, isin_dict_lst, isin_dict_dct]
    rw [asc_words hw]
  | true =>
    obtain ⟨ss, rfl, hss⟩ := words_strs hw
    simp only [M.ret_bind, M.bad_bind, M.bind_assoc, M.lift_some, M.lift_none, M.calm_ret, M.map_ret, M.exc_bind, SM.sb_exc, retM_xc, SM.sb_ret, SM.sb_bad, SM.sb_bind, SM.seq_nx, SM.seq_rt, SM.seq_ct, SM.seq_xc, SM.seq_bad, SM.seq_sb, SM.seq_seq, boolM_bl, bindM_some, bindS_some, iteM_t, iteM_f, brS_t, brS_f, ev_c, ev_v, ev_bin, ev_un, ev_chain, ev_and, ev_or, ev_ite, ev_tup, ev_lst, ev_call, ev_bi, ev_ix, ev_sl, ev_rev, ev_cmp', evs_nil, evs_star, ec_c, ec_v, ec_bin, ec_un, ec_chain, ec_and, ec_or, ec_ite, ec_tup, ec_lst, ec_call, ec_bi, ec_ix, ec_sl, ec_rev, ec_cmp, evO_none, evO_some, evT_none, evT_some, evI_rng, evI_rng2, evI_zip, evI_enm, evI_seq, ss_nil', ss_pass', ss_cont', ss_asg', ss_expr', ss_ite', ss_loop', ss_ret', ss_rais', ss_tr', slotM_sh, starM_lst, starM_tup, optI_int, loopM_nil, retM_rt, retM_nx, List.getElem?_cons_zero, List.getElem?_cons_succ, List.set_cons_zero, List.set_cons_succ, bindT, bindTs, wipeE, Tg.slots, Tg.slotss, startE, List.nil_append, List.cons_append, List.append_nil, List.map_cons, List.map_nil, List.length_cons, List.length_nil, List.replicate_succ, List.replicate_zero, Option.bind_some, Option.map_some, Nat.reduceAdd, Nat.reduceSub, Int.reduceEq, Int.reduceLT, Int.reduceLE, decide_true, decide_false, Bool.not_true, Bool.not_false, b_add_i, b_sub_i, b_lt_i, b_le_i, b_gt_i, b_ge_i, b_lt_s, b_eq_i, b_ne_i, b_eq_t0, b_eq_l0, b_ne_t0, b_ne_l0, b_in_1, b_nin_1, u_not, u_neg, bi_len_t, bi_len_l, bi_len_c, bi_tup_l, bi_tup_t, bi_lst_l, bi_lst_t, bi_int_i, bi_edict, bi_min_i, bi_all_map, bi_any_map, sq_l, sq_t, zp_t, zp_l, rv_t, rv_l, sl_t, sl_l, fit0, fit1, fit2, fit3, fit4, fit5, fit6, fit7, fit8, fit9, fit10, fit11, fit12, fit13, fit14, fit15, fit16, fit17, fit18, fit19, fit20, fit21, fit22, fit23, fit24, fit25, fit26, fit27, fit28, fit29, fit30, fit31, fit32, isin_str_non, isin_str_bl, isin_str_int, isin_str_str, isin_str_tup, isin_str_lst, isin_str_dct, isin_tuple_non, isin_tuple_bl, isin_tuple_int, isin_tuple_str, isin_tuple_tup, isin_tuple_lst, isin_tuple_dct, isin_int_non, isin_int_bl, isin_int_int, isin_int_str, isin_int_tup, isin_int_lst, isin_int_dct, isin_bool_non, isin_bool_bl, isin_bool_int, isin_bool_str, isin_bool_tup, isin_bool_lst, isin_bool_dct, isin_list_tuple_non, isin_list_tuple_bl, isin_list_tuple_int, isin_list_tuple_str, isin_list_tuple_tup, isin_list_tuple_lst, isin_list_tuple_dct, isin_tuple_list_non, isin_tuple_list_bl, isin_tuple_list_int, isin_tuple_list_str, isin_tuple_list_tup, isin_tuple_list_lst, isin_tuple_list_dct, isin_list_non, isin_list_bl, isin_list_int, isin_list_str, isin_list_tup, isin_list_lst, isin_list_dct, isin_dict_non, isin_dict_bl, isin_dict_int, isin_dict_str, isin_dict_tup, isin_dict_lst, isin_dict_dct]
    rw [cut_from _ (by decide)]
    have ez : zipD (ss.map D.str) ((ss.map D.str).drop (1 : Int).toNat) = (ss.zip (ss.drop 1)).map fun p => .tup [.str p.1, .str p.2] := by
      unfold zipD
      rw [← List.map_drop, List.zip_map, List.map_map]
      rfl
    rw [ez]
    rw [cmpM_filter (ss.zip (ss.drop 1)) (fun p => .tup [.str p.1, .str p.2]) (fun p => !ltT p.1 p.2) (fun _ => .int 1) (fun p _ => by simp only [M.ret_bind, M.bad_bind, M.bind_assoc, M.lift_some, M.lift_none, M.calm_ret, M.map_ret, M.exc_bind, SM.sb_exc, retM_xc, SM.sb_ret, SM.sb_bad, SM.sb_bind, SM.seq_nx, SM.seq_rt, SM.seq_ct, SM.seq_xc, SM.seq_bad, SM.seq_sb, SM.seq_seq, boolM_bl, bindM_some, bindS_some, iteM_t, iteM_f, brS_t, brS_f, ev_c, ev_v, ev_bin, ev_un, ev_chain, ev_and, ev_or, ev_ite, ev_tup, ev_lst, ev_call, ev_bi, ev_ix, ev_sl, ev_rev, ev_cmp', evs_nil, evs_star, ec_c, ec_v, ec_bin, ec_un, ec_chain, ec_and, ec_or, ec_ite, ec_tup, ec_lst, ec_call, ec_bi, ec_ix, ec_sl, ec_rev, ec_cmp, evO_none, evO_some, evT_none, evT_some, evI_rng, evI_rng2, evI_zip, evI_enm, evI_seq, ss_nil', ss_pass', ss_cont', ss_asg', ss_expr', ss_ite', ss_loop', ss_ret', ss_rais', ss_tr', slotM_sh, starM_lst, starM_tup, optI_int, loopM_nil, retM_rt, retM_nx, List.getElem?_cons_zero, List.getElem?_cons_succ, List.set_cons_zero, List.set_cons_succ, bindT, bindTs, wipeE, Tg.slots, Tg.slotss, startE, List.nil_append, List.cons_append, List.append_nil, List.map_cons, List.map_nil, List.length_cons, List.length_nil, List.replicate_succ, List.replicate_zero, Option.bind_some, Option.map_some, Nat.reduceAdd, Nat.reduceSub, Int.reduceEq, Int.reduceLT, Int.reduceLE, decide_true, decide_false, Bool.not_true, Bool.not_false, b_add_i, b_sub_i, b_lt_i, b_le_i, b_gt_i, b_ge_i, b_lt_s, b_eq_i, b_ne_i, b_eq_t0, b_eq_l0, b_ne_t0, b_ne_l0, b_in_1, b_nin_1, u_not, u_neg, bi_len_t, bi_len_l, bi_len_c, bi_tup_l, bi_tup_t, bi_lst_l, bi_lst_t, bi_int_i, bi_edict, bi_min_i, bi_all_map, bi_any_map, sq_l, sq_t, zp_t, zp_l, rv_t, rv_l, sl_t, sl_l, fit0, fit1, fit2, fit3, fit4, fit5, fit6, fit7, fit8, fit9, fit10, fit11, fit12, fit13, fit14, fit15, fit16, fit17, fit18, fit19, fit20, fit21, fit22, fit23, fit24, fit25, fit26, fit27, fit28, fit29, fit30, fit31, fit32, isin_str_non, isin_str_bl, isin_str_int, isin_str_str, isin_str_tup, isin_str_lst, isin_str_dct, isin_tuple_non, isin_tuple_bl, isin_tuple_int, isin_tuple_str, isin_tuple_tup, isin_tuple_lst, isin_tuple_dct, isin_int_non, isin_int_bl, isin_int_int, isin_int_str, isin_int_tup, isin_int_lst, isin_int_dct, isin_bool_non, isin_bool_bl, isin_bool_int, isin_bool_str, isin_bool_tup, isin_bool_lst, isin_bool_dct, isin_list_tuple_non, isin_list_tuple_bl, isin_list_tuple_int, isin_list_tuple_str, isin_list_tuple_tup, isin_list_tuple_lst, isin_list_tuple_dct, isin_tuple_list_non, isin_tuple_list_bl, isin_tuple_list_int, isin_tuple_list_str, isin_tuple_list_tup, isin_tuple_list_lst, isin_tuple_list_dct, isin_list_non, isin_list_bl, isin_list_int, isin_list_str, isin_list_tup, isin_list_lst, isin_list_dct, isin_dict_non, isin_dict_bl, isin_dict_int, isin_dict_str, isin_dict_tup, isin_dict_lst, isin_dict_dct]; exact iteM_ret _ _ _) (by have := gx.1; simp only [List.length_map] at this; rw [List.length_zip]; exact lim_of (by omega))]
    simp only [M.ret_bind, M.bad_bind, M.bind_assoc, M.lift_some, M.lift_none, M.calm_ret, M.map_ret, M.exc_bind, SM.sb_exc, retM_xc, SM.sb_ret, SM.sb_bad, SM.sb_bind, SM.seq_nx, SM.seq_rt, SM.seq_ct, SM.seq_xc, SM.seq_bad, SM.seq_sb, SM.seq_seq, boolM_bl, bindM_some, bindS_some, iteM_t, iteM_f, brS_t, brS_f, ev_c, ev_v, ev_bin, ev_un, ev_chain, ev_and, ev_or, ev_ite, ev_tup, ev_lst, ev_call, ev_bi, ev_ix, ev_sl, ev_rev, ev_cmp', evs_nil, evs_star, ec_c, ec_v, ec_bin, ec_un, ec_chain, ec_and, ec_or, ec_ite, ec_tup, ec_lst, ec_call, ec_bi, ec_ix, ec_sl, ec_rev, ec_cmp, evO_none, evO_some, evT_none, evT_some, evI_rng, evI_rng2, evI_zip, evI_enm, evI_seq, ss_nil', ss_pass', ss_cont', ss_asg', ss_expr', ss_ite', ss_loop', ss_ret', ss_rais', ss_tr', slotM_sh, starM_lst, starM_tup, optI_int, loopM_nil, retM_rt, retM_nx, List.getElem?_cons_zero, List.getElem?_cons_succ, List.set_cons_zero, List.set_cons_succ, bindT, bindTs, wipeE, Tg.slots, Tg.slotss, startE, List.nil_append, List.cons_append, List.append_nil, List.map_cons, List.map_nil, List.length_cons, List.length_nil, List.replicate_succ, List.replicate_zero, Option.bind_some, Option.map_some, Nat.reduceAdd, Nat.reduceSub, Int.reduceEq, Int.reduceLT, Int.reduceLE, decide_true, decide_false, Bool.not_true, Bool.not_false, b_add_i, b_sub_i, b_lt_i, b_le_i, b_gt_i, b_ge_i, b_lt_s, b_eq_i, b_ne_i, b_eq_t0, b_eq_l0, b_ne_t0, b_ne_l0, b_in_1, b_nin_1, u_not, u_neg, bi_len_t, bi_len_l, bi_len_c, bi_tup_l, bi_tup_t, bi_lst_l, bi_lst_t, bi_int_i, bi_edict, bi_min_i, bi_all_map, bi_any_map, sq_l, sq_t, zp_t, zp_l, rv_t, rv_l, sl_t, sl_l, fit0, fit1, fit2, fit3, fit4, fit5, fit6, fit7, fit8, fit9, fit10, fit11, fit12, fit13, fit14, fit15, fit16, fit17, fit18, fit19, fit20, fit21, fit22, fit23, fit24, fit25, fit26, fit27, fit28, fit29, fit30, fit31, fit32, isin_str_non, isin_str_bl, isin_str_int, isin_str_str, isin_str_tup, isin_str_lst, isin_str_dct, isin_tuple_non, isin_tuple_bl, isin_tuple_int, isin_tuple_str, isin_tuple_tup, isin_tuple_lst, isin_tuple_dct, isin_int_non, isin_int_bl, isin_int_int, isin_int_str, isin_int_tup, isin_int_lst, isin_int_dct, isin_bool_non, isin_bool_bl, isin_bool_int, isin_bool_str, isin_bool_tup, isin_bool_lst, isin_bool_dct, isin_list_tuple_non, isin_list_tuple_bl, isin_list_tuple_int, isin_list_tuple_str, isin_list_tuple_tup, isin_list_tuple_lst, isin_list_tuple_dct, isin_tuple_list_non, isin_tuple_list_bl, isin_tuple_list_int, isin_tuple_list_str, isin_tuple_list_tup, isin_tuple_list_lst, isin_tuple_list_dct, isin_list_non, isin_list_bl, isin_list_int, isin_list_str, isin_list_tup, isin_list_lst, isin_list_dct, isin_dict_non, isin_dict_bl, isin_dict_int, isin_dict_str, isin_dict_tup, isin_dict_lst, isin_dict_dct, List.isEmpty_map, filter_nil]
    rw [asc_strs, hss]
    rfl
/-! ### the law's own loops -/
theorem shown_none : PyData.shown .none = ("None" : Str) := by simp only [PyData.shown]
theorem asc_n {d : D} (h : ascD d = true) : ∃ xs, d = .tup xs := by
  cases d <;> simp [ascD] at h
  exact ⟨_, rfl⟩
theorem nThings_eq (xs : List D) : nThings (.tup xs) = (ascD (.tup xs) && (decide (1 ≤ xs.length) && decide (xs.length ≤ 5))) := rfl
theorem nThings_asc {d : D} (h : ascD d = false) : nThings d = false := by
  cases d <;> first | rfl | skip
  rw [nThings_eq, h]
  rfl
theorem eqok_pair {a b : D} (ha : a.eqok = true) (hb : b.eqok = true) (ha0 : a.dp ≤ 60) (hb0 : b.dp ≤ 60) : (D.tup [a, b]).eqok = true := by
  unfold D.eqok at *
  simp only [Bool.and_eq_true, decide_eq_true_eq] at *
  refine ⟨by simp [D.plain, D.plains, ha.1, hb.1], ?_⟩
  have z := (dp_tup (k := 60) (xs := [a, b])).mpr (by simp; exact ⟨ha0, hb0⟩)
  exact Nat.le_trans z (by decide)
theorem ne_pair_refl {a b : D} (h : (D.tup [a, b]).eqok = true) : binD .ne (.tup [a, b]) (.tup [a, b]) = some (.bl false) := by
  rw [b_ne h h, PySem.SeqAt.eqv_refl _ (plain_canLay _ (eqok_plain h))]
  rfl
variable (ha1 : Has P "is_word" f_is_word) (ha2 : Has P "are_ascending" f_are_ascending) (ha3 : Has P "need_things" f_need_things) (ha4 : Has P "_law_is_name" f_law_is_name) (ha5 : Has P "_law_are_ascending" K01.f_law_are_ascending)
/-- a thing of the first loop -/
def body1 : List Sm := [.asg (.t [.v 11, .v 12, .v 13]) (.tup [.bi .repr [.v 6], .c .non, .c .non]),
     .tr [.asg (.v 12) (.call "need_things" [.v 6])]
      [⟨"BadThings", 7, .set 13 (.rep .fld)⟩],
     .asg (.v 8) (.and (.call "_law_are_ascending" [.v 6]) (.chain .le .le (.c (.int 1)) (.bi .len [.v 6]) (.c (.int 5)))),
     .ite (.or (.bin .ne (.tup [.bi .repr [.v 12], .v 13]) (.ite (.v 8) (.tup [.v 11, .c .non]) (.tup [.c (.str "None"), .v 11]))) (.bin .ne (.bi .repr [.v 6]) (.v 11))) [.ret (.c (.bl false))] []]
include ha1 ha2 ha3 ha4 ha5
theorem body1_ok {d : D} (hd : Sz 36 1000 10 d) {s0 s1 s2 s3 s4 s5 s7 s8 s9 s10 s11 s12 s13 s14 : Slot} :
    ∃ t7 t8 t11 t12 t13, exSs (runF P pr up (k + 3)) up body1 [s0, s1, s2, s3, s4, s5, .sh d, s7, s8, s9, s10, s11, s12, s13, s14] = SM.nx [s0, s1, s2, s3, s4, s5, .sh d, t7, t8, s9, s10, t11, t12, t13, s14] := by
  have hr : biD .repr [d] = some (.str d.py.shown) := bi_repr_f (by decide : 36 ≤ 1000) hd.f (by have := hd.w; omega) (by have := hd.d; omega)
  have hg : d.good = true := fine_good (by decide : 36 ≤ 1000) d hd.f hd.w
  have hs : PyData.strOk d.py.shown = true := strOk_shown d hd.f
  have hn : biD .repr [.non] = some (.str "None") := by
    have := bi_repr_f (n := 36) (d := .non) (by decide) rfl (by decide) (by decide)
    rw [this]
    simp only [D.py, shown_none]
  have e1 : (D.tup [.str d.py.shown, .non]).eqok = true := eqok_pair (eqok_str hs) rfl (Nat.zero_le _) (Nat.zero_le _)
  have e2 : (D.tup [.str "None", .str d.py.shown]).eqok = true := eqok_pair (eqok_str (strOk_of _)) (eqok_str hs) (Nat.zero_le _) (Nat.zero_le _)
  have la : runF P pr up (k + 3) "_law_are_ascending" [d] = M.ret (.bl (ascD d)) := w_law_asc ha4 ha5 hg
  have ne0 : binD .ne (.str d.py.shown) (.str d.py.shown) = some (.bl false) := by rw [b_ne_s hs hs]; simp
  unfold body1
  simp only [M.ret_bind, M.bad_bind, M.bind_assoc, M.lift_some, M.lift_none, M.calm_ret, M.map_ret, M.exc_bind, SM.sb_exc, retM_xc, SM.sb_ret, SM.sb_bad, SM.sb_bind, SM.seq_nx, SM.seq_rt, SM.seq_ct, SM.seq_xc, SM.seq_bad, SM.seq_sb, SM.seq_seq, boolM_bl, bindM_some, bindS_some, iteM_t, iteM_f, brS_t, brS_f, ev_c, ev_v, ev_bin, ev_un, ev_chain, ev_and, ev_or, ev_ite, ev_tup, ev_lst, ev_call, ev_bi, ev_ix, ev_sl, ev_rev, ev_cmp', evs_nil, evs_star, ec_c, ec_v, ec_bin, ec_un, ec_chain, ec_and, ec_or, ec_ite, ec_tup, ec_lst, ec_call, ec_bi, ec_ix, ec_sl, ec_rev, ec_cmp, evO_none, evO_some, evT_none, evT_some, evI_rng, evI_rng2, evI_zip, evI_enm, evI_seq, ss_nil', ss_pass', ss_cont', ss_asg', ss_expr', ss_ite', ss_loop', ss_ret', ss_rais', ss_tr', slotM_sh, starM_lst, starM_tup, optI_int, loopM_nil, retM_rt, retM_nx, List.getElem?_cons_zero, List.getElem?_cons_succ, List.set_cons_zero, List.set_cons_succ, bindT, bindTs, wipeE, Tg.slots, Tg.slotss, startE, List.nil_append, List.cons_append, List.append_nil, List.map_cons, List.map_nil, List.length_cons, List.length_nil, List.replicate_succ, List.replicate_zero, Option.bind_some, Option.map_some, Nat.reduceAdd, Nat.reduceSub, Int.reduceEq, Int.reduceLT, Int.reduceLE, decide_true, decide_false, Bool.not_true, Bool.not_false, b_add_i, b_sub_i, b_lt_i, b_le_i, b_gt_i, b_ge_i, b_lt_s, b_eq_i, b_ne_i, b_eq_t0, b_eq_l0, b_ne_t0, b_ne_l0, b_in_1, b_nin_1, u_not, u_neg, bi_len_t, bi_len_l, bi_len_c, bi_tup_l, bi_tup_t, bi_lst_l, bi_lst_t, bi_int_i, bi_edict, bi_min_i, bi_all_map, bi_any_map, sq_l, sq_t, zp_t, zp_l, rv_t, rv_l, sl_t, sl_l, fit0, fit1, fit2, fit3, fit4, fit5, fit6, fit7, fit8, fit9, fit10, fit11, fit12, fit13, fit14, fit15, fit16, fit17, fit18, fit19, fit20, fit21, fit22, fit23, fit24, fit25, fit26, fit27, fit28, fit29, fit30, fit31, fit32, isin_str_non, isin_str_bl, isin_str_int, isin_str_str, isin_str_tup, isin_str_lst, isin_str_dct, isin_tuple_non, isin_tuple_bl, isin_tuple_int, isin_tuple_str, isin_tuple_tup, isin_tuple_lst, isin_tuple_dct, isin_int_non, isin_int_bl, isin_int_int, isin_int_str, isin_int_tup, isin_int_lst, isin_int_dct, isin_bool_non, isin_bool_bl, isin_bool_int, isin_bool_str, isin_bool_tup, isin_bool_lst, isin_bool_dct, isin_list_tuple_non, isin_list_tuple_bl, isin_list_tuple_int, isin_list_tuple_str, isin_list_tuple_tup, isin_list_tuple_lst, isin_list_tuple_dct, isin_tuple_list_non, isin_tuple_list_bl, isin_tuple_list_int, isin_tuple_list_str, isin_tuple_list_tup, isin_tuple_list_lst, isin_tuple_list_dct, isin_list_non, isin_list_bl, isin_list_int, isin_list_str, isin_list_tup, isin_list_lst, isin_list_dct, isin_dict_non, isin_dict_bl, isin_dict_int, isin_dict_str, isin_dict_tup, isin_dict_lst, isin_dict_dct, hr, w_need_things ha1 ha2 ha3 hg]
  rcases Bool.eq_false_or_eq_true (nThings d) with hx | hx
  · have ha : ascD d = true := by
      cases h : ascD d with
      | true => rfl
      | false => rw [nThings_asc h] at hx; cases hx
    obtain ⟨xs, rfl⟩ := asc_n ha
    have hx2 := hx
    rw [nThings_eq, ha, Bool.true_and, Bool.and_eq_true, decide_eq_true_eq, decide_eq_true_eq] at hx2
    have c1 : (1 : Int) ≤ xs.length := by omega
    have c2 : (xs.length : Int) ≤ 5 := by omega
    simp only [hx, if_true, M.ret_bind, M.bad_bind, M.bind_assoc, M.lift_some, M.lift_none, M.calm_ret, M.map_ret, M.exc_bind, SM.sb_exc, retM_xc, SM.sb_ret, SM.sb_bad, SM.sb_bind, SM.seq_nx, SM.seq_rt, SM.seq_ct, SM.seq_xc, SM.seq_bad, SM.seq_sb, SM.seq_seq, boolM_bl, bindM_some, bindS_some, iteM_t, iteM_f, brS_t, brS_f, ev_c, ev_v, ev_bin, ev_un, ev_chain, ev_and, ev_or, ev_ite, ev_tup, ev_lst, ev_call, ev_bi, ev_ix, ev_sl, ev_rev, ev_cmp', evs_nil, evs_star, ec_c, ec_v, ec_bin, ec_un, ec_chain, ec_and, ec_or, ec_ite, ec_tup, ec_lst, ec_call, ec_bi, ec_ix, ec_sl, ec_rev, ec_cmp, evO_none, evO_some, evT_none, evT_some, evI_rng, evI_rng2, evI_zip, evI_enm, evI_seq, ss_nil', ss_pass', ss_cont', ss_asg', ss_expr', ss_ite', ss_loop', ss_ret', ss_rais', ss_tr', slotM_sh, starM_lst, starM_tup, optI_int, loopM_nil, retM_rt, retM_nx, List.getElem?_cons_zero, List.getElem?_cons_succ, List.set_cons_zero, List.set_cons_succ, bindT, bindTs, wipeE, Tg.slots, Tg.slotss, startE, List.nil_append, List.cons_append, List.append_nil, List.map_cons, List.map_nil, List.length_cons, List.length_nil, List.replicate_succ, List.replicate_zero, Option.bind_some, Option.map_some, Nat.reduceAdd, Nat.reduceSub, Int.reduceEq, Int.reduceLT, Int.reduceLE, decide_true, decide_false, Bool.not_true, Bool.not_false, catch_nx, la, ha, b_add_i, b_sub_i, b_lt_i, b_le_i, b_gt_i, b_ge_i, b_lt_s, b_eq_i, b_ne_i, b_eq_t0, b_eq_l0, b_ne_t0, b_ne_l0, b_in_1, b_nin_1, u_not, u_neg, bi_len_t, bi_len_l, bi_len_c, bi_tup_l, bi_tup_t, bi_lst_l, bi_lst_t, bi_int_i, bi_edict, bi_min_i, bi_all_map, bi_any_map, sq_l, sq_t, zp_t, zp_l, rv_t, rv_l, sl_t, sl_l, fit0, fit1, fit2, fit3, fit4, fit5, fit6, fit7, fit8, fit9, fit10, fit11, fit12, fit13, fit14, fit15, fit16, fit17, fit18, fit19, fit20, fit21, fit22, fit23, fit24, fit25, fit26, fit27, fit28, fit29, fit30, fit31, fit32, isin_str_non, isin_str_bl, isin_str_int, isin_str_str, isin_str_tup, isin_str_lst, isin_str_dct, isin_tuple_non, isin_tuple_bl, isin_tuple_int, isin_tuple_str, isin_tuple_tup, isin_tuple_lst, isin_tuple_dct, isin_int_non, isin_int_bl, isin_int_int, isin_int_str, isin_int_tup, isin_int_lst, isin_int_dct, isin_bool_non, isin_bool_bl, isin_bool_int, isin_bool_str, isin_bool_tup, isin_bool_lst, isin_bool_dct, isin_list_tuple_non, isin_list_tuple_bl, isin_list_tuple_int, isin_list_tuple_str, isin_list_tuple_tup, isin_list_tuple_lst, isin_list_tuple_dct, isin_tuple_list_non, isin_tuple_list_bl, isin_tuple_list_int, isin_tuple_list_str, isin_tuple_list_tup, isin_tuple_list_lst, isin_tuple_list_dct, isin_list_non, isin_list_bl, isin_list_int, isin_list_str, isin_list_tup, isin_list_lst, isin_list_dct, isin_dict_non, isin_dict_bl, isin_dict_int, isin_dict_str, isin_dict_tup, isin_dict_lst, isin_dict_dct, c1, c2, hr, ne_pair_refl e1, ne0]
    exact ⟨_, _, _, _, _, rfl⟩
  · simp only [hx, Bool.false_eq_true, if_false, M.ret_bind, M.bad_bind, M.bind_assoc, M.lift_some, M.lift_none, M.calm_ret, M.map_ret, M.exc_bind, SM.sb_exc, retM_xc, SM.sb_ret, SM.sb_bad, SM.sb_bind, SM.seq_nx, SM.seq_rt, SM.seq_ct, SM.seq_xc, SM.seq_bad, SM.seq_sb, SM.seq_seq, boolM_bl, bindM_some, bindS_some, iteM_t, iteM_f, brS_t, brS_f, ev_c, ev_v, ev_bin, ev_un, ev_chain, ev_and, ev_or, ev_ite, ev_tup, ev_lst, ev_call, ev_bi, ev_ix, ev_sl, ev_rev, ev_cmp', evs_nil, evs_star, ec_c, ec_v, ec_bin, ec_un, ec_chain, ec_and, ec_or, ec_ite, ec_tup, ec_lst, ec_call, ec_bi, ec_ix, ec_sl, ec_rev, ec_cmp, evO_none, evO_some, evT_none, evT_some, evI_rng, evI_rng2, evI_zip, evI_enm, evI_seq, ss_nil', ss_pass', ss_cont', ss_asg', ss_expr', ss_ite', ss_loop', ss_ret', ss_rais', ss_tr', slotM_sh, starM_lst, starM_tup, optI_int, loopM_nil, retM_rt, retM_nx, List.getElem?_cons_zero, List.getElem?_cons_succ, List.set_cons_zero, List.set_cons_succ, bindT, bindTs, wipeE, Tg.slots, Tg.slotss, startE, List.nil_append, List.cons_append, List.append_nil, List.map_cons, List.map_nil, List.length_cons, List.length_nil, List.replicate_succ, List.replicate_zero, Option.bind_some, Option.map_some, Nat.reduceAdd, Nat.reduceSub, Int.reduceEq, Int.reduceLT, Int.reduceLE, decide_true, decide_false, Bool.not_true, Bool.not_false]
    rw [catch_set (d := .str d.py.shown) (by simp) (by simp only [evH, Option.bind_some]; exact hr)]
    simp only [M.ret_bind, M.bad_bind, M.bind_assoc, M.lift_some, M.lift_none, M.calm_ret, M.map_ret, M.exc_bind, SM.sb_exc, retM_xc, SM.sb_ret, SM.sb_bad, SM.sb_bind, SM.seq_nx, SM.seq_rt, SM.seq_ct, SM.seq_xc, SM.seq_bad, SM.seq_sb, SM.seq_seq, boolM_bl, bindM_some, bindS_some, iteM_t, iteM_f, brS_t, brS_f, ev_c, ev_v, ev_bin, ev_un, ev_chain, ev_and, ev_or, ev_ite, ev_tup, ev_lst, ev_call, ev_bi, ev_ix, ev_sl, ev_rev, ev_cmp', evs_nil, evs_star, ec_c, ec_v, ec_bin, ec_un, ec_chain, ec_and, ec_or, ec_ite, ec_tup, ec_lst, ec_call, ec_bi, ec_ix, ec_sl, ec_rev, ec_cmp, evO_none, evO_some, evT_none, evT_some, evI_rng, evI_rng2, evI_zip, evI_enm, evI_seq, ss_nil', ss_pass', ss_cont', ss_asg', ss_expr', ss_ite', ss_loop', ss_ret', ss_rais', ss_tr', slotM_sh, starM_lst, starM_tup, optI_int, loopM_nil, retM_rt, retM_nx, List.getElem?_cons_zero, List.getElem?_cons_succ, List.set_cons_zero, List.set_cons_succ, bindT, bindTs, wipeE, Tg.slots, Tg.slotss, startE, List.nil_append, List.cons_append, List.append_nil, List.map_cons, List.map_nil, List.length_cons, List.length_nil, List.replicate_succ, List.replicate_zero, Option.bind_some, Option.map_some, Nat.reduceAdd, Nat.reduceSub, Int.reduceEq, Int.reduceLT, Int.reduceLE, decide_true, decide_false, Bool.not_true, Bool.not_false, la]
    rcases Bool.eq_false_or_eq_true (ascD d) with ha | ha
    · obtain ⟨xs, rfl⟩ := asc_n ha
      have hx2 := hx
      rw [nThings_eq, ha, Bool.true_and] at hx2
      simp only [ha, M.ret_bind, M.bad_bind, M.bind_assoc, M.lift_some, M.lift_none, M.calm_ret, M.map_ret, M.exc_bind, SM.sb_exc, retM_xc, SM.sb_ret, SM.sb_bad, SM.sb_bind, SM.seq_nx, SM.seq_rt, SM.seq_ct, SM.seq_xc, SM.seq_bad, SM.seq_sb, SM.seq_seq, boolM_bl, bindM_some, bindS_some, iteM_t, iteM_f, brS_t, brS_f, ev_c, ev_v, ev_bin, ev_un, ev_chain, ev_and, ev_or, ev_ite, ev_tup, ev_lst, ev_call, ev_bi, ev_ix, ev_sl, ev_rev, ev_cmp', evs_nil, evs_star, ec_c, ec_v, ec_bin, ec_un, ec_chain, ec_and, ec_or, ec_ite, ec_tup, ec_lst, ec_call, ec_bi, ec_ix, ec_sl, ec_rev, ec_cmp, evO_none, evO_some, evT_none, evT_some, evI_rng, evI_rng2, evI_zip, evI_enm, evI_seq, ss_nil', ss_pass', ss_cont', ss_asg', ss_expr', ss_ite', ss_loop', ss_ret', ss_rais', ss_tr', slotM_sh, starM_lst, starM_tup, optI_int, loopM_nil, retM_rt, retM_nx, List.getElem?_cons_zero, List.getElem?_cons_succ, List.set_cons_zero, List.set_cons_succ, bindT, bindTs, wipeE, Tg.slots, Tg.slotss, startE, List.nil_append, List.cons_append, List.append_nil, List.map_cons, List.map_nil, List.length_cons, List.length_nil, List.replicate_succ, List.replicate_zero, Option.bind_some, Option.map_some, Nat.reduceAdd, Nat.reduceSub, Int.reduceEq, Int.reduceLT, Int.reduceLE, decide_true, decide_false, Bool.not_true, Bool.not_false, b_add_i, b_sub_i, b_lt_i, b_le_i, b_gt_i, b_ge_i, b_lt_s, b_eq_i, b_ne_i, b_eq_t0, b_eq_l0, b_ne_t0, b_ne_l0, b_in_1, b_nin_1, u_not, u_neg, bi_len_t, bi_len_l, bi_len_c, bi_tup_l, bi_tup_t, bi_lst_l, bi_lst_t, bi_int_i, bi_edict, bi_min_i, bi_all_map, bi_any_map, sq_l, sq_t, zp_t, zp_l, rv_t, rv_l, sl_t, sl_l, fit0, fit1, fit2, fit3, fit4, fit5, fit6, fit7, fit8, fit9, fit10, fit11, fit12, fit13, fit14, fit15, fit16, fit17, fit18, fit19, fit20, fit21, fit22, fit23, fit24, fit25, fit26, fit27, fit28, fit29, fit30, fit31, fit32, isin_str_non, isin_str_bl, isin_str_int, isin_str_str, isin_str_tup, isin_str_lst, isin_str_dct, isin_tuple_non, isin_tuple_bl, isin_tuple_int, isin_tuple_str, isin_tuple_tup, isin_tuple_lst, isin_tuple_dct, isin_int_non, isin_int_bl, isin_int_int, isin_int_str, isin_int_tup, isin_int_lst, isin_int_dct, isin_bool_non, isin_bool_bl, isin_bool_int, isin_bool_str, isin_bool_tup, isin_bool_lst, isin_bool_dct, isin_list_tuple_non, isin_list_tuple_bl, isin_list_tuple_int, isin_list_tuple_str, isin_list_tuple_tup, isin_list_tuple_lst, isin_list_tuple_dct, isin_tuple_list_non, isin_tuple_list_bl, isin_tuple_list_int, isin_tuple_list_str, isin_tuple_list_tup, isin_tuple_list_lst, isin_tuple_list_dct, isin_list_non, isin_list_bl, isin_list_int, isin_list_str, isin_list_tup, isin_list_lst, isin_list_dct, isin_dict_non, isin_dict_bl, isin_dict_int, isin_dict_str, isin_dict_tup, isin_dict_lst, isin_dict_dct]
      by_cases c1 : (1 : Int) ≤ xs.length
      · by_cases c2 : (xs.length : Int) ≤ 5
        · exfalso
          have c1' : 1 ≤ xs.length := by omega
          have c2' : xs.length ≤ 5 := by omega
          simp [c1', c2'] at hx2
        · simp only [c1, c2, M.ret_bind, M.bad_bind, M.bind_assoc, M.lift_some, M.lift_none, M.calm_ret, M.map_ret, M.exc_bind, SM.sb_exc, retM_xc, SM.sb_ret, SM.sb_bad, SM.sb_bind, SM.seq_nx, SM.seq_rt, SM.seq_ct, SM.seq_xc, SM.seq_bad, SM.seq_sb, SM.seq_seq, boolM_bl, bindM_some, bindS_some, iteM_t, iteM_f, brS_t, brS_f, ev_c, ev_v, ev_bin, ev_un, ev_chain, ev_and, ev_or, ev_ite, ev_tup, ev_lst, ev_call, ev_bi, ev_ix, ev_sl, ev_rev, ev_cmp', evs_nil, evs_star, ec_c, ec_v, ec_bin, ec_un, ec_chain, ec_and, ec_or, ec_ite, ec_tup, ec_lst, ec_call, ec_bi, ec_ix, ec_sl, ec_rev, ec_cmp, evO_none, evO_some, evT_none, evT_some, evI_rng, evI_rng2, evI_zip, evI_enm, evI_seq, ss_nil', ss_pass', ss_cont', ss_asg', ss_expr', ss_ite', ss_loop', ss_ret', ss_rais', ss_tr', slotM_sh, starM_lst, starM_tup, optI_int, loopM_nil, retM_rt, retM_nx, List.getElem?_cons_zero, List.getElem?_cons_succ, List.set_cons_zero, List.set_cons_succ, bindT, bindTs, wipeE, Tg.slots, Tg.slotss, startE, List.nil_append, List.cons_append, List.append_nil, List.map_cons, List.map_nil, List.length_cons, List.length_nil, List.replicate_succ, List.replicate_zero, Option.bind_some, Option.map_some, Nat.reduceAdd, Nat.reduceSub, Int.reduceEq, Int.reduceLT, Int.reduceLE, decide_true, decide_false, Bool.not_true, Bool.not_false, b_add_i, b_sub_i, b_lt_i, b_le_i, b_gt_i, b_ge_i, b_lt_s, b_eq_i, b_ne_i, b_eq_t0, b_eq_l0, b_ne_t0, b_ne_l0, b_in_1, b_nin_1, u_not, u_neg, bi_len_t, bi_len_l, bi_len_c, bi_tup_l, bi_tup_t, bi_lst_l, bi_lst_t, bi_int_i, bi_edict, bi_min_i, bi_all_map, bi_any_map, sq_l, sq_t, zp_t, zp_l, rv_t, rv_l, sl_t, sl_l, fit0, fit1, fit2, fit3, fit4, fit5, fit6, fit7, fit8, fit9, fit10, fit11, fit12, fit13, fit14, fit15, fit16, fit17, fit18, fit19, fit20, fit21, fit22, fit23, fit24, fit25, fit26, fit27, fit28, fit29, fit30, fit31, fit32, isin_str_non, isin_str_bl, isin_str_int, isin_str_str, isin_str_tup, isin_str_lst, isin_str_dct, isin_tuple_non, isin_tuple_bl, isin_tuple_int, isin_tuple_str, isin_tuple_tup, isin_tuple_lst, isin_tuple_dct, isin_int_non, isin_int_bl, isin_int_int, isin_int_str, isin_int_tup, isin_int_lst, isin_int_dct, isin_bool_non, isin_bool_bl, isin_bool_int, isin_bool_str, isin_bool_tup, isin_bool_lst, isin_bool_dct, isin_list_tuple_non, isin_list_tuple_bl, isin_list_tuple_int, isin_list_tuple_str, isin_list_tuple_tup, isin_list_tuple_lst, isin_list_tuple_dct, isin_tuple_list_non, isin_tuple_list_bl, isin_tuple_list_int, isin_tuple_list_str, isin_tuple_list_tup, isin_tuple_list_lst, isin_tuple_list_dct, isin_list_non, isin_list_bl, isin_list_int, isin_list_str, isin_list_tup, isin_list_lst, isin_list_dct, isin_dict_non, isin_dict_bl, isin_dict_int, isin_dict_str, isin_dict_tup, isin_dict_lst, isin_dict_dct, hn, ne_pair_refl e2, hr, ne0]
          exact ⟨_, _, _, _, _, rfl⟩
      · simp only [c1, M.ret_bind, M.bad_bind, M.bind_assoc, M.lift_some, M.lift_none, M.calm_ret, M.map_ret, M.exc_bind, SM.sb_exc, retM_xc, SM.sb_ret, SM.sb_bad, SM.sb_bind, SM.seq_nx, SM.seq_rt, SM.seq_ct, SM.seq_xc, SM.seq_bad, SM.seq_sb, SM.seq_seq, boolM_bl, bindM_some, bindS_some, iteM_t, iteM_f, brS_t, brS_f, ev_c, ev_v, ev_bin, ev_un, ev_chain, ev_and, ev_or, ev_ite, ev_tup, ev_lst, ev_call, ev_bi, ev_ix, ev_sl, ev_rev, ev_cmp', evs_nil, evs_star, ec_c, ec_v, ec_bin, ec_un, ec_chain, ec_and, ec_or, ec_ite, ec_tup, ec_lst, ec_call, ec_bi, ec_ix, ec_sl, ec_rev, ec_cmp, evO_none, evO_some, evT_none, evT_some, evI_rng, evI_rng2, evI_zip, evI_enm, evI_seq, ss_nil', ss_pass', ss_cont', ss_asg', ss_expr', ss_ite', ss_loop', ss_ret', ss_rais', ss_tr', slotM_sh, starM_lst, starM_tup, optI_int, loopM_nil, retM_rt, retM_nx, List.getElem?_cons_zero, List.getElem?_cons_succ, List.set_cons_zero, List.set_cons_succ, bindT, bindTs, wipeE, Tg.slots, Tg.slotss, startE, List.nil_append, List.cons_append, List.append_nil, List.map_cons, List.map_nil, List.length_cons, List.length_nil, List.replicate_succ, List.replicate_zero, Option.bind_some, Option.map_some, Nat.reduceAdd, Nat.reduceSub, Int.reduceEq, Int.reduceLT, Int.reduceLE, decide_true, decide_false, Bool.not_true, Bool.not_false, b_add_i, b_sub_i, b_lt_i, b_le_i, b_gt_i, b_ge_i, b_lt_s, b_eq_i, b_ne_i, b_eq_t0, b_eq_l0, b_ne_t0, b_ne_l0, b_in_1, b_nin_1, u_not, u_neg, bi_len_t, bi_len_l, bi_len_c, bi_tup_l, bi_tup_t, bi_lst_l, bi_lst_t, bi_int_i, bi_edict, bi_min_i, bi_all_map, bi_any_map, sq_l, sq_t, zp_t, zp_l, rv_t, rv_l, sl_t, sl_l, fit0, fit1, fit2, fit3, fit4, fit5, fit6, fit7, fit8, fit9, fit10, fit11, fit12, fit13, fit14, fit15, fit16, fit17, fit18, fit19, fit20, fit21, fit22, fit23, fit24, fit25, fit26, fit27, fit28, fit29, fit30, fit31, fit32, isin_str_non, isin_str_bl, isin_str_int, isin_str_str, isin_str_tup, isin_str_lst, isin_str_dct, isin_tuple_non, isin_tuple_bl, isin_tuple_int, isin_tuple_str, isin_tuple_tup, isin_tuple_lst, isin_tuple_dct, isin_int_non, isin_int_bl, isin_int_int, isin_int_str, isin_int_tup, isin_int_lst, isin_int_dct, isin_bool_non, isin_bool_bl, isin_bool_int, isin_bool_str, isin_bool_tup, isin_bool_lst, isin_bool_dct, isin_list_tuple_non, isin_list_tuple_bl, isin_list_tuple_int, isin_list_tuple_str, isin_list_tuple_tup, isin_list_tuple_lst, isin_list_tuple_dct, isin_tuple_list_non, isin_tuple_list_bl, isin_tuple_list_int, isin_tuple_list_str, isin_tuple_list_tup, isin_tuple_list_lst, isin_tuple_list_dct, isin_list_non, isin_list_bl, isin_list_int, isin_list_str, isin_list_tup, isin_list_lst, isin_list_dct, isin_dict_non, isin_dict_bl, isin_dict_int, isin_dict_str, isin_dict_tup, isin_dict_lst, isin_dict_dct, hn, ne_pair_refl e2, hr, ne0]
        exact ⟨_, _, _, _, _, rfl⟩
    · simp only [ha, M.ret_bind, M.bad_bind, M.bind_assoc, M.lift_some, M.lift_none, M.calm_ret, M.map_ret, M.exc_bind, SM.sb_exc, retM_xc, SM.sb_ret, SM.sb_bad, SM.sb_bind, SM.seq_nx, SM.seq_rt, SM.seq_ct, SM.seq_xc, SM.seq_bad, SM.seq_sb, SM.seq_seq, boolM_bl, bindM_some, bindS_some, iteM_t, iteM_f, brS_t, brS_f, ev_c, ev_v, ev_bin, ev_un, ev_chain, ev_and, ev_or, ev_ite, ev_tup, ev_lst, ev_call, ev_bi, ev_ix, ev_sl, ev_rev, ev_cmp', evs_nil, evs_star, ec_c, ec_v, ec_bin, ec_un, ec_chain, ec_and, ec_or, ec_ite, ec_tup, ec_lst, ec_call, ec_bi, ec_ix, ec_sl, ec_rev, ec_cmp, evO_none, evO_some, evT_none, evT_some, evI_rng, evI_rng2, evI_zip, evI_enm, evI_seq, ss_nil', ss_pass', ss_cont', ss_asg', ss_expr', ss_ite', ss_loop', ss_ret', ss_rais', ss_tr', slotM_sh, starM_lst, starM_tup, optI_int, loopM_nil, retM_rt, retM_nx, List.getElem?_cons_zero, List.getElem?_cons_succ, List.set_cons_zero, List.set_cons_succ, bindT, bindTs, wipeE, Tg.slots, Tg.slotss, startE, List.nil_append, List.cons_append, List.append_nil, List.map_cons, List.map_nil, List.length_cons, List.length_nil, List.replicate_succ, List.replicate_zero, Option.bind_some, Option.map_some, Nat.reduceAdd, Nat.reduceSub, Int.reduceEq, Int.reduceLT, Int.reduceLE, decide_true, decide_false, Bool.not_true, Bool.not_false, b_add_i, b_sub_i, b_lt_i, b_le_i, b_gt_i, b_ge_i, b_lt_s, b_eq_i, b_ne_i, b_eq_t0, b_eq_l0, b_ne_t0, b_ne_l0, b_in_1, b_nin_1, u_not, u_neg, bi_len_t, bi_len_l, bi_len_c, bi_tup_l, bi_tup_t, bi_lst_l, bi_lst_t, bi_int_i, bi_edict, bi_min_i, bi_all_map, bi_any_map, sq_l, sq_t, zp_t, zp_l, rv_t, rv_l, sl_t, sl_l, fit0, fit1, fit2, fit3, fit4, fit5, fit6, fit7, fit8, fit9, fit10, fit11, fit12, fit13, fit14, fit15, fit16, fit17, fit18, fit19, fit20, fit21, fit22, fit23, fit24, fit25, fit26, fit27, fit28, fit29, fit30, fit31, fit32, isin_str_non, isin_str_bl, isin_str_int, isin_str_str, isin_str_tup, isin_str_lst, isin_str_dct, isin_tuple_non, isin_tuple_bl, isin_tuple_int, isin_tuple_str, isin_tuple_tup, isin_tuple_lst, isin_tuple_dct, isin_int_non, isin_int_bl, isin_int_int, isin_int_str, isin_int_tup, isin_int_lst, isin_int_dct, isin_bool_non, isin_bool_bl, isin_bool_int, isin_bool_str, isin_bool_tup, isin_bool_lst, isin_bool_dct, isin_list_tuple_non, isin_list_tuple_bl, isin_list_tuple_int, isin_list_tuple_str, isin_list_tuple_tup, isin_list_tuple_lst, isin_list_tuple_dct, isin_tuple_list_non, isin_tuple_list_bl, isin_tuple_list_int, isin_tuple_list_str, isin_tuple_list_tup, isin_tuple_list_lst, isin_tuple_list_dct, isin_list_non, isin_list_bl, isin_list_int, isin_list_str, isin_list_tup, isin_list_lst, isin_list_dct, isin_dict_non, isin_dict_bl, isin_dict_int, isin_dict_str, isin_dict_tup, isin_dict_lst, isin_dict_dct, hn, ne_pair_refl e2, hr, ne0]
      exact ⟨_, _, _, _, _, rfl⟩
omit ha1 ha2 ha3 ha4 ha5 in
theorem ne_refl_s {x : Str} (h : PyData.strOk x = true) : binD .ne (.str x) (.str x) = some (.bl false) := by rw [b_ne_s h h]; simp
variable (ha6 : Has P "is_lot" f_is_lot)
include ha6
/-- a thing of the second loop -/
def body2 : List Sm := [.asg (.v 8) (.and (.call "_law_are_ascending" [.v 6]) (.bin .eq (.cmp (.v 14) (.v 14) (.seq (.v 6)) (some (.bin .notin (.v 14) (.v 3)))) (.lst []))),
     .ite (.bin .ne (.bi .repr [.call "is_lot" [.v 3, .v 6]]) (.bi .repr [.v 8])) [.ret (.c (.bl false))] []]
omit ha1 ha2 ha3 ha4 ha5 ha6 in
theorem repr_bl (b : Bool) : biD .repr [.bl b] = some (.str (PyData.bool b).shown) := bi_repr_f (n := 0) (by decide) rfl (by cases b <;> decide) (by cases b <;> decide)
theorem body2_ok {ts : List Str} (ht : ∀ x ∈ ts, PyData.strOk x = true) {d : D} (hd : Sz 36 1000 10 d) {s0 s1 s2 s4 s5 s7 s8 s9 s10 s11 s12 s13 s14 : Slot} :
    ∃ t8, exSs (runF P pr up (k + 3)) up body2 [s0, s1, s2, .sh (.tup (ts.map D.str)), s4, s5, .sh d, s7, s8, s9, s10, s11, s12, s13, s14] = SM.nx [s0, s1, s2, .sh (.tup (ts.map D.str)), s4, s5, .sh d, s7, t8, s9, s10, s11, s12, s13, s14] := by
  have hg : d.good = true := fine_good (by decide : 36 ≤ 1000) d hd.f hd.w
  have la : runF P pr up (k + 3) "_law_are_ascending" [d] = M.ret (.bl (ascD d)) := w_law_asc ha4 ha5 hg
  have lb : runF P pr up (k + 3) "is_lot" [.tup (ts.map D.str), d] = M.ret (.bl (isLotD ts d)) := w_is_lot ha1 ha2 ha6 ht hg
  have ne0 : ∀ b : Bool, binD .ne (.str (PyData.bool b).shown) (.str (PyData.bool b).shown) = some (.bl false) := fun b => ne_refl_s (strOk_shown (n := 0) (.bl b) rfl)
  unfold body2
  simp only [M.ret_bind, M.bad_bind, M.bind_assoc, M.lift_some, M.lift_none, M.calm_ret, M.map_ret, M.exc_bind, SM.sb_exc, retM_xc, SM.sb_ret, SM.sb_bad, SM.sb_bind, SM.seq_nx, SM.seq_rt, SM.seq_ct, SM.seq_xc, SM.seq_bad, SM.seq_sb, SM.seq_seq, boolM_bl, bindM_some, bindS_some, iteM_t, iteM_f, brS_t, brS_f, ev_c, ev_v, ev_bin, ev_un, ev_chain, ev_and, ev_or, ev_ite, ev_tup, ev_lst, ev_call, ev_bi, ev_ix, ev_sl, ev_rev, ev_cmp', evs_nil, evs_star, ec_c, ec_v, ec_bin, ec_un, ec_chain, ec_and, ec_or, ec_ite, ec_tup, ec_lst, ec_call, ec_bi, ec_ix, ec_sl, ec_rev, ec_cmp, evO_none, evO_some, evT_none, evT_some, evI_rng, evI_rng2, evI_zip, evI_enm, evI_seq, ss_nil', ss_pass', ss_cont', ss_asg', ss_expr', ss_ite', ss_loop', ss_ret', ss_rais', ss_tr', slotM_sh, starM_lst, starM_tup, optI_int, loopM_nil, retM_rt, retM_nx, List.getElem?_cons_zero, List.getElem?_cons_succ, List.set_cons_zero, List.set_cons_succ, bindT, bindTs, wipeE, Tg.slots, Tg.slotss, startE, List.nil_append, List.cons_append, List.append_nil, List.map_cons, List.map_nil, List.length_cons, List.length_nil, List.replicate_succ, List.replicate_zero, Option.bind_some, Option.map_some, Nat.reduceAdd, Nat.reduceSub, Int.reduceEq, Int.reduceLT, Int.reduceLE, decide_true, decide_false, Bool.not_true, Bool.not_false, b_add_i, b_sub_i, b_lt_i, b_le_i, b_gt_i, b_ge_i, b_lt_s, b_eq_i, b_ne_i, b_eq_t0, b_eq_l0, b_ne_t0, b_ne_l0, b_in_1, b_nin_1, u_not, u_neg, bi_len_t, bi_len_l, bi_len_c, bi_tup_l, bi_tup_t, bi_lst_l, bi_lst_t, bi_int_i, bi_edict, bi_min_i, bi_all_map, bi_any_map, sq_l, sq_t, zp_t, zp_l, rv_t, rv_l, sl_t, sl_l, fit0, fit1, fit2, fit3, fit4, fit5, fit6, fit7, fit8, fit9, fit10, fit11, fit12, fit13, fit14, fit15, fit16, fit17, fit18, fit19, fit20, fit21, fit22, fit23, fit24, fit25, fit26, fit27, fit28, fit29, fit30, fit31, fit32, isin_str_non, isin_str_bl, isin_str_int, isin_str_str, isin_str_tup, isin_str_lst, isin_str_dct, isin_tuple_non, isin_tuple_bl, isin_tuple_int, isin_tuple_str, isin_tuple_tup, isin_tuple_lst, isin_tuple_dct, isin_int_non, isin_int_bl, isin_int_int, isin_int_str, isin_int_tup, isin_int_lst, isin_int_dct, isin_bool_non, isin_bool_bl, isin_bool_int, isin_bool_str, isin_bool_tup, isin_bool_lst, isin_bool_dct, isin_list_tuple_non, isin_list_tuple_bl, isin_list_tuple_int, isin_list_tuple_str, isin_list_tuple_tup, isin_list_tuple_lst, isin_list_tuple_dct, isin_tuple_list_non, isin_tuple_list_bl, isin_tuple_list_int, isin_tuple_list_str, isin_tuple_list_tup, isin_tuple_list_lst, isin_tuple_list_dct, isin_list_non, isin_list_bl, isin_list_int, isin_list_str, isin_list_tup, isin_list_lst, isin_list_dct, isin_dict_non, isin_dict_bl, isin_dict_int, isin_dict_str, isin_dict_tup, isin_dict_lst, isin_dict_dct, la]
  rcases Bool.eq_false_or_eq_true (ascD d) with ha | ha
  · obtain ⟨xs, rfl⟩ := asc_n ha
    have gx := good_tup.mp hg
    have hx := ha
    simp only [ascD] at hx
    cases q : asStrs xs with
    | none => rw [q] at hx; cases hx
    | some ss =>
      obtain rfl := asStrs_eq q
      have hok : ∀ x ∈ ss, PyData.strOk x = true := fun x hx => (good_str.mp (gx.2 (.str x) (List.mem_map.mpr ⟨x, hx, rfl⟩))).2
      have el : isLotD ts (.tup (ss.map D.str)) = ss.all fun x => decide (x ∈ ts) := by simp only [isLotD, ha, asStrs_map, Bool.true_and]
      simp only [ha, M.ret_bind, M.bad_bind, M.bind_assoc, M.lift_some, M.lift_none, M.calm_ret, M.map_ret, M.exc_bind, SM.sb_exc, retM_xc, SM.sb_ret, SM.sb_bad, SM.sb_bind, SM.seq_nx, SM.seq_rt, SM.seq_ct, SM.seq_xc, SM.seq_bad, SM.seq_sb, SM.seq_seq, boolM_bl, bindM_some, bindS_some, iteM_t, iteM_f, brS_t, brS_f, ev_c, ev_v, ev_bin, ev_un, ev_chain, ev_and, ev_or, ev_ite, ev_tup, ev_lst, ev_call, ev_bi, ev_ix, ev_sl, ev_rev, ev_cmp', evs_nil, evs_star, ec_c, ec_v, ec_bin, ec_un, ec_chain, ec_and, ec_or, ec_ite, ec_tup, ec_lst, ec_call, ec_bi, ec_ix, ec_sl, ec_rev, ec_cmp, evO_none, evO_some, evT_none, evT_some, evI_rng, evI_rng2, evI_zip, evI_enm, evI_seq, ss_nil', ss_pass', ss_cont', ss_asg', ss_expr', ss_ite', ss_loop', ss_ret', ss_rais', ss_tr', slotM_sh, starM_lst, starM_tup, optI_int, loopM_nil, retM_rt, retM_nx, List.getElem?_cons_zero, List.getElem?_cons_succ, List.set_cons_zero, List.set_cons_succ, bindT, bindTs, wipeE, Tg.slots, Tg.slotss, startE, List.nil_append, List.cons_append, List.append_nil, List.map_cons, List.map_nil, List.length_cons, List.length_nil, List.replicate_succ, List.replicate_zero, Option.bind_some, Option.map_some, Nat.reduceAdd, Nat.reduceSub, Int.reduceEq, Int.reduceLT, Int.reduceLE, decide_true, decide_false, Bool.not_true, Bool.not_false, b_add_i, b_sub_i, b_lt_i, b_le_i, b_gt_i, b_ge_i, b_lt_s, b_eq_i, b_ne_i, b_eq_t0, b_eq_l0, b_ne_t0, b_ne_l0, b_in_1, b_nin_1, u_not, u_neg, bi_len_t, bi_len_l, bi_len_c, bi_tup_l, bi_tup_t, bi_lst_l, bi_lst_t, bi_int_i, bi_edict, bi_min_i, bi_all_map, bi_any_map, sq_l, sq_t, zp_t, zp_l, rv_t, rv_l, sl_t, sl_l, fit0, fit1, fit2, fit3, fit4, fit5, fit6, fit7, fit8, fit9, fit10, fit11, fit12, fit13, fit14, fit15, fit16, fit17, fit18, fit19, fit20, fit21, fit22, fit23, fit24, fit25, fit26, fit27, fit28, fit29, fit30, fit31, fit32, isin_str_non, isin_str_bl, isin_str_int, isin_str_str, isin_str_tup, isin_str_lst, isin_str_dct, isin_tuple_non, isin_tuple_bl, isin_tuple_int, isin_tuple_str, isin_tuple_tup, isin_tuple_lst, isin_tuple_dct, isin_int_non, isin_int_bl, isin_int_int, isin_int_str, isin_int_tup, isin_int_lst, isin_int_dct, isin_bool_non, isin_bool_bl, isin_bool_int, isin_bool_str, isin_bool_tup, isin_bool_lst, isin_bool_dct, isin_list_tuple_non, isin_list_tuple_bl, isin_list_tuple_int, isin_list_tuple_str, isin_list_tuple_tup, isin_list_tuple_lst, isin_list_tuple_dct, isin_tuple_list_non, isin_tuple_list_bl, isin_tuple_list_int, isin_tuple_list_str, isin_tuple_list_tup, isin_tuple_list_lst, isin_tuple_list_dct, isin_list_non, isin_list_bl, isin_list_int, isin_list_str, isin_list_tup, isin_list_lst, isin_list_dct, isin_dict_non, isin_dict_bl, isin_dict_int, isin_dict_str, isin_dict_tup, isin_dict_lst, isin_dict_dct]
      rw [cmpM_filter ss D.str (fun x => !decide (x ∈ ts)) D.str (fun x hx => ?_) (by have := gx.1; simp only [List.length_map] at this; exact lim_of this)]
      · simp only [M.ret_bind, M.bad_bind, M.bind_assoc, M.lift_some, M.lift_none, M.calm_ret, M.map_ret, M.exc_bind, SM.sb_exc, retM_xc, SM.sb_ret, SM.sb_bad, SM.sb_bind, SM.seq_nx, SM.seq_rt, SM.seq_ct, SM.seq_xc, SM.seq_bad, SM.seq_sb, SM.seq_seq, boolM_bl, bindM_some, bindS_some, iteM_t, iteM_f, brS_t, brS_f, ev_c, ev_v, ev_bin, ev_un, ev_chain, ev_and, ev_or, ev_ite, ev_tup, ev_lst, ev_call, ev_bi, ev_ix, ev_sl, ev_rev, ev_cmp', evs_nil, evs_star, ec_c, ec_v, ec_bin, ec_un, ec_chain, ec_and, ec_or, ec_ite, ec_tup, ec_lst, ec_call, ec_bi, ec_ix, ec_sl, ec_rev, ec_cmp, evO_none, evO_some, evT_none, evT_some, evI_rng, evI_rng2, evI_zip, evI_enm, evI_seq, ss_nil', ss_pass', ss_cont', ss_asg', ss_expr', ss_ite', ss_loop', ss_ret', ss_rais', ss_tr', slotM_sh, starM_lst, starM_tup, optI_int, loopM_nil, retM_rt, retM_nx, List.getElem?_cons_zero, List.getElem?_cons_succ, List.set_cons_zero, List.set_cons_succ, bindT, bindTs, wipeE, Tg.slots, Tg.slotss, startE, List.nil_append, List.cons_append, List.append_nil, List.map_cons, List.map_nil, List.length_cons, List.length_nil, List.replicate_succ, List.replicate_zero, Option.bind_some, Option.map_some, Nat.reduceAdd, Nat.reduceSub, Int.reduceEq, Int.reduceLT, Int.reduceLE, decide_true, decide_false, Bool.not_true, Bool.not_false, b_add_i, b_sub_i, b_lt_i, b_le_i, b_gt_i, b_ge_i, b_lt_s, b_eq_i, b_ne_i, b_eq_t0, b_eq_l0, b_ne_t0, b_ne_l0, b_in_1, b_nin_1, u_not, u_neg, bi_len_t, bi_len_l, bi_len_c, bi_tup_l, bi_tup_t, bi_lst_l, bi_lst_t, bi_int_i, bi_edict, bi_min_i, bi_all_map, bi_any_map, sq_l, sq_t, zp_t, zp_l, rv_t, rv_l, sl_t, sl_l, fit0, fit1, fit2, fit3, fit4, fit5, fit6, fit7, fit8, fit9, fit10, fit11, fit12, fit13, fit14, fit15, fit16, fit17, fit18, fit19, fit20, fit21, fit22, fit23, fit24, fit25, fit26, fit27, fit28, fit29, fit30, fit31, fit32, isin_str_non, isin_str_bl, isin_str_int, isin_str_str, isin_str_tup, isin_str_lst, isin_str_dct, isin_tuple_non, isin_tuple_bl, isin_tuple_int, isin_tuple_str, isin_tuple_tup, isin_tuple_lst, isin_tuple_dct, isin_int_non, isin_int_bl, isin_int_int, isin_int_str, isin_int_tup, isin_int_lst, isin_int_dct, isin_bool_non, isin_bool_bl, isin_bool_int, isin_bool_str, isin_bool_tup, isin_bool_lst, isin_bool_dct, isin_list_tuple_non, isin_list_tuple_bl, isin_list_tuple_int, isin_list_tuple_str, isin_list_tuple_tup, isin_list_tuple_lst, isin_list_tuple_dct, isin_tuple_list_non, isin_tuple_list_bl, isin_tuple_list_int, isin_tuple_list_str, isin_tuple_list_tup, isin_tuple_list_lst, isin_tuple_list_dct, isin_list_non, isin_list_bl, isin_list_int, isin_list_str, isin_list_tup, isin_list_lst, isin_list_dct, isin_dict_non, isin_dict_bl, isin_dict_int, isin_dict_str, isin_dict_tup, isin_dict_lst, isin_dict_dct, List.isEmpty_map, filter_nil, lb, el, repr_bl, ne0]
        exact ⟨_, rfl⟩
      · simp only [M.ret_bind, M.bad_bind, M.bind_assoc, M.lift_some, M.lift_none, M.calm_ret, M.map_ret, M.exc_bind, SM.sb_exc, retM_xc, SM.sb_ret, SM.sb_bad, SM.sb_bind, SM.seq_nx, SM.seq_rt, SM.seq_ct, SM.seq_xc, SM.seq_bad, SM.seq_sb, SM.seq_seq, boolM_bl, bindM_some, bindS_some, iteM_t, iteM_f, brS_t, brS_f, ev_c, ev_v, ev_bin, ev_un, ev_chain, ev_and, ev_or, ev_ite, ev_tup, ev_lst, ev_call, ev_bi, ev_ix, ev_sl, ev_rev, ev_cmp', evs_nil, evs_star, ec_c, ec_v, ec_bin, ec_un, ec_chain, ec_and, ec_or, ec_ite, ec_tup, ec_lst, ec_call, ec_bi, ec_ix, ec_sl, ec_rev, ec_cmp, evO_none, evO_some, evT_none, evT_some, evI_rng, evI_rng2, evI_zip, evI_enm, evI_seq, ss_nil', ss_pass', ss_cont', ss_asg', ss_expr', ss_ite', ss_loop', ss_ret', ss_rais', ss_tr', slotM_sh, starM_lst, starM_tup, optI_int, loopM_nil, retM_rt, retM_nx, List.getElem?_cons_zero, List.getElem?_cons_succ, List.set_cons_zero, List.set_cons_succ, bindT, bindTs, wipeE, Tg.slots, Tg.slotss, startE, List.nil_append, List.cons_append, List.append_nil, List.map_cons, List.map_nil, List.length_cons, List.length_nil, List.replicate_succ, List.replicate_zero, Option.bind_some, Option.map_some, Nat.reduceAdd, Nat.reduceSub, Int.reduceEq, Int.reduceLT, Int.reduceLE, decide_true, decide_false, Bool.not_true, Bool.not_false, b_nin_strs (hok x hx) ht]
        exact iteM_ret _ _ _
  · have el : isLotD ts d = false := by
      cases d <;> first | rfl | skip
      simp only [isLotD, ha, Bool.false_and]
    simp only [ha, M.ret_bind, M.bad_bind, M.bind_assoc, M.lift_some, M.lift_none, M.calm_ret, M.map_ret, M.exc_bind, SM.sb_exc, retM_xc, SM.sb_ret, SM.sb_bad, SM.sb_bind, SM.seq_nx, SM.seq_rt, SM.seq_ct, SM.seq_xc, SM.seq_bad, SM.seq_sb, SM.seq_seq, boolM_bl, bindM_some, bindS_some, iteM_t, iteM_f, brS_t, brS_f, ev_c, ev_v, ev_bin, ev_un, ev_chain, ev_and, ev_or, ev_ite, ev_tup, ev_lst, ev_call, ev_bi, ev_ix, ev_sl, ev_rev, ev_cmp', evs_nil, evs_star, ec_c, ec_v, ec_bin, ec_un, ec_chain, ec_and, ec_or, ec_ite, ec_tup, ec_lst, ec_call, ec_bi, ec_ix, ec_sl, ec_rev, ec_cmp, evO_none, evO_some, evT_none, evT_some, evI_rng, evI_rng2, evI_zip, evI_enm, evI_seq, ss_nil', ss_pass', ss_cont', ss_asg', ss_expr', ss_ite', ss_loop', ss_ret', ss_rais', ss_tr', slotM_sh, starM_lst, starM_tup, optI_int, loopM_nil, retM_rt, retM_nx, List.getElem?_cons_zero, List.getElem?_cons_succ, List.set_cons_zero, List.set_cons_succ, bindT, bindTs, wipeE, Tg.slots, Tg.slotss, startE, List.nil_append, List.cons_append, List.append_nil, List.map_cons, List.map_nil, List.length_cons, List.length_nil, List.replicate_succ, List.replicate_zero, Option.bind_some, Option.map_some, Nat.reduceAdd, Nat.reduceSub, Int.reduceEq, Int.reduceLT, Int.reduceLE, decide_true, decide_false, Bool.not_true, Bool.not_false, b_add_i, b_sub_i, b_lt_i, b_le_i, b_gt_i, b_ge_i, b_lt_s, b_eq_i, b_ne_i, b_eq_t0, b_eq_l0, b_ne_t0, b_ne_l0, b_in_1, b_nin_1, u_not, u_neg, bi_len_t, bi_len_l, bi_len_c, bi_tup_l, bi_tup_t, bi_lst_l, bi_lst_t, bi_int_i, bi_edict, bi_min_i, bi_all_map, bi_any_map, sq_l, sq_t, zp_t, zp_l, rv_t, rv_l, sl_t, sl_l, fit0, fit1, fit2, fit3, fit4, fit5, fit6, fit7, fit8, fit9, fit10, fit11, fit12, fit13, fit14, fit15, fit16, fit17, fit18, fit19, fit20, fit21, fit22, fit23, fit24, fit25, fit26, fit27, fit28, fit29, fit30, fit31, fit32, isin_str_non, isin_str_bl, isin_str_int, isin_str_str, isin_str_tup, isin_str_lst, isin_str_dct, isin_tuple_non, isin_tuple_bl, isin_tuple_int, isin_tuple_str, isin_tuple_tup, isin_tuple_lst, isin_tuple_dct, isin_int_non, isin_int_bl, isin_int_int, isin_int_str, isin_int_tup, isin_int_lst, isin_int_dct, isin_bool_non, isin_bool_bl, isin_bool_int, isin_bool_str, isin_bool_tup, isin_bool_lst, isin_bool_dct, isin_list_tuple_non, isin_list_tuple_bl, isin_list_tuple_int, isin_list_tuple_str, isin_list_tuple_tup, isin_list_tuple_lst, isin_list_tuple_dct, isin_tuple_list_non, isin_tuple_list_bl, isin_tuple_list_int, isin_tuple_list_str, isin_tuple_list_tup, isin_tuple_list_lst, isin_tuple_list_dct, isin_list_non, isin_list_bl, isin_list_int, isin_list_str, isin_list_tup, isin_list_lst, isin_list_dct, isin_dict_non, isin_dict_bl, isin_dict_int, isin_dict_str, isin_dict_tup, isin_dict_lst, isin_dict_dct, lb, el, repr_bl, ne0]
    exact ⟨_, rfl⟩
omit ha1 ha2 ha3 ha4 ha5 ha6 in
theorem words_sz {ss : List Str} {m : Nat} (h : ∀ x ∈ ss, wordB x = true) (hl : ss.length ≤ m) : Sz 9 (9 * m) 1 (tupS ss) := by
  have hw : ∀ ss : List Str, (∀ x ∈ ss, wordB x = true) → wts (ss.map D.str) ≤ 9 * ss.length := by
    intro ss
    induction ss with
    | nil => intro _; exact Nat.le_refl _
    | cons x r ih =>
      intro h
      obtain ⟨l, rfl, _, _, h8⟩ := of_word (h x List.mem_cons_self)
      have := ih fun y hy => h y (List.mem_cons_of_mem _ hy)
      rw [List.map_cons, wts_cons, wt_str, mkS_len, List.length_cons]
      omega
  refine Sz.tup (fun d hd => ?_) (Nat.le_trans (hw ss h) (by omega))
  obtain ⟨x, hx, rfl⟩ := List.mem_map.mp hd
  obtain ⟨l, rfl, _, _, h8⟩ := of_word (h x hx)
  exact ⟨fine_str.mpr ⟨by rw [mkS_len]; omega, word_ok (h _ hx)⟩, Nat.zero_le _⟩
omit ha1 ha2 ha3 ha4 ha5 ha6 in
theorem lots_sz {ts : List Str} (h : Things 5 ts) : Sz 9 1472 2 (.tup ((lotsS ts).map tupS)) := by
  have each : ∀ l ∈ lotsS ts, Sz 9 45 1 (tupS l) := fun l hl => by
    have hs := lotsS_mem.mp hl
    exact words_sz (m := 5) (fun x hx => h.wd x (hs.subset hx)) (Nat.le_trans hs.length_le h.le)
  have hw : ∀ ls : List (List Str), (∀ l ∈ ls, Sz 9 45 1 (tupS l)) → wts (ls.map tupS) ≤ 46 * ls.length := by
    intro ls
    induction ls with
    | nil => intro _; exact Nat.le_refl _
    | cons x r ih =>
      intro h
      have h1 := (h x List.mem_cons_self).w
      have := ih fun y hy => h y (List.mem_cons_of_mem _ hy)
      rw [List.map_cons, wts_cons, List.length_cons]
      omega
  refine Sz.tup (fun d hd => ?_) (Nat.le_trans (hw _ each) ?_)
  · obtain ⟨l, hl, rfl⟩ := List.mem_map.mp hd
    exact ⟨(each l hl).f, (each l hl).d⟩
  · rw [lotsS_length]
    have : 2 ^ ts.length ≤ 2 ^ 5 := Nat.pow_le_pow_right (by decide) h.le
    omega
end
namespace K01
/-- all that is known of the table -/
structure TB (P : List (Str × Fn)) (pr : FT) : Prop where
  word : Has P "is_word" f_is_word
  asc : Has P "are_ascending" f_are_ascending
  need : Has P "need_things" f_need_things
  islot : Has P "is_lot" f_is_lot
  all : Has P "all_lots" f_all_lots
  joined : Has P "joined" f_joined
  names : Has P "_law_names" f_law_names
  isname : Has P "_law_is_name" f_law_is_name
  odd : Has P "_law_odd" f_law_odd
  bent : Has P "_law_bent" f_law_bent
  lots : Has P "_law_lots" f_law_lots
  things : Has P "_law_things" f_law_things
  both : Has P "_law_both" f_law_both
  lasc : Has P "_law_are_ascending" f_law_are_ascending
  law : Has P "law" f_law
  begun : HasNo P "_law_begun"
  next : HasNo P "_law_next"
  pb : pr "_law_begun" = begunM
  pn : pr "_law_next" = nextM
section
variable {P : List (Str × Fn)} {pr : FT} {up : List (Str × Str)} (B : TB P pr)
include B
omit B in
theorem rep2 {ts : List Str} (h : ts.length ≤ 100) : binD .mul (.tup (ts.map D.str)) (.int 2) = some (.tup ((ts ++ ts).map D.str)) := by
  cases ts with
  | nil => rfl
  | cons x r =>
    show (if _ then _ else _) = _
    rw [if_pos ⟨by decide, by decide, by simpa using h, by simp⟩]
    congr 2
    show (List.replicate 2 _).flatten = _
    simp [List.replicate]
omit B in
theorem lot_at {ts : List Str} {v : Int} (h0 : 0 ≤ v) (h1 : v < ((lotsS ts).map tupS).length) : ∃ l : List Str, l.Sublist ts ∧ ixD (.lst ((lotsS ts).map tupS)) (.int v) = some (.tup (l.map D.str)) := by
  obtain ⟨d, hd, e⟩ := ix_l (xs := (lotsS ts).map tupS) h0 h1
  obtain ⟨l, hl, rfl⟩ := List.mem_map.mp hd
  exact ⟨l, lotsS_mem.mp hl, e⟩
theorem bent1 {k n w q : Nat} {d : D} (h9 : 9 ≤ n) (h2 : n ≤ 100) (hw : w ≤ 2000) (hd : Sz n w q d) : Tr (5 * q + 5) (runF P pr up (k + q + 3) "_law_bent" [.mm, d]) (Bt n w q) := t_bent (w := 0) B.next B.pn B.odd B.bent h9 h2 (by decide) q k w d hw hd
theorem odd1 {k : Nat} : Tr 1 (runF P pr up (k + 2) "_law_odd" [.mm]) fun d => d ∈ oddL := t_odd B.next B.pn B.odd
theorem names1 {k n : Nat} (h : n ≤ 8) : Tr 11 (runF P pr up (k + 2) "_law_names" [.mm, .int n]) (IsNames n) := t_names B.next B.pn B.names h
theorem next1 {k : Nat} {i : Int} (h0 : 0 < i) (h1 : i ≤ 1000000) : Tr 1 (runF P pr up (k + 1) "_law_next" [.mm, .int i]) fun d => ∃ v : Int, d = .int v ∧ 0 ≤ v ∧ v < i := t_next B.next B.pn h0 h1
/-- what stands before a turn -/
def Inv (ns : List Int) (e : Env) : Prop := ∃ s2 s3 s4 s5 s6 s7 s8 s9 s10 s11 s12 s13 s14, e = [.sh (.scr ns), .sh .mm, s2, s3, s4, s5, s6, s7, s8, s9, s10, s11, s12, s13, s14]
def Mid (ns : List Int) (ts : List Str) (e : Env) : Prop := ∃ s2 s5 s6 s7 s8 s9 s10 s11 s12 s13 s14, e = [.sh (.scr ns), .sh .mm, s2, .sh (.tup (ts.map D.str)), .sh (.lst ((lotsS ts).map tupS)), s5, s6, s7, s8, s9, s10, s11, s12, s13, s14]
def turn : List Sm := match f_law.body with
  | [_, .loop _ _ b, _] => b
  | _ => []
theorem turn_ok {k : Nat} {ns : List Int} {s2 s3 s4 s5 s6 s7 s8 s9 s10 s11 s12 s13 s14 : Slot} : TrS 100 (exSs (runF P pr up (k + 11)) up turn [.sh (.scr ns), .sh .mm, s2, s3, s4, s5, s6, s7, s8, s9, s10, s11, s12, s13, s14]) (Inv ns) (fun _ => False) := by
  unfold turn f_law
  simp only [M.ret_bind, M.bad_bind, M.bind_assoc, M.lift_some, M.lift_none, M.calm_ret, M.map_ret, M.exc_bind, SM.sb_exc, retM_xc, SM.sb_ret, SM.sb_bad, SM.sb_bind, SM.seq_nx, SM.seq_rt, SM.seq_ct, SM.seq_xc, SM.seq_bad, SM.seq_sb, SM.seq_seq, boolM_bl, bindM_some, bindS_some, iteM_t, iteM_f, brS_t, brS_f, ev_c, ev_v, ev_bin, ev_un, ev_chain, ev_and, ev_or, ev_ite, ev_tup, ev_lst, ev_call, ev_bi, ev_ix, ev_sl, ev_rev, ev_cmp', evs_nil, evs_star, ec_c, ec_v, ec_bin, ec_un, ec_chain, ec_and, ec_or, ec_ite, ec_tup, ec_lst, ec_call, ec_bi, ec_ix, ec_sl, ec_rev, ec_cmp, evO_none, evO_some, evT_none, evT_some, evI_rng, evI_rng2, evI_zip, evI_enm, evI_seq, ss_nil', ss_pass', ss_cont', ss_asg', ss_expr', ss_ite', ss_loop', ss_ret', ss_rais', ss_tr', slotM_sh, starM_lst, starM_tup, optI_int, loopM_nil, retM_rt, retM_nx, List.getElem?_cons_zero, List.getElem?_cons_succ, List.set_cons_zero, List.set_cons_succ, bindT, bindTs, wipeE, Tg.slots, Tg.slotss, startE, List.nil_append, List.cons_append, List.append_nil, List.map_cons, List.map_nil, List.length_cons, List.length_nil, List.replicate_succ, List.replicate_zero, Option.bind_some, Option.map_some, Nat.reduceAdd, Nat.reduceSub, Int.reduceEq, Int.reduceLT, Int.reduceLE, decide_true, decide_false, Bool.not_true, Bool.not_false, b_add_i, b_sub_i, b_lt_i, b_le_i, b_gt_i, b_ge_i, b_lt_s, b_eq_i, b_ne_i, b_eq_t0, b_eq_l0, b_ne_t0, b_ne_l0, b_in_1, b_nin_1, u_not, u_neg, bi_len_t, bi_len_l, bi_len_c, bi_tup_l, bi_tup_t, bi_lst_l, bi_lst_t, bi_int_i, bi_edict, bi_min_i, bi_all_map, bi_any_map, sq_l, sq_t, zp_t, zp_l, rv_t, rv_l, sl_t, sl_l, fit0, fit1, fit2, fit3, fit4, fit5, fit6, fit7, fit8, fit9, fit10, fit11, fit12, fit13, fit14, fit15, fit16, fit17, fit18, fit19, fit20, fit21, fit22, fit23, fit24, fit25, fit26, fit27, fit28, fit29, fit30, fit31, fit32, isin_str_non, isin_str_bl, isin_str_int, isin_str_str, isin_str_tup, isin_str_lst, isin_str_dct, isin_tuple_non, isin_tuple_bl, isin_tuple_int, isin_tuple_str, isin_tuple_tup, isin_tuple_lst, isin_tuple_dct, isin_int_non, isin_int_bl, isin_int_int, isin_int_str, isin_int_tup, isin_int_lst, isin_int_dct, isin_bool_non, isin_bool_bl, isin_bool_int, isin_bool_str, isin_bool_tup, isin_bool_lst, isin_bool_dct, isin_list_tuple_non, isin_list_tuple_bl, isin_list_tuple_int, isin_list_tuple_str, isin_list_tuple_tup, isin_list_tuple_lst, isin_list_tuple_dct, isin_tuple_list_non, isin_tuple_list_bl, isin_tuple_list_int, isin_tuple_list_str, isin_tuple_list_tup, isin_tuple_list_lst, isin_tuple_list_dct, isin_list_non, isin_list_bl, isin_list_int, isin_list_str, isin_list_tup, isin_list_lst, isin_list_dct, isin_dict_non, isin_dict_bl, isin_dict_int, isin_dict_str, isin_dict_tup, isin_dict_lst, isin_dict_dct]
  refine TrS.sb 88 (t_things (k := k + 8) B.next B.pn B.names B.things (n := 5) (by decide) (by decide)) fun d ⟨ts, e, T⟩ => ?_
  subst e
  have wl : runF P pr up (k + 11) "_law_lots" [.tup (ts.map D.str)] = M.ret (.lst ((lotsS ts).map tupS)) := by
    rw [← rows_sorted T.asc]
    exact w_law_lots B.lots (by have := T.le; omega) T.ok
  have al : runF P pr up (k + 11) "all_lots" [.tup (ts.map D.str)] = M.ret (.tup ((lotsS ts).map tupS)) := w_all_lots B.all (by have := T.le; omega)
  have Lz := lots_sz T
  have lr : biD .repr [.tup ((lotsS ts).map tupS)] = some (.str (D.tup ((lotsS ts).map tupS)).py.shown) := bi_repr_f (by decide : 9 ≤ 1000) Lz.f (by have := Lz.w; omega) (by have := Lz.d; omega)
  have ln : binD .ne (.str (D.tup ((lotsS ts).map tupS)).py.shown) (.str (D.tup ((lotsS ts).map tupS)).py.shown) = some (.bl false) := ne_refl_s (strOk_shown _ Lz.f)
  have len1 : ((lotsS ts).map tupS).length = 2 ^ ts.length := by rw [List.length_map, lotsS_length]
  have lx : ixD (.lst [.int 2, .int 4, .int 8, .int 16, .int 32]) (.int ((ts.map D.str).length - 1)) = some (.int (2 ^ ts.length : Nat)) := by
    rw [List.length_map]
    have h1 := T.pos
    have h2 := T.le
    have : ts.length = 1 ∨ ts.length = 2 ∨ ts.length = 3 ∨ ts.length = 4 ∨ ts.length = 5 := by omega
    rcases this with h | h | h | h | h <;> rw [h] <;> rfl
  unfold tupS
  simp only [M.ret_bind, M.bad_bind, M.bind_assoc, M.lift_some, M.lift_none, M.calm_ret, M.map_ret, M.exc_bind, SM.sb_exc, retM_xc, SM.sb_ret, SM.sb_bad, SM.sb_bind, SM.seq_nx, SM.seq_rt, SM.seq_ct, SM.seq_xc, SM.seq_bad, SM.seq_sb, SM.seq_seq, boolM_bl, bindM_some, bindS_some, iteM_t, iteM_f, brS_t, brS_f, ev_c, ev_v, ev_bin, ev_un, ev_chain, ev_and, ev_or, ev_ite, ev_tup, ev_lst, ev_call, ev_bi, ev_ix, ev_sl, ev_rev, ev_cmp', evs_nil, evs_star, ec_c, ec_v, ec_bin, ec_un, ec_chain, ec_and, ec_or, ec_ite, ec_tup, ec_lst, ec_call, ec_bi, ec_ix, ec_sl, ec_rev, ec_cmp, evO_none, evO_some, evT_none, evT_some, evI_rng, evI_rng2, evI_zip, evI_enm, evI_seq, ss_nil', ss_pass', ss_cont', ss_asg', ss_expr', ss_ite', ss_loop', ss_ret', ss_rais', ss_tr', slotM_sh, starM_lst, starM_tup, optI_int, loopM_nil, retM_rt, retM_nx, List.getElem?_cons_zero, List.getElem?_cons_succ, List.set_cons_zero, List.set_cons_succ, bindT, bindTs, wipeE, Tg.slots, Tg.slotss, startE, List.nil_append, List.cons_append, List.append_nil, List.map_cons, List.map_nil, List.length_cons, List.length_nil, List.replicate_succ, List.replicate_zero, Option.bind_some, Option.map_some, Nat.reduceAdd, Nat.reduceSub, Int.reduceEq, Int.reduceLT, Int.reduceLE, decide_true, decide_false, Bool.not_true, Bool.not_false, b_add_i, b_sub_i, b_lt_i, b_le_i, b_gt_i, b_ge_i, b_lt_s, b_eq_i, b_ne_i, b_eq_t0, b_eq_l0, b_ne_t0, b_ne_l0, b_in_1, b_nin_1, u_not, u_neg, bi_len_t, bi_len_l, bi_len_c, bi_tup_l, bi_tup_t, bi_lst_l, bi_lst_t, bi_int_i, bi_edict, bi_min_i, bi_all_map, bi_any_map, sq_l, sq_t, zp_t, zp_l, rv_t, rv_l, sl_t, sl_l, fit0, fit1, fit2, fit3, fit4, fit5, fit6, fit7, fit8, fit9, fit10, fit11, fit12, fit13, fit14, fit15, fit16, fit17, fit18, fit19, fit20, fit21, fit22, fit23, fit24, fit25, fit26, fit27, fit28, fit29, fit30, fit31, fit32, isin_str_non, isin_str_bl, isin_str_int, isin_str_str, isin_str_tup, isin_str_lst, isin_str_dct, isin_tuple_non, isin_tuple_bl, isin_tuple_int, isin_tuple_str, isin_tuple_tup, isin_tuple_lst, isin_tuple_dct, isin_int_non, isin_int_bl, isin_int_int, isin_int_str, isin_int_tup, isin_int_lst, isin_int_dct, isin_bool_non, isin_bool_bl, isin_bool_int, isin_bool_str, isin_bool_tup, isin_bool_lst, isin_bool_dct, isin_list_tuple_non, isin_list_tuple_bl, isin_list_tuple_int, isin_list_tuple_str, isin_list_tuple_tup, isin_list_tuple_lst, isin_list_tuple_dct, isin_tuple_list_non, isin_tuple_list_bl, isin_tuple_list_int, isin_tuple_list_str, isin_tuple_list_tup, isin_tuple_list_lst, isin_tuple_list_dct, isin_list_non, isin_list_bl, isin_list_int, isin_list_str, isin_list_tup, isin_list_lst, isin_list_dct, isin_dict_non, isin_dict_bl, isin_dict_int, isin_dict_str, isin_dict_tup, isin_dict_lst, isin_dict_dct, wl, al, lr, ln, lx, len1]
  have tz : Sz 9 45 1 (.tup (ts.map D.str)) := words_sz (m := 5) T.wd T.le
  have tl : ts.length ≤ 5 := T.le
  have zz : wordB "zz" = true := by decide +kernel
  rw [b_add_t (by rw [cut_to _ (by decide)]; simp only [List.length_append, List.length_map, List.length_take]; unfold LIM; omega)]
  simp only [M.ret_bind, M.bad_bind, M.bind_assoc, M.lift_some, M.lift_none, M.calm_ret, M.map_ret, M.exc_bind, SM.sb_exc, retM_xc, SM.sb_ret, SM.sb_bad, SM.sb_bind, SM.seq_nx, SM.seq_rt, SM.seq_ct, SM.seq_xc, SM.seq_bad, SM.seq_sb, SM.seq_seq, boolM_bl, bindM_some, bindS_some, iteM_t, iteM_f, brS_t, brS_f, ev_c, ev_v, ev_bin, ev_un, ev_chain, ev_and, ev_or, ev_ite, ev_tup, ev_lst, ev_call, ev_bi, ev_ix, ev_sl, ev_rev, ev_cmp', evs_nil, evs_star, ec_c, ec_v, ec_bin, ec_un, ec_chain, ec_and, ec_or, ec_ite, ec_tup, ec_lst, ec_call, ec_bi, ec_ix, ec_sl, ec_rev, ec_cmp, evO_none, evO_some, evT_none, evT_some, evI_rng, evI_rng2, evI_zip, evI_enm, evI_seq, ss_nil', ss_pass', ss_cont', ss_asg', ss_expr', ss_ite', ss_loop', ss_ret', ss_rais', ss_tr', slotM_sh, starM_lst, starM_tup, optI_int, loopM_nil, retM_rt, retM_nx, List.getElem?_cons_zero, List.getElem?_cons_succ, List.set_cons_zero, List.set_cons_succ, bindT, bindTs, wipeE, Tg.slots, Tg.slotss, startE, List.nil_append, List.cons_append, List.append_nil, List.map_cons, List.map_nil, List.length_cons, List.length_nil, List.replicate_succ, List.replicate_zero, Option.bind_some, Option.map_some, Nat.reduceAdd, Nat.reduceSub, Int.reduceEq, Int.reduceLT, Int.reduceLE, decide_true, decide_false, Bool.not_true, Bool.not_false]
  rw [b_add_t (by simp only [List.length_append, List.length_map, List.length_cons, List.length_nil]; unfold LIM; omega)]
  simp only [M.ret_bind, M.bad_bind, M.bind_assoc, M.lift_some, M.lift_none, M.calm_ret, M.map_ret, M.exc_bind, SM.sb_exc, retM_xc, SM.sb_ret, SM.sb_bad, SM.sb_bind, SM.seq_nx, SM.seq_rt, SM.seq_ct, SM.seq_xc, SM.seq_bad, SM.seq_sb, SM.seq_seq, boolM_bl, bindM_some, bindS_some, iteM_t, iteM_f, brS_t, brS_f, ev_c, ev_v, ev_bin, ev_un, ev_chain, ev_and, ev_or, ev_ite, ev_tup, ev_lst, ev_call, ev_bi, ev_ix, ev_sl, ev_rev, ev_cmp', evs_nil, evs_star, ec_c, ec_v, ec_bin, ec_un, ec_chain, ec_and, ec_or, ec_ite, ec_tup, ec_lst, ec_call, ec_bi, ec_ix, ec_sl, ec_rev, ec_cmp, evO_none, evO_some, evT_none, evT_some, evI_rng, evI_rng2, evI_zip, evI_enm, evI_seq, ss_nil', ss_pass', ss_cont', ss_asg', ss_expr', ss_ite', ss_loop', ss_ret', ss_rais', ss_tr', slotM_sh, starM_lst, starM_tup, optI_int, loopM_nil, retM_rt, retM_nx, List.getElem?_cons_zero, List.getElem?_cons_succ, List.set_cons_zero, List.set_cons_succ, bindT, bindTs, wipeE, Tg.slots, Tg.slotss, startE, List.nil_append, List.cons_append, List.append_nil, List.map_cons, List.map_nil, List.length_cons, List.length_nil, List.replicate_succ, List.replicate_zero, Option.bind_some, Option.map_some, Nat.reduceAdd, Nat.reduceSub, Int.reduceEq, Int.reduceLT, Int.reduceLE, decide_true, decide_false, Bool.not_true, Bool.not_false]
  have B1 : Tr 10 (runF P pr up (k + 11) "_law_bent" [.mm, .tup (ts.map D.str)]) (Bt 9 45 1) := bent1 B (k := k + 7) (by decide) (by decide) (by decide) tz
  refine TrS.sb 78 B1 fun b1 hb1 => ?_
  refine TrS.sb 77 (odd1 B (k := k + 9)) fun o1 ho1 => ?_
  refine TrS.sb 66 (names1 B (k := k + 9) (n := 6) (by decide)) fun nm hnm => ?_
  obtain ⟨us, eu, au, ul, uw⟩ := sort_names hnm (by decide)
  simp only [M.ret_bind, M.bad_bind, M.bind_assoc, M.lift_some, M.lift_none, M.calm_ret, M.map_ret, M.exc_bind, SM.sb_exc, retM_xc, SM.sb_ret, SM.sb_bad, SM.sb_bind, SM.seq_nx, SM.seq_rt, SM.seq_ct, SM.seq_xc, SM.seq_bad, SM.seq_sb, SM.seq_seq, boolM_bl, bindM_some, bindS_some, iteM_t, iteM_f, brS_t, brS_f, ev_c, ev_v, ev_bin, ev_un, ev_chain, ev_and, ev_or, ev_ite, ev_tup, ev_lst, ev_call, ev_bi, ev_ix, ev_sl, ev_rev, ev_cmp', evs_nil, evs_star, ec_c, ec_v, ec_bin, ec_un, ec_chain, ec_and, ec_or, ec_ite, ec_tup, ec_lst, ec_call, ec_bi, ec_ix, ec_sl, ec_rev, ec_cmp, evO_none, evO_some, evT_none, evT_some, evI_rng, evI_rng2, evI_zip, evI_enm, evI_seq, ss_nil', ss_pass', ss_cont', ss_asg', ss_expr', ss_ite', ss_loop', ss_ret', ss_rais', ss_tr', slotM_sh, starM_lst, starM_tup, optI_int, loopM_nil, retM_rt, retM_nx, List.getElem?_cons_zero, List.getElem?_cons_succ, List.set_cons_zero, List.set_cons_succ, bindT, bindTs, wipeE, Tg.slots, Tg.slotss, startE, List.nil_append, List.cons_append, List.append_nil, List.map_cons, List.map_nil, List.length_cons, List.length_nil, List.replicate_succ, List.replicate_zero, Option.bind_some, Option.map_some, Nat.reduceAdd, Nat.reduceSub, Int.reduceEq, Int.reduceLT, Int.reduceLE, decide_true, decide_false, Bool.not_true, Bool.not_false, b_add_i, b_sub_i, b_lt_i, b_le_i, b_gt_i, b_ge_i, b_lt_s, b_eq_i, b_ne_i, b_eq_t0, b_eq_l0, b_ne_t0, b_ne_l0, b_in_1, b_nin_1, u_not, u_neg, bi_len_t, bi_len_l, bi_len_c, bi_tup_l, bi_tup_t, bi_lst_l, bi_lst_t, bi_int_i, bi_edict, bi_min_i, bi_all_map, bi_any_map, sq_l, sq_t, zp_t, zp_l, rv_t, rv_l, sl_t, sl_l, fit0, fit1, fit2, fit3, fit4, fit5, fit6, fit7, fit8, fit9, fit10, fit11, fit12, fit13, fit14, fit15, fit16, fit17, fit18, fit19, fit20, fit21, fit22, fit23, fit24, fit25, fit26, fit27, fit28, fit29, fit30, fit31, fit32, isin_str_non, isin_str_bl, isin_str_int, isin_str_str, isin_str_tup, isin_str_lst, isin_str_dct, isin_tuple_non, isin_tuple_bl, isin_tuple_int, isin_tuple_str, isin_tuple_tup, isin_tuple_lst, isin_tuple_dct, isin_int_non, isin_int_bl, isin_int_int, isin_int_str, isin_int_tup, isin_int_lst, isin_int_dct, isin_bool_non, isin_bool_bl, isin_bool_int, isin_bool_str, isin_bool_tup, isin_bool_lst, isin_bool_dct, isin_list_tuple_non, isin_list_tuple_bl, isin_list_tuple_int, isin_list_tuple_str, isin_list_tuple_tup, isin_list_tuple_lst, isin_list_tuple_dct, isin_tuple_list_non, isin_tuple_list_bl, isin_tuple_list_int, isin_tuple_list_str, isin_tuple_list_tup, isin_tuple_list_lst, isin_tuple_list_dct, isin_list_non, isin_list_bl, isin_list_int, isin_list_str, isin_list_tup, isin_list_lst, isin_list_dct, isin_dict_non, isin_dict_bl, isin_dict_int, isin_dict_str, isin_dict_tup, isin_dict_lst, isin_dict_dct, eu]
  refine TrS.sb 56 B1 fun b2 hb2 => ?_
  have B2 : Tr 25 (runF P pr up (k + 11) "_law_bent" [.mm, b2]) (Bt 18 202 4) := bent1 B (k := k + 4) (by decide) (by decide) (by decide) hb2
  refine TrS.sb 31 B2 fun b3 hb3 => ?_
  rw [b_add_l (by simp only [List.length_append, List.length_cons, List.length_nil]; decide)]
  simp only [M.ret_bind, M.bad_bind, M.bind_assoc, M.lift_some, M.lift_none, M.calm_ret, M.map_ret, M.exc_bind, SM.sb_exc, retM_xc, SM.sb_ret, SM.sb_bad, SM.sb_bind, SM.seq_nx, SM.seq_rt, SM.seq_ct, SM.seq_xc, SM.seq_bad, SM.seq_sb, SM.seq_seq, boolM_bl, bindM_some, bindS_some, iteM_t, iteM_f, brS_t, brS_f, ev_c, ev_v, ev_bin, ev_un, ev_chain, ev_and, ev_or, ev_ite, ev_tup, ev_lst, ev_call, ev_bi, ev_ix, ev_sl, ev_rev, ev_cmp', evs_nil, evs_star, ec_c, ec_v, ec_bin, ec_un, ec_chain, ec_and, ec_or, ec_ite, ec_tup, ec_lst, ec_call, ec_bi, ec_ix, ec_sl, ec_rev, ec_cmp, evO_none, evO_some, evT_none, evT_some, evI_rng, evI_rng2, evI_zip, evI_enm, evI_seq, ss_nil', ss_pass', ss_cont', ss_asg', ss_expr', ss_ite', ss_loop', ss_ret', ss_rais', ss_tr', slotM_sh, starM_lst, starM_tup, optI_int, loopM_nil, retM_rt, retM_nx, List.getElem?_cons_zero, List.getElem?_cons_succ, List.set_cons_zero, List.set_cons_succ, bindT, bindTs, wipeE, Tg.slots, Tg.slotss, startE, List.nil_append, List.cons_append, List.append_nil, List.map_cons, List.map_nil, List.length_cons, List.length_nil, List.replicate_succ, List.replicate_zero, Option.bind_some, Option.map_some, Nat.reduceAdd, Nat.reduceSub, Int.reduceEq, Int.reduceLT, Int.reduceLE, decide_true, decide_false, Bool.not_true, Bool.not_false, b_add_i, b_sub_i, b_lt_i, b_le_i, b_gt_i, b_ge_i, b_lt_s, b_eq_i, b_ne_i, b_eq_t0, b_eq_l0, b_ne_t0, b_ne_l0, b_in_1, b_nin_1, u_not, u_neg, bi_len_t, bi_len_l, bi_len_c, bi_tup_l, bi_tup_t, bi_lst_l, bi_lst_t, bi_int_i, bi_edict, bi_min_i, bi_all_map, bi_any_map, sq_l, sq_t, zp_t, zp_l, rv_t, rv_l, sl_t, sl_l, fit0, fit1, fit2, fit3, fit4, fit5, fit6, fit7, fit8, fit9, fit10, fit11, fit12, fit13, fit14, fit15, fit16, fit17, fit18, fit19, fit20, fit21, fit22, fit23, fit24, fit25, fit26, fit27, fit28, fit29, fit30, fit31, fit32, isin_str_non, isin_str_bl, isin_str_int, isin_str_str, isin_str_tup, isin_str_lst, isin_str_dct, isin_tuple_non, isin_tuple_bl, isin_tuple_int, isin_tuple_str, isin_tuple_tup, isin_tuple_lst, isin_tuple_dct, isin_int_non, isin_int_bl, isin_int_int, isin_int_str, isin_int_tup, isin_int_lst, isin_int_dct, isin_bool_non, isin_bool_bl, isin_bool_int, isin_bool_str, isin_bool_tup, isin_bool_lst, isin_bool_dct, isin_list_tuple_non, isin_list_tuple_bl, isin_list_tuple_int, isin_list_tuple_str, isin_list_tuple_tup, isin_list_tuple_lst, isin_list_tuple_dct, isin_tuple_list_non, isin_tuple_list_bl, isin_tuple_list_int, isin_tuple_list_str, isin_tuple_list_tup, isin_tuple_list_lst, isin_tuple_list_dct, isin_list_non, isin_list_bl, isin_list_int, isin_list_str, isin_list_tup, isin_list_lst, isin_list_dct, isin_dict_non, isin_dict_bl, isin_dict_int, isin_dict_str, isin_dict_tup, isin_dict_lst, isin_dict_dct]
  -- the first loop
  have tS : Sz 36 1000 10 (.tup (ts.map D.str)) := tz.le (by decide) (by decide) (by decide)
  have hwd : ∀ ss : List Str, (∀ x ∈ ss, wordB x = true) → ss.length ≤ 20 → Sz 36 1000 10 (.tup (ss.map D.str)) := fun ss h1 h2 => (words_sz (m := 20) h1 h2).le (by decide) (by decide) (by decide)
  have zz : wordB ("zz" : Str) = true := by decide +kernel
  refine TrS.seq 31 (c1 := 0) (N' := Mid ns ts) (TrS.le (TrS.loop (c := 0) (fun r e => (∀ x ∈ r, Sz 36 1000 10 x) ∧ Mid ns ts e) (fun x r e ⟨hx, s2, s5, s6, s7, s8, s9, s10, s11, s12, s13, s14, he⟩ => ?_) _ _ ⟨fun x hx => ?_, _, _, _, _, _, _, _, _, _, _, _, rfl⟩) (by omega) |>.mono (fun e h => h.2) (fun _ h => h)) ?_
  · subst he
    refine ⟨_, by simp only [M.ret_bind, M.bad_bind, M.bind_assoc, M.lift_some, M.lift_none, M.calm_ret, M.map_ret, M.exc_bind, SM.sb_exc, retM_xc, SM.sb_ret, SM.sb_bad, SM.sb_bind, SM.seq_nx, SM.seq_rt, SM.seq_ct, SM.seq_xc, SM.seq_bad, SM.seq_sb, SM.seq_seq, boolM_bl, bindM_some, bindS_some, iteM_t, iteM_f, brS_t, brS_f, ev_c, ev_v, ev_bin, ev_un, ev_chain, ev_and, ev_or, ev_ite, ev_tup, ev_lst, ev_call, ev_bi, ev_ix, ev_sl, ev_rev, ev_cmp', evs_nil, evs_star, ec_c, ec_v, ec_bin, ec_un, ec_chain, ec_and, ec_or, ec_ite, ec_tup, ec_lst, ec_call, ec_bi, ec_ix, ec_sl, ec_rev, ec_cmp, evO_none, evO_some, evT_none, evT_some, evI_rng, evI_rng2, evI_zip, evI_enm, evI_seq, ss_nil', ss_pass', ss_cont', ss_asg', ss_expr', ss_ite', ss_loop', ss_ret', ss_rais', ss_tr', slotM_sh, starM_lst, starM_tup, optI_int, loopM_nil, retM_rt, retM_nx, List.getElem?_cons_zero, List.getElem?_cons_succ, List.set_cons_zero, List.set_cons_succ, bindT, bindTs, wipeE, Tg.slots, Tg.slotss, startE, List.nil_append, List.cons_append, List.append_nil, List.map_cons, List.map_nil, List.length_cons, List.length_nil, List.replicate_succ, List.replicate_zero, Option.bind_some, Option.map_some, Nat.reduceAdd, Nat.reduceSub, Int.reduceEq, Int.reduceLT, Int.reduceLE, decide_true, decide_false, Bool.not_true, Bool.not_false]; rfl, ?_⟩
    obtain ⟨t7, t8, t11, t12, t13, e⟩ := body1_ok (k := k + 8) (P := P) (pr := pr) (up := up) B.word B.asc B.need B.isname B.lasc (hx x List.mem_cons_self) (s0 := .sh (.scr ns)) (s1 := .sh .mm) (s2 := s2) (s3 := .sh (.tup (ts.map D.str))) (s4 := .sh (.lst ((lotsS ts).map tupS))) (s5 := s5) (s7 := s7) (s8 := s8) (s9 := s9) (s10 := s10) (s11 := s11) (s12 := s12) (s13 := s13) (s14 := s14)
    unfold body1 at e
    rw [e]
    exact TrS.nx ⟨fun y hy => hx y (List.mem_cons_of_mem _ hy), _, _, _, _, _, _, _, _, _, _, _, rfl⟩
  · simp only [List.mem_cons, List.not_mem_nil, or_false] at hx
    rcases hx with rfl | rfl | rfl | rfl | rfl | rfl | rfl | rfl | rfl | rfl
    · exact tS
    · rw [← List.map_reverse]
      exact hwd _ (fun x hx => T.wd x (List.mem_reverse.mp hx)) (by rw [List.length_reverse]; omega)
    · rw [cut_to _ (by decide), ← List.map_take, ← List.map_append]
      exact hwd _ (fun x hx => (List.mem_append.mp hx).elim (T.wd x) fun h => T.wd x (List.mem_of_mem_take h)) (by rw [List.length_append, List.length_take]; omega)
    · have e : ts.map D.str ++ [D.str ("zz" : Str)] = (ts ++ (["zz"] : List Str)).map D.str := by rw [List.map_append]; rfl
      rw [e]
      exact hwd _ (fun x hx => (List.mem_append.mp hx).elim (T.wd x) fun h => by rw [List.mem_singleton.mp h]; exact zz) (by rw [List.length_append]; show ts.length + 1 ≤ 20; omega)
    · exact hwd [] (by simp) (by decide)
    · exact ⟨by have := tS.f; simpa [D.fine] using this, by have := tS.w; rw [wt_tup] at this; rw [wt_lst]; exact this, by have := dp_tup.mp tS.d; exact dp_lst.mpr this⟩
    · exact hb1.le (by decide) (by decide) (by decide)
    · exact (odd_sz ho1).le (by decide) (by decide) (by decide)
    · exact hwd us uw (by omega)
    · exact hb3.le (by decide) (by decide) (by decide)
  · rintro e ⟨s2, s5, s6, s7, s8, s9, s10, s11, s12, s13, s14, rfl⟩
    have lpos : 0 < ((lotsS ts).map tupS).length := by rw [len1]; exact Nat.two_pow_pos _
    have lle : ((lotsS ts).map tupS).length ≤ 32 := by rw [len1]; exact Nat.pow_le_pow_right (by decide) tl
    simp only [M.ret_bind, M.bad_bind, M.bind_assoc, M.lift_some, M.lift_none, M.calm_ret, M.map_ret, M.exc_bind, SM.sb_exc, retM_xc, SM.sb_ret, SM.sb_bad, SM.sb_bind, SM.seq_nx, SM.seq_rt, SM.seq_ct, SM.seq_xc, SM.seq_bad, SM.seq_sb, SM.seq_seq, boolM_bl, bindM_some, bindS_some, iteM_t, iteM_f, brS_t, brS_f, ev_c, ev_v, ev_bin, ev_un, ev_chain, ev_and, ev_or, ev_ite, ev_tup, ev_lst, ev_call, ev_bi, ev_ix, ev_sl, ev_rev, ev_cmp', evs_nil, evs_star, ec_c, ec_v, ec_bin, ec_un, ec_chain, ec_and, ec_or, ec_ite, ec_tup, ec_lst, ec_call, ec_bi, ec_ix, ec_sl, ec_rev, ec_cmp, evO_none, evO_some, evT_none, evT_some, evI_rng, evI_rng2, evI_zip, evI_enm, evI_seq, ss_nil', ss_pass', ss_cont', ss_asg', ss_expr', ss_ite', ss_loop', ss_ret', ss_rais', ss_tr', slotM_sh, starM_lst, starM_tup, optI_int, loopM_nil, retM_rt, retM_nx, List.getElem?_cons_zero, List.getElem?_cons_succ, List.set_cons_zero, List.set_cons_succ, bindT, bindTs, wipeE, Tg.slots, Tg.slotss, startE, List.nil_append, List.cons_append, List.append_nil, List.map_cons, List.map_nil, List.length_cons, List.length_nil, List.replicate_succ, List.replicate_zero, Option.bind_some, Option.map_some, Nat.reduceAdd, Nat.reduceSub, Int.reduceEq, Int.reduceLT, Int.reduceLE, decide_true, decide_false, Bool.not_true, Bool.not_false, b_add_i, b_sub_i, b_lt_i, b_le_i, b_gt_i, b_ge_i, b_lt_s, b_eq_i, b_ne_i, b_eq_t0, b_eq_l0, b_ne_t0, b_ne_l0, b_in_1, b_nin_1, u_not, u_neg, bi_len_t, bi_len_l, bi_len_c, bi_tup_l, bi_tup_t, bi_lst_l, bi_lst_t, bi_int_i, bi_edict, bi_min_i, bi_all_map, bi_any_map, sq_l, sq_t, zp_t, zp_l, rv_t, rv_l, sl_t, sl_l, fit0, fit1, fit2, fit3, fit4, fit5, fit6, fit7, fit8, fit9, fit10, fit11, fit12, fit13, fit14, fit15, fit16, fit17, fit18, fit19, fit20, fit21, fit22, fit23, fit24, fit25, fit26, fit27, fit28, fit29, fit30, fit31, fit32, isin_str_non, isin_str_bl, isin_str_int, isin_str_str, isin_str_tup, isin_str_lst, isin_str_dct, isin_tuple_non, isin_tuple_bl, isin_tuple_int, isin_tuple_str, isin_tuple_tup, isin_tuple_lst, isin_tuple_dct, isin_int_non, isin_int_bl, isin_int_int, isin_int_str, isin_int_tup, isin_int_lst, isin_int_dct, isin_bool_non, isin_bool_bl, isin_bool_int, isin_bool_str, isin_bool_tup, isin_bool_lst, isin_bool_dct, isin_list_tuple_non, isin_list_tuple_bl, isin_list_tuple_int, isin_list_tuple_str, isin_list_tuple_tup, isin_list_tuple_lst, isin_list_tuple_dct, isin_tuple_list_non, isin_tuple_list_bl, isin_tuple_list_int, isin_tuple_list_str, isin_tuple_list_tup, isin_tuple_list_lst, isin_tuple_list_dct, isin_list_non, isin_list_bl, isin_list_int, isin_list_str, isin_list_tup, isin_list_lst, isin_list_dct, isin_dict_non, isin_dict_bl, isin_dict_int, isin_dict_str, isin_dict_tup, isin_dict_lst, isin_dict_dct]
    refine TrS.sb 30 (next1 B (k := k + 10) (i := ((lotsS ts).map tupS).length) (by omega) (by omega)) fun d ⟨v, e, v0, v1⟩ => ?_
    subst e
    obtain ⟨l1, hl1, e1⟩ := lot_at (ts := ts) v0 v1
    simp only [M.ret_bind, M.bad_bind, M.bind_assoc, M.lift_some, M.lift_none, M.calm_ret, M.map_ret, M.exc_bind, SM.sb_exc, retM_xc, SM.sb_ret, SM.sb_bad, SM.sb_bind, SM.seq_nx, SM.seq_rt, SM.seq_ct, SM.seq_xc, SM.seq_bad, SM.seq_sb, SM.seq_seq, boolM_bl, bindM_some, bindS_some, iteM_t, iteM_f, brS_t, brS_f, ev_c, ev_v, ev_bin, ev_un, ev_chain, ev_and, ev_or, ev_ite, ev_tup, ev_lst, ev_call, ev_bi, ev_ix, ev_sl, ev_rev, ev_cmp', evs_nil, evs_star, ec_c, ec_v, ec_bin, ec_un, ec_chain, ec_and, ec_or, ec_ite, ec_tup, ec_lst, ec_call, ec_bi, ec_ix, ec_sl, ec_rev, ec_cmp, evO_none, evO_some, evT_none, evT_some, evI_rng, evI_rng2, evI_zip, evI_enm, evI_seq, ss_nil', ss_pass', ss_cont', ss_asg', ss_expr', ss_ite', ss_loop', ss_ret', ss_rais', ss_tr', slotM_sh, starM_lst, starM_tup, optI_int, loopM_nil, retM_rt, retM_nx, List.getElem?_cons_zero, List.getElem?_cons_succ, List.set_cons_zero, List.set_cons_succ, bindT, bindTs, wipeE, Tg.slots, Tg.slotss, startE, List.nil_append, List.cons_append, List.append_nil, List.map_cons, List.map_nil, List.length_cons, List.length_nil, List.replicate_succ, List.replicate_zero, Option.bind_some, Option.map_some, Nat.reduceAdd, Nat.reduceSub, Int.reduceEq, Int.reduceLT, Int.reduceLE, decide_true, decide_false, Bool.not_true, Bool.not_false, b_add_i, b_sub_i, b_lt_i, b_le_i, b_gt_i, b_ge_i, b_lt_s, b_eq_i, b_ne_i, b_eq_t0, b_eq_l0, b_ne_t0, b_ne_l0, b_in_1, b_nin_1, u_not, u_neg, bi_len_t, bi_len_l, bi_len_c, bi_tup_l, bi_tup_t, bi_lst_l, bi_lst_t, bi_int_i, bi_edict, bi_min_i, bi_all_map, bi_any_map, sq_l, sq_t, zp_t, zp_l, rv_t, rv_l, sl_t, sl_l, fit0, fit1, fit2, fit3, fit4, fit5, fit6, fit7, fit8, fit9, fit10, fit11, fit12, fit13, fit14, fit15, fit16, fit17, fit18, fit19, fit20, fit21, fit22, fit23, fit24, fit25, fit26, fit27, fit28, fit29, fit30, fit31, fit32, isin_str_non, isin_str_bl, isin_str_int, isin_str_str, isin_str_tup, isin_str_lst, isin_str_dct, isin_tuple_non, isin_tuple_bl, isin_tuple_int, isin_tuple_str, isin_tuple_tup, isin_tuple_lst, isin_tuple_dct, isin_int_non, isin_int_bl, isin_int_int, isin_int_str, isin_int_tup, isin_int_lst, isin_int_dct, isin_bool_non, isin_bool_bl, isin_bool_int, isin_bool_str, isin_bool_tup, isin_bool_lst, isin_bool_dct, isin_list_tuple_non, isin_list_tuple_bl, isin_list_tuple_int, isin_list_tuple_str, isin_list_tuple_tup, isin_list_tuple_lst, isin_list_tuple_dct, isin_tuple_list_non, isin_tuple_list_bl, isin_tuple_list_int, isin_tuple_list_str, isin_tuple_list_tup, isin_tuple_list_lst, isin_tuple_list_dct, isin_list_non, isin_list_bl, isin_list_int, isin_list_str, isin_list_tup, isin_list_lst, isin_list_dct, isin_dict_non, isin_dict_bl, isin_dict_int, isin_dict_str, isin_dict_tup, isin_dict_lst, isin_dict_dct, e1]
    refine TrS.sb 29 (next1 B (k := k + 10) (i := ((lotsS ts).map tupS).length) (by omega) (by omega)) fun d ⟨u, e, u0, u1⟩ => ?_
    subst e
    obtain ⟨l2, hl2, e2⟩ := lot_at (ts := ts) u0 u1
    have n1 : l1.length ≤ 5 := Nat.le_trans hl1.length_le tl
    have n2 : l2.length ≤ 5 := Nat.le_trans hl2.length_le tl
    have w1 : ∀ x ∈ l1, wordB x = true := fun x hx => T.wd x (hl1.subset hx)
    have w2 : ∀ x ∈ l2, wordB x = true := fun x hx => T.wd x (hl2.subset hx)
    have nd := T.asc.nodup
    have jn : runF P pr up (k + 11) "joined" [.tup (l1.map D.str), .tup (l2.map D.str)] = M.ret (.tup ((joinS l1 l2).map D.str)) := w_joined B.joined (fun x hx => word_ok (w1 x hx)) (fun x hx => word_ok (w2 x hx)) (by omega) (by omega)
    have bt : runF P pr up (k + 11) "_law_both" [.tup (l1.map D.str), .tup (l2.map D.str)] = M.ret (.tup ((joinS l1 l2).map D.str)) := by
      rw [join_both (hl1.nodup nd) (hl2.nodup nd)]
      exact w_law_both B.both (by omega)
    have jp : (joinS l1 l2).Perm (l1 ++ l2.filter fun x => !decide (x ∈ l1)) := sortS_perm _
    have jz : Sz 36 1000 10 (.tup ((joinS l1 l2).map D.str)) := hwd _ (fun x hx => (List.mem_append.mp (jp.mem_iff.mp hx)).elim (w1 x) fun h => w2 x (List.mem_filter.mp h).1) (by rw [jp.length_eq, List.length_append]; have := List.length_filter_le (fun x => !decide (x ∈ l1)) l2; omega)
    have jr : biD .repr [.tup ((joinS l1 l2).map D.str)] = some (.str (D.tup ((joinS l1 l2).map D.str)).py.shown) := bi_repr_f (by decide : 36 ≤ 1000) jz.f (by have := jz.w; omega) (by have := jz.d; omega)
    have je := ne_refl_s (strOk_shown _ jz.f)
    have z1 : Sz 9 45 1 (.tup (l1.map D.str)) := words_sz (m := 5) w1 n1
    have B3 : Tr 10 (runF P pr up (k + 11) "_law_bent" [.mm, .tup (l1.map D.str)]) (Bt 9 45 1) := bent1 B (k := k + 7) (by decide) (by decide) (by decide) z1
    simp only [M.ret_bind, M.bad_bind, M.bind_assoc, M.lift_some, M.lift_none, M.calm_ret, M.map_ret, M.exc_bind, SM.sb_exc, retM_xc, SM.sb_ret, SM.sb_bad, SM.sb_bind, SM.seq_nx, SM.seq_rt, SM.seq_ct, SM.seq_xc, SM.seq_bad, SM.seq_sb, SM.seq_seq, boolM_bl, bindM_some, bindS_some, iteM_t, iteM_f, brS_t, brS_f, ev_c, ev_v, ev_bin, ev_un, ev_chain, ev_and, ev_or, ev_ite, ev_tup, ev_lst, ev_call, ev_bi, ev_ix, ev_sl, ev_rev, ev_cmp', evs_nil, evs_star, ec_c, ec_v, ec_bin, ec_un, ec_chain, ec_and, ec_or, ec_ite, ec_tup, ec_lst, ec_call, ec_bi, ec_ix, ec_sl, ec_rev, ec_cmp, evO_none, evO_some, evT_none, evT_some, evI_rng, evI_rng2, evI_zip, evI_enm, evI_seq, ss_nil', ss_pass', ss_cont', ss_asg', ss_expr', ss_ite', ss_loop', ss_ret', ss_rais', ss_tr', slotM_sh, starM_lst, starM_tup, optI_int, loopM_nil, retM_rt, retM_nx, List.getElem?_cons_zero, List.getElem?_cons_succ, List.set_cons_zero, List.set_cons_succ, bindT, bindTs, wipeE, Tg.slots, Tg.slotss, startE, List.nil_append, List.cons_append, List.append_nil, List.map_cons, List.map_nil, List.length_cons, List.length_nil, List.replicate_succ, List.replicate_zero, Option.bind_some, Option.map_some, Nat.reduceAdd, Nat.reduceSub, Int.reduceEq, Int.reduceLT, Int.reduceLE, decide_true, decide_false, Bool.not_true, Bool.not_false, b_add_i, b_sub_i, b_lt_i, b_le_i, b_gt_i, b_ge_i, b_lt_s, b_eq_i, b_ne_i, b_eq_t0, b_eq_l0, b_ne_t0, b_ne_l0, b_in_1, b_nin_1, u_not, u_neg, bi_len_t, bi_len_l, bi_len_c, bi_tup_l, bi_tup_t, bi_lst_l, bi_lst_t, bi_int_i, bi_edict, bi_min_i, bi_all_map, bi_any_map, sq_l, sq_t, zp_t, zp_l, rv_t, rv_l, sl_t, sl_l, fit0, fit1, fit2, fit3, fit4, fit5, fit6, fit7, fit8, fit9, fit10, fit11, fit12, fit13, fit14, fit15, fit16, fit17, fit18, fit19, fit20, fit21, fit22, fit23, fit24, fit25, fit26, fit27, fit28, fit29, fit30, fit31, fit32, isin_str_non, isin_str_bl, isin_str_int, isin_str_str, isin_str_tup, isin_str_lst, isin_str_dct, isin_tuple_non, isin_tuple_bl, isin_tuple_int, isin_tuple_str, isin_tuple_tup, isin_tuple_lst, isin_tuple_dct, isin_int_non, isin_int_bl, isin_int_int, isin_int_str, isin_int_tup, isin_int_lst, isin_int_dct, isin_bool_non, isin_bool_bl, isin_bool_int, isin_bool_str, isin_bool_tup, isin_bool_lst, isin_bool_dct, isin_list_tuple_non, isin_list_tuple_bl, isin_list_tuple_int, isin_list_tuple_str, isin_list_tuple_tup, isin_list_tuple_lst, isin_list_tuple_dct, isin_tuple_list_non, isin_tuple_list_bl, isin_tuple_list_int, isin_tuple_list_str, isin_tuple_list_tup, isin_tuple_list_lst, isin_tuple_list_dct, isin_list_non, isin_list_bl, isin_list_int, isin_list_str, isin_list_tup, isin_list_lst, isin_list_dct, isin_dict_non, isin_dict_bl, isin_dict_int, isin_dict_str, isin_dict_tup, isin_dict_lst, isin_dict_dct, e2, jn, bt, jr, je, rep2 (show l1.length ≤ 100 by omega)]
    rw [b_add_t (by simp only [List.length_append, List.length_map, List.length_cons, List.length_nil]; unfold LIM; omega)]
    simp only [M.ret_bind, M.bad_bind, M.bind_assoc, M.lift_some, M.lift_none, M.calm_ret, M.map_ret, M.exc_bind, SM.sb_exc, retM_xc, SM.sb_ret, SM.sb_bad, SM.sb_bind, SM.seq_nx, SM.seq_rt, SM.seq_ct, SM.seq_xc, SM.seq_bad, SM.seq_sb, SM.seq_seq, boolM_bl, bindM_some, bindS_some, iteM_t, iteM_f, brS_t, brS_f, ev_c, ev_v, ev_bin, ev_un, ev_chain, ev_and, ev_or, ev_ite, ev_tup, ev_lst, ev_call, ev_bi, ev_ix, ev_sl, ev_rev, ev_cmp', evs_nil, evs_star, ec_c, ec_v, ec_bin, ec_un, ec_chain, ec_and, ec_or, ec_ite, ec_tup, ec_lst, ec_call, ec_bi, ec_ix, ec_sl, ec_rev, ec_cmp, evO_none, evO_some, evT_none, evT_some, evI_rng, evI_rng2, evI_zip, evI_enm, evI_seq, ss_nil', ss_pass', ss_cont', ss_asg', ss_expr', ss_ite', ss_loop', ss_ret', ss_rais', ss_tr', slotM_sh, starM_lst, starM_tup, optI_int, loopM_nil, retM_rt, retM_nx, List.getElem?_cons_zero, List.getElem?_cons_succ, List.set_cons_zero, List.set_cons_succ, bindT, bindTs, wipeE, Tg.slots, Tg.slotss, startE, List.nil_append, List.cons_append, List.append_nil, List.map_cons, List.map_nil, List.length_cons, List.length_nil, List.replicate_succ, List.replicate_zero, Option.bind_some, Option.map_some, Nat.reduceAdd, Nat.reduceSub, Int.reduceEq, Int.reduceLT, Int.reduceLE, decide_true, decide_false, Bool.not_true, Bool.not_false]
    refine TrS.sb 19 B3 fun b4 hb4 => ?_
    refine TrS.sb 18 (odd1 B (k := k + 9)) fun o2 ho2 => ?_
    try simp only [M.ret_bind, M.bad_bind, M.bind_assoc, M.lift_some, M.lift_none, M.calm_ret, M.map_ret, M.exc_bind, SM.sb_exc, retM_xc, SM.sb_ret, SM.sb_bad, SM.sb_bind, SM.seq_nx, SM.seq_rt, SM.seq_ct, SM.seq_xc, SM.seq_bad, SM.seq_sb, SM.seq_seq, boolM_bl, bindM_some, bindS_some, iteM_t, iteM_f, brS_t, brS_f, ev_c, ev_v, ev_bin, ev_un, ev_chain, ev_and, ev_or, ev_ite, ev_tup, ev_lst, ev_call, ev_bi, ev_ix, ev_sl, ev_rev, ev_cmp', evs_nil, evs_star, ec_c, ec_v, ec_bin, ec_un, ec_chain, ec_and, ec_or, ec_ite, ec_tup, ec_lst, ec_call, ec_bi, ec_ix, ec_sl, ec_rev, ec_cmp, evO_none, evO_some, evT_none, evT_some, evI_rng, evI_rng2, evI_zip, evI_enm, evI_seq, ss_nil', ss_pass', ss_cont', ss_asg', ss_expr', ss_ite', ss_loop', ss_ret', ss_rais', ss_tr', slotM_sh, starM_lst, starM_tup, optI_int, loopM_nil, retM_rt, retM_nx, List.getElem?_cons_zero, List.getElem?_cons_succ, List.set_cons_zero, List.set_cons_succ, bindT, bindTs, wipeE, Tg.slots, Tg.slotss, startE, List.nil_append, List.cons_append, List.append_nil, List.map_cons, List.map_nil, List.length_cons, List.length_nil, List.replicate_succ, List.replicate_zero, Option.bind_some, Option.map_some, Nat.reduceAdd, Nat.reduceSub, Int.reduceEq, Int.reduceLT, Int.reduceLE, decide_true, decide_false, Bool.not_true, Bool.not_false, b_add_i, b_sub_i, b_lt_i, b_le_i, b_gt_i, b_ge_i, b_lt_s, b_eq_i, b_ne_i, b_eq_t0, b_eq_l0, b_ne_t0, b_ne_l0, b_in_1, b_nin_1, u_not, u_neg, bi_len_t, bi_len_l, bi_len_c, bi_tup_l, bi_tup_t, bi_lst_l, bi_lst_t, bi_int_i, bi_edict, bi_min_i, bi_all_map, bi_any_map, sq_l, sq_t, zp_t, zp_l, rv_t, rv_l, sl_t, sl_l, fit0, fit1, fit2, fit3, fit4, fit5, fit6, fit7, fit8, fit9, fit10, fit11, fit12, fit13, fit14, fit15, fit16, fit17, fit18, fit19, fit20, fit21, fit22, fit23, fit24, fit25, fit26, fit27, fit28, fit29, fit30, fit31, fit32, isin_str_non, isin_str_bl, isin_str_int, isin_str_str, isin_str_tup, isin_str_lst, isin_str_dct, isin_tuple_non, isin_tuple_bl, isin_tuple_int, isin_tuple_str, isin_tuple_tup, isin_tuple_lst, isin_tuple_dct, isin_int_non, isin_int_bl, isin_int_int, isin_int_str, isin_int_tup, isin_int_lst, isin_int_dct, isin_bool_non, isin_bool_bl, isin_bool_int, isin_bool_str, isin_bool_tup, isin_bool_lst, isin_bool_dct, isin_list_tuple_non, isin_list_tuple_bl, isin_list_tuple_int, isin_list_tuple_str, isin_list_tuple_tup, isin_list_tuple_lst, isin_list_tuple_dct, isin_tuple_list_non, isin_tuple_list_bl, isin_tuple_list_int, isin_tuple_list_str, isin_tuple_list_tup, isin_tuple_list_lst, isin_tuple_list_dct, isin_list_non, isin_list_bl, isin_list_int, isin_list_str, isin_list_tup, isin_list_lst, isin_list_dct, isin_dict_non, isin_dict_bl, isin_dict_int, isin_dict_str, isin_dict_tup, isin_dict_lst, isin_dict_dct]
    -- the second loop
    refine TrS.seq 0 (c1 := 0) (N' := Mid ns ts) (TrS.le (TrS.loop (c := 0) (fun r e => (∀ x ∈ r, Sz 36 1000 10 x) ∧ Mid ns ts e) (fun x r e ⟨hx, s2, s5, s6, s7, s8, s9, s10, s11, s12, s13, s14, he⟩ => ?_) _ _ ⟨fun x hx => ?_, _, _, _, _, _, _, _, _, _, _, _, rfl⟩) (by omega) |>.mono (fun e h => h.2) (fun _ h => h)) ?_
    · subst he
      refine ⟨_, by simp only [M.ret_bind, M.bad_bind, M.bind_assoc, M.lift_some, M.lift_none, M.calm_ret, M.map_ret, M.exc_bind, SM.sb_exc, retM_xc, SM.sb_ret, SM.sb_bad, SM.sb_bind, SM.seq_nx, SM.seq_rt, SM.seq_ct, SM.seq_xc, SM.seq_bad, SM.seq_sb, SM.seq_seq, boolM_bl, bindM_some, bindS_some, iteM_t, iteM_f, brS_t, brS_f, ev_c, ev_v, ev_bin, ev_un, ev_chain, ev_and, ev_or, ev_ite, ev_tup, ev_lst, ev_call, ev_bi, ev_ix, ev_sl, ev_rev, ev_cmp', evs_nil, evs_star, ec_c, ec_v, ec_bin, ec_un, ec_chain, ec_and, ec_or, ec_ite, ec_tup, ec_lst, ec_call, ec_bi, ec_ix, ec_sl, ec_rev, ec_cmp, evO_none, evO_some, evT_none, evT_some, evI_rng, evI_rng2, evI_zip, evI_enm, evI_seq, ss_nil', ss_pass', ss_cont', ss_asg', ss_expr', ss_ite', ss_loop', ss_ret', ss_rais', ss_tr', slotM_sh, starM_lst, starM_tup, optI_int, loopM_nil, retM_rt, retM_nx, List.getElem?_cons_zero, List.getElem?_cons_succ, List.set_cons_zero, List.set_cons_succ, bindT, bindTs, wipeE, Tg.slots, Tg.slotss, startE, List.nil_append, List.cons_append, List.append_nil, List.map_cons, List.map_nil, List.length_cons, List.length_nil, List.replicate_succ, List.replicate_zero, Option.bind_some, Option.map_some, Nat.reduceAdd, Nat.reduceSub, Int.reduceEq, Int.reduceLT, Int.reduceLE, decide_true, decide_false, Bool.not_true, Bool.not_false]; rfl, ?_⟩
      obtain ⟨t8, e⟩ := body2_ok (k := k + 8) (P := P) (pr := pr) (up := up) B.word B.asc B.need B.isname B.lasc B.islot T.ok (hx x List.mem_cons_self) (s0 := .sh (.scr ns)) (s1 := .sh .mm) (s2 := s2) (s4 := .sh (.lst ((lotsS ts).map tupS))) (s5 := s5) (s7 := s7) (s8 := s8) (s9 := s9) (s10 := s10) (s11 := s11) (s12 := s12) (s13 := s13) (s14 := s14)
      unfold body2 at e
      rw [e]
      exact TrS.nx ⟨fun y hy => hx y (List.mem_cons_of_mem _ hy), _, _, _, _, _, _, _, _, _, _, _, rfl⟩
    · simp only [List.mem_cons, List.not_mem_nil, or_false] at hx
      rcases hx with rfl | rfl | rfl | rfl | rfl | rfl | rfl | rfl | rfl
      · exact hwd _ w1 (by omega)
      · exact hwd _ w2 (by omega)
      · rw [← List.map_reverse]
        exact hwd _ (fun x hx => w1 x (List.mem_reverse.mp hx)) (by rw [List.length_reverse]; omega)
      · have tS := hwd _ w1 (by omega)
        exact ⟨by have := tS.f; simpa [D.fine] using this, by have := tS.w; rw [wt_tup] at this; rw [wt_lst]; exact this, by have := dp_tup.mp tS.d; exact dp_lst.mpr this⟩
      · have e : l1.map D.str ++ [D.str ("zz" : Str)] = (l1 ++ (["zz"] : List Str)).map D.str := by rw [List.map_append]; rfl
        rw [e]
        exact hwd _ (fun x hx => (List.mem_append.mp hx).elim (w1 x) fun h => by rw [List.mem_singleton.mp h]; exact zz) (by rw [List.length_append]; show l1.length + 1 ≤ 20; omega)
      · exact hwd _ (fun x hx => (List.mem_append.mp hx).elim (w1 x) (w1 x)) (by rw [List.length_append]; omega)
      · exact hb4.le (by decide) (by decide) (by decide)
      · exact (odd_sz ho2).le (by decide) (by decide) (by decide)
      · exact tS
    · rintro e ⟨s2, s5, s6, s7, s8, s9, s10, s11, s12, s13, s14, rfl⟩
      try simp only [M.ret_bind, M.bad_bind, M.bind_assoc, M.lift_some, M.lift_none, M.calm_ret, M.map_ret, M.exc_bind, SM.sb_exc, retM_xc, SM.sb_ret, SM.sb_bad, SM.sb_bind, SM.seq_nx, SM.seq_rt, SM.seq_ct, SM.seq_xc, SM.seq_bad, SM.seq_sb, SM.seq_seq, boolM_bl, bindM_some, bindS_some, iteM_t, iteM_f, brS_t, brS_f, ev_c, ev_v, ev_bin, ev_un, ev_chain, ev_and, ev_or, ev_ite, ev_tup, ev_lst, ev_call, ev_bi, ev_ix, ev_sl, ev_rev, ev_cmp', evs_nil, evs_star, ec_c, ec_v, ec_bin, ec_un, ec_chain, ec_and, ec_or, ec_ite, ec_tup, ec_lst, ec_call, ec_bi, ec_ix, ec_sl, ec_rev, ec_cmp, evO_none, evO_some, evT_none, evT_some, evI_rng, evI_rng2, evI_zip, evI_enm, evI_seq, ss_nil', ss_pass', ss_cont', ss_asg', ss_expr', ss_ite', ss_loop', ss_ret', ss_rais', ss_tr', slotM_sh, starM_lst, starM_tup, optI_int, loopM_nil, retM_rt, retM_nx, List.getElem?_cons_zero, List.getElem?_cons_succ, List.set_cons_zero, List.set_cons_succ, bindT, bindTs, wipeE, Tg.slots, Tg.slotss, startE, List.nil_append, List.cons_append, List.append_nil, List.map_cons, List.map_nil, List.length_cons, List.length_nil, List.replicate_succ, List.replicate_zero, Option.bind_some, Option.map_some, Nat.reduceAdd, Nat.reduceSub, Int.reduceEq, Int.reduceLT, Int.reduceLE, decide_true, decide_false, Bool.not_true, Bool.not_false]
      exact TrS.nx ⟨_, _, _, _, _, _, _, _, _, _, _, _, _, rfl⟩
omit B in
theorem sb_ok {α : Type} {x : M α} {env : Env} {k : α → SM} {m m' : Option MSt} {a : α} (h : x m = .ok a m') : SM.sb x env k m = k a m' := by
  unfold SM.sb onO
  rw [h]
/-- the plain law -/
theorem plain_ok {k : Nat} {ns : List Int} (hl : ns.length ≤ 63) : ∃ m', runF P pr up (k + 12) "law" [.scr ns] none = .ok (.bl true) m' := by
  rw [run_def B.law rfl (by decide)]
  have hb : runF P pr up (k + 11) "_law_begun" [.scr ns] = begunM [.scr ns] := by rw [run_prim B.begun, B.pb]
  have hL : ns.length ≤ LIM := by unfold LIM; omega
  have T : TrS 1200 (SM.seq (loopM (.v 2) (fun e => exSs (runF P pr up (k + 11)) up turn e) ((List.range (4 + (if (8 : Int) < (ns.length : Int) then 8 else (ns.length : Int))).toNat).map fun (j : Nat) => D.int (j : Int)) [.sh (.scr ns), .sh .mm, .no, .no, .no, .no, .no, .no, .no, .no, .no, .no, .no, .no, .no]) fun e => exSs (runF P pr up (k + 11)) up [.ret (.c (.bl true))] e) (fun _ => False) (fun d => d = .bl true) := by
    refine TrS.seq 0 (c1 := 1200) (N' := Inv ns) (TrS.mono (R := fun _ => False) (TrS.le (TrS.loop (c := 100) (fun _ e => Inv ns e) ?_ _ _ ⟨_, _, _, _, _, _, _, _, _, _, _, _, _, rfl⟩) ?_) (fun e h => h) (fun _ h => h.elim)) ?_
    · rintro x r e ⟨s2, s3, s4, s5, s6, s7, s8, s9, s10, s11, s12, s13, s14, rfl⟩
      refine ⟨_, by simp only [M.ret_bind, M.bad_bind, M.bind_assoc, M.lift_some, M.lift_none, M.calm_ret, M.map_ret, M.exc_bind, SM.sb_exc, retM_xc, SM.sb_ret, SM.sb_bad, SM.sb_bind, SM.seq_nx, SM.seq_rt, SM.seq_ct, SM.seq_xc, SM.seq_bad, SM.seq_sb, SM.seq_seq, boolM_bl, bindM_some, bindS_some, iteM_t, iteM_f, brS_t, brS_f, ev_c, ev_v, ev_bin, ev_un, ev_chain, ev_and, ev_or, ev_ite, ev_tup, ev_lst, ev_call, ev_bi, ev_ix, ev_sl, ev_rev, ev_cmp', evs_nil, evs_star, ec_c, ec_v, ec_bin, ec_un, ec_chain, ec_and, ec_or, ec_ite, ec_tup, ec_lst, ec_call, ec_bi, ec_ix, ec_sl, ec_rev, ec_cmp, evO_none, evO_some, evT_none, evT_some, evI_rng, evI_rng2, evI_zip, evI_enm, evI_seq, ss_nil', ss_pass', ss_cont', ss_asg', ss_expr', ss_ite', ss_loop', ss_ret', ss_rais', ss_tr', slotM_sh, starM_lst, starM_tup, optI_int, loopM_nil, retM_rt, retM_nx, List.getElem?_cons_zero, List.getElem?_cons_succ, List.set_cons_zero, List.set_cons_succ, bindT, bindTs, wipeE, Tg.slots, Tg.slotss, startE, List.nil_append, List.cons_append, List.append_nil, List.map_cons, List.map_nil, List.length_cons, List.length_nil, List.replicate_succ, List.replicate_zero, Option.bind_some, Option.map_some, Nat.reduceAdd, Nat.reduceSub, Int.reduceEq, Int.reduceLT, Int.reduceLE, decide_true, decide_false, Bool.not_true, Bool.not_false]; rfl, turn_ok B⟩
    · rw [List.length_map, List.length_range]
      have : (4 + (if (8 : Int) < (ns.length : Int) then 8 else (ns.length : Int))).toNat ≤ 12 := by split <;> omega
      omega
    · rintro e ⟨s2, s3, s4, s5, s6, s7, s8, s9, s10, s11, s12, s13, s14, rfl⟩
      simp only [M.ret_bind, M.bad_bind, M.bind_assoc, M.lift_some, M.lift_none, M.calm_ret, M.map_ret, M.exc_bind, SM.sb_exc, retM_xc, SM.sb_ret, SM.sb_bad, SM.sb_bind, SM.seq_nx, SM.seq_rt, SM.seq_ct, SM.seq_xc, SM.seq_bad, SM.seq_sb, SM.seq_seq, boolM_bl, bindM_some, bindS_some, iteM_t, iteM_f, brS_t, brS_f, ev_c, ev_v, ev_bin, ev_un, ev_chain, ev_and, ev_or, ev_ite, ev_tup, ev_lst, ev_call, ev_bi, ev_ix, ev_sl, ev_rev, ev_cmp', evs_nil, evs_star, ec_c, ec_v, ec_bin, ec_un, ec_chain, ec_and, ec_or, ec_ite, ec_tup, ec_lst, ec_call, ec_bi, ec_ix, ec_sl, ec_rev, ec_cmp, evO_none, evO_some, evT_none, evT_some, evI_rng, evI_rng2, evI_zip, evI_enm, evI_seq, ss_nil', ss_pass', ss_cont', ss_asg', ss_expr', ss_ite', ss_loop', ss_ret', ss_rais', ss_tr', slotM_sh, starM_lst, starM_tup, optI_int, loopM_nil, retM_rt, retM_nx, List.getElem?_cons_zero, List.getElem?_cons_succ, List.set_cons_zero, List.set_cons_succ, bindT, bindTs, wipeE, Tg.slots, Tg.slotss, startE, List.nil_append, List.cons_append, List.append_nil, List.map_cons, List.map_nil, List.length_cons, List.length_nil, List.replicate_succ, List.replicate_zero, Option.bind_some, Option.map_some, Nat.reduceAdd, Nat.reduceSub, Int.reduceEq, Int.reduceLT, Int.reduceLE, decide_true, decide_false, Bool.not_true, Bool.not_false]
      exact TrS.rt rfl
  have hm : MOk (0 + 1200) (some ⟨ns, ns.filter (fun n => decide (BIG ≤ n)), 0⟩) := ⟨_, rfl, Int.le_refl 0, (by decide : (0 : Int) + (0 + 1200 : Nat) ≤ 1000000000), hL⟩
  have e0 : exSs (runF P pr up (k + 11)) up f_law.body (startE f_law [.scr ns]) none = (SM.seq (loopM (.v 2) (fun e => exSs (runF P pr up (k + 11)) up turn e) ((List.range (4 + (if (8 : Int) < (ns.length : Int) then 8 else (ns.length : Int))).toNat).map fun (j : Nat) => D.int (j : Int)) [.sh (.scr ns), .sh .mm, .no, .no, .no, .no, .no, .no, .no, .no, .no, .no, .no, .no, .no]) fun e => exSs (runF P pr up (k + 11)) up [.ret (.c (.bl true))] e) (some ⟨ns, ns.filter (fun n => decide (BIG ≤ n)), 0⟩) := by
    have hb0 : begunM [.scr ns] none = .ok .mm (some ⟨ns, ns.filter (fun n => decide (BIG ≤ n)), 0⟩) := if_pos hL
    unfold turn f_law
    simp only [M.ret_bind, M.bad_bind, M.bind_assoc, M.lift_some, M.lift_none, M.calm_ret, M.map_ret, M.exc_bind, SM.sb_exc, retM_xc, SM.sb_ret, SM.sb_bad, SM.sb_bind, SM.seq_nx, SM.seq_rt, SM.seq_ct, SM.seq_xc, SM.seq_bad, SM.seq_sb, SM.seq_seq, boolM_bl, bindM_some, bindS_some, iteM_t, iteM_f, brS_t, brS_f, ev_c, ev_v, ev_bin, ev_un, ev_chain, ev_and, ev_or, ev_ite, ev_tup, ev_lst, ev_call, ev_bi, ev_ix, ev_sl, ev_rev, ev_cmp', evs_nil, evs_star, ec_c, ec_v, ec_bin, ec_un, ec_chain, ec_and, ec_or, ec_ite, ec_tup, ec_lst, ec_call, ec_bi, ec_ix, ec_sl, ec_rev, ec_cmp, evO_none, evO_some, evT_none, evT_some, evI_rng, evI_rng2, evI_zip, evI_enm, evI_seq, ss_nil', ss_pass', ss_cont', ss_asg', ss_expr', ss_ite', ss_loop', ss_ret', ss_rais', ss_tr', slotM_sh, starM_lst, starM_tup, optI_int, loopM_nil, retM_rt, retM_nx, List.getElem?_cons_zero, List.getElem?_cons_succ, List.set_cons_zero, List.set_cons_succ, bindT, bindTs, wipeE, Tg.slots, Tg.slotss, startE, List.nil_append, List.cons_append, List.append_nil, List.map_cons, List.map_nil, List.length_cons, List.length_nil, List.replicate_succ, List.replicate_zero, Option.bind_some, Option.map_some, Nat.reduceAdd, Nat.reduceSub, Int.reduceEq, Int.reduceLT, Int.reduceLE, decide_true, decide_false, Bool.not_true, Bool.not_false, b_add_i, b_sub_i, b_lt_i, b_le_i, b_gt_i, b_ge_i, b_lt_s, b_eq_i, b_ne_i, b_eq_t0, b_eq_l0, b_ne_t0, b_ne_l0, b_in_1, b_nin_1, u_not, u_neg, bi_len_t, bi_len_l, bi_len_c, bi_tup_l, bi_tup_t, bi_lst_l, bi_lst_t, bi_int_i, bi_edict, bi_min_i, bi_all_map, bi_any_map, sq_l, sq_t, zp_t, zp_l, rv_t, rv_l, sl_t, sl_l, fit0, fit1, fit2, fit3, fit4, fit5, fit6, fit7, fit8, fit9, fit10, fit11, fit12, fit13, fit14, fit15, fit16, fit17, fit18, fit19, fit20, fit21, fit22, fit23, fit24, fit25, fit26, fit27, fit28, fit29, fit30, fit31, fit32, isin_str_non, isin_str_bl, isin_str_int, isin_str_str, isin_str_tup, isin_str_lst, isin_str_dct, isin_tuple_non, isin_tuple_bl, isin_tuple_int, isin_tuple_str, isin_tuple_tup, isin_tuple_lst, isin_tuple_dct, isin_int_non, isin_int_bl, isin_int_int, isin_int_str, isin_int_tup, isin_int_lst, isin_int_dct, isin_bool_non, isin_bool_bl, isin_bool_int, isin_bool_str, isin_bool_tup, isin_bool_lst, isin_bool_dct, isin_list_tuple_non, isin_list_tuple_bl, isin_list_tuple_int, isin_list_tuple_str, isin_list_tuple_tup, isin_list_tuple_lst, isin_list_tuple_dct, isin_tuple_list_non, isin_tuple_list_bl, isin_tuple_list_int, isin_tuple_list_str, isin_tuple_list_tup, isin_tuple_list_lst, isin_tuple_list_dct, isin_list_non, isin_list_bl, isin_list_int, isin_list_str, isin_list_tup, isin_list_lst, isin_list_dct, isin_dict_non, isin_dict_bl, isin_dict_int, isin_dict_str, isin_dict_tup, isin_dict_lst, isin_dict_dct, hb]
    rw [sb_ok hb0]
    have h4 : (0 : Int) ≤ 4 + (if (8 : Int) < (ns.length : Int) then 8 else (ns.length : Int)) := by split <;> omega
    have h5 : 4 + (if (8 : Int) < (ns.length : Int) then 8 else (ns.length : Int)) ≤ 100000 := by split <;> omega
    simp only [M.ret_bind, M.bad_bind, M.bind_assoc, M.lift_some, M.lift_none, M.calm_ret, M.map_ret, M.exc_bind, SM.sb_exc, retM_xc, SM.sb_ret, SM.sb_bad, SM.sb_bind, SM.seq_nx, SM.seq_rt, SM.seq_ct, SM.seq_xc, SM.seq_bad, SM.seq_sb, SM.seq_seq, boolM_bl, bindM_some, bindS_some, iteM_t, iteM_f, brS_t, brS_f, ev_c, ev_v, ev_bin, ev_un, ev_chain, ev_and, ev_or, ev_ite, ev_tup, ev_lst, ev_call, ev_bi, ev_ix, ev_sl, ev_rev, ev_cmp', evs_nil, evs_star, ec_c, ec_v, ec_bin, ec_un, ec_chain, ec_and, ec_or, ec_ite, ec_tup, ec_lst, ec_call, ec_bi, ec_ix, ec_sl, ec_rev, ec_cmp, evO_none, evO_some, evT_none, evT_some, evI_rng, evI_rng2, evI_zip, evI_enm, evI_seq, ss_nil', ss_pass', ss_cont', ss_asg', ss_expr', ss_ite', ss_loop', ss_ret', ss_rais', ss_tr', slotM_sh, starM_lst, starM_tup, optI_int, loopM_nil, retM_rt, retM_nx, List.getElem?_cons_zero, List.getElem?_cons_succ, List.set_cons_zero, List.set_cons_succ, bindT, bindTs, wipeE, Tg.slots, Tg.slotss, startE, List.nil_append, List.cons_append, List.append_nil, List.map_cons, List.map_nil, List.length_cons, List.length_nil, List.replicate_succ, List.replicate_zero, Option.bind_some, Option.map_some, Nat.reduceAdd, Nat.reduceSub, Int.reduceEq, Int.reduceLT, Int.reduceLE, decide_true, decide_false, Bool.not_true, Bool.not_false, b_add_i, b_sub_i, b_lt_i, b_le_i, b_gt_i, b_ge_i, b_lt_s, b_eq_i, b_ne_i, b_eq_t0, b_eq_l0, b_ne_t0, b_ne_l0, b_in_1, b_nin_1, u_not, u_neg, bi_len_t, bi_len_l, bi_len_c, bi_tup_l, bi_tup_t, bi_lst_l, bi_lst_t, bi_int_i, bi_edict, bi_min_i, bi_all_map, bi_any_map, sq_l, sq_t, zp_t, zp_l, rv_t, rv_l, sl_t, sl_l, fit0, fit1, fit2, fit3, fit4, fit5, fit6, fit7, fit8, fit9, fit10, fit11, fit12, fit13, fit14, fit15, fit16, fit17, fit18, fit19, fit20, fit21, fit22, fit23, fit24, fit25, fit26, fit27, fit28, fit29, fit30, fit31, fit32, isin_str_non, isin_str_bl, isin_str_int, isin_str_str, isin_str_tup, isin_str_lst, isin_str_dct, isin_tuple_non, isin_tuple_bl, isin_tuple_int, isin_tuple_str, isin_tuple_tup, isin_tuple_lst, isin_tuple_dct, isin_int_non, isin_int_bl, isin_int_int, isin_int_str, isin_int_tup, isin_int_lst, isin_int_dct, isin_bool_non, isin_bool_bl, isin_bool_int, isin_bool_str, isin_bool_tup, isin_bool_lst, isin_bool_dct, isin_list_tuple_non, isin_list_tuple_bl, isin_list_tuple_int, isin_list_tuple_str, isin_list_tuple_tup, isin_list_tuple_lst, isin_list_tuple_dct, isin_tuple_list_non, isin_tuple_list_bl, isin_tuple_list_int, isin_tuple_list_str, isin_tuple_list_tup, isin_tuple_list_lst, isin_tuple_list_dct, isin_list_non, isin_list_bl, isin_list_int, isin_list_str, isin_list_tup, isin_list_lst, isin_list_dct, isin_dict_non, isin_dict_bl, isin_dict_int, isin_dict_str, isin_dict_tup, isin_dict_lst, isin_dict_dct, rng0 h4 h5]
  unfold retM
  rw [e0]
  rcases T 0 _ hm with ⟨e, m', h1, h2, h3⟩ | ⟨d, m', h1, h2, h3⟩
  · exact h3.elim
  · rw [h1, h3]
    exact ⟨m', rfl⟩
end
theorem tb : TB tab pr := by
  constructor <;> first | (unfold Has; kernel_rfl) | (unfold HasNo; kernel_rfl) | kernel_rfl
theorem plain : ∀ ns : List Int, ns.length ≤ 63 → ∃ m', runF tab pr up (20 + 1) "law" [.scr ns] none = .ok (.bl true) m' := fun ns h => plain_ok (k := 9) tb h
end K01
end Ev
set_option Elab.async false
set_option linter.all false
set_option maxRecDepth 100000
set_option maxHeartbeats 0
/-! the walk of k01 -/
namespace Ev.K01
open PySem PySem.W PyProof.Rows L2
abbrev PR : Program := PySem.Challenge.pw_helpsless_k01_whole_things_and_lots
def top (i : Nat) : Stmt := PR.main.body.getD i (.Pass ⟨0, 0, 0, 0⟩)
def fns : List Str := ["is_word", "are_ascending", "need_things", "is_lot", "all_lots", "joined", "_law_begun", "_law_next", "_law_names", "_law_is_whole", "_law_is_name", "_law_odd", "_law_bent", "_law_lots", "_law_things", "_law_both", "_law_are_ascending", "law"]
def cons : List (Str × D) := [(("MOST_THINGS" : Str), .int 5), (("MOST_LETTERS" : Str), .int 8), (("LETTERS" : Str), .str "abcdefghijklmnopqrstuvwxyz")]
def errs : List (Str × Bk) := [(("BadThings" : Str), .ve)]
def initTx : Stmt → Tx
  | .ClassDef (name := nm) (body := [.FunctionDef (name := x) (args := a) (body := b) (scope := s) ..]) .. => some (x, Str.append (nm : Str) (".__init__" : Str), a, FuncBody.stmts b, s)
  | _ => none
def ps : List (Str × Option Str) := fns.map (fun x => ((x, none) : Str × Option Str)) ++ errs.map fun q => ((q.1, some ("__init__" : Str)) : Str × Option Str)
def txs : List Tx := [stTx "is_word" (top 7), stTx "are_ascending" (top 8), stTx "need_things" (top 9), stTx "is_lot" (top 10), stTx "all_lots" (top 11), stTx "joined" (top 12), stTx "_law_begun" (top 14), stTx "_law_next" (top 15), stTx "_law_names" (top 16), stTx "_law_is_whole" (top 17), stTx "_law_is_name" (top 18), stTx "_law_odd" (top 19), stTx "_law_bent" (top 20), stTx "_law_lots" (top 21), stTx "_law_things" (top 22), stTx "_law_both" (top 23), stTx "_law_are_ascending" (top 24), stTx "law" (top 25), initTx (top 2)]
abbrev G : Glo := ⟨fns, cons⟩
abbrev xs : List Str := errs.map (·.1)
theorem ok_is_word : DefOk G xs "is_word" (top 7) f_is_word := ⟨⟨rfl, rfl, rfl, by decide +kernel, rfl, by decide +kernel, by decide +kernel⟩, fun _ _ _ _ _ _ us h => (match us, h with | [_], _ => rfl), by kernel_rfl⟩
theorem ok_are_ascending : DefOk G xs "are_ascending" (top 8) f_are_ascending := ⟨⟨rfl, rfl, rfl, by decide +kernel, rfl, by decide +kernel, by decide +kernel⟩, fun _ _ _ _ _ _ us h => (match us, h with | [_], _ => rfl), by kernel_rfl⟩
theorem ok_need_things : DefOk G xs "need_things" (top 9) f_need_things := ⟨⟨rfl, rfl, rfl, by decide +kernel, rfl, by decide +kernel, by decide +kernel⟩, fun _ _ _ _ _ _ us h => (match us, h with | [_], _ => rfl), by kernel_rfl⟩
theorem ok_is_lot : DefOk G xs "is_lot" (top 10) f_is_lot := ⟨⟨rfl, rfl, rfl, by decide +kernel, rfl, by decide +kernel, by decide +kernel⟩, fun _ _ _ _ _ _ us h => (match us, h with | [_, _], _ => rfl), by kernel_rfl⟩
theorem ok_all_lots : DefOk G xs "all_lots" (top 11) f_all_lots := ⟨⟨rfl, rfl, rfl, by decide +kernel, rfl, by decide +kernel, by decide +kernel⟩, fun _ _ _ _ _ _ us h => (match us, h with | [_], _ => rfl), by kernel_rfl⟩
theorem ok_joined : DefOk G xs "joined" (top 12) f_joined := ⟨⟨rfl, rfl, rfl, by decide +kernel, rfl, by decide +kernel, by decide +kernel⟩, fun _ _ _ _ _ _ us h => (match us, h with | [_, _], _ => rfl), by kernel_rfl⟩
theorem ok_law_names : DefOk G xs "_law_names" (top 16) f_law_names := ⟨⟨rfl, rfl, rfl, by decide +kernel, rfl, by decide +kernel, by decide +kernel⟩, fun _ _ _ _ _ _ us h => (match us, h with | [_, _], _ => rfl), by kernel_rfl⟩
theorem ok_law_is_whole : DefOk G xs "_law_is_whole" (top 17) f_law_is_whole := ⟨⟨rfl, rfl, rfl, by decide +kernel, rfl, by decide +kernel, by decide +kernel⟩, fun _ _ _ _ _ _ us h => (match us, h with | [_, _, _], _ => rfl), by kernel_rfl⟩
theorem ok_law_is_name : DefOk G xs "_law_is_name" (top 18) f_law_is_name := ⟨⟨rfl, rfl, rfl, by decide +kernel, rfl, by decide +kernel, by decide +kernel⟩, fun _ _ _ _ _ _ us h => (match us, h with | [_], _ => rfl), by kernel_rfl⟩
theorem ok_law_odd : DefOk G xs "_law_odd" (top 19) f_law_odd := ⟨⟨rfl, rfl, rfl, by decide +kernel, rfl, by decide +kernel, by decide +kernel⟩, fun _ _ _ _ _ _ us h => (match us, h with | [_], _ => rfl), by kernel_rfl⟩
theorem ok_law_bent : DefOk G xs "_law_bent" (top 20) f_law_bent := ⟨⟨rfl, rfl, rfl, by decide +kernel, rfl, by decide +kernel, by decide +kernel⟩, fun _ _ _ _ _ _ us h => (match us, h with | [_, _], _ => rfl), by kernel_rfl⟩
theorem ok_law_lots : DefOk G xs "_law_lots" (top 21) f_law_lots := ⟨⟨rfl, rfl, rfl, by decide +kernel, rfl, by decide +kernel, by decide +kernel⟩, fun _ _ _ _ _ _ us h => (match us, h with | [_], _ => rfl), by kernel_rfl⟩
theorem ok_law_things : DefOk G xs "_law_things" (top 22) f_law_things := ⟨⟨rfl, rfl, rfl, by decide +kernel, rfl, by decide +kernel, by decide +kernel⟩, fun _ _ _ _ _ _ us h => (match us, h with | [_, _], _ => rfl), by kernel_rfl⟩
theorem ok_law_both : DefOk G xs "_law_both" (top 23) f_law_both := ⟨⟨rfl, rfl, rfl, by decide +kernel, rfl, by decide +kernel, by decide +kernel⟩, fun _ _ _ _ _ _ us h => (match us, h with | [_, _], _ => rfl), by kernel_rfl⟩
theorem ok_law_are_ascending : DefOk G xs "_law_are_ascending" (top 24) K01.f_law_are_ascending := ⟨⟨rfl, rfl, rfl, by decide +kernel, rfl, by decide +kernel, by decide +kernel⟩, fun _ _ _ _ _ _ us h => (match us, h with | [_], _ => rfl), by kernel_rfl⟩
theorem ok_law : DefOk G xs "law" (top 25) K01.f_law := ⟨⟨rfl, rfl, rfl, by decide +kernel, rfl, by decide +kernel, by decide +kernel⟩, fun _ _ _ _ _ _ us h => (match us, h with | [_], _ => rfl), by kernel_rfl⟩
def nxP : List Pos := [⟨36, 10, 36, 16⟩, ⟨36, 17, 36, 23⟩, ⟨36, 10, 36, 24⟩, ⟨36, 28, 36, 30⟩, ⟨36, 10, 36, 30⟩, ⟨36, 35, 36, 41⟩, ⟨36, 42, 36, 48⟩, ⟨36, 35, 36, 49⟩, ⟨36, 50, 36, 51⟩, ⟨36, 35, 36, 52⟩, ⟨36, 56, 36, 57⟩, ⟨36, 35, 36, 57⟩, ⟨36, 10, 36, 57⟩, ⟨37, 8, 37, 14⟩, ⟨37, 15, 37, 21⟩, ⟨37, 8, 37, 22⟩, ⟨37, 25, 37, 31⟩, ⟨37, 32, 37, 38⟩, ⟨37, 25, 37, 39⟩, ⟨37, 40, 37, 41⟩, ⟨37, 40, 37, 42⟩, ⟨37, 25, 37, 43⟩, ⟨37, 8, 37, 43⟩, ⟨36, 4, 37, 43⟩, ⟨38, 7, 38, 13⟩, ⟨38, 14, 38, 20⟩, ⟨38, 7, 38, 21⟩, ⟨38, 25, 38, 27⟩, ⟨38, 7, 38, 27⟩, ⟨39, 8, 39, 17⟩, ⟨39, 20, 39, 26⟩, ⟨39, 27, 39, 33⟩, ⟨39, 20, 39, 34⟩, ⟨39, 35, 39, 36⟩, ⟨39, 20, 39, 37⟩, ⟨39, 8, 39, 37⟩, ⟨40, 8, 40, 14⟩, ⟨40, 15, 40, 21⟩, ⟨40, 8, 40, 22⟩, ⟨40, 23, 40, 24⟩, ⟨40, 8, 40, 25⟩, ⟨40, 8, 40, 50⟩, ⟨41, 8, 41, 41⟩, ⟨38, 4, 41, 41⟩, ⟨42, 4, 42, 11⟩, ⟨42, 13, 42, 22⟩, ⟨42, 4, 42, 22⟩, ⟨42, 26, 42, 32⟩, ⟨42, 33, 42, 37⟩, ⟨42, 26, 42, 38⟩, ⟨42, 41, 42, 42⟩, ⟨42, 26, 42, 42⟩, ⟨42, 44, 42, 50⟩, ⟨42, 51, 42, 58⟩, ⟨42, 44, 42, 59⟩, ⟨42, 25, 42, 60⟩, ⟨42, 4, 42, 60⟩, ⟨43, 4, 43, 10⟩, ⟨43, 11, 43, 15⟩, ⟨43, 4, 43, 16⟩, ⟨43, 19, 43, 26⟩, ⟨43, 4, 43, 26⟩]
theorem next_txt : NextTxt (defBody (top 15)) (defScope (top 15)) := ⟨⟨fun i => nxP.getD i ⟨0, 0, 0, 0⟩, fun _ => 0, _, _, _, _, _, rfl, by kernel_rfl, by rfl, by kernel_rfl, by kernel_rfl, by kernel_rfl⟩, by decide +kernel⟩
theorem begun_txt : ∃ (e1 e2 : Expr) (k1 k2 k3 k4 : Nat) (p1 p2 p3 p4 p5 p6 : Pos), defBody (top 14) = [.Return (some (.Dict [some (.Constant (.str "cells") k1 p1), some (.Constant (.str "left") k2 p2), some (.Constant (.str "at") k3 p3)] [e1, e2, .Constant (.int 0) k4 p4] p5)) p6] ∧ trF 20 G0 ⟨["_law_script", "_law_cell"], defScope (top 14), fun _ => true⟩ e1 = some (.bi .list [.v 0]) ∧ trF 20 G0 ⟨["_law_script", "_law_cell"], defScope (top 14), fun _ => true⟩ e2 = some exLeft := ⟨_, _, _, _, _, _, _, _, _, _, _, _, rfl, by kernel_rfl, by kernel_rfl⟩
theorem init_BadThings : InitTx (fieldOf "BadThings") (initTx (top 2)) := ⟨_, _, _, _, _, _, _, _, _, _, _, _, _, _, _, by kernel_rfl, rfl⟩
def hk : Hook := hookX 8 (chkL PR cons errs up fns) ps txs
def ob (s : SharedT) : AlX := obsXG 8 (chkL PR cons errs up fns) ps (HandSHeadRun.getT s)
theorem ob_eq (s : SharedT) : ob s = hk.obs s.abs := obsXG_eq (HandSHeadRun.getT_eq s)
abbrev RR : OpenRow := OpenLaw.row PySem.Challenge.rw_helpsless_k01_whole_things_and_lots
def loose : List PySem.Str := ["WorthError", "BadThings", "is_word", "are_ascending", "need_things", "is_lot", "all_lots", "joined", "_law_begun", "_law_next", "_law_names", "_law_is_whole", "_law_is_name", "_law_odd", "_law_bent", "_law_lots", "_law_things", "_law_both", "_law_are_ascending", "MOST_THINGS", "MOST_LETTERS", "LETTERS", "__name__"]
theorem run (w : World) : HandSHeadRun.RunEq RR (view RR.prog [25]) hk ob 4000 loose w := by
  intro os
  kernel_rfl
theorem nth {K : Frag} (c : ps.map (txt K) = txs) (i : Nat) {p : Str × Option Str} {t : Tx} (h1 : ps[i]? = some p) (h2 : txs[i]? = some t) : txt K p = t := by
  have z := congrArg (fun l => l[i]?) c
  simp only [List.getElem?_map, h1, h2, Option.map_some, Option.some.injEq] at z
  exact z
theorem gd {w : World} {K : Frag} {h : Heap} {mg : Str → Option Value} (X : K.In h) (g : h.Ns mainGlobals mg) (hck : chkL PR cons errs up fns K = true) (c : ps.map (txt K) = txs) (base : Heap) : Gd PR w base K mg (mkC K xs) G up xs tab pr := by
  have ck := chk_ok hck
  have er : ∀ q ∈ errs, InitTx (fieldOf q.1) (txt K (q.1, some ("__init__" : Str))) := by
    intro q hq
    simp only [errs, List.mem_cons, List.not_mem_nil, or_false] at hq
    subst hq
    · exact (nth c 18 (p := ("BadThings", some ("__init__" : Str))) (by decide +kernel) rfl).symm ▸ init_BadThings
  have df : ∀ x ∈ fns, ∀ fn, tab.lookup x = some fn → ∃ st, txt K (x, none) = stTx x st ∧ DefOk ⟨fns, cons⟩ (errs.map (·.1)) x st fn := by
    intro x hx fn hl
    have hm := PySem.mem_of_lookup hl
    simp only [tab, List.mem_cons, Prod.mk.injEq, List.not_mem_nil, or_false] at hm
    rcases hm with ⟨rfl, rfl⟩ | ⟨rfl, rfl⟩ | ⟨rfl, rfl⟩ | ⟨rfl, rfl⟩ | ⟨rfl, rfl⟩ | ⟨rfl, rfl⟩ | ⟨rfl, rfl⟩ | ⟨rfl, rfl⟩ | ⟨rfl, rfl⟩ | ⟨rfl, rfl⟩ | ⟨rfl, rfl⟩ | ⟨rfl, rfl⟩ | ⟨rfl, rfl⟩ | ⟨rfl, rfl⟩ | ⟨rfl, rfl⟩ | ⟨rfl, rfl⟩
    · exact ⟨top 7, nth c 0 (p := ("is_word", none)) rfl rfl, ok_is_word⟩
    · exact ⟨top 8, nth c 1 (p := ("are_ascending", none)) rfl rfl, ok_are_ascending⟩
    · exact ⟨top 9, nth c 2 (p := ("need_things", none)) rfl rfl, ok_need_things⟩
    · exact ⟨top 10, nth c 3 (p := ("is_lot", none)) rfl rfl, ok_is_lot⟩
    · exact ⟨top 11, nth c 4 (p := ("all_lots", none)) rfl rfl, ok_all_lots⟩
    · exact ⟨top 12, nth c 5 (p := ("joined", none)) rfl rfl, ok_joined⟩
    · exact ⟨top 16, nth c 8 (p := ("_law_names", none)) rfl rfl, ok_law_names⟩
    · exact ⟨top 17, nth c 9 (p := ("_law_is_whole", none)) rfl rfl, ok_law_is_whole⟩
    · exact ⟨top 18, nth c 10 (p := ("_law_is_name", none)) rfl rfl, ok_law_is_name⟩
    · exact ⟨top 19, nth c 11 (p := ("_law_odd", none)) rfl rfl, ok_law_odd⟩
    · exact ⟨top 20, nth c 12 (p := ("_law_bent", none)) rfl rfl, ok_law_bent⟩
    · exact ⟨top 21, nth c 13 (p := ("_law_lots", none)) rfl rfl, ok_law_lots⟩
    · exact ⟨top 22, nth c 14 (p := ("_law_things", none)) rfl rfl, ok_law_things⟩
    · exact ⟨top 23, nth c 15 (p := ("_law_both", none)) rfl rfl, ok_law_both⟩
    · exact ⟨top 24, nth c 16 (p := ("_law_are_ascending", none)) rfl rfl, ok_law_are_ascending⟩
    · exact ⟨top 25, nth c 17 (p := ("law", none)) rfl rfl, ok_law⟩
  have bn : ∀ x ∈ biNames, mg x = none := fun x hx => mg_none_of X g (ck.fre x hx)
  have z := gd_of (w := w) (pr := pr) (T := tab) (base := base) X g ck er df
  refine z fun x hx hl Y W a1 a2 a3 a4 a5 hr hg tk => ?_
  have g0 : Gd PR w base K mg (mkC K xs) ⟨[], cons⟩ up xs [] F0 := gd_of (fns := []) X g ⟨ck.con, ck.fre, ck.err, ck.exm, fun x hx => by simp at hx⟩ er (fun x hx => by simp at hx) (fun x hx => by simp at hx)
  simp only [fns, List.mem_cons, List.not_mem_nil, or_false] at hx
  rcases hx with rfl | rfl | rfl | rfl | rfl | rfl | rfl | rfl | rfl | rfl | rfl | rfl | rfl | rfl | rfl | rfl | rfl | rfl
  · exact absurd hl (by decide +kernel)
  · exact absurd hl (by decide +kernel)
  · exact absurd hl (by decide +kernel)
  · exact absurd hl (by decide +kernel)
  · exact absurd hl (by decide +kernel)
  · exact absurd hl (by decide +kernel)
  · exact prim_begun (prim_of X g (ck.def_ _ (by decide +kernel)) (nth c 6 (p := ("_law_begun", none)) rfl rfl) ⟨rfl, rfl, rfl, by decide +kernel, rfl, by decide +kernel, by decide +kernel⟩ (by decide) (fun _ _ _ _ _ _ us h => (match us, h with | [_], _ => rfl))) rfl rfl bn begun_txt rfl a1 a2 a3 a4 a5 hr hg tk
  · exact prim_next (up := up) g0.xf g0.mt g0.gl (prim_of X g (ck.def_ _ (by decide +kernel)) (nth c 7 (p := ("_law_next", none)) rfl rfl) ⟨rfl, rfl, rfl, by decide +kernel, rfl, by decide +kernel, by decide +kernel⟩ (by decide) (fun _ _ _ _ _ _ us h => (match us, h with | [_, _], _ => rfl))) rfl bn next_txt rfl a1 a2 a3 a4 a5 hr hg tk
  · exact absurd hl (by decide +kernel)
  · exact absurd hl (by decide +kernel)
  · exact absurd hl (by decide +kernel)
  · exact absurd hl (by decide +kernel)
  · exact absurd hl (by decide +kernel)
  · exact absurd hl (by decide +kernel)
  · exact absurd hl (by decide +kernel)
  · exact absurd hl (by decide +kernel)
  · exact absurd hl (by decide +kernel)
  · exact absurd hl (by decide +kernel)
/-- from the plain law to the row -/
theorem holds_of {k : Nat} (hr : Room (k + 5) callerA) (plain : ∀ ns : List Int, ns.length ≤ 63 → ∃ m', runF tab pr up (k + 1) "law" [.scr ns] none = .ok (.bl true) m') : WalkO (view RR.prog [25]) loose (XL (view RR.prog [25]) []) hk.says RR.toRowW (HandSHeadRun.topDef RR.prog 25) [] fun f vs => PySem.call f vs := by
  refine Att.attach_call (l := PySem.Challenge.rw_helpsless_k01_whole_things_and_lots) (n := 63) rfl (by kernel_rfl) fun w s₀ s₁ mg mb fa o pm cd doc a vs ns Gr Y ho hd hcd hmg hobj hints hlen hg => ?_
  obtain ⟨K, c⟩ := Y
  obtain ⟨om, hsm, hsc⟩ := c.sys
  obtain ⟨m', ev⟩ := plain ns hlen
  have hfa : mg ("law" : PySem.Str) = some (.ref fa) := by
    have e : (HandSHeadRun.topDef RR.prog 25).name = ("law" : PySem.Str) := by kernel_rfl
    rw [← e]
    exact hmg
  exact law_run (C := mkC K xs) (G := G) (xs := xs) (T := tab) (pr := pr) c.kin Gr.T.g Gr.T.b Gr.T.builtins Gr.T.nolimit hg hobj hints (Nat.le_trans hlen (by rw [sizeLine_eq]; decide)) hr hsm hsc c.no (fun base hb hn => gd hb hn c.chk c.txs base) rfl (fn := f_law) rfl (by decide +kernel) hfa ev
end Ev.K01
set_option Elab.async false
set_option linter.all false
set_option maxRecDepth 100000
set_option maxHeartbeats 0
open PySem PySem.W PySem.Calls PyProof.Rows
theorem PySem.Challenge.cw_helpsless_k01_whole_things_and_lots_holds : PySem.Challenge.rw_helpsless_k01_whole_things_and_lots.Holds := by
  w_on; o_law
  refine HandSHeadRun.head_any (r := Ev.K01.RR) (q := view Ev.K01.RR.prog [25]) (H := Ev.K01.hk) (ob := Ev.K01.ob) (M := 4000) (loose := Ev.K01.loose) (d := HandSHeadRun.topDef Ev.K01.RR.prog 25) (kwd := []) Ev.K01.ob_eq
    (by kernel_rfl) (fun s => by kernel_rfl) Ev.K01.run (by kernel_rfl) (by kernel_rfl) (by kernel_rfl) (by rfl) (by first | assumption | decide +kernel) (by decide +kernel) ⟨rfl, rfl, rfl, rfl, rfl, by decide +kernel⟩ ?hw ?hc
  case hw => w_witness2
  case hc => exact Ev.K01.holds_of (k := 20) ⟨rfl, by decide, by decide⟩ Ev.K01.plain

